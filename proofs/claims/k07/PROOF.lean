import PyProof.Rows.All
import Wide.All
import OpenK.AllK
import Wide.FinOn
import HandS.ForExc
import HandS.ForMost
import HandS.Lambda
import HandS.Wide
import HandS.TupAny
import HandS.Deep
import HandS.RaiseMore
import HandS.Style
import HandS.Iter
import HandS.Zip
import HandS.Comp
import HandS.Defaults
import HandS.CallSlots
import HandS.Property
import HandS.IsInst
import HandS.Star
import HandS.HeadHook1
import HandS.HeadHook2
import HandS.Head0
import HandS.Head1
import HandS.Head2
import HandS.HeadEnd
import HandS.EndBits
import HandS.ExcInit
import HandS.Nested
import KE.KExcSuper
import KE.KTryMore
import HandS.ExcField
import HandS.HotCalls
import HandS.HeadHook4
import HandS.EndTab
import HandS.FStr
import KE.KCallOwn
import HandS.TupLen
import HandS.Conv
import KE.SortData
import KE.DataMinMax
import HandS.ClsMeth
import HandS.TupMul
import HandS.DictEq
import PySem.Challenge.RW_countgives_k07_shapes_refused
set_option Elab.async false
set_option linter.all false
set_option maxRecDepth 100000
set_option maxHeartbeats 4000000
/-! PwA: data as trees, how they lie in the abstract heap, what a frame holds. -/
namespace Pw
open PySem PySem.Spec PyProof.Rows L2

/-- the own classes' addresses; the tables of the defs in which a lambda stands -/
structure Ca where
  cls : Str → Option Addr
  tabs : List (Addr × Str) := []
  hs : Str → Int := fun _ => 0
instance : CoeFun Ca fun _ => Str → Option Addr := ⟨Ca.cls⟩
/-- no table of code objects -/
def NT (o : HO) : Prop := ∀ ps, o ≠ .tbl ps
theorem nt_lst {xs : List V} : NT (.lst xs) := fun _ z => by cases z
theorem nt_tup {xs : List V} : NT (.tup xs) := fun _ z => by cases z
theorem nt_frz {o : Obj} {u : HO} : NT (.frz o u) := fun _ z => by cases z
theorem nt_ins {C d : Addr} {fs : List (Str × V)} : NT (.ins C d fs) := fun _ z => by cases z
theorem nt_dK {ks : List (Key × V)} : NT (.dK ks) := fun _ z => by cases z
theorem nt_ext {φ : Heap → Prop} : NT (.ext φ) := fun _ z => by cases z

/-- data without addresses -/
inductive D where
  | non | bl (b : Bool) | int (i : Int) | str (s : Str) | ty (n : String)
  | tup (ds : List D) | lst (ds : List D)
  | obj (c : Str) (fs : List (Str × D))
  | dct (kvs : List (D × D))
  | scr (ns : List Int)
  | cls (c : Str)
instance : Inhabited D := ⟨.non⟩

def kD : Key → D
  | .inl i => .int i
  | .inr x => .str x

noncomputable instance : DecidableEq D := fun a b => Classical.propDecidable (a = b)
/-- may it be a key: numbers, texts, tuples of such -/
def okK : Nat → D → Bool
  | _, .int _ => true
  | _, .str s => PyData.strOk s
  | n + 1, .tup ds => ds.all (okK n)
  | _, _ => false
mutual
/-- the hash of a key -/
def hashD (hs : Str → Int) : D → Int
  | .int i => hashInt i
  | .str s => hs s
  | .tup ds => reduceHash (Builtin.Tuple.tupleHashOf (hashDs hs ds))
  | .non => 0
  | .bl _ => 0
  | .ty _ => 0
  | .lst _ => 0
  | .obj _ _ => 0
  | .dct _ => 0
  | .scr _ => 0
  | .cls _ => 0
def hashDs (hs : Str → Int) : List D → List Int
  | [] => []
  | d :: ds => hashD hs d :: hashDs hs ds
end
/-- a dict whose keys are tuples, of whatever depth -/
abbrev GE := D × Addr × Value
def gEnt (hs : Str → Int) (x : GE) : DictEntry := ⟨hashD hs x.1, .ref x.2.1, x.2.2⟩
def dgP (hs : Str → Int) (a : Addr) (xs : List GE) (h : Heap) : Prop := xs.length ≤ sizeLine ∧ (a == sysModules) = false ∧ ∃ o es ep, h.get? a = some o ∧ o.ExactDict ∧ o.data = .dict es ep ∧ es.toList = xs.map (gEnt hs) ∧ (xs.map (·.1)).Nodup
abbrev dgO (hs : Str → Int) (a : Addr) (xs : List GE) : HO := .ext (dgP hs a xs)

/-- a list, a tuple that is to be read and not hidden, or an object of the module -/
def TopL (K : PySem.W.Frag) (N : Addr → Prop) (H : Hp) (a : Addr) (xs : List V) : Prop :=
  (¬ N a ∧ Rd H a (.lst xs)) ∨ ∃ (o : Obj) (its : Array Value) (n : Nat), K.lookup a = some o ∧ o.cls = .type "list" ∧ o.dict = none ∧ o.data = .seq its n ∧ its.size ≤ sizeLine ∧ Vals xs its.toList
def TopT (K : PySem.W.Frag) (N : Addr → Prop) (H : Hp) (a : Addr) (xs : List V) : Prop :=
  (¬ N a ∧ Rd H a (.tup xs)) ∨ ∃ (o : Obj) (its : Array Value) (n : Nat), K.lookup a = some o ∧ o.cls = .type "tuple" ∧ o.data = .seq its n ∧ its.size ≤ sizeLine ∧ Vals xs its.toList
theorem TopL.sq {K : PySem.W.Frag} {N : Addr → Prop} {H : Hp} {a : Addr} {xs : List V} (h : TopL K N H a xs) : SqL K H a xs := h.imp (·.2) id
theorem TopT.sq {K : PySem.W.Frag} {N : Addr → Prop} {H : Hp} {a : Addr} {xs : List V} (h : TopT K N H a xs) : SqT K H a xs := h.imp (·.2) id
section
variable (K : PySem.W.Frag) (ca : Ca) (N : Addr → Prop) (H : Hp)
mutual
/-- v is the datum d in H; no object that N hides is touched -/
inductive Rep : V → D → Prop
  | non : Rep .non .non
  | bl (b : Bool) : Rep (.bl b) (.bl b)
  | int (i : Int) : Rep (.int i) (.int i)
  | str (s : Str) : Rep (.str s) (.str s)
  | ty (n : String) : Rep (.ty n) (.ty n)
  | tup {a : Addr} {vs : List V} {ds : List D} (h : TopT K N H a vs) (r : Reps vs ds) : Rep (.ref a) (.tup ds)
  | lst {a : Addr} {vs : List V} {ds : List D} (n : ¬ N a) (h : H a = some (.lst vs)) (r : Reps vs ds) : Rep (.ref a) (.lst ds)
  | obj {a C dx : Addr} {fvs : List (Str × V)} {c : Str} {fs : List (Str × D)} (n : ¬ N a) (hc : ca c = some C) (h : H a = some (.ins C dx fvs)) (r : FReps fvs fs) : Rep (.ref a) (.obj c fs)
  | dct {a : Addr} {kvs : List (Key × V)} {ds : List (D × D)} (n : ¬ N a) (h : H a = some (.dK kvs)) (r : KReps kvs ds) : Rep (.ref a) (.dct ds)
  | scr {a : Addr} {ns : List Int} (h : TopL K N H a (ns.map V.int)) : Rep (.ref a) (.scr ns)
  | cls {c : Str} {C : Addr} (hc : ca c = some C) : Rep (.ref C) (.cls c)
  | dcg {a : Addr} {xs : List GE} {ds : List (D × D)} (n : ¬ N a) (h : H a = some (dgO ca.hs a xs)) (r : GReps xs ds) : Rep (.ref a) (.dct ds)
inductive Reps : List V → List D → Prop
  | nil : Reps [] []
  | cons {v : V} {d : D} {vs : List V} {ds : List D} (r : Rep v d) (t : Reps vs ds) : Reps (v :: vs) (d :: ds)
inductive FReps : List (Str × V) → List (Str × D) → Prop
  | nil : FReps [] []
  | cons {f : Str} {v : V} {d : D} {vs : List (Str × V)} {ds : List (Str × D)} (r : Rep v d) (t : FReps vs ds) : FReps ((f, v) :: vs) ((f, d) :: ds)
inductive KReps : List (Key × V) → List (D × D) → Prop
  | nil : KReps [] []
  | cons {k : Key} {v : V} {d : D} {vs : List (Key × V)} {ds : List (D × D)} (r : Rep v d) (t : KReps vs ds) : KReps ((k, v) :: vs) ((kD k, d) :: ds)
inductive GReps : List GE → List (D × D) → Prop
  | nil : GReps [] []
  | cons {k : D} {b : Addr} {u : Value} {v : V} {d : D} {xs : List GE} {ds : List (D × D)} (ok : okK 6 k = true) (rk : Rep (.ref b) k) (ru : RelV v u) (r : Rep v d) (t : GReps xs ds) : GReps ((k, b, u) :: xs) ((k, d) :: ds)
end
end

section
variable {K : PySem.W.Frag} {ca : Ca} {N N' : Addr → Prop} {H H' : Hp}
/-- what is seen and not hidden stays -/
def Sub (N N' : Addr → Prop) (H H' : Hp) : Prop := ∀ a o, H a = some o → NT o → ¬ N a → ¬ N' a ∧ H' a = some o
theorem Sub.refl : Sub N N H H := fun _ _ e _ n => ⟨n, e⟩
theorem Sub.trans {N2 : Addr → Prop} {H2 : Hp} (s : Sub N N' H H') (t : Sub N' N2 H' H2) : Sub N N2 H H2 := fun a o e q n => t a o (s a o e q n).2 q (s a o e q n).1
theorem rd_sub (s : Sub N N' H H') {a : Addr} {u : HO} (t : NT u) (n : ¬ N a) (h : Rd H a u) : ¬ N' a ∧ Rd H' a u := by
  rcases h with h | ⟨o, h⟩
  · exact ⟨(s a _ h t n).1, .inl (s a _ h t n).2⟩
  · exact ⟨(s a _ h nt_frz n).1, .inr ⟨o, (s a _ h nt_frz n).2⟩⟩
theorem TopL.sub (s : Sub N N' H H') {a : Addr} {vs : List V} (h : TopL K N H a vs) : TopL K N' H' a vs := h.imp (fun z => rd_sub s nt_lst z.1 z.2) id
theorem TopT.sub (s : Sub N N' H H') {a : Addr} {vs : List V} (h : TopT K N H a vs) : TopT K N' H' a vs := h.imp (fun z => rd_sub s nt_tup z.1 z.2) id
mutual
theorem Rep.sub (s : Sub N N' H H') : ∀ {v : V} {d : D}, Rep K ca N H v d → Rep K ca N' H' v d
  | _, _, .non => .non
  | _, _, .bl b => .bl b
  | _, _, .int i => .int i
  | _, _, .str x => .str x
  | _, _, .ty n => .ty n
  | _, _, .tup h r => .tup (h.sub s) (Reps.sub s r)
  | _, _, .lst n h r => .lst (s _ _ h nt_lst n).1 (s _ _ h nt_lst n).2 (Reps.sub s r)
  | _, _, .obj n hc h r => .obj (s _ _ h nt_ins n).1 hc (s _ _ h nt_ins n).2 (FReps.sub s r)
  | _, _, .dct n h r => .dct (s _ _ h nt_dK n).1 (s _ _ h nt_dK n).2 (KReps.sub s r)
  | _, _, .scr h => .scr (h.sub s)
  | _, _, .cls hc => .cls hc
  | _, _, .dcg n h r => .dcg (s _ _ h nt_ext n).1 (s _ _ h nt_ext n).2 (GReps.sub s r)
theorem Reps.sub (s : Sub N N' H H') : ∀ {v : List V} {d : List D}, Reps K ca N H v d → Reps K ca N' H' v d
  | _, _, .nil => .nil
  | _, _, .cons r t => .cons (Rep.sub s r) (Reps.sub s t)
theorem FReps.sub (s : Sub N N' H H') : ∀ {v : List (Str × V)} {d : List (Str × D)}, FReps K ca N H v d → FReps K ca N' H' v d
  | _, _, .nil => .nil
  | _, _, .cons r t => .cons (Rep.sub s r) (FReps.sub s t)
theorem KReps.sub (s : Sub N N' H H') : ∀ {v : List (Key × V)} {d : List (D × D)}, KReps K ca N H v d → KReps K ca N' H' v d
  | _, _, .nil => .nil
  | _, _, .cons r t => .cons (Rep.sub s r) (KReps.sub s t)
theorem GReps.sub (s : Sub N N' H H') : ∀ {v : List GE} {d : List (D × D)}, GReps K ca N H v d → GReps K ca N' H' v d
  | _, _, .nil => .nil
  | _, _, .cons ok rk ru r t => .cons ok (Rep.sub s rk) ru (Rep.sub s r) (GReps.sub s t)
end
theorem Reps.len : ∀ {v : List V} {d : List D}, Reps K ca N H v d → v.length = d.length
  | _, _, .nil => rfl
  | _, _, .cons r t => congrArg (· + 1) t.len
theorem GReps.len : ∀ {v : List GE} {d : List (D × D)}, GReps K ca N H v d → v.length = d.length
  | _, _, .nil => rfl
  | _, _, .cons _ _ _ _ t => congrArg (· + 1) t.len
theorem FReps.len : ∀ {v : List (Str × V)} {d : List (Str × D)}, FReps K ca N H v d → v.length = d.length
  | _, _, .nil => rfl
  | _, _, .cons r t => congrArg (· + 1) t.len
theorem Reps.get : ∀ {v : List V} {d : List D} {i : Nat} {x : D}, Reps K ca N H v d → d[i]? = some x → ∃ y, v[i]? = some y ∧ Rep K ca N H y x
  | _, _, _, _, .nil, e => by simp at e
  | _, _, 0, _, .cons r t, e => by simp at e; subst e; exact ⟨_, rfl, r⟩
  | _, _, i + 1, _, .cons r t, e => by
    obtain ⟨y, h1, h2⟩ := t.get (i := i) (by simpa using e)
    exact ⟨y, by simpa using h1, h2⟩
theorem Reps.get' : ∀ {v : List V} {d : List D} {i : Nat} {y : V}, Reps K ca N H v d → v[i]? = some y → ∃ x, d[i]? = some x ∧ Rep K ca N H y x
  | _, _, _, _, .nil, e => by simp at e
  | _, _, 0, _, .cons r t, e => by simp at e; subst e; exact ⟨_, rfl, r⟩
  | _, _, i + 1, _, .cons r t, e => by
    obtain ⟨y, h1, h2⟩ := t.get' (i := i) (by simpa using e)
    exact ⟨y, by simpa using h1, h2⟩
theorem Reps.app : ∀ {v w : List V} {d e : List D}, Reps K ca N H v d → Reps K ca N H w e → Reps K ca N H (v ++ w) (d ++ e)
  | _, _, _, _, .nil, s => s
  | _, _, _, _, .cons r t, s => .cons r (t.app s)
theorem Reps.take : ∀ {v : List V} {d : List D} (n : Nat), Reps K ca N H v d → Reps K ca N H (v.take n) (d.take n)
  | _, _, 0, _ => .nil
  | _, _, _ + 1, .nil => .nil
  | _, _, n + 1, .cons r t => .cons r (t.take n)
theorem Reps.drop : ∀ {v : List V} {d : List D} (n : Nat), Reps K ca N H v d → Reps K ca N H (v.drop n) (d.drop n)
  | _, _, 0, r => r
  | _, _, _ + 1, .nil => .nil
  | _, _, n + 1, .cons _ t => t.drop n
theorem Reps.set {x : V} {y : D} (r : Rep K ca N H x y) : ∀ {v : List V} {d : List D} (i : Nat), Reps K ca N H v d → Reps K ca N H (v.set i x) (d.set i y)
  | _, _, _, .nil => .nil
  | _, _, 0, .cons _ t => .cons r t
  | _, _, i + 1, .cons q t => .cons q (Reps.set r i t)
theorem Reps.eraseIdx : ∀ {v : List V} {d : List D} (i : Nat), Reps K ca N H v d → Reps K ca N H (v.eraseIdx i) (d.eraseIdx i)
  | _, _, _, .nil => .nil
  | _, _, 0, .cons _ t => t
  | _, _, i + 1, .cons q t => .cons q (Reps.eraseIdx i t)
theorem FReps.look : ∀ {v : List (Str × V)} {d : List (Str × D)} {f : Str} {x : D}, FReps K ca N H v d → d.lookup f = some x → ∃ y, v.lookup f = some y ∧ Rep K ca N H y x
  | _, _, _, _, .nil, e => by simp at e
  | _, _, f, x, .cons (f := g) r t, e => by
    rw [List.lookup_cons] at e ⊢
    cases hb : f == g with
    | true => rw [hb] at e; cases e; exact ⟨_, rfl, r⟩
    | false => rw [hb] at e; exact t.look e
theorem FReps.look_none : ∀ {v : List (Str × V)} {d : List (Str × D)} {f : Str}, FReps K ca N H v d → d.lookup f = none → v.lookup f = none
  | _, _, _, .nil, e => rfl
  | _, _, f, .cons (f := g) r t, e => by
    rw [List.lookup_cons] at e ⊢
    cases hb : f == g with
    | true => rw [hb] at e; cases e
    | false => rw [hb] at e; exact t.look_none e
/-- the fields with one put -/
def putD (f : Str) (v : D) : List (Str × D) → List (Str × D)
  | [] => [(f, v)]
  | (g, u) :: r => if g = f then (g, v) :: r else (g, u) :: putD f v r
end
end Pw

set_option maxHeartbeats 4000000
/-! PwB: a frame's slots, outcomes, what stays. -/
namespace Pw
open PySem PySem.Spec PyProof.Rows L2

abbrev St := L2.St
/-- an object that one slot alone holds -/
inductive Ct where
  | lst (ds : List D) | obj (c : Str) (fs : List (Str × D)) | dct (kvs : List (D × D))
def Ct.toD : Ct → D
  | .lst ds => .lst ds
  | .obj c fs => .obj c fs
  | .dct kvs => .dct kvs
inductive Sv where
  | none | val (d : D) | own (pm lk : Bool) (c : Ct)
instance : Inhabited Sv := ⟨.none⟩
abbrev En := List Sv
structure Ex where
  cls : Str
  fs : List (Str × D)
inductive RV where
  | val (d : D) | fresh (c : Ct) | bor (i : Nat)
inductive Out (α : Type) where
  | ok (a : α) (e : En) | exn (x : Ex) (e : En) | stuck
def Out.bind {α β : Type} (o : Out α) (f : α → En → Out β) : Out β :=
  match o with
  | .ok a e => f a e
  | .exn x e => .exn x e
  | .stuck => .stuck
@[simp] theorem Out.bind_ok {α β : Type} (a : α) (e : En) (f : α → En → Out β) : (Out.ok a e).bind f = f a e := rfl
@[simp] theorem Out.bind_exn {α β : Type} (x : Ex) (e : En) (f : α → En → Out β) : (Out.exn x e).bind f = .exn x e := rfl
@[simp] theorem Out.bind_stuck {α β : Type} (f : α → En → Out β) : (Out.stuck : Out α).bind f = .stuck := rfl
inductive SO where
  | next (e : En) | ret (r : RV) (e : En) | brk (e : En) | cont (e : En) | exn (x : Ex) (e : En) | stuck

section
variable (K : PySem.W.Frag) (ca : Ca)
inductive CRep (N : Addr → Prop) (H : Hp) (p : Addr) : Ct → Prop
  | lst {vs : List V} {ds : List D} (h : H p = some (.lst vs)) (r : Reps K ca N H vs ds) : CRep N H p (.lst ds)
  | obj {C dx : Addr} {fvs : List (Str × V)} {c : Str} {fs : List (Str × D)} (hc : ca c = some C) (h : H p = some (.ins C dx fvs)) (r : FReps K ca N H fvs fs) : CRep N H p (.obj c fs)
  | dct {kvs : List (Key × V)} {ds : List (D × D)} (h : H p = some (.dK kvs)) (r : KReps K ca N H kvs ds) : CRep N H p (.dct ds)
  | dcg {xs : List GE} {ds : List (D × D)} (h : H p = some (dgO ca.hs p xs)) (r : GReps K ca N H xs ds) : CRep N H p (.dct ds)
/-- as Rep, the object itself may be hidden -/
inductive VRep (N : Addr → Prop) (H : Hp) : V → D → Prop
  | of {v : V} {d : D} (r : Rep K ca N H v d) : VRep N H v d
  | ct {p : Addr} {c : Ct} {d : D} (r : CRep K ca N H p c) (e : c.toD = d) : VRep N H (.ref p) d
end
def OwnAt (env : En) (σ : St) (i : Nat) (a : Addr) : Prop := (∃ pm lk c, env[i]? = some (.own pm lk c)) ∧ σ[i]? = some (some (.ref a))
def hid (env : En) (σ : St) (a : Addr) : Prop := ∃ i, OwnAt env σ i a
abbrev Nof (B : Addr → Prop) (env : En) (σ : St) : Addr → Prop := fun a => B a ∨ hid env σ a
section
variable (K : PySem.W.Frag) (ca : Ca)
def SlotRep (N : Addr → Prop) (H : Hp) (v : Option (Option V)) : Sv → Prop
  | .none => True
  | .val d => ∃ x, v = some (some x) ∧ Rep K ca N H x d
  | .own _ _ c => ∃ p, v = some (some (.ref p)) ∧ CRep K ca N H p c
structure SRel (B : Addr → Prop) (σ : St) (H : Hp) (env : En) : Prop where
  len : env.length = σ.length
  dom : ∀ a, B a → H a ≠ none
  sep : ∀ a, hid env σ a → ¬ B a
  inj : ∀ i j a, OwnAt env σ i a → OwnAt env σ j a → i = j
  slot : ∀ (i : Nat) s, env[i]? = some s → SlotRep K ca (Nof B env σ) H (σ[i]?) s
  tabs : LamX.Tabs ca.tabs H
/-- a value, found behind H0 -/
def RRep (B : Addr → Prop) (σ : St) (H0 H : Hp) (env : En) (v : V) : RV → Prop
  | .val d => Rep K ca (Nof B env σ) H v d
  | .fresh c => ∃ p, v = .ref p ∧ H0 p = none ∧ ¬ Nof B env σ p ∧ CRep K ca (fun a => Nof B env σ a ∨ a = p) H p c ∧ SRel K ca (fun a => B a ∨ a = p) σ H env
  | .bor i => σ[i]? = some (some v) ∧ ∃ s, env[i]? = some s ∧ s ≠ .none
def XRep (N : Addr → Prop) (H : Hp) (cls : Value) (d : Option Addr) (x : Ex) : Prop :=
  ∃ C dd fvs, cls = .ref C ∧ ca x.cls = some C ∧ d = some dd ∧ H dd = some (.xd fvs) ∧ ∀ f, (∀ y, x.fs.lookup f = some y → ∃ v, fvs.lookup f = some v ∧ Rep K ca N H v y) ∧ (x.fs.lookup f = none → fvs.lookup f = none)
end
/-- what an expression leaves -/
structure Keep (σ : St) (H : Hp) (env : En) (H' : Hp) (env' : En) : Prop where
  own : ∀ (i : Nat) pm lk c', env'[i]? = some (.own pm lk c') → ∃ c, env[i]? = some (.own pm lk c)
  pm : ∀ (i : Nat) lk c, env[i]? = some (.own true lk c) → ∃ c', env'[i]? = some (.own true lk c')
  lkd : ∀ (i : Nat) pm c, env[i]? = some (.own pm true c) → env'[i]? = some (.own pm true c)
  nn : ∀ (i : Nat) s, env[i]? = some s → s ≠ .none → ∃ s', env'[i]? = some s' ∧ s' ≠ .none
  heap : ∀ a o, H a = some o → NT o → ¬ hid env σ a → H' a = some o
  dom : ∀ a, H' a = none → H a = none
/-- what a statement leaves -/
structure KeepS (σ : St) (H : Hp) (env : En) (σ' : St) (H' : Hp) (env' : En) : Prop where
  len : env'.length = env.length
  pm : ∀ (i : Nat) lk c, env[i]? = some (.own true lk c) → (∃ c', env'[i]? = some (.own true lk c')) ∧ σ'[i]? = σ[i]?
  lkd : ∀ (i : Nat) pm c, env[i]? = some (.own pm true c) → env'[i]? = some (.own pm true c) ∧ σ'[i]? = σ[i]?
  new : ∀ a, hid env' σ' a → hid env σ a ∨ H a = none
  heap : ∀ a o, H a = some o → NT o → ¬ hid env σ a → H' a = some o
  dom : ∀ a, H' a = none → H a = none

section
variable {K : PySem.W.Frag} {ca : Ca} {N N' : Addr → Prop} {H H' H1 H2 : Hp} {B : Addr → Prop} {σ σ' σ1 σ2 : St} {env env' e1 e2 : En}
theorem CRep.dom {p : Addr} {c : Ct} (r : CRep K ca N H p c) : ∃ o, H p = some o := by
  cases r with
  | lst h _ => exact ⟨_, h⟩
  | obj _ h _ => exact ⟨_, h⟩
  | dct h _ => exact ⟨_, h⟩
  | dcg h _ => exact ⟨_, h⟩
/-- an object that holds data -/
def Dat (o : HO) : Prop := (∃ xs, o = .lst xs) ∨ (∃ C d fs, o = .ins C d fs) ∨ (∃ ks, o = .dK ks) ∨ ∃ hs a xs, o = dgO hs a xs
theorem Dat.nt {o : HO} (h : Dat o) : NT o := by
  rcases h with ⟨_, rfl⟩ | ⟨_, _, _, rfl⟩ | ⟨_, rfl⟩ | ⟨_, _, _, rfl⟩
  · exact nt_lst
  · exact nt_ins
  · exact nt_dK
  · exact nt_ext
theorem CRep.dat {p : Addr} {c : Ct} (r : CRep K ca N H p c) : ∃ o, H p = some o ∧ Dat o := by
  cases r with
  | lst h _ => exact ⟨_, h, .inl ⟨_, rfl⟩⟩
  | obj _ h _ => exact ⟨_, h, .inr (.inl ⟨_, _, _, rfl⟩)⟩
  | dct h _ => exact ⟨_, h, .inr (.inr (.inl ⟨_, rfl⟩))⟩
  | dcg h _ => exact ⟨_, h, .inr (.inr (.inr ⟨_, _, _, rfl⟩))⟩
theorem code_not_dg {c : Addr} {q : Str} {hs : Str → Int} {a : Addr} {xs : List GE} (z : LamX.CodeO c q = dgO hs a xs) : False := by
  unfold LamX.CodeO at z
  have z1 := HO.ext.inj z
  let ob : Obj := { cls := .none, data := .fields #[.none, .str q default] }
  let h : Heap := { objs := Array.replicate (c + 1) ob }
  have hg : ∀ b o, h.get? b = some o → o = ob := fun b o e => by
    unfold Heap.get? at e
    by_cases hb : b < c + 1
    · have : h.objs[b]? = some ob := by simp [h, hb]
      rw [this] at e
      simpa [ob] using e.symm
    · have : h.objs[b]? = none := Array.getElem?_eq_none (by simp [h]; exact Nat.not_lt.mp hb)
      rw [this] at e
      cases e
  have h1 : ∃ (oc : Obj) (vs : Array Value) (t : Tok), h.get? c = some oc ∧ oc.data = .fields vs ∧ vs[1]? = some (.str q t) := by
    refine ⟨ob, _, default, ?_, rfl, rfl⟩
    unfold Heap.get?
    have : h.objs[c]? = some ob := by simp [h]
    rw [this]
  have h2 : dgP hs a xs h := (congrFun z1 h) ▸ h1
  obtain ⟨_, _, o, es, ep, e1, _, e2, _⟩ := h2
  rw [hg a o e1] at e2
  cases e2
theorem tabs_upd {T : List (Addr × Str)} {p : Addr} {u o : HO} (hp : H p = some u) (hu : Dat u) (t : LamX.Tabs T H) : LamX.Tabs T (upd H p o) := fun q hq => by
  obtain ⟨ps, h1, h2, h3⟩ := t q hq
  have n1 : q.1 ≠ p := fun z => by
    rw [z, hp] at h1
    cases h1
    exact hu.nt ps rfl
  refine ⟨ps, by rw [upd_ne n1]; exact h1, h2, fun pos cv hc => ?_⟩
  obtain ⟨c, e1, e2⟩ := h3 pos cv hc
  refine ⟨c, e1, ?_⟩
  rw [upd_ne (fun z => by
    rw [z, hp] at e2
    cases e2
    unfold LamX.CodeO at hu
    rcases hu with ⟨_, z⟩ | ⟨_, _, _, z⟩ | ⟨_, z⟩ | ⟨_, _, _, z⟩ <;> first | (cases z; done) | exact code_not_dg z)]
  exact e2
/-- the object is as it was, its parts are seen -/
theorem CRep.sub {p : Addr} {c : Ct} (s : Sub N N' H H') (e : H' p = H p) (r : CRep K ca N H p c) : CRep K ca N' H' p c := by
  cases r with
  | lst h r => exact .lst (e.trans h) (r.sub s)
  | obj hc h r => exact .obj hc (e.trans h) (r.sub s)
  | dct h r => exact .dct (e.trans h) (r.sub s)
  | dcg h r => exact .dcg (e.trans h) (r.sub s)
theorem CRep.rep {p : Addr} {c : Ct} (n : ¬ N p) (r : CRep K ca N H p c) : Rep K ca N H (.ref p) c.toD := by
  cases r with
  | lst h r => exact .lst n h r
  | obj hc h r => exact .obj n hc h r
  | dct h r => exact .dct n h r
  | dcg h r => exact .dcg n h r
theorem sub_less (h : ∀ a, N' a → N a) : Sub N N' H H := fun a o e _ n => ⟨fun z => n (h a z), e⟩
theorem SRel.hdom (S : SRel K ca B σ H env) {a : Addr} (h : hid env σ a) : ∃ o, H a = some o := by
  obtain ⟨i, ⟨pm, lk, c, e⟩, es⟩ := h
  obtain ⟨p, e2, r⟩ := S.slot i _ e
  rw [es] at e2
  cases e2
  exact r.dom
theorem SRel.ndom (S : SRel K ca B σ H env) {a : Addr} (h : Nof B env σ a) : H a ≠ none := by
  rcases h with h | h
  · exact S.dom a h
  · obtain ⟨o, e⟩ := S.hdom h
    rw [e]; exact fun z => nomatch z
theorem SRel.fresh (S : SRel K ca B σ H env) {a : Addr} (h : H a = none) : ¬ Nof B env σ a := fun z => S.ndom z h
/-- all is kept -/
abbrev Ext (H H' : Hp) : Prop := ∀ a o, H a = some o → H' a = some o
theorem Ext.sub (e : Ext H H') : Sub N N H H' := fun a o h _ n => ⟨n, e a o h⟩
theorem Ext.new {p : Addr} {o : HO} (h : H p = none) : Ext H (upd H p o) := fun a u e => by
  rw [upd_ne (ne_of_none e h)]; exact e
theorem Ext.trans (a : Ext H H1) (b : Ext H1 H2) : Ext H H2 := fun x o h => b x o (a x o h)
theorem CRep.ext {p : Addr} {c : Ct} (e : Ext H H') (r : CRep K ca N H p c) : CRep K ca N H' p c := by
  obtain ⟨o, h⟩ := r.dom
  exact r.sub e.sub ((e p o h).trans h.symm)
theorem SRel.ext (S : SRel K ca B σ H env) (e : Ext H H') : SRel K ca B σ H' env where
  len := S.len
  dom := fun a b z => by
    cases q : H a with
    | none => exact S.dom a b q
    | some o => rw [e a o q] at z; cases z
  sep := S.sep
  inj := S.inj
  slot := fun i s h => by
    have r := S.slot i s h
    cases s with
    | none => trivial
    | val d => obtain ⟨x, e1, r⟩ := r; exact ⟨x, e1, r.sub e.sub⟩
    | own pm lk c => obtain ⟨p, e1, r⟩ := r; exact ⟨p, e1, r.ext e⟩
  tabs := S.tabs.ext e
/-- a new object is hidden from all -/
theorem SRel.hide (S : SRel K ca B σ H env) (e : Ext H H') {p : Addr} (n : H p = none) (s : H' p ≠ none) : SRel K ca (fun a => B a ∨ a = p) σ H' env where
  len := S.len
  dom := fun a b z => by
    rcases b with b | b
    · cases q : H a with
      | none => exact S.dom a b q
      | some o => rw [e a o q] at z; cases z
    · subst b; exact s z
  sep := fun a h z => by
    rcases z with z | z
    · exact S.sep a h z
    · subst z
      obtain ⟨o, q⟩ := S.hdom h
      rw [n] at q; cases q
  inj := S.inj
  slot := fun i s h => by
    have r := S.slot i s h
    have sb : Sub (Nof B env σ) (Nof (fun a => B a ∨ a = p) env σ) H H' := fun a o ea _ na => ⟨(fun z => by
      rcases z with (z | z) | z
      · exact na (.inl z)
      · subst z; rw [n] at ea; cases ea
      · exact na (.inr z)), e a o ea⟩
    cases s with
    | none => trivial
    | val d => obtain ⟨x, e1, r⟩ := r; exact ⟨x, e1, r.sub sb⟩
    | own pm lk c =>
      obtain ⟨q, e1, r⟩ := r
      obtain ⟨o, h⟩ := r.dom
      exact ⟨q, e1, r.sub sb ((e q o h).trans h.symm)⟩
  tabs := S.tabs.ext e
theorem Keep.refl : Keep σ H env H env := ⟨fun _ _ _ c h => ⟨c, h⟩, fun _ _ c h => ⟨c, h⟩, fun _ _ _ h => h, fun _ s h n => ⟨s, h, n⟩, fun _ _ h _ _ => h, fun _ h => h⟩
theorem Ext.back (e : Ext H H') {a : Addr} (h : H' a = none) : H a = none := by
  cases q : H a with
  | none => rfl
  | some o => rw [e a o q] at h; cases h
theorem Keep.ext (e : Ext H H') : Keep σ H env H' env := ⟨fun _ _ _ c h => ⟨c, h⟩, fun _ _ c h => ⟨c, h⟩, fun _ _ _ h => h, fun _ s h n => ⟨s, h, n⟩, fun a o h _ _ => e a o h, fun _ h => e.back h⟩
theorem Keep.hid (k : Keep σ H env H' env') {a : Addr} (h : hid env' σ a) : hid env σ a := by
  obtain ⟨i, ⟨pm, lk, c, e⟩, es⟩ := h
  obtain ⟨c0, e0⟩ := k.own i pm lk c e
  exact ⟨i, ⟨pm, lk, c0, e0⟩, es⟩
theorem Keep.trans (a : Keep σ H env H1 e1) (b : Keep σ H1 e1 H2 e2) : Keep σ H env H2 e2 where
  own := fun i pm lk c h => by
    obtain ⟨c1, h1⟩ := b.own i pm lk c h
    exact a.own i pm lk c1 h1
  pm := fun i lk c h => by
    obtain ⟨c1, h1⟩ := a.pm i lk c h
    exact b.pm i lk c1 h1
  lkd := fun i pm c h => b.lkd i pm c (a.lkd i pm c h)
  nn := fun i s h n => by
    obtain ⟨s1, h1, n1⟩ := a.nn i s h n
    exact b.nn i s1 h1 n1
  heap := fun x o h t n => b.heap x o (a.heap x o h t n) t fun z => n (a.hid z)
  dom := fun x h => a.dom x (b.dom x h)
theorem KeepS.refl : KeepS σ H env σ H env := ⟨rfl, fun _ _ c h => ⟨⟨c, h⟩, rfl⟩, fun _ _ _ h => ⟨h, rfl⟩, fun _ h => .inl h, fun _ _ h _ _ => h, fun _ h => h⟩
theorem KeepS.trans (a : KeepS σ H env σ1 H1 e1) (b : KeepS σ1 H1 e1 σ2 H2 e2) : KeepS σ H env σ2 H2 e2 where
  len := b.len.trans a.len
  pm := fun i lk c h => by
    obtain ⟨⟨c1, h1⟩, s1⟩ := a.pm i lk c h
    obtain ⟨h2, s2⟩ := b.pm i lk c1 h1
    exact ⟨h2, s2.trans s1⟩
  lkd := fun i pm c h => by
    obtain ⟨h1, s1⟩ := a.lkd i pm c h
    obtain ⟨h2, s2⟩ := b.lkd i pm c h1
    exact ⟨h2, s2.trans s1⟩
  new := fun x h => by
    rcases b.new x h with z | z
    · exact a.new x z
    · cases q : H x with
      | none => exact .inr rfl
      | some o =>
        by_cases hh : Pw.hid env σ x
        · exact .inl hh
        · rw [a.dom x z] at q; cases q
  heap := fun x o h t n => b.heap x o (a.heap x o h t n) t fun z => by
    rcases a.new x z with z | z
    · exact n z
    · rw [h] at z; cases z
  dom := fun x h => a.dom x (b.dom x h)
theorem Keep.toS (S' : SRel K ca B σ H' env') (S : SRel K ca B σ H env) (k : Keep σ H env H' env') : KeepS σ H env σ H' env' where
  len := S'.len.trans S.len.symm
  pm := fun i lk c h => ⟨k.pm i lk c h, rfl⟩
  lkd := fun i pm c h => ⟨k.lkd i pm c h, rfl⟩
  new := fun a h => .inl (k.hid h)
  heap := k.heap
  dom := k.dom
/-- seen behind an expression -/
theorem Keep.sub (k : Keep σ H env H' env') : Sub (Nof B env σ) (Nof B env' σ) H H' := fun a o e t n =>
  ⟨fun z => n (z.imp id k.hid), k.heap a o e t fun z => n (.inr z)⟩
theorem KeepS.sub (S : SRel K ca B σ H env) (k : KeepS σ H env σ' H' env') : Sub (Nof B env σ) (Nof B env' σ') H H' := fun a o e t n =>
  ⟨(fun z => by
    rcases z with z | z
    · exact n (.inl z)
    · rcases k.new a z with z | z
      · exact n (.inr z)
      · rw [e] at z; cases z), k.heap a o e t fun z => n (.inr z)⟩
structure Post (K : PySem.W.Frag) (ca : Ca) (B : Addr → Prop) (σ : St) (H : Hp) (env : En) (H' : Hp) (env' : En) : Prop where
  rel : SRel K ca B σ H' env'
  keep : Keep σ H env H' env'
theorem Post.refl (S : SRel K ca B σ H env) : Post K ca B σ H env H env := ⟨S, .refl⟩
theorem Post.ext (S : SRel K ca B σ H env) (e : Ext H H') : Post K ca B σ H env H' env := ⟨S.ext e, .ext e⟩
theorem Post.trans (a : Post K ca B σ H env H1 e1) (b : Post K ca B σ H1 e1 H2 e2) : Post K ca B σ H env H2 e2 := ⟨b.rel, a.keep.trans b.keep⟩
/-- an operand: nobody counts on its being alone -/
def norm (r : RV) : RV := match r with
  | .fresh c => .val c.toD
  | r => r
theorem RRep.norm {v : V} {r : RV} {H0 : Hp} (h : RRep K ca B σ H0 H env v r) : RRep K ca B σ H0 H env v (norm r) := by
  cases r with
  | val d => exact h
  | bor i => exact h
  | fresh c =>
    obtain ⟨p, rfl, _, n, r, _⟩ := h
    exact CRep.rep n (r.sub (sub_less fun a z => .inl z) rfl)
theorem RRep.nkeep {v : V} {r : RV} {H0 H1 : Hp} (k : Keep σ H env H' env') (h : RRep K ca B σ H0 H env v (Pw.norm r)) : RRep K ca B σ H1 H' env' v (Pw.norm r) := by
  cases r with
  | val d => exact Rep.sub k.sub h
  | fresh c => exact Rep.sub k.sub h
  | bor i =>
    obtain ⟨e, s, h1, h2⟩ := h
    exact ⟨e, k.nn i s h1 h2⟩
/-- .. behind an earlier heap -/
theorem RRep.back {v : V} {r : RV} {H0 H1 : Hp} (d : ∀ a, H1 a = none → H0 a = none) (h : RRep K ca B σ H1 H env v r) : RRep K ca B σ H0 H env v r := by
  cases r with
  | val d => exact h
  | bor i => exact h
  | fresh c =>
    obtain ⟨p, e, n, r⟩ := h
    exact ⟨p, e, d p n, r⟩
/-- what a value shows -/
def view (r : RV) (e : En) : Option D :=
  match r with
  | .val d => some d
  | .fresh c => some c.toD
  | .bor i => match e[i]? with
    | some (.own _ _ c) => some c.toD
    | some (.val d) => some d
    | _ => none
theorem RRep.view {v : V} {r : RV} {d : D} {H0 : Hp} (S : SRel K ca B σ H env) (h : RRep K ca B σ H0 H env v r) (e : view r env = some d) : VRep K ca (Nof B env σ) H v d := by
  cases r with
  | val x => cases e; exact .of h
  | fresh c =>
    cases e
    obtain ⟨p, rfl, _, n, r, _⟩ := h
    exact .ct (r.sub (sub_less fun a z => .inl z) rfl) rfl
  | bor i =>
    obtain ⟨e1, s, h1, h2⟩ := h
    have q := S.slot i s h1
    simp only [Pw.view, h1] at e
    cases s with
    | none => exact absurd rfl h2
    | val x =>
      cases e
      obtain ⟨y, e2, r⟩ := q
      rw [e1] at e2
      cases e2
      exact .of r
    | own pm lk c =>
      cases e
      obtain ⟨p, e2, r⟩ := q
      rw [e1] at e2
      cases e2
      exact .ct r rfl
end
/-! ### what a view says -/
section
variable {K : PySem.W.Frag} {ca : Ca} {N : Addr → Prop} {H : Hp} {v : V}
theorem vr_non (h : VRep K ca N H v .non) : v = .non := by
  cases h with
  | of r => cases r; rfl
  | @ct p c _ r e => cases c <;> cases e
theorem vr_bl {b : Bool} (h : VRep K ca N H v (.bl b)) : v = .bl b := by
  cases h with
  | of r => cases r; rfl
  | @ct p c _ r e => cases c <;> cases e
theorem vr_int {i : Int} (h : VRep K ca N H v (.int i)) : v = .int i := by
  cases h with
  | of r => cases r; rfl
  | @ct p c _ r e => cases c <;> cases e
theorem vr_str {x : Str} (h : VRep K ca N H v (.str x)) : v = .str x := by
  cases h with
  | of r => cases r; rfl
  | @ct p c _ r e => cases c <;> cases e
theorem vr_ty {x : String} (h : VRep K ca N H v (.ty x)) : v = .ty x := by
  cases h with
  | of r => cases r; rfl
  | @ct p c _ r e => cases c <;> cases e
theorem vr_tup {ds : List D} (h : VRep K ca N H v (.tup ds)) : ∃ a vs, v = .ref a ∧ TopT K N H a vs ∧ Reps K ca N H vs ds := by
  cases h with
  | of r => cases r with
    | tup h r => exact ⟨_, _, rfl, h, r⟩
  | @ct p c _ r e => cases c <;> cases e
theorem vr_lst {ds : List D} (h : VRep K ca N H v (.lst ds)) : ∃ a vs, v = .ref a ∧ H a = some (.lst vs) ∧ Reps K ca N H vs ds := by
  cases h with
  | of r => cases r with
    | lst n h r => exact ⟨_, _, rfl, h, r⟩
  | @ct p c _ r e => cases r with
    | lst h r => cases e; exact ⟨_, _, rfl, h, r⟩
    | obj _ _ _ => cases e
    | dct _ _ => cases e
    | dcg _ _ => cases e
theorem vr_cls {c : Str} (h : VRep K ca N H v (.cls c)) : ∃ C, v = .ref C ∧ ca c = some C := by
  cases h with
  | of r => cases r with
    | cls hc => exact ⟨_, rfl, hc⟩
  | @ct p c _ r e => cases c <;> cases e
theorem vr_scr {ns : List Int} (h : VRep K ca N H v (.scr ns)) : ∃ a, v = .ref a ∧ TopL K N H a (ns.map V.int) := by
  cases h with
  | of r => cases r with
    | scr h => exact ⟨_, rfl, h⟩
  | @ct p c _ r e => cases c <;> cases e
theorem vr_obj {c : Str} {fs : List (Str × D)} (h : VRep K ca N H v (.obj c fs)) : ∃ a C dx fvs, v = .ref a ∧ ca c = some C ∧ H a = some (.ins C dx fvs) ∧ FReps K ca N H fvs fs := by
  cases h with
  | of r => cases r with
    | obj n hc h r => exact ⟨_, _, _, _, rfl, hc, h, r⟩
  | @ct p c _ r e => cases r with
    | lst h r => cases e
    | obj hc h r => cases e; exact ⟨_, _, _, _, rfl, hc, h, r⟩
    | dct _ _ => cases e
    | dcg _ _ => cases e
/-- a dict, of flat keys or of tuples -/
theorem vr_dct {kvs : List (D × D)} (h : VRep K ca N H v (.dct kvs)) : ∃ a, v = .ref a ∧ ((∃ ks, H a = some (.dK ks) ∧ KReps K ca N H ks kvs) ∨ ∃ xs, H a = some (dgO ca.hs a xs) ∧ GReps K ca N H xs kvs) := by
  cases h with
  | of r => cases r with
    | dct n h r => exact ⟨_, rfl, .inl ⟨_, h, r⟩⟩
    | dcg n h r => exact ⟨_, rfl, .inr ⟨_, h, r⟩⟩
  | @ct p c _ r e => cases r with
    | lst h r => cases e
    | obj hc h r => cases e
    | dct h r => cases e; exact ⟨_, rfl, .inl ⟨_, h, r⟩⟩
    | dcg h r => cases e; exact ⟨_, rfl, .inr ⟨_, h, r⟩⟩
end
end Pw

set_option maxHeartbeats 4000000
/-! PwC: expressions as functions of the slots. -/
namespace Pw
open PySem PySem.Spec PyProof.Rows L2

abbrev ME := En → Out RV
abbrev MT := En → Out Bool
abbrev MA := En → Out (List RV)
section
variable (K : PySem.W.Frag) (ca : Ca)
def CondG {α : Type} (W : WX) (B : Addr → Prop) (σ : St) (H : Hp) (env : En) (o : Out α) (k : α → En → Hp → Prop) : Prop :=
  match o with
  | .ok r e => ∀ H', Post K ca B σ H env H' e → k r e H'
  | .exn x e => ∀ cls d H', Post K ca B σ H env H' e → XRep K ca (Nof B e σ) H' cls d x → W cls d σ H'
  | .stuck => False
def RReps (B : Addr → Prop) (σ : St) (H : Hp) (env : En) : List V → List RV → Prop := Paired fun v r => norm r = r ∧ ∀ H0, RRep K ca B σ H0 H env v r
def tM (W : WX) (m : ME) : TE := fun σ H Q => ∃ B env, SRel K ca B σ H env ∧ CondG K ca W B σ H env (m env) fun r e H' => ∀ v, RRep K ca B σ H H' e v r → Q v H'
def tMT (W : WX) (m : MT) : TT := fun σ H Q => ∃ B env, SRel K ca B σ H env ∧ CondG K ca W B σ H env (m env) fun b _ H' => Q b H'
def tMA (W : WX) (m : MA) : TA := fun σ H Q => ∃ B env, SRel K ca B σ H env ∧ CondG K ca W B σ H env (m env) fun rs e H' => ∀ vs, RReps K ca B σ H' e vs rs → Q vs H'
end
def VE (X : Cx) (ca : Ca) (e : Expr) (m : ME) : Prop := ∀ W, Takes X W → PE X e (tM X.K ca W m)
def VT (X : Cx) (ca : Ca) (e : Expr) (m : MT) : Prop := ∀ W, Takes X W → PT X e (tMT X.K ca W m)
def VW (X : Cx) (ca : Ca) (e : Expr) (m : MT) : Prop := ∀ W, Takes X W → PW X e (tMT X.K ca W m)
def VA (X : Cx) (ca : Ca) (es : List Expr) (m : MA) : Prop := ∀ W, Takes X W → PA X es (tMA X.K ca W m)

section
variable {X : Cx} {e : Expr} {t t' : TE} {tt tt' : TT}
theorem peImp (h : PE X e t) (i : ∀ σ H Q, t' σ H Q → t σ H Q) : PE X e t' := ⟨fun pins s σ H Q I q => h.run pins s σ H Q I (i σ H Q q)⟩
theorem ptImp (h : PT X e tt) (i : ∀ σ H Q, tt' σ H Q → tt σ H Q) : PT X e tt' := ⟨fun pins s σ H Q I q => h.run pins s σ H Q I (i σ H Q q)⟩
theorem pwImp (h : PW X e tt) (i : ∀ σ H Q, tt' σ H Q → tt σ H Q) : PW X e tt' := ⟨fun w pins s σ H Q I q => h.run w pins s σ H Q I (i σ H Q q)⟩
end

section
variable {K : PySem.W.Frag} {ca : Ca} {W : WX} {B : Addr → Prop} {σ : St} {H H' : Hp} {env env' : En} {α β : Type}
theorem CondG.imp {o : Out α} {k k' : α → En → Hp → Prop} (h : CondG K ca W B σ H env o k) (i : ∀ r e H', Post K ca B σ H env H' e → k r e H' → k' r e H') : CondG K ca W B σ H env o k' := by
  cases o with
  | ok r e => exact fun H' P => i r e H' P (h H' P)
  | exn x e => exact h
  | stuck => exact h
theorem CondG.bind {o : Out α} {f : α → En → Out β} {k : β → En → Hp → Prop} (h : CondG K ca W B σ H env (o.bind f) k) :
    CondG K ca W B σ H env o fun r e H1 => CondG K ca W B σ H1 e (f r e) k := by
  cases o with
  | ok r e =>
    intro H1 P1
    have h' : CondG K ca W B σ H env (f r e) k := h
    show CondG K ca W B σ H1 e (f r e) k
    cases q : f r e with
    | ok r2 e2 =>
      rw [q] at h'
      exact fun H2 P2 => h' H2 (P1.trans P2)
    | exn x e2 =>
      rw [q] at h'
      exact fun cls d H2 P2 => h' cls d H2 (P1.trans P2)
    | stuck =>
      rw [q] at h'
      exact h'
  | exn x e => exact h
  | stuck => exact h
/-- .. the end as seen from the beginning -/
theorem CondG.bind' {o : Out α} {f : α → En → Out β} {k : β → En → Hp → Prop} (h : CondG K ca W B σ H env (o.bind f) k) : CondG K ca W B σ H env o fun r e _ => CondG K ca W B σ H env (f r e) k := by
  cases o with
  | ok r e => exact fun H1 P1 => h
  | exn x e => exact h
  | stuck => exact h
theorem CondG.from {o : Out α} {k : α → En → Hp → Prop} {H1 : Hp} {e1 : En} (P : Post K ca B σ H env H1 e1) (h : CondG K ca W B σ H env o k) : CondG K ca W B σ H1 e1 o k := by
  cases o with
  | ok r e => exact fun H2 P2 => h H2 (P.trans P2)
  | exn x e => exact fun cls d H2 P2 => h cls d H2 (P.trans P2)
  | stuck => exact h
/-- .. at once -/
theorem CondG.later {o : Out RV} {Q : VK} {H1 : Hp} {e : En} (d : ∀ a, H1 a = none → H a = none) (h : CondG K ca W B σ H1 e o fun r e H' => ∀ v, RRep K ca B σ H H' e v r → Q v H') : CondG K ca W B σ H1 e o fun r e H' => ∀ v, RRep K ca B σ H1 H' e v r → Q v H' :=
  h.imp fun r e H' P k v R => k v (R.back d)
theorem CondG.now {r : α} {e : En} {k : α → En → Hp → Prop} (h : CondG K ca W B σ H env (.ok r e) k) (P : Post K ca B σ H env H' e) : k r e H' := h H' P
end

/-! ### what an operation gives -/
inductive Po where
  | val (d : D) | fresh (c : Ct) | exn (x : Ex) | stuck
def Po.out (p : Po) (e : En) : Out RV :=
  match p with
  | .val d => .ok (.val d) e
  | .fresh c => .ok (.fresh c) e
  | .exn x => .exn x e
  | .stuck => .stuck
@[simp] theorem Po.out_val (d : D) (e : En) : (Po.val d).out e = .ok (.val d) e := rfl
@[simp] theorem Po.out_fresh (c : Ct) (e : En) : (Po.fresh c).out e = .ok (.fresh c) e := rfl
@[simp] theorem Po.out_exn (x : Ex) (e : En) : (Po.exn x).out e = .exn x e := rfl
@[simp] theorem Po.out_stuck (e : En) : Po.stuck.out e = .stuck := rfl
section
variable (K : PySem.W.Frag) (ca : Ca)
def POK (N : Addr → Prop) (H : Hp) (k : VK) (kx : XK) : Po → Prop
  | .val d => ∀ v H', Ext H H' → Rep K ca N H' v d → k v H'
  | .fresh c => ∀ p H', Ext H H' → H p = none → CRep K ca (fun a => N a ∨ a = p) H' p c → k (.ref p) H'
  | .exn x => ∀ cls d H', Ext H H' → XRep K ca N H' cls d x → kx cls d H'
  | .stuck => False
def NDom (N : Addr → Prop) (H : Hp) : Prop := ∀ a, N a → H a ≠ none
/-- an operation on two values -/
def OpV (X : Cx) (f : Value → Value → Sem Value) (g : D → D → Po) : Prop := ∀ W, Takes X W → ∀ (pins : List (Addr × Obj)) (s : Shared) (σ : St) (H : Hp) (x y : V) (v u : Value) (Q : VK) (N : Addr → Prop) (dx dy : D),
  Inv X pins σ H s → RelV x v → RelV y u → NDom N H → VRep X.K ca N H x dx → VRep X.K ca N H y dy → POK X.K ca N H Q (fun cls d H' => W cls d σ H') (g dx dy) →
    wpAny (model X.prog X.w) X.A (f v u) (EP X pins σ Q) X.xe s
def UnV (X : Cx) (f : Value → Sem Value) (g : D → Po) : Prop := ∀ W, Takes X W → ∀ (pins : List (Addr × Obj)) (s : Shared) (σ : St) (H : Hp) (x : V) (v : Value) (Q : VK) (N : Addr → Prop) (dx : D),
  Inv X pins σ H s → RelV x v → NDom N H → VRep X.K ca N H x dx → POK X.K ca N H Q (fun cls d H' => W cls d σ H') (g dx) →
    wpAny (model X.prog X.w) X.A (f v) (EP X pins σ Q) X.xe s
def CallV (X : Cx) (f : Value) (g : List D → Po) : Prop := ∀ W, Takes X W → ∀ (pins : List (Addr × Obj)) (s : Shared) (σ : St) (H : Hp) (xs : List V) (us : List Value) (Q : VK) (N : Addr → Prop) (ds : List D),
  Inv X pins σ H s → Vals xs us → NDom N H → Paired (fun x d => VRep X.K ca N H x d) xs ds → POK X.K ca N H Q (fun cls d H' => W cls d σ H') (g ds) →
    wpAny (model X.prog X.w) X.A (call f us) (EP X pins σ Q) X.xe s
end
section
variable {X : Cx} {ca : Ca}
theorem OpV.of {f : Value → Value → Sem Value} {g : D → D → Po} {r : R2} (ho : OpR X f r) (h : ∀ N H x y dx dy Q kx, NDom N H → VRep X.K ca N H x dx → VRep X.K ca N H y dy → POK X.K ca N H Q kx (g dx dy) → r x y H Q) : OpV ca X f g :=
  fun W tk pins s σ H x y v u Q N dx dy I rx ry nd hx hy q => ho pins s σ H x y v u Q I rx ry (h N H x y dx dy Q _ nd hx hy q)
theorem OpV.or {f : Value → Value → Sem Value} {g g' : D → D → Po} {b : D → D → Bool} (h : OpV ca X f g) (h' : OpV ca X f g') : OpV ca X f (fun x y => if b x y = true then g x y else g' x y) :=
  fun W tk pins s σ H x y v u Q N dx dy I rx ry nd hx hy q => by
    dsimp only at q
    cases c : b dx dy with
    | true => exact h W tk pins s σ H x y v u Q N dx dy I rx ry nd hx hy (by rw [c] at q; exact q)
    | false => exact h' W tk pins s σ H x y v u Q N dx dy I rx ry nd hx hy (by rw [c] at q; exact q)
theorem CallV.or {f : Value} {g g' : List D → Po} {b : List D → Bool} (h : CallV ca X f g) (h' : CallV ca X f g') : CallV ca X f (fun ds => if b ds = true then g ds else g' ds) :=
  fun W tk pins s σ H xs us Q N ds I rx nd hx q => by
    dsimp only at q
    cases c : b ds with
    | true => exact h W tk pins s σ H xs us Q N ds I rx nd hx (by rw [c] at q; exact q)
    | false => exact h' W tk pins s σ H xs us Q N ds I rx nd hx (by rw [c] at q; exact q)
theorem UnV.of {f : Value → Sem Value} {g : D → Po} {r : V → Hp → VK → Prop} (ho : UnR X f r) (h : ∀ N H x dx Q kx, NDom N H → VRep X.K ca N H x dx → POK X.K ca N H Q kx (g dx) → r x H Q) : UnV ca X f g :=
  fun W tk pins s σ H x v Q N dx I rx nd hx q => ho pins s σ H x v Q I rx (h N H x dx Q _ nd hx q)
theorem CallV.of {f : Value} {g : List D → Po} {r : List V → Hp → VK → Prop} (ho : CallR X f r) (h : ∀ N H xs ds Q kx, NDom N H → Paired (fun x d => VRep X.K ca N H x d) xs ds → POK X.K ca N H Q kx (g ds) → r xs H Q) : CallV ca X f g :=
  fun W tk pins s σ H xs us Q N ds I rx nd hx q => ho pins s σ H xs us Q I rx (h N H xs ds Q _ nd hx q)
end
/-- from an operation's wishes to the frame's -/
theorem POK.of_out {K : PySem.W.Frag} {ca : Ca} {W : WX} {B : Addr → Prop} {σ : St} {H0 H : Hp} {env : En} {p : Po} {Q : VK} (d : ∀ a, H a = none → H0 a = none) (S : SRel K ca B σ H env)
    (h : CondG K ca W B σ H env (p.out env) fun r e H' => ∀ v, RRep K ca B σ H0 H' e v r → Q v H') : POK K ca (Nof B env σ) H Q (fun cls d H' => W cls d σ H') p := by
  cases p with
  | val d => exact fun v H' e r => h H' (.ext S e) v r
  | fresh c => exact fun p H' e n r => h H' (.ext S e) _ ⟨p, rfl, d p n, fun z => S.ndom z n, r, S.hide e n (by obtain ⟨o, z⟩ := r.dom; rw [z]; exact fun z => nomatch z)⟩
  | exn x => exact fun cls d H' e r => h cls d H' (.ext S e) r
  | stuck => exact h

/-! ### the forms -/
def mC (d : D) : ME := fun e => .ok (.val d) e
def mVar (i : Nat) : ME := fun e => match e[i]? with
  | some (.val d) => .ok (.val d) e
  | some (.own _ _ _) => .ok (.bor i) e
  | _ => .stuck
def opOut (g : D → D → Po) (x y : RV) (e : En) : Out RV := match view x e, view y e with
  | some dx, some dy => (g dx dy).out e
  | _, _ => .stuck
def mOp (g : D → D → Po) (a b : ME) : ME := fun e => (a e).bind fun x e1 => (b e1).bind fun y e2 => opOut g (norm x) y e2
def unOut (g : D → Po) (x : RV) (e : En) : Out RV := match view x e with
  | some dx => (g dx).out e
  | _ => .stuck
def mUn (g : D → Po) (a : ME) : ME := fun e => (a e).bind fun x e1 => unOut g x e1
/-- a value as a truth -/
def truD : D → Option Bool
  | .non => some false
  | .bl b => some b
  | .int i => some (i != 0)
  | .str s => if s.length ≤ sizeLine then some ((s.length : Int) != 0) else none
  | .tup ds => some (!ds.isEmpty)
  | .lst ds => some (!ds.isEmpty)
  | _ => none
def boolOut (r : RV) (e : En) : Out Bool := match r with
  | .val (.bl b) => .ok b e
  | _ => .stuck
def truOut (r : RV) (e : En) : Out Bool := match view r e with
  | some d => match truD d with
    | some b => .ok b e
    | none => .stuck
  | none => .stuck
def mTru (a : ME) : MT := fun e => (a e).bind fun r e1 => truOut r e1
/-- a test whose value is a truth value -/
def mTst (a : ME) : MT := fun e => (a e).bind fun r e1 => boolOut r e1
def mAndT (a b : MT) : MT := fun e => (a e).bind fun c e1 => if c = true then b e1 else .ok false e1
def mOrT (a b : MT) : MT := fun e => (a e).bind fun c e1 => if c = true then .ok true e1 else b e1
def mNotT (a : MT) : MT := fun e => (a e).bind fun c e1 => .ok (!c) e1
def mAndV (a b : ME) : ME := fun e => (a e).bind fun r e1 => (boolOut r e1).bind fun c e2 => if c = true then b e2 else .ok (.val (.bl false)) e2
def mOrV (a b : ME) : ME := fun e => (a e).bind fun r e1 => (boolOut r e1).bind fun c e2 => if c = true then .ok (.val (.bl true)) e2 else b e2
def mNotV (a : ME) : ME := fun e => (a e).bind fun r e1 => (boolOut r e1).bind fun c e2 => .ok (.val (.bl (!c))) e2
def mIf (t : MT) (a b : ME) : ME := fun e => (t e).bind fun c e1 => if c = true then a e1 else b e1
/-- a op1 b op2 c -/
def mChain (g g' : D → D → Po) (a b c : ME) : ME := fun e => (a e).bind fun x e1 => (b e1).bind fun y e2 => (opOut g (norm x) (norm y) e2).bind fun r e3 => (boolOut r e3).bind fun k e4 => if k = true then (c e4).bind fun z e5 => opOut g' (norm y) z e5 else .ok (.val (.bl false)) e4
def mNil : MA := fun e => .ok [] e
def mCons (a : ME) (r : MA) : MA := fun e => (a e).bind fun x e1 => (r e1).bind fun xs e2 => .ok (norm x :: xs) e2

section
variable {X : Cx} {ca : Ca} {a b c : Expr} {ma mb mc : ME} {pos : Pos}
theorem ve_int {i j} : VE X ca (.Constant (.int i) j pos) (mC (.int i)) := fun W tk => peImp pe_int fun σ H Q ⟨B, env, S, h⟩ => h.now (.refl S) _ (.int i)
theorem ve_bl {i j} : VE X ca (.Constant (.bool i) j pos) (mC (.bl i)) := fun W tk => peImp pe_bl fun σ H Q ⟨B, env, S, h⟩ => h.now (.refl S) _ (.bl i)
theorem ve_str {i j} : VE X ca (.Constant (.str i) j pos) (mC (.str i)) := fun W tk => peImp pe_str fun σ H Q ⟨B, env, S, h⟩ => h.now (.refl S) _ (.str i)
theorem ve_non {j} : VE X ca (.Constant .none j pos) (mC .non) := fun W tk => peImp pe_non fun σ H Q ⟨B, env, S, h⟩ => h.now (.refl S) _ .non
theorem ve_var {i : Nat} {x : Str} (hN : X.N[i]? = some x) (hv : Vis X.env.scope x) (hd : (x == ("__debug__" : Str)) = false) (hcd : (x == ("__classdict__" : Str)) = false) : VE X ca (.Name x pos) (mVar i) := fun W tk =>
  peImp (pe_var hN hv hd hcd) fun σ H Q ⟨B, env, S, h⟩ => by
    unfold mVar at h
    cases q : env[i]? with
    | none => rw [q] at h; exact h.elim
    | some s =>
      rw [q] at h
      have r := S.slot i s q
      cases s with
      | none => exact h.elim
      | val d =>
        obtain ⟨y, e1, r⟩ := r
        exact ⟨y, e1, h.now (.refl S) y r⟩
      | own pm lk ct =>
        obtain ⟨p, e1, r⟩ := r
        exact ⟨_, e1, h.now (.refl S) _ ⟨e1, _, q, fun z => nomatch z⟩⟩

/-- both sides, then the operation, at wp's level -/
theorem bin_run {f : Value → Value → Sem Value} {g : D → D → Po} (ho : OpV ca X f g) (ha : VE X ca a ma) (hb : VE X ca b mb) {W : WX} (tk : Takes X W) {pins : List (Addr × Obj)} {s : Shared} {σ : St} {H : Hp} {Q : VK}
    (I : Inv X pins σ H s) (h : tM X.K ca W (mOp g ma mb) σ H Q) :
    wpAny (model X.prog X.w) X.A (eval a X.env) (fun v s₁ => wpAny (model X.prog X.w) X.A (eval b X.env) (fun u s₂ => wpAny (model X.prog X.w) X.A (f v u) (EP X pins σ Q) X.xe s₂) X.xe s₁) X.xe s := by
  obtain ⟨B, env, S, h⟩ := h
  refine thn ((ha W tk).run pins s σ H (fun v H1 => ∃ r e, ∃ (P1 : Post X.K ca B σ H env H1 e), CondG X.K ca W B σ H1 e ((mb e).bind fun y e2 => opOut g (norm r) y e2) (fun r e H' => ∀ v, RRep X.K ca B σ H H' e v r → Q v H') ∧ RRep X.K ca B σ H H1 e v r) I ⟨B, env, S, h.bind.imp fun r e H1 P1 k v R => ⟨r, e, P1, k, R⟩⟩) fun v s1 ⟨x, H1, I1, rx, r, e1, P1, k, R⟩ => ?_
  refine thn ((hb W tk).run pins s1 σ H1 (fun v2 H2 => ∃ r2 e, ∃ (P2 : Post X.K ca B σ H1 e1 H2 e), CondG X.K ca W B σ H2 e (opOut g (norm r) r2 e) (fun r e H' => ∀ v, RRep X.K ca B σ H H' e v r → Q v H') ∧ RRep X.K ca B σ H1 H2 e v2 r2) I1 ⟨B, e1, P1.rel, k.bind.imp fun r2 e H2 P2 k2 v2 R2 => ⟨r2, e, P2, k2, R2⟩⟩) fun u s2 ⟨y, H2, I2, ry, r2, e2, P2, k2, R2⟩ => ?_
  have R' := R.norm.nkeep (H1 := H) P2.keep
  unfold opOut at k2
  cases q1 : view (norm r) e2 with
  | none => rw [q1] at k2; exact k2.elim
  | some dx =>
    cases q2 : view r2 e2 with
    | none => rw [q1, q2] at k2; exact k2.elim
    | some dy =>
      rw [q1, q2] at k2
      exact ho W tk pins s2 σ H2 x y v u Q _ dx dy I2 rx ry (fun a z => P2.rel.ndom z) (R'.view P2.rel q1) (R2.view P2.rel q2) (POK.of_out (fun a z => P1.keep.dom a (P2.keep.dom a z)) P2.rel k2)
theorem ve_op {op : Operator} {g : D → D → Po} (ho : OpV ca X (binaryOp op) g) (ha : VE X ca a ma) (hb : VE X ca b mb) : VE X ca (.BinOp a op b pos) (mOp g ma mb) := fun W tk =>
  ⟨fun pins s σ H Q I h => wpAny_BinOp (bin_run ho ha hb tk I h)⟩
theorem ve_cmp {op : CmpOp} {g : D → D → Po} (ho : OpV ca X (compareOp op) g) (ha : VE X ca a ma) (hb : VE X ca b mb) (hm : behindInMarks op b = false) : VE X ca (.Compare a [op] [b] pos) (mOp g ma mb) := fun W tk =>
  ⟨fun pins s σ H Q I h => wpAny_Compare1 (bin_run ho ha hb tk I h) hm⟩
theorem boolOut_ok {K : PySem.W.Frag} {W : WX} {B : Addr → Prop} {σ : St} {H1 : Hp} {e : En} {r : RV} {v : V} {k : Bool → En → Hp → Prop} {H0 : Hp} (h : CondG K ca W B σ H1 e (boolOut r e) k) (S : SRel K ca B σ H1 e) (R : RRep K ca B σ H0 H1 e v r) :
    ∃ b, v = .bl b ∧ r = .val (.bl b) ∧ k b e H1 := by
  unfold boolOut at h
  cases r with
  | val d =>
    cases d with
    | bl b =>
      cases (show Rep K ca _ H1 v (.bl b) from R)
      exact ⟨b, rfl, rfl, h.now (.refl S)⟩
    | _ => exact h.elim
  | _ => exact h.elim
theorem vt_cmp {op : CmpOp} {g : D → D → Po} (ho : OpV ca X (compareOp op) g) (ha : VE X ca a ma) (hb : VE X ca b mb) (hm : behindInMarks op b = false) : VT X ca (.Compare a [op] [b] pos) (mTst (mOp g ma mb)) := fun W tk => by
  refine ⟨fun pins s σ H Q I ⟨B, env, S, h⟩ => ?_⟩
  have h2 : tM X.K ca W (mOp g ma mb) σ H fun v H1 => ∃ b, v = .bl b ∧ Q b H1 := ⟨B, env, S, h.bind.imp fun r e H1 P1 k v R => by
    obtain ⟨b, e1, _, q⟩ := boolOut_ok k P1.rel R
    exact ⟨b, e1, q⟩⟩
  refine wpAny_isTrue_Compare1 (thn (bin_run ho ha hb tk I h2) fun v s1 h1 => thn h1 fun u s2 h2 => thn h2 fun c s3 h3 => ?_) hm
  obtain ⟨z, H3, I3, r3, b, e1, q⟩ := h3
  subst e1
  cases r3
  exact wpAny_truthy_bool ⟨H3, I3, q⟩
theorem truD_ok {K : PySem.W.Frag} {N : Addr → Prop} {H : Hp} {v : V} {d : D} {b : Bool} (R : VRep K ca N H v d) (q : truD d = some b) : TruV K v H b := by
  cases d with
  | non => cases q; rw [vr_non R]; rfl
  | bl y => cases q; rw [vr_bl R]; rfl
  | int y => cases q; rw [vr_int R]; rfl
  | str y =>
    rw [vr_str R]
    have q' : (if y.length ≤ sizeLine then some ((y.length : Int) != 0) else none) = some b := q
    by_cases hl : y.length ≤ sizeLine
    · rw [if_pos hl] at q'
      cases q'
      exact ⟨hl, rfl⟩
    · rw [if_neg hl] at q'
      cases q'
  | tup ds =>
    cases q
    obtain ⟨a, vs, rfl, h, r⟩ := vr_tup R
    refine .inr (.inl ⟨vs, h.sq, ?_⟩)
    cases r <;> rfl
  | lst ds =>
    cases q
    obtain ⟨a, vs, rfl, h, r⟩ := vr_lst R
    refine .inl ⟨vs, .inl (.inl h), ?_⟩
    cases r <;> rfl
  | _ => cases q
/-- an expression whose test is its value's truth -/
theorem vt_tru (ha : VE X ca a ma) (he : ∀ whole, isTrue a X.env whole = (do let v ← whole; standAt a.pos; holding [v] (truthy v))) : VT X ca a (mTru ma) := fun W tk =>
  ptImp (pt_truth (ha W tk) he) fun σ H Q ⟨B, env, S, h⟩ => ⟨B, env, S, h.bind.imp fun r e H1 P1 k v R => by
    unfold truOut at k
    cases q1 : view r e with
    | none => rw [q1] at k; exact k.elim
    | some d =>
      rw [q1] at k
      dsimp only at k
      cases q2 : truD d with
      | none => rw [q2] at k; exact k.elim
      | some b =>
        rw [q2] at k
        refine ⟨b, ?_, k.now (.refl P1.rel)⟩
        exact truD_ok (R.view P1.rel q1) q2⟩
/-! a and b, .. as tests -/
variable {ta tb : MT} {rest : List Expr}
theorem vw_and1 (ha : VT X ca a ta) : VW X ca (.BoolOp .And [a] pos) ta := fun W tk => pw_and1 (ha W tk)
theorem vw_or1 (ha : VT X ca a ta) : VW X ca (.BoolOp .Or [a] pos) ta := fun W tk => pw_or1 (ha W tk)
theorem vw_and (ha : VT X ca a ta) (hb : VW X ca (.BoolOp .And (b :: rest) pos) tb) : VW X ca (.BoolOp .And (a :: b :: rest) pos) (mAndT ta tb) := fun W tk =>
  pwImp (pw_and (ha W tk) (hb W tk)) fun σ H Q ⟨B, env, S, h⟩ => ⟨B, env, S, h.bind.imp fun c e H1 P1 k => by
    cases c with
    | true => exact iteT ⟨B, e, P1.rel, k⟩
    | false => exact iteF (k.now (.refl P1.rel))⟩
theorem vw_or (ha : VT X ca a ta) (hb : VW X ca (.BoolOp .Or (b :: rest) pos) tb) : VW X ca (.BoolOp .Or (a :: b :: rest) pos) (mOrT ta tb) := fun W tk =>
  pwImp (pw_or (ha W tk) (hb W tk)) fun σ H Q ⟨B, env, S, h⟩ => ⟨B, env, S, h.bind.imp fun c e H1 P1 k => by
    cases c with
    | true => exact iteT (k.now (.refl P1.rel))
    | false => exact iteF ⟨B, e, P1.rel, k⟩⟩
theorem vt_w {m : MT} (h : VW X ca a m) : VT X ca a m := fun W tk => (h W tk).pt
theorem vt_not (ha : VT X ca a ta) : VT X ca (.UnaryOp .Not a pos) (mNotT ta) := fun W tk =>
  ptImp (pt_not (ha W tk)) fun σ H Q ⟨B, env, S, h⟩ => ⟨B, env, S, h.bind.imp fun c e H1 P1 k => k.now (.refl P1.rel)⟩
/-- .. as values -/
theorem ve_one {op : BoolOp} (h : VE X ca a ma) : VE X ca (.BoolOp op [a] pos) ma := fun W tk => pe_one (h W tk)
theorem ve_and (ha : VE X ca a ma) (hb : VE X ca (.BoolOp .And (b :: rest) pos) mb) : VE X ca (.BoolOp .And (a :: b :: rest) pos) (mAndV ma mb) := fun W tk =>
  peImp (pe_and (ha W tk) (hb W tk)) fun σ H Q ⟨B, env, S, h⟩ => ⟨B, env, S, h.bind.imp fun r e H1 P1 k v R => by
    obtain ⟨c, e1, _, q⟩ := boolOut_ok k.bind P1.rel R
    refine ⟨c, e1, ?_⟩
    cases c with
    | true => exact iteT ⟨B, e, P1.rel, q.later P1.keep.dom⟩
    | false => exact iteF (q.now (.refl P1.rel) _ (.bl false))⟩
theorem ve_or (ha : VE X ca a ma) (hb : VE X ca (.BoolOp .Or (b :: rest) pos) mb) : VE X ca (.BoolOp .Or (a :: b :: rest) pos) (mOrV ma mb) := fun W tk =>
  peImp (pe_or (ha W tk) (hb W tk)) fun σ H Q ⟨B, env, S, h⟩ => ⟨B, env, S, h.bind.imp fun r e H1 P1 k v R => by
    obtain ⟨c, e1, _, q⟩ := boolOut_ok k.bind P1.rel R
    refine ⟨c, e1, ?_⟩
    cases c with
    | true => exact iteT (q.now (.refl P1.rel) _ (.bl true))
    | false => exact iteF ⟨B, e, P1.rel, q.later P1.keep.dom⟩⟩
theorem ve_not (ha : VE X ca a ma) : VE X ca (.UnaryOp .Not a pos) (mNotV ma) := fun W tk =>
  peImp (pe_not (ha W tk)) fun σ H Q ⟨B, env, S, h⟩ => ⟨B, env, S, h.bind.imp fun r e H1 P1 k v R => by
    obtain ⟨c, e1, _, q⟩ := boolOut_ok k.bind P1.rel R
    exact ⟨c, e1, q.now (.refl P1.rel) _ (.bl _)⟩⟩
theorem ve_if (hc : VT X ca c ta) (ha : VE X ca a ma) (hb : VE X ca b mb) : VE X ca (.IfExp c a b pos) (mIf ta ma mb) := fun W tk =>
  peImp (pe_ifExp (hc W tk) (ha W tk) (hb W tk)) fun σ H Q ⟨B, env, S, h⟩ => ⟨B, env, S, h.bind.imp fun c e H1 P1 k => by
    cases c with
    | true => exact iteT ⟨B, e, P1.rel, k.later P1.keep.dom⟩
    | false => exact iteF ⟨B, e, P1.rel, k.later P1.keep.dom⟩⟩
theorem ve_un {op : UnaryOp} {g : D → Po} (ho : UnV ca X (unaryOp op) g) (ha : VE X ca a ma) : VE X ca (.UnaryOp op a pos) (mUn g ma) := fun W tk => by
  refine ⟨fun pins s σ H Q I ⟨B, env, S, h⟩ => ?_⟩
  refine UnaryOp_ (thn ((ha W tk).run pins s σ H (fun v H1 => ∃ r e, ∃ (P1 : Post X.K ca B σ H env H1 e), CondG X.K ca W B σ H1 e (unOut g r e) (fun r e H' => ∀ v, RRep X.K ca B σ H H' e v r → Q v H') ∧ RRep X.K ca B σ H H1 e v r) I ⟨B, env, S, h.bind.imp fun r e H1 P1 k v R => ⟨r, e, P1, k, R⟩⟩) fun v s1 h1 => ?_)
  obtain ⟨x, H1, I1, rx, r, e1, P1, k, R⟩ := h1
  unfold unOut at k
  cases q1 : view r e1 with
  | none => rw [q1] at k; exact k.elim
  | some dx =>
    rw [q1] at k
    exact ho W tk pins s1 σ H1 x v Q _ dx I1 rx (fun a z => P1.rel.ndom z) (R.view P1.rel q1) (POK.of_out P1.keep.dom P1.rel k)
/-! ### argument lists -/
theorem RReps.keep {K : PySem.W.Frag} {B : Addr → Prop} {σ : St} {H H' : Hp} {env env' : En} (k : Keep σ H env H' env') : ∀ {vs : List V} {rs : List RV}, RReps K ca B σ H env vs rs → RReps K ca B σ H' env' vs rs
  | _, _, .nil => .nil
  | _, _, .cons (b := r) ⟨n, h⟩ t => .cons ⟨n, fun H0 => by
    have q := h H0
    rw [← n] at q ⊢
    exact q.nkeep k⟩ (RReps.keep k t)
theorem va_nil : VA X ca [] mNil := fun W tk => ⟨fun pos pins s σ H Q I ⟨B, env, S, h⟩ => pa_nil.run pos pins s σ H Q I (h.now (.refl S) [] .nil)⟩
theorem norm_norm (r : RV) : norm (norm r) = norm r := by cases r <;> rfl
theorem RRep.any {K : PySem.W.Frag} {B : Addr → Prop} {σ : St} {H H0 H1 : Hp} {env : En} {v : V} {r : RV} (h : RRep K ca B σ H0 H env v (Pw.norm r)) : RRep K ca B σ H1 H env v (Pw.norm r) := by
  cases r <;> exact h
theorem va_cons {es : List Expr} {mr : MA} (ha : VE X ca a ma) (hr : VA X ca es mr) (hs : starEach (a :: es) X.env = (false, eval a X.env) :: starEach es X.env) : VA X ca (a :: es) (mCons ma mr) := fun W tk =>
  ⟨fun pos pins s σ H Q I ⟨B, env, S, h⟩ => (pa_cons (ha W tk) (hr W tk) hs).run pos pins s σ H Q I ⟨B, env, S, h.bind.imp fun r e H1 P1 k v R => ⟨B, e, P1.rel, k.bind.imp fun rs e2 H2 P2 k2 vs Rs => k2.now (.refl P2.rel) (v :: vs) (.cons ⟨norm_norm r, fun H0 => R.norm.nkeep P2.keep⟩ Rs)⟩⟩⟩
end
end Pw

set_option maxHeartbeats 4000000
/-! PwD: the operators on data. -/
namespace Pw
open PySem PySem.Spec PyProof.Rows L2

mutual
def D.toP : D → Option PyData
  | .non => some .none
  | .bl b => some (.bool b)
  | .int i => some (.int i)
  | .str s => some (.str s)
  | .tup ds => (toPs ds).map .tuple
  | .lst ds => (toPs ds).map .list
  | .ty _ => none
  | .obj _ _ => none
  | .dct _ => none
  | .scr _ => none
  | .cls _ => none
def toPs : List D → Option (List PyData)
  | [] => some []
  | d :: ds => match d.toP, toPs ds with
    | some p, some ps => some (p :: ps)
    | _, _ => none
end
section
variable {K : PySem.W.Frag} {ca : Ca} {N : Addr → Prop} {H : Hp}
theorem toPs_cons {d : D} {ds : List D} {ps : List PyData} (h : toPs (d :: ds) = some ps) : ∃ p r, d.toP = some p ∧ toPs ds = some r ∧ ps = p :: r := by
  rw [toPs] at h
  cases h1 : d.toP with
  | none => rw [h1] at h; cases h
  | some p =>
    cases h2 : toPs ds with
    | none => rw [h1, h2] at h; cases h
    | some r => rw [h1, h2] at h; cases h; exact ⟨p, r, rfl, rfl, rfl⟩
mutual
theorem Rep.dp : ∀ {v : V} {d : D}, Rep K ca N H v d → ∀ {p : PyData}, d.toP = some p → Dp K H v p
  | _, _, .non, _, e => by rw [D.toP] at e; cases e; exact .non
  | _, _, .bl b, _, e => by rw [D.toP] at e; cases e; exact .bl b
  | _, _, .int i, _, e => by rw [D.toP] at e; cases e; exact .int i
  | _, _, .str x, _, e => by rw [D.toP] at e; cases e; exact .str x
  | _, _, .ty n, _, e => by rw [D.toP] at e; cases e
  | _, _, .tup (ds := ds) h r, p, e => by
    rw [D.toP] at e
    cases q : toPs ds with
    | none => rw [q] at e; cases e
    | some ps => rw [q] at e; cases e; exact .tup h.sq (Reps.dp r q)
  | _, _, .lst (ds := ds) n h r, p, e => by
    rw [D.toP] at e
    cases q : toPs ds with
    | none => rw [q] at e; cases e
    | some ps => rw [q] at e; cases e; exact .lst (.inl (.inl h)) (Reps.dp r q)
  | _, _, .obj n hc h r, _, e => by rw [D.toP] at e; cases e
  | _, _, .dct n h r, _, e => by rw [D.toP] at e; cases e
  | _, _, .dcg n h r, _, e => by rw [D.toP] at e; cases e
  | _, _, .scr h, _, e => by rw [D.toP] at e; cases e
  | _, _, .cls h, _, e => by rw [D.toP] at e; cases e
theorem Reps.dp : ∀ {v : List V} {d : List D}, Reps K ca N H v d → ∀ {p : List PyData}, toPs d = some p → DpAll K H v p
  | _, _, .nil, _, e => by rw [toPs] at e; cases e; exact .nil
  | _, _, .cons r t, _, e => by
    obtain ⟨p, ps, h1, h2, rfl⟩ := toPs_cons e
    exact .cons (Rep.dp r h1) (Reps.dp t h2)
end
theorem VRep.dp {v : V} {d : D} {p : PyData} (h : VRep K ca N H v d) (e : d.toP = some p) : Dp K H v p := by
  cases h with
  | of r => exact r.dp e
  | @ct p c _ r e' =>
    subst e'
    cases r with
    | @lst vs ds h r =>
      rw [Ct.toD, D.toP] at e
      cases q : toPs ds with
      | none => rw [q] at e; cases e
      | some ps => rw [q] at e; cases e; exact .lst (.inl (.inl h)) (r.dp q)
    | obj _ _ _ => rw [Ct.toD, D.toP] at e; cases e
    | dct _ _ => rw [Ct.toD, D.toP] at e; cases e
    | dcg _ _ => rw [Ct.toD, D.toP] at e; cases e
end
/-! ### arithmetic -/
def okMul (i j : Int) : Prop := ((-(2 ^ 64) < i ∧ i < 2 ^ 64) ∨ (-(2 ^ 64) < j ∧ j < 2 ^ 64)) ∨ i.natAbs.log2 + j.natAbs.log2 < 1000000
instance : ∀ i j, Decidable (okMul i j) := fun i j => inferInstanceAs (Decidable (_ ∨ _))
def okDiv (j : Int) : Prop := 0 < j ∧ j.natAbs.log2 < 9000
instance : ∀ j, Decidable (okDiv j) := fun j => inferInstanceAs (Decidable (_ ∧ _))
def addD (x y : D) : Po := match x, y with
  | .int i, .int j => .val (.int (i + j))
  | .str a, .str b => if a.length + b.length ≤ sizeLine then .val (.str (a ++ b)) else .stuck
  | .lst xs, .lst ys => if xs.length + ys.length ≤ sizeLine then .fresh (.lst (xs ++ ys)) else .stuck
  | .tup xs, .tup ys => if xs.length + ys.length ≤ sizeLine then .val (.tup (xs ++ ys)) else .stuck
  | _, _ => .stuck
def subD (x y : D) : Po := match x, y with
  | .int i, .int j => .val (.int (i - j))
  | _, _ => .stuck
def mulD (x y : D) : Po := match x, y with
  | .int i, .int j => if okMul i j then .val (.int (i * j)) else .stuck
  | _, _ => .stuck
def fdivD (x y : D) : Po := match x, y with
  | .int i, .int j => if okDiv j then .val (.int (i / j)) else .stuck
  | _, _ => .stuck
def modD (x y : D) : Po := match x, y with
  | .int i, .int j => if 0 < j then .val (.int (i % j)) else .stuck
  | _, _ => .stuck
def okPow (i j : Int) : Prop := 0 ≤ j ∧ j ≤ 1000000 ∧ i.natAbs < 2 ^ 64
instance : ∀ i j, Decidable (okPow i j) := fun i j => inferInstanceAs (Decidable (_ ∧ _ ∧ _))
def powD (x y : D) : Po := match x, y with
  | .int i, .int j => if okPow i j then .val (.int (i ^ j.toNat)) else .stuck
  | _, _ => .stuck
def negD (x : D) : Po := match x with
  | .int i => .val (.int (-i))
  | _ => .stuck
section
variable {X : Cx} {ca : Ca}
theorem ov_sub : OpV ca X (binaryOp .Sub) subD := OpV.of op_sub fun N H x y dx dy Q kx nd hx hy q => by
  cases dx <;> try exact q.elim
  cases dy <;> try exact q.elim
  exact ⟨_, _, vr_int hx, vr_int hy, q _ H (fun _ _ e => e) (.int _)⟩
theorem ov_mul : OpV ca X (binaryOp .Mult) mulD := OpV.of (OpR.or op_mul op_mulW) fun N H x y dx dy Q kx nd hx hy q => by
  cases dx <;> try exact q.elim
  cases dy <;> try exact q.elim
  rename_i i j
  have q' : POK X.K ca N H Q kx (if okMul i j then .val (.int (i * j)) else .stuck) := q
  by_cases c : okMul i j
  · rw [if_pos c] at q'
    exact c.imp (fun c => ⟨_, _, vr_int hx, vr_int hy, c, q' _ H (fun _ _ e => e) (.int _)⟩) fun c => ⟨_, _, vr_int hx, vr_int hy, c, q' _ H (fun _ _ e => e) (.int _)⟩
  · rw [if_neg c] at q'
    exact q'.elim
theorem ov_fdiv : OpV ca X (binaryOp .FloorDiv) fdivD := OpV.of op_fdivW fun N H x y dx dy Q kx nd hx hy q => by
  cases dx <;> try exact q.elim
  cases dy <;> try exact q.elim
  rename_i i j
  have q' : POK X.K ca N H Q kx (if okDiv j then .val (.int (i / j)) else .stuck) := q
  by_cases c : okDiv j
  · rw [if_pos c] at q'
    exact ⟨_, _, vr_int hx, vr_int hy, c, q' _ H (fun _ _ e => e) (.int _)⟩
  · rw [if_neg c] at q'
    exact q'.elim
theorem ov_mod : OpV ca X (binaryOp .Mod) modD := OpV.of op_mod fun N H x y dx dy Q kx nd hx hy q => by
  cases dx <;> try exact q.elim
  cases dy <;> try exact q.elim
  rename_i i j
  have q' : POK X.K ca N H Q kx (if 0 < j then .val (.int (i % j)) else .stuck) := q
  by_cases c : 0 < j
  · rw [if_pos c] at q'
    exact ⟨_, _, vr_int hx, vr_int hy, c, q' _ H (fun _ _ e => e) (.int _)⟩
  · rw [if_neg c] at q'
    exact q'.elim
theorem ov_pow : OpV ca X (binaryOp .Pow) powD := OpV.of op_pow fun N H x y dx dy Q kx nd hx hy q => by
  cases dx <;> try exact q.elim
  cases dy <;> try exact q.elim
  rename_i i j
  have q' : POK X.K ca N H Q kx (if okPow i j then .val (.int (i ^ j.toNat)) else .stuck) := q
  by_cases c : okPow i j
  · rw [if_pos c] at q'
    exact ⟨_, _, vr_int hx, vr_int hy, c, q' _ H (fun _ _ e => e) (.int _)⟩
  · rw [if_neg c] at q'
    exact q'.elim
theorem ov_neg : UnV ca X (unaryOp .USub) negD := UnV.of un_neg fun N H x dx Q kx nd hx q => by
  cases dx <;> try exact q.elim
  exact ⟨_, vr_int hx, q _ H (fun _ _ e => e) (.int _)⟩
theorem upd_lst {K : PySem.W.Frag} {N : Addr → Prop} {H : Hp} {vs : List V} {ds : List D} {p : Addr} (n : H p = none) (r : Reps K ca N H vs ds) (nd : NDom N H) : CRep K ca (fun a => N a ∨ a = p) (upd H p (.lst vs)) p (.lst ds) :=
  .lst upd_same (r.sub fun a o e _ na => ⟨(fun z => z.elim na fun z => ne_of_none e n z), Ext.new n a o e⟩)
theorem upd_tup {K : PySem.W.Frag} {N : Addr → Prop} {H : Hp} {vs : List V} {ds : List D} {p : Addr} (n : H p = none) (r : Reps K ca N H vs ds) (nd : NDom N H) : Rep K ca N (upd H p (.tup vs)) (.ref p) (.tup ds) :=
  .tup (.inl ⟨fun z => nd p z n, .inl upd_same⟩) (r.sub (Ext.new n).sub)
theorem ov_add : OpV ca X (binaryOp .Add) addD := OpV.of (OpR.or op_add (OpR.or op_add_str (OpR.or op_cat op_catA))) fun N H x y dx dy Q kx nd hx hy q => by
  cases dx <;> try exact q.elim
  · cases dy <;> try exact q.elim
    exact .inl ⟨_, _, vr_int hx, vr_int hy, q _ H (fun _ _ e => e) (.int _)⟩
  · cases dy <;> try exact q.elim
    rename_i a b
    have q' : POK X.K ca N H Q kx (if a.length + b.length ≤ sizeLine then .val (.str (a ++ b)) else .stuck) := q
    by_cases c : a.length + b.length ≤ sizeLine
    · rw [if_pos c] at q'
      exact .inr (.inl ⟨_, _, vr_str hx, vr_str hy, c, q' _ H (fun _ _ e => e) (.str _)⟩)
    · rw [if_neg c] at q'
      exact q'.elim
  · cases dy <;> try exact q.elim
    rename_i a b
    have q' : POK X.K ca N H Q kx (if a.length + b.length ≤ sizeLine then .val (.tup (a ++ b)) else .stuck) := q
    by_cases c : a.length + b.length ≤ sizeLine
    · rw [if_pos c] at q'
      obtain ⟨p1, vs, rfl, h1, r1⟩ := vr_tup hx
      obtain ⟨p2, ws, rfl, h2, r2⟩ := vr_tup hy
      refine .inr (.inr (.inr ⟨p1, p2, vs, ws, rfl, rfl, h1.sq, h2.sq, by rw [r1.len, r2.len]; exact c, fun e => ?_, fun ne e => ?_, fun ne ne2 p hp => ?_⟩))
      · subst e
        cases r1
        exact q' _ H (fun _ _ e => e) (.tup h2 r2)
      · subst e
        cases r2
        rw [List.append_nil] at q'
        exact q' _ H (fun _ _ e => e) (.tup h1 r1)
      · exact q' _ _ (Ext.new hp) (upd_tup hp (r1.app r2) nd)
    · rw [if_neg c] at q'
      exact q'.elim
  · cases dy <;> try exact q.elim
    rename_i a b
    have q' : POK X.K ca N H Q kx (if a.length + b.length ≤ sizeLine then .fresh (.lst (a ++ b)) else .stuck) := q
    by_cases c : a.length + b.length ≤ sizeLine
    · rw [if_pos c] at q'
      obtain ⟨p1, vs, rfl, h1, r1⟩ := vr_lst hx
      obtain ⟨p2, ws, rfl, h2, r2⟩ := vr_lst hy
      exact .inr (.inr (.inl ⟨p1, p2, vs, ws, rfl, rfl, h1, h2, by rw [r1.len, r2.len]; exact c, fun p hp => q' p _ (Ext.new hp) hp (upd_lst hp (r1.app r2) nd)⟩))
    · rw [if_neg c] at q'
      exact q'.elim
end
/-! ### comparisons -/
def eqOk (p q : PyData) : Bool := SeqAt.shaped p && SeqAt.shaped q
def eqD (x y : D) : Po := match x.toP, y.toP with
  | some p, some q => if eqOk p q = true then .val (.bl (PyData.eqv p q)) else .stuck
  | _, _ => .stuck
def neD (x y : D) : Po := match x.toP, y.toP with
  | some p, some q => if eqOk p q = true then .val (.bl (!PyData.eqv p q)) else .stuck
  | _, _ => .stuck
def ltD (x y : D) : Po := match x, y with
  | .int i, .int j => .val (.bl (decide (i < j)))
  | _, _ => .stuck
def leD (x y : D) : Po := match x, y with
  | .int i, .int j => .val (.bl (decide (i ≤ j)))
  | _, _ => .stuck
def gtD (x y : D) : Po := match x, y with
  | .int i, .int j => .val (.bl (decide (j < i)))
  | _, _ => .stuck
def geD (x y : D) : Po := match x, y with
  | .int i, .int j => .val (.bl (decide (j ≤ i)))
  | _, _ => .stuck
def isNonD : D → Bool
  | .non => true
  | _ => false
def isND (x y : D) : Po := match y with
  | .non => .val (.bl (isNonD x))
  | _ => .stuck
def notND (x y : D) : Po := match y with
  | .non => .val (.bl (!isNonD x))
  | _ => .stuck
def flatD : D → Bool
  | .non => true
  | .bl _ => true
  | .int _ => true
  | .str _ => true
  | _ => false
def eqF : D → D → Bool
  | .non, .non => true
  | .bl a, .bl b => a == b
  | .bl a, .int b => (if a then 1 else 0) == b
  | .int a, .bl b => a == (if b then 1 else 0)
  | .int a, .int b => a == b
  | .str a, .str b => a == b
  | _, _ => false
/-- x in y -/
def inB (x y : D) : Option Bool := match y with
  | .str t => match x with
    | .str s => some (!(Builtin.Str.occurrences t s 0 t.length 1).isEmpty)
    | _ => none
  | .tup ds => if flatD x && ds.all flatD then some (ds.any fun z => eqF z x) else none
  | .lst ds => if flatD x && ds.all flatD then some (ds.any fun z => eqF z x) else match x.toP, toPs ds with
    | some p, some ps => if eqOk p (.list ps) then some (ps.any fun z => PyData.eqv z p) else none
    | _, _ => none
  | _ => none
def inD (x y : D) : Po := match inB x y with
  | some b => .val (.bl b)
  | none => .stuck
def notInD (x y : D) : Po := match inB x y with
  | some b => .val (.bl (!b))
  | none => .stuck
section
variable {X : Cx} {ca : Ca}
theorem ov_eq (hu : X.A.units + 64 < cLine) : OpV ca X (compareOp .Eq) eqD := OpV.of (op_eqD hu) fun N H x y dx dy Q kx nd hx hy q => by
  unfold eqD at q
  cases h1 : dx.toP with
  | none => rw [h1] at q; exact q.elim
  | some p1 =>
    cases h2 : dy.toP with
    | none => rw [h1, h2] at q; exact q.elim
    | some p2 =>
      rw [h1, h2] at q
      dsimp only at q
      by_cases c : eqOk p1 p2 = true
      · rw [if_pos c] at q
        have c' := (Bool.and_eq_true_iff.mp c)
        exact ⟨p1, p2, hx.dp h1, hy.dp h2, c'.1, c'.2, q _ H (fun _ _ e => e) (.bl _)⟩
      · rw [if_neg c] at q; exact q.elim
theorem ov_ne (hu : X.A.units + 64 < cLine) : OpV ca X (compareOp .NotEq) neD := OpV.of (op_neD hu) fun N H x y dx dy Q kx nd hx hy q => by
  unfold neD at q
  cases h1 : dx.toP with
  | none => rw [h1] at q; exact q.elim
  | some p1 =>
    cases h2 : dy.toP with
    | none => rw [h1, h2] at q; exact q.elim
    | some p2 =>
      rw [h1, h2] at q
      dsimp only at q
      by_cases c : eqOk p1 p2 = true
      · rw [if_pos c] at q
        have c' := (Bool.and_eq_true_iff.mp c)
        exact ⟨p1, p2, hx.dp h1, hy.dp h2, c'.1, c'.2, q _ H (fun _ _ e => e) (.bl _)⟩
      · rw [if_neg c] at q; exact q.elim
theorem ov_lt : OpV ca X (compareOp .Lt) ltD := OpV.of op_lt fun N H x y dx dy Q kx nd hx hy q => by
  cases dx <;> try exact q.elim
  cases dy <;> try exact q.elim
  exact ⟨_, _, vr_int hx, vr_int hy, q _ H (fun _ _ e => e) (.bl _)⟩
theorem ov_le : OpV ca X (compareOp .LtE) leD := OpV.of op_le fun N H x y dx dy Q kx nd hx hy q => by
  cases dx <;> try exact q.elim
  cases dy <;> try exact q.elim
  exact ⟨_, _, vr_int hx, vr_int hy, q _ H (fun _ _ e => e) (.bl _)⟩
theorem ov_gt : OpV ca X (compareOp .Gt) gtD := OpV.of op_gt fun N H x y dx dy Q kx nd hx hy q => by
  cases dx <;> try exact q.elim
  cases dy <;> try exact q.elim
  exact ⟨_, _, vr_int hx, vr_int hy, q _ H (fun _ _ e => e) (.bl _)⟩
theorem ov_ge : OpV ca X (compareOp .GtE) geD := OpV.of op_ge fun N H x y dx dy Q kx nd hx hy q => by
  cases dx <;> try exact q.elim
  cases dy <;> try exact q.elim
  exact ⟨_, _, vr_int hx, vr_int hy, q _ H (fun _ _ e => e) (.bl _)⟩
theorem vr_isn {K : PySem.W.Frag} {N : Addr → Prop} {H : Hp} {v : V} {d : D} (h : VRep K ca N H v d) : decide (v = .non) = isNonD d := by
  cases d with
  | non => rw [vr_non h]; rfl
  | bl b => rw [vr_bl h]; rfl
  | int i => rw [vr_int h]; rfl
  | str i => rw [vr_str h]; rfl
  | ty i => rw [vr_ty h]; rfl
  | tup ds => obtain ⟨a, _, rfl, _⟩ := vr_tup h; rfl
  | lst ds => obtain ⟨a, _, rfl, _⟩ := vr_lst h; rfl
  | obj c fs => obtain ⟨a, _, _, _, rfl, _⟩ := vr_obj h; rfl
  | dct ds => obtain ⟨a, rfl, _⟩ := vr_dct h; rfl
  | scr ds => obtain ⟨a, rfl, _⟩ := vr_scr h; rfl
  | cls ds => obtain ⟨a, rfl, _⟩ := vr_cls h; rfl
theorem ov_is : OpV ca X (compareOp .Is) isND := OpV.of op_isN fun N H x y dx dy Q kx nd hx hy q => by
  cases dy <;> try exact q.elim
  refine ⟨vr_non hy, ?_⟩
  rw [vr_isn hx]
  exact q _ H (fun _ _ e => e) (.bl _)
theorem ov_isnot : OpV ca X (compareOp .IsNot) notND := OpV.of op_notN fun N H x y dx dy Q kx nd hx hy q => by
  cases dy <;> try exact q.elim
  refine ⟨vr_non hy, ?_⟩
  rw [vr_isn hx]
  exact q _ H (fun _ _ e => e) (.bl _)
theorem flat_rep {K : PySem.W.Frag} {N : Addr → Prop} {H : Hp} {v : V} {d : D} (h : Rep K ca N H v d) (f : flatD d = true) : flatV v = true := by
  cases h <;> first | rfl | cases f
theorem flat_reps {K : PySem.W.Frag} {N : Addr → Prop} {H : Hp} : ∀ {v : List V} {d : List D}, Reps K ca N H v d → d.all flatD = true → v.all flatV = true
  | _, _, .nil, _ => rfl
  | _, _, .cons r t, f => by
    rw [List.all_cons, Bool.and_eq_true] at f ⊢
    exact ⟨flat_rep r f.1, flat_reps t f.2⟩
theorem eqF_rep {K : PySem.W.Frag} {N : Addr → Prop} {H : Hp} {v w : V} {d e : D} (h : Rep K ca N H v d) (h' : Rep K ca N H w e) (f : flatD d = true) (f' : flatD e = true) : eqV v w = eqF d e := by
  cases h with
  | non => cases h' <;> first | rfl | (exact absurd f' Bool.false_ne_true)
  | bl b => cases h' <;> first | rfl | (exact absurd f' Bool.false_ne_true)
  | int b => cases h' <;> first | rfl | (exact absurd f' Bool.false_ne_true)
  | str b => cases h' <;> first | rfl | (exact absurd f' Bool.false_ne_true)
  | _ => exact absurd f Bool.false_ne_true
theorem any_rep {K : PySem.W.Frag} {N : Addr → Prop} {H : Hp} {w : V} {e : D} (h' : Rep K ca N H w e) (f' : flatD e = true) : ∀ {v : List V} {d : List D}, Reps K ca N H v d → d.all flatD = true → inV w v = d.any fun z => eqF z e
  | _, _, .nil, _ => rfl
  | _, _, .cons r t, f => by
    rw [List.all_cons, Bool.and_eq_true] at f
    have ih := any_rep h' f' t f.2
    unfold inV at ih ⊢
    rw [List.any_cons, List.any_cons, ih, eqF_rep r h' f.1 f']
theorem vrep_flat {K : PySem.W.Frag} {N : Addr → Prop} {H : Hp} {w : V} {e : D} (h : VRep K ca N H w e) (f : flatD e = true) : Rep K ca N H w e := by
  cases h with
  | of r => exact r
  | @ct p c _ r e' => subst e'; cases c <;> cases f
/-- what x in y asks -/
def rInAll (K : PySem.W.Frag) (neg : Bool) : R2 := fun x y H Q => (∃ i j, x = .str i ∧ y = .str j ∧ Q (.bl (if neg then !(!(Builtin.Str.occurrences j i 0 j.length 1).isEmpty) else !(Builtin.Str.occurrences j i 0 j.length 1).isEmpty)) H) ∨ rIn K neg x y H Q ∨
  (∃ d ds, Dp K H x d ∧ Dp K H y (.list ds) ∧ SeqAt.shaped d = true ∧ SeqAt.shaped (.list ds) = true ∧ Q (.bl (if neg then !(ds.any fun z => PyData.eqv z d) else ds.any fun z => PyData.eqv z d)) H)
theorem in_ok {K : PySem.W.Frag} {N : Addr → Prop} {H : Hp} {x y : V} {dx dy : D} {Q : VK} {neg b : Bool} (hx : VRep K ca N H x dx) (hy : VRep K ca N H y dy) (e : inB dx dy = some b) (q : Q (.bl (if neg then !b else b)) H) : rInAll K neg x y H Q := by
  unfold inB at e
  cases dy <;> try cases e
  · rename_i t
    cases dx <;> try cases e
    exact .inl ⟨_, _, vr_str hx, vr_str hy, q⟩
  · rename_i ds
    dsimp only at e
    by_cases c : (flatD dx && ds.all flatD) = true
    · rw [if_pos c] at e
      cases e
      have c' := Bool.and_eq_true_iff.mp c
      obtain ⟨a, vs, rfl, h, r⟩ := vr_tup hy
      refine .inr (.inl ⟨a, vs, rfl, .inr h.sq, flat_rep (vrep_flat hx c'.1) c'.1, flat_reps r c'.2, ?_⟩)
      rw [any_rep (vrep_flat hx c'.1) c'.1 r c'.2]
      exact q
    · rw [if_neg c] at e; cases e
  · rename_i ds
    dsimp only at e
    by_cases c : (flatD dx && ds.all flatD) = true
    · rw [if_pos c] at e
      cases e
      have c' := Bool.and_eq_true_iff.mp c
      obtain ⟨a, vs, rfl, h, r⟩ := vr_lst hy
      refine .inr (.inl ⟨a, vs, rfl, .inl (.inl (.inl h)), flat_rep (vrep_flat hx c'.1) c'.1, flat_reps r c'.2, ?_⟩)
      rw [any_rep (vrep_flat hx c'.1) c'.1 r c'.2]
      exact q
    · rw [if_neg c] at e
      cases h1 : dx.toP with
      | none => rw [h1] at e; cases e
      | some p =>
        cases h2 : toPs ds with
        | none => rw [h1, h2] at e; cases e
        | some ps =>
          rw [h1, h2] at e
          dsimp only at e
          by_cases c2 : eqOk p (.list ps) = true
          · rw [if_pos c2] at e
            cases e
            have c' := Bool.and_eq_true_iff.mp c2
            exact .inr (.inr ⟨p, ps, hx.dp h1, hy.dp (by rw [D.toP, h2]; rfl), c'.1, c'.2, q⟩)
          · rw [if_neg c2] at e; cases e
theorem op_inAll (hu : X.A.units + 65 < cLine) : OpR X (compareOp .In) (rInAll X.K false) := by
  refine OpR.or ?_ (OpR.or op_in_seq (op_inD hu))
  exact op_in_str
theorem op_notInAll (hu : X.A.units + 65 < cLine) : OpR X (compareOp .NotIn) (rInAll X.K true) := by
  refine OpR.or ?_ (OpR.or op_notIn_seq (op_notInD hu))
  exact op_notIn_str
theorem ov_in (hu : X.A.units + 65 < cLine) : OpV ca X (compareOp .In) inD := OpV.of (op_inAll hu) fun N H x y dx dy Q kx nd hx hy q => by
  unfold inD at q
  cases e : inB dx dy with
  | none => rw [e] at q; exact q.elim
  | some b => rw [e] at q; exact in_ok hx hy e (q _ H (fun _ _ e => e) (.bl _))
theorem ov_notIn (hu : X.A.units + 65 < cLine) : OpV ca X (compareOp .NotIn) notInD := OpV.of (op_notInAll hu) fun N H x y dx dy Q kx nd hx hy q => by
  unfold notInD at q
  cases e : inB dx dy with
  | none => rw [e] at q; exact q.elim
  | some b => rw [e] at q; exact in_ok hx hy e (q _ H (fun _ _ e => e) (.bl _))
end
end Pw

set_option maxHeartbeats 4000000
/-! PyA: tuples of numbers, texts and tuples as keys of dicts. -/
namespace Pw
open PySem PySem.Spec PyProof.Rows L2

/-! ### keys as data -/
theorem hashDs_map (hs : Str → Int) : ∀ ds : List D, hashDs hs ds = ds.map (hashD hs)
  | [] => by rw [hashDs]; rfl
  | d :: ds => by rw [hashDs, hashDs_map hs ds]; rfl
theorem all_mem {p : D → Bool} {ds : List D} (h : ds.all p = true) : ∀ d ∈ ds, p d = true := List.all_eq_true.mp h
theorem okK_cases {n : Nat} {d : D} (h : okK n d = true) : (∃ i, d = .int i) ∨ (∃ s, d = .str s ∧ PyData.strOk s = true) ∨ ∃ m ds, n = m + 1 ∧ d = .tup ds ∧ ∀ e ∈ ds, okK m e = true := by
  cases d with
  | int i => exact .inl ⟨i, rfl⟩
  | str s => cases n <;> exact .inr (.inl ⟨s, rfl, h⟩)
  | tup ds => cases n with
    | zero => cases h
    | succ m => exact .inr (.inr ⟨m, ds, rfl, rfl, all_mem h⟩)
  | _ => cases n <;> cases h
theorem toPs_some : ∀ {ds : List D}, (∀ e ∈ ds, ∃ p, e.toP = some p) → ∃ ps, toPs ds = some ps
  | [], _ => ⟨[], by rw [toPs]⟩
  | d :: ds, h => by
    obtain ⟨p, hp⟩ := h d (by simp)
    obtain ⟨ps, hps⟩ := toPs_some (ds := ds) fun e he => h e (by simp [he])
    exact ⟨p :: ps, by rw [toPs, hp, hps]⟩
theorem okK_toP : ∀ {n : Nat} {d : D}, okK n d = true → ∃ p, d.toP = some p
  | n, d, h => by
    rcases okK_cases h with ⟨i, rfl⟩ | ⟨s, rfl, _⟩ | ⟨m, ds, rfl, rfl, ha⟩
    · exact ⟨_, by rw [D.toP]⟩
    · exact ⟨_, by rw [D.toP]⟩
    · obtain ⟨ps, hps⟩ := toPs_some fun e he => okK_toP (n := m) (ha e he)
      exact ⟨_, by rw [D.toP, hps]; rfl⟩
theorem toP_tup {ds : List D} {p : PyData} (h : (D.tup ds).toP = some p) : ∃ ps, toPs ds = some ps ∧ p = .tuple ps := by
  rw [D.toP] at h
  cases q : toPs ds with
  | none => rw [q] at h; cases h
  | some ps => rw [q] at h; cases h; exact ⟨ps, rfl, rfl⟩
/-- the keys' order of depth, and that they can be laid -/
theorem lay_ds {n : Nat} (ih : ∀ {d : D} {p : PyData}, okK n d = true → d.toP = some p → p.canLay0 = true ∧ p.depth ≤ n) : ∀ {ds : List D} {ps : List PyData}, (∀ e ∈ ds, okK n e = true) → toPs ds = some ps → PyData.canLayAll0 ps = true ∧ PyData.depthAll ps ≤ n
  | [], ps, _, h => by rw [toPs] at h; cases h; exact ⟨by simp [PyData.canLayAll0], by simp [PyData.depthAll]⟩
  | d :: ds, ps, ha, h => by
    obtain ⟨p, r, h1, h2, rfl⟩ := toPs_cons h
    obtain ⟨a1, a2⟩ := ih (ha d (by simp)) h1
    obtain ⟨b1, b2⟩ := lay_ds ih (ds := ds) (fun e he => ha e (by simp [he])) h2
    exact ⟨by simp [PyData.canLayAll0, a1, b1], by simp only [PyData.depthAll]; omega⟩
theorem okK_lay : ∀ {n : Nat} {d : D} {p : PyData}, okK n d = true → d.toP = some p → p.canLay0 = true ∧ p.depth ≤ n
  | n, d, p, h, e => by
    rcases okK_cases h with ⟨i, rfl⟩ | ⟨s, rfl, hs⟩ | ⟨m, ds, rfl, rfl, ha⟩
    · rw [D.toP] at e; cases e; exact ⟨by simp [PyData.canLay0], by simp [PyData.depth]⟩
    · rw [D.toP] at e; cases e; exact ⟨by simpa [PyData.canLay0] using hs, by simp [PyData.depth]⟩
    · obtain ⟨ps, hps, rfl⟩ := toP_tup e
      obtain ⟨a1, a2⟩ := lay_ds (fun {d p} => okK_lay (n := m)) ha hps
      exact ⟨by simpa [PyData.canLay0] using a1, by simp only [PyData.depth]; omega⟩
/-- equal by value are equal -/
theorem eqv_ds {n : Nat} (ih : ∀ {d e : D} {p q : PyData}, okK n d = true → okK n e = true → d.toP = some p → e.toP = some q → PyData.eqv p q = decide (d = e)) :
    ∀ {ds es : List D} {ps qs : List PyData}, (∀ e ∈ ds, okK n e = true) → (∀ e ∈ es, okK n e = true) → toPs ds = some ps → toPs es = some qs → PyData.eqvAll ps qs = decide (ds = es)
  | [], [], _, _, _, _, h1, h2 => by rw [toPs] at h1 h2; cases h1; cases h2; simp [PyData.eqvAll]
  | [], e :: es, _, _, _, _, h1, h2 => by
    rw [toPs] at h1; cases h1
    obtain ⟨q, r, _, _, rfl⟩ := toPs_cons h2
    simp [PyData.eqvAll]
  | d :: ds, [], _, _, _, _, h1, h2 => by
    rw [toPs] at h2; cases h2
    obtain ⟨q, r, _, _, rfl⟩ := toPs_cons h1
    simp [PyData.eqvAll]
  | d :: ds, e :: es, _, _, ha, hb, h1, h2 => by
    obtain ⟨p, r, p1, p2, rfl⟩ := toPs_cons h1
    obtain ⟨q, t, q1, q2, rfl⟩ := toPs_cons h2
    have a := ih (ha d (by simp)) (hb e (by simp)) p1 q1
    have b := eqv_ds ih (fun x hx => ha x (by simp [hx])) (fun x hx => hb x (by simp [hx])) p2 q2
    simp [PyData.eqvAll, a, b]
theorem okK_mono : ∀ {n : Nat} {d : D}, okK n d = true → okK (n + 1) d = true
  | n, d, h => by
    rcases okK_cases h with ⟨i, rfl⟩ | ⟨s, rfl, hs⟩ | ⟨m, ds, rfl, rfl, ha⟩
    · rfl
    · exact hs
    · show ds.all (okK (m + 1)) = true
      exact List.all_eq_true.mpr fun e he => okK_mono (ha e he)
theorem okK_eqv : ∀ {n : Nat} {d e : D} {p q : PyData}, okK n d = true → okK n e = true → d.toP = some p → e.toP = some q → PyData.eqv p q = decide (d = e)
  | n, d, e, p, q, hd, he, h1, h2 => by
    rcases okK_cases hd with ⟨i, rfl⟩ | ⟨s, rfl, hs⟩ | ⟨m, ds, rfl, rfl, ha⟩
    · rw [D.toP] at h1; cases h1
      rcases okK_cases he with ⟨j, rfl⟩ | ⟨t, rfl, ht⟩ | ⟨m2, es, e2, rfl, hb⟩
      · rw [D.toP] at h2; cases h2
        simp only [PyData.eqv, D.int.injEq]
        by_cases c : i = j
        · subst c; simp
        · simp [c]
      · rw [D.toP] at h2; cases h2; simp [PyData.eqv]
      · obtain ⟨ps, _, rfl⟩ := toP_tup h2; simp [PyData.eqv]
    · rw [D.toP] at h1; cases h1
      rcases okK_cases he with ⟨j, rfl⟩ | ⟨t, rfl, ht⟩ | ⟨m2, es, e2, rfl, hb⟩
      · rw [D.toP] at h2; cases h2; simp [PyData.eqv]
      · rw [D.toP] at h2; cases h2
        simp only [PyData.eqv, D.str.injEq]
        by_cases c : s = t
        · subst c; simp
        · simp [c]
      · obtain ⟨ps, _, rfl⟩ := toP_tup h2; simp [PyData.eqv]
    · obtain ⟨ps, hps, rfl⟩ := toP_tup h1
      rcases okK_cases he with ⟨j, rfl⟩ | ⟨t, rfl, ht⟩ | ⟨m2, es, e2, rfl, hb⟩
      · rw [D.toP] at h2; cases h2; simp [PyData.eqv]
      · rw [D.toP] at h2; cases h2; simp [PyData.eqv]
      · obtain ⟨qs, hqs, rfl⟩ := toP_tup h2
        cases e2
        have := eqv_ds (fun {d e p q} => okK_eqv (n := m)) ha hb hps hqs
        simp only [PyData.eqv, this, D.tup.injEq]
/-! ### keys in the heap -/
def NestK (h : Heap) (k : D) (a : Addr) : Prop := okK 6 k = true ∧ (∃ ds, k = .tup ds) ∧ ∃ p as, k.toP = some p ∧ Reads h (.ref a) p as
mutual
theorem reads_keep {h h' : Heap} {d : Addr} {o : Obj} {es : Array DictEntry} {ep : Nat} (ho : h.get? d = some o) (hd : o.data = .dict es ep) (hs : Heap.SameBut d h h') : ∀ {v : Value} {p : PyData} {as : List Addr}, Reads h v p as → (∀ kvs, p ≠ .dict kvs) → p.canLay0 = true → Reads h' v p as
  | _, _, _, .none, _, _ => .none
  | _, _, _, .bool b, _, _ => .bool b
  | _, _, _, .int i t, _, _ => .int i t
  | _, _, _, .str x t, _, _ => .str x t
  | _, _, _, .list h1 h2 h3 r, _, hl => .list ((hs.2 _ fun z => by subst z; rw [ho] at h1; cases h1; rw [hd] at h3; cases h3).trans h1) h2 h3 (readsAll_keep ho hd hs r (by simpa [PyData.canLay0] using hl))
  | _, _, _, .tuple h1 h2 h3 r, _, hl => .tuple ((hs.2 _ fun z => by subst z; rw [ho] at h1; cases h1; rw [hd] at h3; cases h3).trans h1) h2 h3 (readsAll_keep ho hd hs r (by simpa [PyData.canLay0] using hl))
  | _, _, _, .dict _ _ _ _ _, n, _ => (n _ rfl).elim
theorem readsAll_keep {h h' : Heap} {d : Addr} {o : Obj} {es : Array DictEntry} {ep : Nat} (ho : h.get? d = some o) (hd : o.data = .dict es ep) (hs : Heap.SameBut d h h') : ∀ {v : List Value} {p : List PyData} {as : List Addr}, ReadsAll h v p as → PyData.canLayAll0 p = true → ReadsAll h' v p as
  | _, _, _, .nil, _ => .nil
  | _, _, _, .cons (d := q) r t, hl => by
    rw [PyData.canLayAll0, Bool.and_eq_true] at hl
    exact .cons (reads_keep ho hd hs r (fun kvs z => by subst z; simp [PyData.canLay0] at hl) hl.1) (readsAll_keep ho hd hs t hl.2)
end
theorem NestK.keeps {h h' : Heap} {k : D} {a d : Addr} {o : Obj} {es : Array DictEntry} {ep : Nat} (x : NestK h k a) (ho : h.get? d = some o) (hd : o.data = .dict es ep) (hs : Heap.SameBut d h h') : NestK h' k a := by
  obtain ⟨ok, ⟨ds, rfl⟩, p, as, e, r⟩ := x
  obtain ⟨ps, _, rfl⟩ := toP_tup e
  exact ⟨ok, ⟨ds, rfl⟩, _, as, e, reads_keep ho hd hs r (fun kvs z => by cases z) (okK_lay ok e).1⟩
/-- what stands at a value is one key -/
theorem inj_ds {h : Heap} {n : Nat} (ih : ∀ {d e : D} {p q : PyData} {v : Value} {as bs : List Addr}, okK n d = true → okK n e = true → d.toP = some p → e.toP = some q → Reads h v p as → Reads h v q bs → d = e) :
    ∀ {ds es : List D} {ps qs : List PyData} {vs : List Value} {as bs : List Addr}, (∀ e ∈ ds, okK n e = true) → (∀ e ∈ es, okK n e = true) → toPs ds = some ps → toPs es = some qs → ReadsAll h vs ps as → ReadsAll h vs qs bs → ds = es
  | [], [], _, _, _, _, _, _, _, _, _, _, _ => rfl
  | [], e :: es, _, _, _, _, _, _, _, h1, h2, r1, r2 => by
    rw [toPs] at h1; cases h1
    obtain ⟨q, r, _, _, rfl⟩ := toPs_cons h2
    cases r1; cases r2
  | d :: ds, [], _, _, _, _, _, _, _, h1, h2, r1, r2 => by
    rw [toPs] at h2; cases h2
    obtain ⟨q, r, _, _, rfl⟩ := toPs_cons h1
    cases r2; cases r1
  | d :: ds, e :: es, _, _, _, _, _, ha, hb, h1, h2, r1, r2 => by
    obtain ⟨p, r, p1, p2, rfl⟩ := toPs_cons h1
    obtain ⟨q, t, q1, q2, rfl⟩ := toPs_cons h2
    cases r1 with
    | cons a1 b1 => cases r2 with
      | cons a2 b2 =>
        rw [ih (ha d (by simp)) (hb e (by simp)) p1 q1 a1 a2, inj_ds ih (fun x hx => ha x (by simp [hx])) (fun x hx => hb x (by simp [hx])) p2 q2 b1 b2]
theorem okK_inj {h : Heap} : ∀ {n : Nat} {d e : D} {p q : PyData} {v : Value} {as bs : List Addr}, okK n d = true → okK n e = true → d.toP = some p → e.toP = some q → Reads h v p as → Reads h v q bs → d = e
  | n, d, e, p, q, v, as, bs, hd, he, h1, h2, r1, r2 => by
    rcases okK_cases hd with ⟨i, rfl⟩ | ⟨s, rfl, hs⟩ | ⟨m, ds, rfl, rfl, ha⟩
    · rw [D.toP] at h1; cases h1
      cases r1
      rcases okK_cases he with ⟨j, rfl⟩ | ⟨t, rfl, ht⟩ | ⟨m2, es, e2, rfl, hb⟩
      · rw [D.toP] at h2; cases h2; cases r2; rfl
      · rw [D.toP] at h2; cases h2; cases r2
      · obtain ⟨ps, _, rfl⟩ := toP_tup h2; cases r2
    · rw [D.toP] at h1; cases h1
      cases r1
      rcases okK_cases he with ⟨j, rfl⟩ | ⟨t, rfl, ht⟩ | ⟨m2, es, e2, rfl, hb⟩
      · rw [D.toP] at h2; cases h2; cases r2
      · rw [D.toP] at h2; cases h2; cases r2; rfl
      · obtain ⟨ps, _, rfl⟩ := toP_tup h2; cases r2
    · obtain ⟨ps, hps, rfl⟩ := toP_tup h1
      rcases okK_cases he with ⟨j, rfl⟩ | ⟨t, rfl, ht⟩ | ⟨m2, es, e2, rfl, hb⟩
      · rw [D.toP] at h2; cases h2; cases r2; cases r1
      · rw [D.toP] at h2; cases h2; cases r2; cases r1
      · obtain ⟨qs, hqs, rfl⟩ := toP_tup h2
        cases e2
        cases r1 with
        | tuple a1 a2 a3 a4 => cases r2 with
          | tuple b1 b2 b3 b4 =>
            rw [a1] at b1; cases b1
            rw [a3] at b3; cases b3
            rw [inj_ds (fun {d e p q v as bs} => okK_inj (n := m)) ha hb hps hqs a4 b4]
theorem NestK.inj {h : Heap} {a : Addr} {x y : D} (hx : NestK h x a) (hy : NestK h y a) : x = y := by
  obtain ⟨o1, _, p, as, e1, r1⟩ := hx
  obtain ⟨o2, _, q, bs, e2, r2⟩ := hy
  exact okK_inj o1 o2 e1 e2 r1 r2
mutual
/-- how many tokens a hash draws -/
def drK : D → Nat
  | .tup ds => drKs ds + 1
  | .int _ => 1
  | .str _ => 1
  | .non => 1
  | .bl _ => 1
  | .ty _ => 1
  | .lst _ => 1
  | .obj _ _ => 1
  | .dct _ => 1
  | .scr _ => 1
  | .cls _ => 1
def drKs : List D → Nat
  | [] => 0
  | d :: ds => drK d + drKs ds
end
theorem drKs_app : ∀ (a b : List D), drKs (a ++ b) = drKs a + drKs b
  | [], b => by simp [drKs]
  | d :: a, b => by simp [drKs, drKs_app a b]; omega
section
variable {prog : Program} {w : World}
theorem hash_tup {A : Around} {E : Value → Shared → Prop} {s : Shared} {a : Addr} {o : Obj} {items : Array Value} {k : Nat} {n : Nat} {ds : List D} {ps : List PyData} {as : List Addr} {Q : Int → Shared → Prop} (hu : A.units + (n + 1) < cLine)
    (ih : ∀ {A : Around} {E : Value → Shared → Prop} {s : Shared} {v : Value} {d : D} {p : PyData} {as : List Addr} {Q : Int → Shared → Prop}, A.units + n < cLine → okK n d = true → d.toP = some p → Reads s.heap v p as → Q (hashD (hashStr w) d) { s with toks := s.toks + drK d } → wpAny (model prog w) A (pyHash v) Q E s)
    (ho : s.heap.get? a = some o) (hc : o.cls = .type "tuple") (hd : o.data = .seq items k) (hi : ReadsAll s.heap items.toList ps as) (hp : toPs ds = some ps) (ha : ∀ e ∈ ds, okK n e = true)
    (h : Q (hashD (hashStr w) (.tup ds)) { s with toks := s.toks + drK (.tup ds) }) : wpAny (model prog w) A (pyHash (.ref a)) Q E s := by
  have hT : s.TypeIs (.ref a) "tuple" := ⟨o, ho, hc⟩
  unfold pyHash
  first | unfold pyHashByItsType | skip
  first | refine wpAny_bind (wpAny_cRoomFor_or (.inr (by omega)) ?_) | skip
  refine wpAny_bind (wpAny_specialOf hT F.slot_tuple_hash.lookup ?_)
  show wpAny _ _ (if (some (Value.builtin "tuple.__hash__") == some Value.none) = true then _ else _) Q E s
  rw [if_neg (by rw [beq_builtin_none]; exact Bool.false_ne_true)]
  refine wpAny_bind (wpAny_specialOf hT F.slot_tuple_hash.lookup ?_)
  show wpAny _ _ (callSpecialIfBoundUnlessNone? (.ref a) "__hash__" _ >>= _) Q E s
  refine wpAny_bind (wpAny_callSpecialIfBoundUnlessNone?_slot hT F.slot_tuple_hash (wpAny_call_entry F.slot_tuple_hash hT F.entry_tuple_hash ?_ (F.args_tuple_hash_1 _)))
  show wpAny _ _ (Builtin.Tuple.tupleItemsOf (.ref a) >>= _) _ _ s
  refine wpAny_bind (wpAny_tupleItemsOf ho hd ?_)
  refine wpAny_bind ?_
  rw [← Array.forIn_toList]
  refine wpAny_forIn_list _
    (fun rest (b : Array Int) s' => ∃ done left ps' as', ds = done ++ left ∧ toPs left = some ps' ∧ ReadsAll s.heap rest ps' as' ∧ b.toList = done.map (hashD (hashStr w)) ∧ s' = { s with toks := s.toks + drKs done })
    _ ?_ ?_ _ _ ⟨[], ds, ps, as, rfl, hp, hi, rfl, rfl⟩
  · rintro x rest b s' ⟨done, left, ps', as', rfl, hl, hr, hb, rfl⟩
    cases left with
    | nil => rw [toPs] at hl; cases hl; cases hr
    | cons d left =>
      obtain ⟨p, r, p1, p2, rfl⟩ := toPs_cons hl
      cases hr with
      | cons r1 r2 =>
        refine wpAny_bind (ih (by show A.units + 1 + n < cLine; omega) (ha d (by simp)) p1 r1 ?_)
        first
          | exact wpAny_pure ⟨done ++ [d], left, _, _, by simp, p2, r2, by simp [hb], by simp [drKs_app, drKs, Nat.add_assoc]⟩
          | exact wpAny_bind (wpAny_pure (wpAny_pure ⟨done ++ [d], left, _, _, by simp, p2, r2, by simp [hb], by simp [drKs_app, drKs, Nat.add_assoc]⟩))
  · rintro b s' ⟨done, left, ps', as', rfl, hl, hr, hb, rfl⟩
    have e0 : left = [] := by
      cases left with
      | nil => rfl
      | cons d left =>
        obtain ⟨p, r, p1, p2, rfl⟩ := toPs_cons hl
        cases hr
    subst e0
    rw [List.append_nil] at h
    show wpAny _ _ (retInt (Builtin.Tuple.tupleHashOf b.toList)) _ _ _
    rw [hb]
    rw [hashD, drK, hashDs_map] at h
    refine wpAny_ret_mkInt ?_
    show wpAny _ _ (if (decide (-(2 : Int) ^ 63 ≤ Builtin.Tuple.tupleHashOf (done.map (hashD (hashStr w)))) && decide (Builtin.Tuple.tupleHashOf (done.map (hashD (hashStr w))) < 2 ^ 63)) = true then _ else _) Q E _
    unfold reduceHash at h
    by_cases hr : (decide (-(2 : Int) ^ 63 ≤ Builtin.Tuple.tupleHashOf (done.map (hashD (hashStr w)))) && decide (Builtin.Tuple.tupleHashOf (done.map (hashD (hashStr w))) < 2 ^ 63)) = true
    · rw [if_pos hr]
      rw [if_pos hr] at h
      exact wpAny_pure (by simpa [Nat.add_assoc] using h)
    · rw [if_neg hr]
      rw [if_neg hr] at h
      exact wpAny_bind (wpAny_rule (wpAny_pure (by simpa [Nat.add_assoc] using h)))
theorem hash_key : ∀ {n : Nat} {A : Around} {E : Value → Shared → Prop} {s : Shared} {v : Value} {d : D} {p : PyData} {as : List Addr} {Q : Int → Shared → Prop}, A.units + n < cLine → okK n d = true → d.toP = some p → Reads s.heap v p as → Q (hashD (hashStr w) d) { s with toks := s.toks + drK d } → wpAny (model prog w) A (pyHash v) Q E s
  | n, A, E, s, v, d, p, as, Q, hu, hd, hp, r, h => by
    rcases okK_cases hd with ⟨i, rfl⟩ | ⟨x, rfl, hs⟩ | ⟨m, ds, rfl, rfl, ha⟩
    · rw [D.toP] at hp; cases hp
      cases r
      rw [hashD, drK] at h
      exact wpAny_pyHash_int h
    · rw [D.toP] at hp; cases hp
      cases r
      rw [hashD, drK] at h
      exact wpAny_pyHash_str h
    · obtain ⟨ps, hps, rfl⟩ := toP_tup hp
      cases r with
      | tuple h1 h2 h3 h4 => exact hash_tup hu (fun {A E s v d p as Q} => hash_key (n := m)) h1 h2 h3 h4 hps ha h
theorem quiet_key : ∀ {n : Nat} {m : Nat} {A : Around} {E : Value → Shared → Prop} {s : Shared} {v : Value} {d : D} {p : PyData} {as : List Addr} {Q : Bool → Shared → Prop}, n < m → okK n d = true → d.toP = some p → Reads s.heap v p as → Q true s → wpAny (model prog w) A (eqIsQuiet m v) Q E s
  | n, m, A, E, s, v, d, p, as, Q, hm, hd, hp, r, h => by
    rcases okK_cases hd with ⟨i, rfl⟩ | ⟨x, rfl, hs⟩ | ⟨n', ds, rfl, rfl, ha⟩
    · rw [D.toP] at hp; cases hp
      cases r
      rw [eqIsQuiet_byValue _ rfl]; exact wpAny_pure h
    · rw [D.toP] at hp; cases hp
      cases r
      rw [eqIsQuiet_byValue _ rfl]; exact wpAny_pure h
    · obtain ⟨ps, hps, rfl⟩ := toP_tup hp
      obtain ⟨m', rfl⟩ : ∃ m', m = m' + 1 := ⟨m - 1, by omega⟩
      cases r with
      | @tuple a o vs k _ _ ho hc hdt hi =>
        have hT : s.TypeIs (.ref a) "tuple" := ⟨o, ho, hc⟩
        unfold eqIsQuiet
        refine wpAny_bind (wpAny_specialOf hT F.slot_tuple_eq.lookup ?_)
        show wpAny _ _ (isInstance (.ref a) (.type "tuple") >>= _) _ _ s
        refine wpAny_bind (wpAny_isInstance hT isSubtype_tuple_tuple ?_)
        simp only [Bool.not_true, Bool.false_eq_true, if_false]
        refine wpAny_bind (wpAny_seqItems ho hdt ?_)
        refine wpAny_bind ?_
        show wpAny _ _ (forIn vs _ _) _ _ s
        rw [← Array.forIn_toList]
        refine wpAny_forIn_list _ (fun rest r s' => r.1 = none ∧ s' = s ∧ ∃ left ps' as', (∀ e ∈ left, okK n' e = true) ∧ toPs left = some ps' ∧ ReadsAll s.heap rest ps' as') _ ?_ ?_ _ _ ⟨rfl, rfl, ds, ps, _, ha, hps, hi⟩
        · rintro v rest r s' ⟨hr, rfl, left, ps', as', hall, hl, hra⟩
          cases left with
          | nil => rw [toPs] at hl; cases hl; cases hra
          | cons d left =>
            obtain ⟨p, r, p1, p2, rfl⟩ := toPs_cons hl
            cases hra with
            | cons r1 r2 =>
              refine wpAny_bind (quiet_key (n := n') (by omega) (hall d (by simp)) p1 r1 ?_)
              simp only [Bool.not_true, Bool.false_eq_true, if_false]
              exact wpAny_pure ⟨rfl, rfl, left, _, _, fun x hx => hall x (by simp [hx]), p2, r2⟩
        · rintro ⟨r1, r2⟩ s' ⟨hr, rfl, _⟩
          simp only at hr
          subst hr
          exact wpAny_pure h
noncomputable def nestKind (prog : Program) (w : World) : HeapKind prog w D where
  is := NestK
  hash := hashD (hashStr w)
  draws := drK
  room := fun A => A.units + 64 < cLine
  inj := fun hx hy => hx.inj hy
  keeps := fun x ho hd hs => x.keeps ho hd hs
  pyHash := fun {A E s k a Q} hu hk h => by
    obtain ⟨ok, _, p, as, e, r⟩ := hk
    exact hash_key (n := 6) (by omega) ok e r h
  eqBool := fun {A E s x y a b Q} hu hx hy h => by
    obtain ⟨o1, _, p, as, e1, r1⟩ := hx
    obtain ⟨o2, _, q, bs, e2, r2⟩ := hy
    have l1 := okK_lay o1 e1
    have l2 := okK_lay o2 e2
    rw [← okK_eqv o1 o2 e1 e2] at h
    exact SeqAt.eqAt_reads p q A s _ _ as bs r1 r2 l1.1 l2.1 (by have := Nat.min_le_left p.depth q.depth; omega) prog w E Q h
  quiet := fun {A E s k a Q} hk h => by
    obtain ⟨ok, _, p, as, e, r⟩ := hk
    exact quiet_key (n := 6) (by omega) ok e r h
end
end Pw

set_option maxHeartbeats 4000000
/-! PwE: sharing, displays, subscripts, slices, built-in calls. -/
namespace Pw
open PySem PySem.Spec PyProof.Rows L2

/-- the value leaves its one place -/
def share (r : RV) (e : En) : Out D := match r with
  | .val d => .ok d e
  | .fresh c => .ok c.toD e
  | .bor i => match e[i]? with
    | some (.own false false c) => .ok c.toD (e.set i (.val c.toD))
    | some (.val d) => .ok d e
    | _ => .stuck
def shareAll : List RV → En → Out (List D)
  | [], e => .ok [] e
  | r :: rs, e => (share r e).bind fun d e1 => (shareAll rs e1).bind fun ds e2 => .ok (d :: ds) e2
def mTup (m : MA) : ME := fun e => (m e).bind fun rs e1 => (shareAll rs e1).bind fun ds e2 => if ds.length ≤ sizeLine then .ok (.val (.tup ds)) e2 else .stuck
def mLst (m : MA) : ME := fun e => (m e).bind fun rs e1 => (shareAll rs e1).bind fun ds e2 => if ds.length ≤ sizeLine then .ok (.fresh (.lst ds)) e2 else .stuck
def mShare (m : ME) : ME := fun e => (m e).bind fun r e1 => (share r e1).bind fun d e2 => .ok (.val d) e2
section
variable {K : PySem.W.Frag} {ca : Ca} {W : WX} {B : Addr → Prop} {σ : St} {H H' : Hp} {env env' e : En}
theorem getElem?_set_own {l : En} {i j : Nat} {s t : Sv} (h : (l.set i s)[j]? = some t) : (j = i ∧ t = s) ∨ (j ≠ i ∧ l[j]? = some t) := by
  by_cases c : i = j
  · subst c
    by_cases hl : i < l.length
    · rw [List.getElem?_set_self hl] at h; cases h; exact .inl ⟨rfl, rfl⟩
    · rw [List.getElem?_eq_none (by simpa using hl)] at h; cases h
  · rw [List.getElem?_set_ne c] at h; exact .inr ⟨fun z => c z.symm, h⟩
theorem own_set {i j : Nat} {a : Addr} {d : D} (h : OwnAt (env.set i (.val d)) σ j a) : j ≠ i ∧ OwnAt env σ j a := by
  obtain ⟨⟨pm, lk, c, e1⟩, e2⟩ := h
  rcases getElem?_set_own e1 with ⟨_, z⟩ | ⟨n, z⟩
  · cases z
  · exact ⟨n, ⟨pm, lk, c, z⟩, e2⟩
/-- the one that a slot held alone is let go -/
theorem freeze {i : Nat} {c : Ct} {v : V} (S : SRel K ca B σ H e) (h : e[i]? = some (.own false false c)) (hv : σ[i]? = some (some v)) :
    Post K ca B σ H e H (e.set i (.val c.toD)) ∧ Rep K ca (Nof B (e.set i (.val c.toD)) σ) H v c.toD := by
  have q := S.slot i _ h
  obtain ⟨p, e1, r⟩ := q
  rw [hv] at e1
  cases e1
  have oi : OwnAt e σ i p := ⟨⟨_, _, _, h⟩, hv⟩
  have less : ∀ a, Nof B (e.set i (.val c.toD)) σ a → Nof B e σ a := fun a z => z.imp id fun ⟨j, z⟩ => ⟨j, (own_set z).2⟩
  have np : ¬ Nof B (e.set i (.val c.toD)) σ p := fun z => by
    rcases z with z | ⟨j, z⟩
    · exact S.sep p ⟨i, oi⟩ z
    · exact (own_set z).1 (S.inj j i p (own_set z).2 oi)
  have R : Rep K ca (Nof B (e.set i (.val c.toD)) σ) H (.ref p) c.toD := CRep.rep np (r.sub (sub_less less) rfl)
  have hl : i < e.length := (List.getElem?_eq_some_iff.mp h).1
  refine ⟨⟨⟨by rw [List.length_set]; exact S.len, S.dom, fun a ⟨j, z⟩ => S.sep a ⟨j, (own_set z).2⟩, fun j k a z1 z2 => S.inj j k a (own_set z1).2 (own_set z2).2, fun j s hs => ?_, S.tabs⟩, fun j pm lk c' hs => ?_, fun j lk c' hs => ?_, fun j pm c' hs => ?_, fun j s hs n => ?_, fun a o z _ _ => z, fun _ z => z⟩, R⟩
  · rcases getElem?_set_own hs with ⟨rfl, rfl⟩ | ⟨n, z⟩
    · exact ⟨_, hv, R⟩
    · have q := S.slot j s z
      cases s with
      | none => trivial
      | val d => obtain ⟨x, e1, r⟩ := q; exact ⟨x, e1, r.sub (sub_less less)⟩
      | own pm lk c2 => obtain ⟨x, e1, r⟩ := q; exact ⟨x, e1, r.sub (sub_less less) rfl⟩
  · rcases getElem?_set_own hs with ⟨_, z⟩ | ⟨n, z⟩
    · cases z
    · exact ⟨c', z⟩
  · by_cases z : i = j
    · subst z; rw [h] at hs; cases hs
    · exact ⟨c', by rw [List.getElem?_set_ne z]; exact hs⟩
  · by_cases z : i = j
    · subst z; rw [h] at hs; cases hs
    · rw [List.getElem?_set_ne z]; exact hs
  · by_cases z : i = j
    · subst z; exact ⟨_, List.getElem?_set_self hl, fun z => nomatch z⟩
    · exact ⟨s, by rw [List.getElem?_set_ne z]; exact hs, n⟩
theorem share_ok {r : RV} {v : V} {k : D → En → Hp → Prop} {H0 : Hp} (h : CondG K ca W B σ H e (share r e) k) (S : SRel K ca B σ H e) (R : RRep K ca B σ H0 H e v r) :
    ∃ d e', Post K ca B σ H e H e' ∧ Rep K ca (Nof B e' σ) H v d ∧ k d e' H := by
  cases r with
  | val d => exact ⟨d, e, .refl S, R, h.now (.refl S)⟩
  | fresh c =>
    obtain ⟨p, rfl, _, n, r, _⟩ := R
    exact ⟨_, e, .refl S, CRep.rep n (r.sub (sub_less fun a z => .inl z) rfl), h.now (.refl S)⟩
  | bor i =>
    obtain ⟨hv, s, hs, n⟩ := R
    simp only [share, hs] at h
    cases s with
    | none => exact absurd rfl n
    | val d =>
      obtain ⟨x, e1, r⟩ := S.slot i _ hs
      rw [hv] at e1
      cases e1
      exact ⟨d, e, .refl S, r, h.now (.refl S)⟩
    | own pm lk c =>
      cases pm <;> cases lk <;> try exact h.elim
      obtain ⟨P, r⟩ := freeze S hs hv
      exact ⟨_, _, P, r, h.now P⟩
theorem shareAll_ok : ∀ {rs : List RV} {vs : List V} {e : En} {k : List D → En → Hp → Prop}, CondG K ca W B σ H e (shareAll rs e) k → SRel K ca B σ H e → RReps K ca B σ H e vs rs →
    ∃ ds e', Post K ca B σ H e H e' ∧ Reps K ca (Nof B e' σ) H vs ds ∧ k ds e' H
  | [], _, e, k, h, S, .nil => ⟨[], e, .refl S, .nil, h.now (.refl S)⟩
  | r :: rs, _, e, k, h, S, .cons R Rs => by
    obtain ⟨d, e1, P1, r1, h1⟩ := share_ok h.bind S (R.2 H)
    obtain ⟨ds, e2, P2, r2, h2⟩ := shareAll_ok h1.bind P1.rel (RReps.keep P1.keep Rs)
    exact ⟨d :: ds, e2, P1.trans P2, .cons (r1.sub P2.keep.sub) r2, h2.now (.refl P2.rel)⟩
end
section
variable {X : Cx} {ca : Ca} {a b : Expr} {ma mb : ME} {es : List Expr} {m : MA} {pos : Pos}
theorem ve_tup {k : Nat} (h : VA X ca es m) : VE X ca (.Tuple es k pos) (mTup m) := fun W tk =>
  peImp (pe_tup (h W tk)) fun σ H Q ⟨B, env, S, h⟩ => ⟨B, env, S, h.bind.imp fun rs e H1 P1 k1 vs Rs => by
    obtain ⟨ds, e2, P2, r, k2⟩ := shareAll_ok k1.bind P1.rel Rs
    by_cases c : ds.length ≤ sizeLine
    · rw [if_pos c] at k2
      refine ⟨by rw [r.len]; exact c, fun p hp => ?_⟩
      exact k2 _ (.ext P2.rel (Ext.new hp)) _ (upd_tup hp r fun a z => P2.rel.ndom z)
    · rw [if_neg c] at k2; exact k2.elim⟩
theorem ve_lst (h : VA X ca es m) : VE X ca (.List es pos) (mLst m) := fun W tk =>
  peImp (pe_lst (h W tk)) fun σ H Q ⟨B, env, S, h⟩ => ⟨B, env, S, h.bind.imp fun rs e H1 P1 k1 vs Rs => by
    obtain ⟨ds, e2, P2, r, k2⟩ := shareAll_ok k1.bind P1.rel Rs
    by_cases c : ds.length ≤ sizeLine
    · rw [if_pos c] at k2
      refine ⟨by rw [r.len]; exact c, fun p hp => ?_⟩
      exact k2 _ (.ext P2.rel (Ext.new hp)) _ ⟨p, rfl, P1.keep.dom p hp, P2.rel.fresh hp, upd_lst hp r fun a z => P2.rel.ndom z, P2.rel.hide (Ext.new hp) hp (by rw [upd_same]; exact fun z => nomatch z)⟩
    · rw [if_neg c] at k2; exact k2.elim⟩
end
/-! ### subscripts -/
def atD (ds : List D) (i : Int) : Po := match atI ds i with
  | some d => .val d
  | none => .stuck
def idxD (x y : D) : Po := match y with
  | .int i => match x with
    | .lst ds => atD ds i
    | .tup ds => atD ds i
    | .str z => if z.length ≤ sizeLine then (match atI z.cps.toList i with | some c => .val (.str ⟨#[c]⟩) | none => .stuck) else .stuck
    | _ => .stuck
  | _ => .stuck
theorem atI_rep {K : PySem.W.Frag} {ca : Ca} {N : Addr → Prop} {H : Hp} {vs : List V} {ds : List D} {i : Int} {d : D} (r : Reps K ca N H vs ds) (e : atI ds i = some d) : ∃ v, atI vs i = some v ∧ Rep K ca N H v d := by
  unfold atI at e ⊢
  rw [r.len]
  cases q : ixN ds.length i with
  | none => rw [q] at e; cases e
  | some j =>
    rw [q] at e
    obtain ⟨v, h1, h2⟩ := r.get (show ds[j]? = some d from e)
    exact ⟨v, h1, h2⟩
section
variable {X : Cx} {ca : Ca} {a b : Expr} {ma mb : ME} {pos : Pos}
theorem ov_ix (hs : PlainIx b) : OpV ca X (subscriptTail a b) idxD := by
  have ho : OpR X (subscriptTail a b) (rIx X.K) := fun pins s σ H x y v u Q I rx ry q => ix_seq a b pins s σ H x y v u Q I rx ry q (hs _ _)
  refine OpV.of ho fun N H x y dx dy Q kx nd hx hy q => ?_
  cases dy <;> try exact q.elim
  rename_i i
  cases dx <;> try exact q.elim
  · rename_i z
    have q' : POK X.K ca N H Q kx (if z.length ≤ sizeLine then (match atI z.cps.toList i with | some c => .val (.str ⟨#[c]⟩) | none => .stuck) else .stuck) := q
    by_cases c : z.length ≤ sizeLine
    · rw [if_pos c] at q'
      cases e : atI z.cps.toList i with
      | none => rw [e] at q'; exact q'.elim
      | some d => rw [e] at q'; exact .inr (.inr ⟨z, i, d, vr_str hx, vr_int hy, c, e, q' _ H (fun _ _ e => e) (.str _)⟩)
    · rw [if_neg c] at q'; exact q'.elim
  · rename_i ds
    have q' : POK X.K ca N H Q kx (atD ds i) := q
    unfold atD at q'
    cases e : atI ds i with
    | none => rw [e] at q'; exact q'.elim
    | some d =>
      rw [e] at q'
      obtain ⟨p, vs, rfl, h, r⟩ := vr_tup hx
      obtain ⟨v, e1, r1⟩ := atI_rep r e
      exact .inr (.inl ⟨p, vs, i, v, rfl, vr_int hy, h.sq, e1, q' _ H (fun _ _ e => e) r1⟩)
  · rename_i ds
    have q' : POK X.K ca N H Q kx (atD ds i) := q
    unfold atD at q'
    cases e : atI ds i with
    | none => rw [e] at q'; exact q'.elim
    | some d =>
      rw [e] at q'
      obtain ⟨p, vs, rfl, h, r⟩ := vr_lst hx
      obtain ⟨v, e1, r1⟩ := atI_rep r e
      exact .inl ⟨p, vs, i, v, rfl, vr_int hy, .inl (.inl h), e1, q' _ H (fun _ _ e => e) r1⟩
theorem ve_sub {g : D → D → Po} (ho : OpV ca X (subscriptTail a b) g) (ha : VE X ca a ma) (hb : VE X ca b mb) : VE X ca (.Subscript a b pos) (mOp g ma mb) := fun W tk =>
  ⟨fun pins s σ H Q I h => Subscript_ (bin_run ho ha hb tk I h)⟩
end
/-! ### slices -/
abbrev MO := En → Out (Option Int)
def tMO (K : PySem.W.Frag) (ca : Ca) (W : WX) (m : MO) : TO := fun σ H Q => ∃ B env, SRel K ca B σ H env ∧ CondG K ca W B σ H env (m env) fun o _ H' => Q o H'
def VP (X : Cx) (ca : Ca) (o : Option Expr) (m : MO) : Prop := ∀ W, Takes X W → L2.PO X o (tMO X.K ca W m)
def mNoP : MO := fun e => .ok none e
def mPart (m : ME) : MO := fun e => (m e).bind fun r e1 => match r with
  | .val (.int i) => .ok (some i) e1
  | _ => .stuck
def cutL {α : Type} (xs : List α) (lo hi : Option Int) : List α := (xs.drop (HT.sIx xs.length 0 lo)).take (HT.sIx xs.length xs.length hi - HT.sIx xs.length 0 lo)
def sliceD (x : D) (lo hi : Option Int) : Po := match x with
  | .lst ds => .fresh (.lst (cutL ds lo hi))
  | .tup ds => .val (.tup (cutL ds lo hi))
  | .str z => if z.length ≤ sizeLine then .val (.str (cutS z lo hi)) else .stuck
  | .scr ns => .fresh (.lst ((cutL ns lo hi).map .int))
  | _ => .stuck
def mSlice (a : ME) (l h : MO) : ME := fun e => (a e).bind fun x e1 => (l e1).bind fun lo e2 => (h e2).bind fun hi e3 => match view (norm x) e3 with
  | some d => (sliceD d lo hi).out e3
  | none => .stuck
theorem cut_rep {K : PySem.W.Frag} {ca : Ca} {N : Addr → Prop} {H : Hp} {vs : List V} {ds : List D} (r : Reps K ca N H vs ds) (lo hi : Option Int) : Reps K ca N H (cutV vs lo hi) (cutL ds lo hi) := by
  unfold cutV cutL
  rw [r.len]
  exact (r.drop _).take _
theorem cut_map {α β : Type} (f : α → β) (xs : List α) (lo hi : Option Int) : (cutL xs lo hi).map f = cutL (xs.map f) lo hi := by
  unfold cutL
  rw [List.map_take, List.map_drop, List.length_map]
theorem reps_ints {K : PySem.W.Frag} {ca : Ca} {N : Addr → Prop} {H : Hp} : ∀ (ns : List Int), Reps K ca N H (ns.map V.int) (ns.map D.int)
  | [] => .nil
  | n :: ns => .cons (.int n) (reps_ints ns)
theorem whole_cut {xs : List V} {lo hi : Option Int} (h : HT.sIx xs.length 0 lo = 0 ∧ HT.sIx xs.length xs.length hi = xs.length) : cutV xs lo hi = xs := by
  unfold cutV
  rw [h.1, h.2, List.drop_zero, Nat.sub_zero, List.take_length]
section
variable {X : Cx} {ca : Ca} {a b : Expr} {ma mb : ME} {pos p2 : Pos} {lo hi : Option Expr} {ml mh : MO}
theorem vp_none : VP X ca none mNoP := fun W tk => ⟨fun pins s σ H Q I ⟨B, env, S, h⟩ => po_none.run pins s σ H Q I (h.now (.refl S))⟩
theorem vp_some (h : VE X ca a ma) : VP X ca (some a) (mPart ma) := fun W tk => ⟨fun pins s σ H Q I ⟨B, env, S, h1⟩ => (po_some (h W tk)).run pins s σ H Q I ⟨B, env, S, h1.bind.imp fun r e H1 P1 k v R => by
  cases r with
  | val d =>
    cases d with
    | int i =>
      cases (show Rep X.K ca _ H1 v (.int i) from R)
      exact ⟨i, rfl, k.now (.refl P1.rel)⟩
    | _ => exact k.elim
  | _ => exact k.elim⟩⟩
theorem sl_all {N : Addr → Prop} {H : Hp} {x : V} {dx : D} {lo hi : Option Int} {Q : VK} {kx : XK} (nd : NDom N H) (hx : VRep X.K ca N H x dx) (q : POK X.K ca N H Q kx (sliceD dx lo hi)) : rSlL X.K x lo hi H Q ∨ rSlA X.K x lo hi H Q ∨ rSlS x lo hi H Q := by
  cases dx <;> try exact q.elim
  · rename_i z
    have q' : POK X.K ca N H Q kx (if z.length ≤ sizeLine then .val (.str (cutS z lo hi)) else .stuck) := q
    by_cases c : z.length ≤ sizeLine
    · rw [if_pos c] at q'
      exact .inr (.inr ⟨z, vr_str hx, c, q' _ H (fun _ _ e => e) (.str _)⟩)
    · rw [if_neg c] at q'; exact q'.elim
  · rename_i ds
    obtain ⟨p, vs, rfl, h, r⟩ := vr_tup hx
    refine .inr (.inl ⟨p, vs, rfl, h.sq, fun w => ?_, fun w t ht => ?_⟩)
    · have r' := cut_rep r lo hi
      rw [whole_cut w] at r'
      exact q _ H (fun _ _ e => e) (.tup h r')
    · exact q _ _ (Ext.new ht) (upd_tup ht (cut_rep r lo hi) nd)
  · rename_i ds
    obtain ⟨p, vs, rfl, h, r⟩ := vr_lst hx
    exact .inl ⟨p, vs, rfl, .inl (.inl h), fun l hl => q l _ (Ext.new hl) hl (upd_lst hl (cut_rep r lo hi) nd)⟩
  · rename_i ns
    obtain ⟨p, rfl, h⟩ := vr_scr hx
    refine .inl ⟨p, _, rfl, h.sq, fun l hl => q l _ (Ext.new hl) hl (upd_lst hl ?_ nd)⟩
    show Reps X.K ca N H (cutL (ns.map V.int) lo hi) _
    rw [← cut_map]
    exact reps_ints _
theorem ve_slice (ha : VE X ca a ma) (hl : VP X ca lo ml) (hh : VP X ca hi mh) : VE X ca (.Subscript a (.Slice lo hi none p2) pos) (mSlice ma ml mh) := fun W tk =>
  peImp (pe_slice (SlR.or sl_list (SlR.or sl_tupA sl_str)) (ha W tk) (hl W tk) (hh W tk)) fun σ H Q ⟨B, env, S, h⟩ => ⟨B, env, S, h.bind.imp fun r e H1 P1 k v R =>
    ⟨B, e, P1.rel, k.bind.imp fun lo e2 H2 P2 k2 => ⟨B, e2, P2.rel, k2.bind.imp fun hi e3 H3 P3 k3 => by
      have R' := (R.norm.nkeep (H1 := H) P2.keep).nkeep (H1 := H) P3.keep
      cases q : view (norm r) e3 with
      | none => rw [q] at k3; exact k3.elim
      | some d =>
        rw [q] at k3
        exact sl_all (fun a z => P3.rel.ndom z) (R'.view P3.rel q) (POK.of_out (fun a z => P1.keep.dom a (P2.keep.dom a (P3.keep.dom a z))) P3.rel k3)⟩⟩⟩
end
/-! ### built-ins called by name -/
def views : List RV → En → Option (List D)
  | [], _ => some []
  | r :: rs, e => match view r e, views rs e with
    | some d, some ds => some (d :: ds)
    | _, _ => none
def callOut (g : List D → Po) (rs : List RV) (e : En) : Out RV := match views rs e with
  | some ds => (g ds).out e
  | none => .stuck
def mCallB (g : List D → Po) (m : MA) : ME := fun e => (m e).bind fun rs e1 => callOut g rs e1
section
variable {X : Cx} {ca : Ca} {B : Addr → Prop} {σ : St} {H : Hp} {env : En}
theorem views_ok {K : PySem.W.Frag} (S : SRel K ca B σ H env) : ∀ {rs : List RV} {vs : List V} {ds : List D}, RReps K ca B σ H env vs rs → views rs env = some ds → Paired (fun x d => VRep K ca (Nof B env σ) H x d) vs ds
  | _, _, _, .nil, e => by cases e; exact .nil
  | r :: rs, _, _, .cons R Rs, e => by
    unfold views at e
    cases h1 : view r env with
    | none => rw [h1] at e; cases e
    | some d =>
      cases h2 : views rs env with
      | none => rw [h1, h2] at e; cases e
      | some ds =>
        rw [h1, h2] at e
        cases e
        exact .cons ((R.2 H).view S h1) (views_ok S Rs h2)
variable {x : Str} {p pos : Pos} {e : Expr} {es : List Expr} {m : MA} {id T : String} {g : List D → Po}
theorem args_run (ha : VA X ca es m) {f : Value} (hc : CallV ca X f g) {W : WX} (tk : Takes X W) {pins : List (Addr × Obj)} {s : Shared} {σ : St} {H : Hp} {Q : VK} (I : Inv X pins σ H s) (h : tM X.K ca W (mCallB g m) σ H Q) :
    wpAny (model X.prog X.w) X.A (spliced (backTo pos (starEach es X.env))) (fun us s1 => wpAny (model X.prog X.w) X.A (call f us) (EP X pins σ Q) X.xe s1) X.xe s := by
  obtain ⟨B, env, S, h⟩ := h
  refine thn ((ha W tk).run pos pins s σ H (fun vs H1 => ∃ rs e, ∃ (P1 : Post X.K ca B σ H env H1 e), CondG X.K ca W B σ H1 e (callOut g rs e) (fun r e H' => ∀ v, RRep X.K ca B σ H H' e v r → Q v H') ∧ RReps X.K ca B σ H1 e vs rs) I ⟨B, env, S, h.bind.imp fun rs e H1 P1 k vs R => ⟨rs, e, P1, k, R⟩⟩) fun us s1 ⟨vs, H1, I1, r1, rs, e, P1, k, R⟩ => ?_
  unfold callOut at k
  cases q : views rs e with
  | none => rw [q] at k; exact k.elim
  | some ds =>
    rw [q] at k
    exact hc W tk pins s1 σ H1 vs us Q _ ds I1 r1 (fun a z => P1.rel.ndom z) (views_ok P1.rel R q) (POK.of_out P1.keep.dom P1.rel k)
theorem ve_callB (hc : CallV ca X (.builtin id) g) (hg : Gl X x) (hm : X.mg x = none) (hv : bootBuiltins x = some (.builtin id)) (ha : VA X ca (e :: es) m) (hn : x ≠ "__name__") (hdb : (x == ("__debug__" : Str)) = false)
    (he : starEach (e :: es) X.env = (false, eval e X.env) :: starEach es X.env) (hpl : (backTo pos (starEach es X.env)).any (·.1) = false) : VE X ca (.Call (.Name x p) (e :: es) [] pos) (mCallB g m) := fun W tk => by
  refine ⟨fun pins s σ H Q I h => ?_⟩
  refine wpAny_Call_Name_kw (ld_blt I hg hm hv ?_ hn hdb)
  exact PyProof.Rows.callWith_builtin1 (args_run ha hc tk I h) he hpl
theorem ve_callTy (hc : CallV ca X (.type T) g) (hg : Gl X x) (hm : X.mg x = none) (hv : bootBuiltins x = some (.type T)) (ha : VA X ca (e :: es) m) (hn : x ≠ "__name__") (hdb : (x == ("__debug__" : Str)) = false)
    (he : starEach (e :: es) X.env = (false, eval e X.env) :: starEach es X.env) (hpl : (backTo pos (starEach es X.env)).any (·.1) = false) : VE X ca (.Call (.Name x p) (e :: es) [] pos) (mCallB g m) := fun W tk => by
  refine ⟨fun pins s σ H Q I h => ?_⟩
  refine wpAny_Call_Name_kw (ld_blt I hg hm hv ?_ hn hdb)
  exact PyProof.Rows.callWith_type1 (args_run ha hc tk I h) he hpl
end
/-- the built-ins on data -/
def absD : List D → Po
  | [.int i] => .val (.int (if i < 0 then -i else i))
  | _ => .stuck
def intD : List D → Po
  | [.int i] => .val (.int i)
  | [.bl b] => .val (.int (if b then 1 else 0))
  | _ => .stuck
def okStr (i : Int) : Prop := i.natAbs.log2 < 1920
instance : ∀ i, Decidable (okStr i) := fun i => inferInstanceAs (Decidable (_ < _))
def strD : List D → Po
  | [.int i] => if okStr i then .val (.str (toString i)) else .stuck
  | [.str s] => .val (.str s)
  | _ => .stuck
def lenD : List D → Po
  | [.lst ds] => .val (.int ds.length)
  | [.tup ds] => .val (.int ds.length)
  | [.str s] => if s.length ≤ sizeLine then .val (.int s.length) else .stuck
  | _ => .stuck
def listD : List D → Po
  | [.lst ds] => .fresh (.lst ds)
  | [.tup ds] => .fresh (.lst ds)
  | _ => .stuck
def tupleD : List D → Po
  | [.lst ds] => .val (.tup ds)
  | [.tup ds] => .val (.tup ds)
  | _ => .stuck
def intsD : List D → Option (List Int)
  | [] => some []
  | .int i :: ds => (intsD ds).map (i :: ·)
  | _ => none
def boolsD : List D → Option (List Bool)
  | [] => some []
  | .bl i :: ds => (boolsD ds).map (i :: ·)
  | _ => none
def sumD : List D → Po
  | [.lst ds] => match intsD ds with
    | some ns => .val (.int ns.sum)
    | none => .stuck
  | _ => .stuck
def allD : List D → Po
  | [.lst ds] => match boolsD ds with
    | some bs => .val (.bl (bs.all id))
    | none => .stuck
  | _ => .stuck
def anyD : List D → Po
  | [.lst ds] => match boolsD ds with
    | some bs => .val (.bl (bs.any id))
    | none => .stuck
  | _ => .stuck
section
variable {X : Cx} {ca : Ca} {K : PySem.W.Frag} {N : Addr → Prop} {H : Hp}
abbrev VReps (K : PySem.W.Frag) (ca : Ca) (N : Addr → Prop) (H : Hp) : List V → List D → Prop := Paired fun x d => VRep K ca N H x d
theorem vrs1 {d : D} {xs : List V} (h : VReps K ca N H xs [d]) : ∃ x, xs = [x] ∧ VRep K ca N H x d := by
  cases h with
  | cons r t => cases t; exact ⟨_, rfl, r⟩
theorem vrs2 {d e : D} {xs : List V} (h : VReps K ca N H xs [d, e]) : ∃ x y, xs = [x, y] ∧ VRep K ca N H x d ∧ VRep K ca N H y e := by
  cases h with
  | cons r t => cases t with
    | cons r2 t2 => cases t2; exact ⟨_, _, rfl, r, r2⟩
theorem ints_rep : ∀ {vs : List V} {ds : List D} {ns : List Int}, Reps K ca N H vs ds → intsD ds = some ns → vs = ns.map V.int
  | _, _, _, .nil, e => by cases e; rfl
  | _, d :: ds, ns, .cons r t, e => by
    cases d <;> try cases e
    rename_i i
    rw [intsD] at e
    cases q : intsD ds with
    | none => rw [q] at e; cases e
    | some ms =>
      rw [q] at e
      cases e
      cases r
      rw [ints_rep t q, List.map_cons]
theorem bools_rep : ∀ {vs : List V} {ds : List D} {ns : List Bool}, Reps K ca N H vs ds → boolsD ds = some ns → vs = ns.map V.bl
  | _, _, _, .nil, e => by cases e; rfl
  | _, d :: ds, ns, .cons r t, e => by
    cases d <;> try cases e
    rename_i i
    rw [boolsD] at e
    cases q : boolsD ds with
    | none => rw [q] at e; cases e
    | some ms =>
      rw [q] at e
      cases e
      cases r
      rw [bools_rep t q, List.map_cons]
theorem cv_abs : CallV ca X (.builtin "abs") absD := CallV.of call_abs fun N H xs ds Q kx nd h q => by
  unfold absD at q
  split at q
  · obtain ⟨x, rfl, hx⟩ := vrs1 h
    rw [vr_int hx]
    exact ⟨_, rfl, q _ H (fun _ _ e => e) (.int _)⟩
  · exact q.elim
theorem cv_int : CallV ca X (.type "int") intD := CallV.of call_int1 fun N H xs ds Q kx nd h q => by
  unfold intD at q
  split at q
  · obtain ⟨x, rfl, hx⟩ := vrs1 h
    rw [vr_int hx]
    exact .inl ⟨_, rfl, q _ H (fun _ _ e => e) (.int _)⟩
  · obtain ⟨x, rfl, hx⟩ := vrs1 h
    rw [vr_bl hx]
    exact .inr ⟨_, rfl, q _ H (fun _ _ e => e) (.int _)⟩
  · exact q.elim
theorem cv_str : CallV ca X (.type "str") strD := CallV.of (CallR.or call_str_int SkE.call_str_str) fun N H xs ds Q kx nd h q => by
  unfold strD at q
  split at q
  · obtain ⟨x, rfl, hx⟩ := vrs1 h
    rw [vr_int hx]
    split at q
    · rename_i c
      exact .inl ⟨_, rfl, c, q _ H (fun _ _ e => e) (.str _)⟩
    · exact q.elim
  · obtain ⟨x, rfl, hx⟩ := vrs1 h
    rw [vr_str hx]
    exact .inr ⟨_, rfl, q _ H (fun _ _ e => e) (.str _)⟩
  · exact q.elim
theorem krep_len : ∀ {ks : List (Key × V)} {ds : List (D × D)}, KReps K ca N H ks ds → ks.length = ds.length
  | _, _, .nil => rfl
  | _, _, .cons r t => congrArg (· + 1) (krep_len t)
theorem krep_keys : ∀ {ks : List (Key × V)} {ds : List (D × D)}, KReps K ca N H ks ds → Reps K ca N H (ks.map fun kv => kV kv.1) (ds.map (·.1))
  | _, _, .nil => .nil
  | _, _, .cons (k := k) r t => .cons (by cases k with | inl i => exact .int i | inr x => exact .str x) (krep_keys t)
theorem cv_len : CallV ca X (.builtin "len") lenD := CallV.of (CallR.or call_len_seq (CallR.or call_len_str call_lenD)) fun N H xs ds Q kx nd h q => by
  unfold lenD at q
  split at q
  · obtain ⟨x, rfl, hx⟩ := vrs1 h
    obtain ⟨a, vs, rfl, h, r⟩ := vr_lst hx
    exact .inl ⟨a, vs, rfl, .inl (.inl (.inl h)), by rw [r.len]; exact q _ H (fun _ _ e => e) (.int _)⟩
  · obtain ⟨x, rfl, hx⟩ := vrs1 h
    obtain ⟨a, vs, rfl, h, r⟩ := vr_tup hx
    exact .inl ⟨a, vs, rfl, .inr h.sq, by rw [r.len]; exact q _ H (fun _ _ e => e) (.int _)⟩
  · obtain ⟨x, rfl, hx⟩ := vrs1 h
    rw [vr_str hx]
    split at q
    · rename_i c
      exact .inr (.inl ⟨_, rfl, c, q _ H (fun _ _ e => e) (.int _)⟩)
    · exact q.elim
  · exact q.elim
theorem cv_tuple : CallV ca X (.type "tuple") tupleD := CallV.of call_tuple_of fun N H xs ds Q kx nd h q => by
  unfold tupleD at q
  split at q
  · obtain ⟨x, rfl, hx⟩ := vrs1 h
    obtain ⟨a, vs, rfl, h, r⟩ := vr_lst hx
    exact ⟨a, vs, rfl, .inl ⟨.inl (.inl h), fun l hl => q _ _ (Ext.new hl) (upd_tup hl r nd)⟩⟩
  · obtain ⟨x, rfl, hx⟩ := vrs1 h
    obtain ⟨a, vs, rfl, h, r⟩ := vr_tup hx
    exact ⟨a, vs, rfl, .inr ⟨h.sq, q _ H (fun _ _ e => e) (.tup h r)⟩⟩
  · exact q.elim
theorem cv_sum (hc : X.calm = true) : CallV ca X (.builtin "sum") sumD := CallV.of (cr_sum hc) fun N H xs ds Q kx nd h q => by
  unfold sumD at q
  split at q
  · obtain ⟨x, rfl, hx⟩ := vrs1 h
    obtain ⟨a, vs, rfl, h, r⟩ := vr_lst hx
    split at q
    · rename_i ns e
      exact ⟨a, ns, rfl, .inl (.inl (by rw [← ints_rep r e]; exact h)), q _ H (fun _ _ e => e) (.int _)⟩
    · exact q.elim
  · exact q.elim
theorem cv_all (hc : X.calm = true) : CallV ca X (.builtin "all") allD := CallV.of (cr_all hc) fun N H xs ds Q kx nd h q => by
  unfold allD at q
  split at q
  · obtain ⟨x, rfl, hx⟩ := vrs1 h
    obtain ⟨a, vs, rfl, h, r⟩ := vr_lst hx
    split at q
    · rename_i ns e
      exact ⟨a, ns, rfl, .inl (.inl (by rw [← bools_rep r e]; exact h)), q _ H (fun _ _ e => e) (.bl _)⟩
    · exact q.elim
  · exact q.elim
theorem cv_any (hc : X.calm = true) : CallV ca X (.builtin "any") anyD := CallV.of (cr_any hc) fun N H xs ds Q kx nd h q => by
  unfold anyD at q
  split at q
  · obtain ⟨x, rfl, hx⟩ := vrs1 h
    obtain ⟨a, vs, rfl, h, r⟩ := vr_lst hx
    split at q
    · rename_i ns e
      exact ⟨a, ns, rfl, .inl (.inl (by rw [← bools_rep r e]; exact h)), q _ H (fun _ _ e => e) (.bl _)⟩
    · exact q.elim
  · exact q.elim
end
end Pw

set_option maxHeartbeats 4000000
/-! PwF: statements. -/
namespace Pw
open PySem PySem.Spec PyProof.Rows L2

abbrev MS := En → SO
def SO.seq (o : SO) (f : En → SO) : SO := match o with
  | .next e => f e
  | o => o
def Out.toS {α : Type} (o : Out α) (f : α → En → SO) : SO := match o with
  | .ok a e => f a e
  | .exn x e => .exn x e
  | .stuck => .stuck
@[simp] theorem SO.seq_next (e : En) (f : En → SO) : (SO.next e).seq f = f e := rfl
@[simp] theorem SO.seq_ret (r : RV) (e : En) (f : En → SO) : (SO.ret r e).seq f = .ret r e := rfl
@[simp] theorem SO.seq_brk (e : En) (f : En → SO) : (SO.brk e).seq f = .brk e := rfl
@[simp] theorem SO.seq_cont (e : En) (f : En → SO) : (SO.cont e).seq f = .cont e := rfl
@[simp] theorem SO.seq_exn (x : Ex) (e : En) (f : En → SO) : (SO.exn x e).seq f = .exn x e := rfl
@[simp] theorem SO.seq_stuck (f : En → SO) : SO.stuck.seq f = .stuck := rfl
@[simp] theorem Out.toS_ok {α : Type} (a : α) (e : En) (f : α → En → SO) : (Out.ok a e).toS f = f a e := rfl
@[simp] theorem Out.toS_exn {α : Type} (x : Ex) (e : En) (f : α → En → SO) : (Out.exn x e : Out α).toS f = .exn x e := rfl
@[simp] theorem Out.toS_stuck {α : Type} (f : α → En → SO) : (Out.stuck : Out α).toS f = .stuck := rfl
section
variable (K : PySem.W.Frag) (ca : Ca)
def SCond (W : WX) (B : Addr → Prop) (σ : St) (H : Hp) (env : En) (D : Ends) (o : SO) : Prop :=
  match o with
  | .next e => ∀ σ' H', SRel K ca B σ' H' e → KeepS σ H env σ' H' e → D.nx σ' H'
  | .ret r e => ∀ v σ' H', SRel K ca B σ' H' e → KeepS σ H env σ' H' e → RRep K ca B σ' H H' e v r → D.rt v H'
  | .brk e => ∀ σ' H', SRel K ca B σ' H' e → KeepS σ H env σ' H' e → D.bk σ' H'
  | .cont e => ∀ σ' H', SRel K ca B σ' H' e → KeepS σ H env σ' H' e → D.ct σ' H'
  | .exn x e => ∀ cls d σ' H', SRel K ca B σ' H' e → KeepS σ H env σ' H' e → XRep K ca (Nof B e σ') H' cls d x → W cls d σ' H'
  | .stuck => False
def tMS (W : WX) (m : MS) : TS := fun D σ H => ∃ B env, SRel K ca B σ H env ∧ SCond K ca W B σ H env D (m env)
end
def VS (X : Cx) (ca : Ca) (st : Stmt) (m : MS) : Prop := ∀ W, Takes X W → PS X st (tMS X.K ca W m)
def VSs (X : Cx) (ca : Ca) (sts : List Stmt) (m : MS) : Prop := ∀ W, Takes X W → PSs X sts (tMS X.K ca W m)
section
variable {X : Cx} {st : Stmt} {sts : List Stmt} {t t' : TS}
theorem psImp (h : PS X st t) (i : ∀ D σ H, t' D σ H → t D σ H) : PS X st t' := ⟨fun pins s σ H D I q => h.run pins s σ H D I (i D σ H q)⟩
theorem pssImp (h : PSs X sts t) (i : ∀ D σ H, t' D σ H → t D σ H) : PSs X sts t' := ⟨fun pins s σ H D I q => h.run pins s σ H D I (i D σ H q)⟩
end
section
variable {K : PySem.W.Frag} {ca : Ca} {W : WX} {B : Addr → Prop} {σ σ1 : St} {H H1 H' : Hp} {env e1 : En} {D : Ends} {o : SO} {α : Type}
theorem SCond.later (k : KeepS σ H env σ1 H1 e1) (h : SCond K ca W B σ H env D o) : SCond K ca W B σ1 H1 e1 D o := by
  cases o with
  | next e => exact fun σ' H' S k2 => h σ' H' S (k.trans k2)
  | ret r e => exact fun v σ' H' S k2 R => h v σ' H' S (k.trans k2) (R.back k.dom)
  | brk e => exact fun σ' H' S k2 => h σ' H' S (k.trans k2)
  | cont e => exact fun σ' H' S k2 => h σ' H' S (k.trans k2)
  | exn x e => exact fun cls d σ' H' S k2 => h cls d σ' H' S (k.trans k2)
  | stuck => exact h
theorem SCond.seq {f : MS} (h : SCond K ca W B σ H env D (o.seq f)) : SCond K ca W B σ H env { D with nx := tMS K ca W f D } o := by
  cases o with
  | next e => exact fun σ' H' S k => ⟨B, e, S, SCond.later k h⟩
  | ret r e => exact h
  | brk e => exact h
  | cont e => exact h
  | exn x e => exact h
  | stuck => exact h
theorem SCond.ofE {q : Out α} {f : α → En → SO} (S0 : SRel K ca B σ H env) (h : SCond K ca W B σ H env D (q.toS f)) : CondG K ca W B σ H env q fun r e H1 => SCond K ca W B σ H env D (f r e) := by
  cases q with
  | ok r e => exact fun H' P => h
  | exn x e => exact fun cls d H' P xr => h cls d σ H' P.rel (P.keep.toS P.rel S0) xr
  | stuck => exact h
end
/-! ### small statements -/
def mSkip : MS := fun e => .next e
def mSeq (a b : MS) : MS := fun e => (a e).seq b
def mExpr (m : ME) : MS := fun e => (m e).toS fun _ e1 => .next e1
def mRet (m : ME) : MS := fun e => (m e).toS fun r e1 => .ret r e1
def mRetN : MS := fun e => .ret (.val .non) e
def mBrk : MS := fun e => .brk e
def mCont : MS := fun e => .cont e
def mIfS (t : MT) (a b : MS) : MS := fun e => (t e).toS fun c e1 => if c = true then a e1 else b e1
section
variable {X : Cx} {ca : Ca} {st : Stmt} {rest sa sb : List Stmt} {m m2 : MS} {a c : Expr} {ma : ME} {mt : MT} {pos : Pos}
theorem vss_nil : VSs X ca [] mSkip := fun W tk => pssImp pss_nil fun D σ H ⟨B, env, S, h⟩ => h σ H S .refl
theorem vss_cons (h1 : VS X ca st m) (h2 : VSs X ca rest m2) : VSs X ca (st :: rest) (mSeq m m2) := fun W tk => pssImp (pss_cons (h1 W tk) (h2 W tk)) fun D σ H ⟨B, env, S, h⟩ => ⟨B, env, S, h.seq⟩
theorem vs_expr (he : VE X ca a ma) (hs : swapsWith a none pos.line X.env = pure false) : VS X ca (.Expr a pos) (mExpr ma) := fun W tk => psImp (ps_expr (he W tk) hs) fun D σ H ⟨B, env, S, h⟩ =>
  ⟨B, env, S, (h.ofE S).imp fun r e H1 P k v R => k σ H1 P.rel (P.keep.toS P.rel S)⟩
theorem vs_ret (he : VE X ca a ma) : VS X ca (.Return (some a) pos) (mRet ma) := fun W tk => psImp (ps_ret (he W tk)) fun D σ H ⟨B, env, S, h⟩ =>
  ⟨B, env, S, (h.ofE S).imp fun r e H1 P k v R => k v σ H1 P.rel (P.keep.toS P.rel S) R⟩
theorem vs_retN : VS X ca (.Return none pos) mRetN := fun W tk => psImp ps_retN fun D σ H ⟨B, env, S, h⟩ => h .non σ H S .refl .non
theorem vs_pass : VS X ca (.Pass pos) mSkip := fun W tk => psImp ps_pass fun D σ H ⟨B, env, S, h⟩ => h σ H S .refl
theorem vs_break : VS X ca (.Break pos) mBrk := fun W tk => psImp ps_break fun D σ H ⟨B, env, S, h⟩ => h σ H S .refl
theorem vs_continue : VS X ca (.Continue pos) mCont := fun W tk => psImp ps_continue fun D σ H ⟨B, env, S, h⟩ => h σ H S .refl
theorem vs_if (hc : VT X ca c mt) (ha : VSs X ca sa m) (hb : VSs X ca sb m2) : VS X ca (.If c sa sb pos) (mIfS mt m m2) := fun W tk => psImp (ps_if (hc W tk) (ha W tk) (hb W tk)) fun D σ H ⟨B, env, S, h⟩ =>
  ⟨B, env, S, (h.ofE S).imp fun c e H1 P k => by
    cases c with
    | true => exact iteT ⟨B, e, P.rel, SCond.later (P.keep.toS P.rel S) k⟩
    | false => exact iteF ⟨B, e, P.rel, SCond.later (P.keep.toS P.rel S) k⟩⟩
end
/-! ### stores to a name -/
/-- may the slot be stored to -/
def freeSlot : Option Sv → Bool
  | some (.own pm lk _) => !pm && !lk
  | some _ => true
  | none => false
def setSlot (i : Nat) (r : RV) (e : En) : SO := match r with
  | .val d => if freeSlot e[i]? = true then .next (e.set i (.val d)) else .stuck
  | .fresh c => if freeSlot e[i]? = true then .next (e.set i (.own false false c)) else .stuck
  | .bor j => (share (.bor j) e).toS fun d e1 => if freeSlot e1[i]? = true then .next (e1.set i (.val d)) else .stuck
def mSet (i : Nat) (m : ME) : MS := fun e => (m e).toS fun r e1 => setSlot i r e1
section
variable {K : PySem.W.Frag} {ca : Ca} {W : WX} {B : Addr → Prop} {σ σ1 : St} {H H1 H' : Hp} {env e : En} {Dn : Ends}
theorem free_lt {i : Nat} (f : freeSlot e[i]? = true) : i < e.length := by
  cases q : e[i]? with
  | none => rw [q] at f; cases f
  | some s => exact (List.getElem?_eq_some_iff.mp q).1
theorem own_set2 {i j : Nat} {a : Addr} {s : Sv} {x : Option V} (h : OwnAt (e.set i s) (σ.set i x) j a) (n : j ≠ i) : OwnAt e σ j a := by
  obtain ⟨⟨pm, lk, c, e1⟩, e2⟩ := h
  rw [List.getElem?_set_ne (Ne.symm n)] at e1 e2
  exact ⟨⟨pm, lk, c, e1⟩, e2⟩
/-- a name gets a datum -/
theorem set_val {i : Nat} {v : V} {d : D} (S : SRel K ca B σ H e) (f : freeSlot e[i]? = true) (R : Rep K ca (Nof B e σ) H v d) :
    SRel K ca B (σ.set i (some v)) H (e.set i (.val d)) ∧ KeepS σ H e (σ.set i (some v)) H (e.set i (.val d)) := by
  have hl : i < e.length := by
    cases q : e[i]? with
    | none => rw [q] at f; cases f
    | some s => exact (List.getElem?_eq_some_iff.mp q).1
  have hls : i < σ.length := by rw [← S.len]; exact hl
  have ow : ∀ {j a}, OwnAt (e.set i (.val d)) (σ.set i (some v)) j a → j ≠ i ∧ OwnAt e σ j a := fun {j a} h => by
    have n : j ≠ i := fun z => by
      subst z
      obtain ⟨⟨pm, lk, c, e1⟩, _⟩ := h
      rw [List.getElem?_set_self hl] at e1
      cases e1
    exact ⟨n, own_set2 h n⟩
  have less : ∀ a, Nof B (e.set i (.val d)) (σ.set i (some v)) a → Nof B e σ a := fun a z => z.imp id fun ⟨j, z⟩ => ⟨j, (ow z).2⟩
  have notpm : ∀ {j : Nat} {pm lk c}, e[j]? = some (.own pm lk c) → (pm = true ∨ lk = true) → j ≠ i := fun {j pm lk c} h z q => by
    subst q
    rw [h] at f
    rcases z with z | z <;> subst z <;> simp [freeSlot] at f
  refine ⟨⟨by rw [List.length_set, List.length_set]; exact S.len, S.dom, fun a ⟨j, z⟩ => S.sep a ⟨j, (ow z).2⟩, fun j k a z1 z2 => S.inj j k a (ow z1).2 (ow z2).2, fun j s hs => ?_, S.tabs⟩,
    ⟨by rw [List.length_set], fun j lk c h => ?_, fun j pm c h => ?_, fun a ⟨j, z⟩ => .inl ⟨j, (ow z).2⟩, fun a o h _ _ => h, fun _ h => h⟩⟩
  · rcases getElem?_set_own hs with ⟨rfl, rfl⟩ | ⟨n, z⟩
    · exact ⟨v, List.getElem?_set_self hls, R.sub (sub_less less)⟩
    · have q := S.slot j s z
      rw [List.getElem?_set_ne (Ne.symm n)]
      cases s with
      | none => trivial
      | val d => obtain ⟨x, e1, r⟩ := q; exact ⟨x, e1, r.sub (sub_less less)⟩
      | own pm lk c2 => obtain ⟨x, e1, r⟩ := q; exact ⟨x, e1, r.sub (sub_less less) rfl⟩
  · have n := notpm h (.inl rfl)
    exact ⟨⟨c, by rw [List.getElem?_set_ne (Ne.symm n)]; exact h⟩, by rw [List.getElem?_set_ne (Ne.symm n)]⟩
  · have n := notpm h (.inr rfl)
    exact ⟨by rw [List.getElem?_set_ne (Ne.symm n)]; exact h, by rw [List.getElem?_set_ne (Ne.symm n)]⟩
/-- a name gets a new object -/
theorem set_own {i : Nat} {p : Addr} {c : Ct} (S : SRel K ca (fun a => B a ∨ a = p) σ H e) (f : freeSlot e[i]? = true) (np : ¬ Nof B e σ p) (R : CRep K ca (fun a => Nof B e σ a ∨ a = p) H p c) :
    SRel K ca B (σ.set i (some (.ref p))) H (e.set i (.own false false c)) ∧ ∀ {H0 : Hp}, H0 p = none → (∀ a o, H0 a = some o → NT o → ¬ hid e σ a → H a = some o) → (∀ a, H a = none → H0 a = none) → KeepS σ H0 e (σ.set i (some (.ref p))) H (e.set i (.own false false c)) := by
  have hl : i < e.length := by
    cases q : e[i]? with
    | none => rw [q] at f; cases f
    | some s => exact (List.getElem?_eq_some_iff.mp q).1
  have hls : i < σ.length := by rw [← S.len]; exact hl
  have ow : ∀ {j a}, OwnAt (e.set i (.own false false c)) (σ.set i (some (.ref p))) j a → (j = i ∧ a = p) ∨ (j ≠ i ∧ OwnAt e σ j a) := fun {j a} h => by
    by_cases n : j = i
    · subst n
      obtain ⟨_, e2⟩ := h
      rw [List.getElem?_set_self hls] at e2
      cases e2
      exact .inl ⟨rfl, rfl⟩
    · exact .inr ⟨n, own_set2 h n⟩
  have less : ∀ a, Nof B (e.set i (.own false false c)) (σ.set i (some (.ref p))) a → Nof (fun a => B a ∨ a = p) e σ a := fun a z => by
    rcases z with z | ⟨j, z⟩
    · exact .inl (.inl z)
    · rcases ow z with ⟨_, z⟩ | ⟨_, z⟩
      · exact .inl (.inr z)
      · exact .inr ⟨j, z⟩
  have notpm : ∀ {j : Nat} {pm lk c}, e[j]? = some (.own pm lk c) → (pm = true ∨ lk = true) → j ≠ i := fun {j pm lk c} h z q => by
    subst q
    rw [h] at f
    rcases z with z | z <;> subst z <;> simp [freeSlot] at f
  refine ⟨⟨by rw [List.length_set, List.length_set]; exact S.len, fun a b => S.dom a (.inl b), fun a ⟨j, z⟩ => ?_, fun j k a z1 z2 => ?_, fun j s hs => ?_, S.tabs⟩, fun {H0} n0 kp dm =>
    ⟨by rw [List.length_set], fun j lk c h => ?_, fun j pm c h => ?_, fun a ⟨j, z⟩ => ?_, kp, dm⟩⟩
  · rcases ow z with ⟨_, z⟩ | ⟨_, z⟩
    · subst z; exact fun b => np (.inl b)
    · exact fun b => S.sep a ⟨j, z⟩ (.inl b)
  · rcases ow z1 with ⟨a1, b1⟩ | ⟨a1, b1⟩ <;> rcases ow z2 with ⟨a2, b2⟩ | ⟨a2, b2⟩
    · exact a1.trans a2.symm
    · subst b1; exact absurd (.inr ⟨k, b2⟩) np
    · subst b2; exact absurd (.inr ⟨j, b1⟩) np
    · exact S.inj j k a b1 b2
  · rcases getElem?_set_own hs with ⟨rfl, rfl⟩ | ⟨n, z⟩
    · refine ⟨p, List.getElem?_set_self hls, R.sub (sub_less fun a z => ?_) rfl⟩
      rcases less a z with (z | z) | z
      · exact .inl (.inl z)
      · exact .inr z
      · exact .inl (.inr z)
    · have q := S.slot j s z
      rw [List.getElem?_set_ne (Ne.symm n)]
      cases s with
      | none => trivial
      | val d => obtain ⟨x, e1, r⟩ := q; exact ⟨x, e1, r.sub (sub_less less)⟩
      | own pm lk c2 => obtain ⟨x, e1, r⟩ := q; exact ⟨x, e1, r.sub (sub_less less) rfl⟩
  · have n := notpm h (.inl rfl)
    exact ⟨⟨c, by rw [List.getElem?_set_ne (Ne.symm n)]; exact h⟩, by rw [List.getElem?_set_ne (Ne.symm n)]⟩
  · have n := notpm h (.inr rfl)
    exact ⟨by rw [List.getElem?_set_ne (Ne.symm n)]; exact h, by rw [List.getElem?_set_ne (Ne.symm n)]⟩
  · rcases ow z with ⟨_, z⟩ | ⟨_, z⟩
    · subst z; exact .inr n0
    · exact .inl ⟨j, z⟩
theorem setSlot_ok {i : Nat} {r : RV} {v : V} (S0 : SRel K ca B σ H env) (P : Post K ca B σ H env H1 e) (R : RRep K ca B σ H H1 e v r) (h : SCond K ca W B σ H env Dn (setSlot i r e)) : Dn.nx (σ.set i (some v)) H1 := by
  cases r with
  | val d =>
    have h' : SCond K ca W B σ H env Dn (if freeSlot e[i]? = true then .next (e.set i (.val d)) else .stuck) := h
    by_cases f : freeSlot e[i]? = true
    · rw [if_pos f] at h'
      obtain ⟨S, k⟩ := set_val P.rel f R
      exact h' _ _ S ((P.keep.toS P.rel S0).trans k)
    · rw [if_neg f] at h'; exact h'.elim
  | fresh c =>
    have h' : SCond K ca W B σ H env Dn (if freeSlot e[i]? = true then .next (e.set i (.own false false c)) else .stuck) := h
    by_cases f : freeSlot e[i]? = true
    · rw [if_pos f] at h'
      obtain ⟨p, rfl, n0, np, r, Sp⟩ := R
      obtain ⟨S, k⟩ := set_own Sp f np r
      have k1 := k (H0 := H1) 
      refine h' _ _ S ?_
      have kk := P.keep.toS P.rel S0
      refine ⟨by rw [List.length_set]; exact kk.len, fun j lk c' hj => ?_, fun j pm c' hj => ?_, fun a ha => ?_, kk.heap, kk.dom⟩
      · obtain ⟨c2, h2⟩ := P.keep.pm j lk c' hj
        have n : j ≠ i := fun z => by subst z; rw [h2] at f; simp [freeSlot] at f
        exact ⟨⟨c2, by rw [List.getElem?_set_ne (Ne.symm n)]; exact h2⟩, by rw [List.getElem?_set_ne (Ne.symm n)]⟩
      · have h2 := P.keep.lkd j pm c' hj
        have n : j ≠ i := fun z => by subst z; rw [h2] at f; simp [freeSlot] at f
        exact ⟨by rw [List.getElem?_set_ne (Ne.symm n)]; exact h2, by rw [List.getElem?_set_ne (Ne.symm n)]⟩
      · obtain ⟨j, z⟩ := ha
        by_cases n : j = i
        · subst n
          obtain ⟨⟨_, _, _, q⟩, e2⟩ := z
          have hl : j < σ.length := by rw [← P.rel.len]; exact free_lt f
          rw [List.getElem?_set_self hl] at e2
          cases e2
          exact .inr n0
        · exact kk.new a ⟨j, own_set2 z n⟩
    · rw [if_neg f] at h'; exact h'.elim
  | bor j =>
    have h' : SCond K ca W B σ H env Dn ((share (.bor j) e).toS fun d e1 => if freeSlot e1[i]? = true then .next (e1.set i (.val d)) else .stuck) := h
    have k0 := P.keep.toS P.rel S0
    obtain ⟨d, e1, P1, r, h2⟩ := share_ok ((SCond.later k0 h').ofE P.rel) P.rel R
    by_cases f : freeSlot e1[i]? = true
    · rw [if_pos f] at h2
      obtain ⟨S, k⟩ := set_val P1.rel f r
      exact h2 _ _ S ((P1.keep.toS P1.rel P.rel).trans k)
    · rw [if_neg f] at h2; exact h2.elim
end
section
variable {X : Cx} {ca : Ca} {a : Expr} {ma : ME} {pos pos' : Pos} {i : Nat} {x : Str}
theorem vs_set (hN : X.N.Nodup) (hi : X.N[i]? = some x) (hx : Loc X.env.scope x) (he : VE X ca a ma) (hs : swapsWith a (some (.Name x pos')) pos.line X.env = pure false) (hf : X.fn x = true ∨ X.env.scope.names.lookup x = some .local) :
    VS X ca (.Assign [.Name x pos'] a pos) (mSet i ma) := fun W tk => psImp (ps_set hN hi hx (he W tk) hs hf) fun D σ H ⟨B, env, S, h⟩ =>
  ⟨B, env, S, (h.ofE S).imp fun r e H1 P k v R => setSlot_ok S P R k⟩
end
end Pw

set_option maxHeartbeats 4000000
/-! PwG: own lists changed; targets; loops. -/
namespace Pw
open PySem PySem.Spec PyProof.Rows L2

section
variable {K : PySem.W.Frag} {ca : Ca} {W : WX} {B : Addr → Prop} {σ σ1 : St} {H H1 H' : Hp} {env e : En}
/-- the object of one slot changes -/
theorem mutOwn {i : Nat} {pm : Bool} {c c' : Ct} {p : Addr} {o : HO} (S : SRel K ca B σ H e) (h : e[i]? = some (.own pm false c)) (hv : σ[i]? = some (some (.ref p))) (R : CRep K ca (Nof B e σ) (upd H p o) p c') :
    Post K ca B σ H e (upd H p o) (e.set i (.own pm false c')) := by
  have hl : i < e.length := (List.getElem?_eq_some_iff.mp h).1
  have oi : OwnAt e σ i p := ⟨⟨_, _, _, h⟩, hv⟩
  have ow : ∀ {j a}, OwnAt (e.set i (.own pm false c')) σ j a → OwnAt e σ j a := fun {j a} z => by
    obtain ⟨⟨pm2, lk, c2, e1⟩, e2⟩ := z
    rcases getElem?_set_own e1 with ⟨rfl, _⟩ | ⟨n, z⟩
    · exact ⟨⟨_, _, _, h⟩, e2⟩
    · exact ⟨⟨pm2, lk, c2, z⟩, e2⟩
  have less : ∀ a, Nof B (e.set i (.own pm false c')) σ a → Nof B e σ a := fun a z => z.imp id fun ⟨j, z⟩ => ⟨j, ow z⟩
  have sb : Sub (Nof B e σ) (Nof B (e.set i (.own pm false c')) σ) H (upd H p o) := fun a u ea _ na => ⟨fun z => na (less a z), by
    rw [upd_ne (fun z => na (by subst z; exact .inr ⟨i, oi⟩))]; exact ea⟩
  refine ⟨⟨by rw [List.length_set]; exact S.len, fun a b => ?_, fun a ⟨j, z⟩ => S.sep a ⟨j, ow z⟩, fun j k a z1 z2 => S.inj j k a (ow z1) (ow z2), fun j s hs => ?_, by
      obtain ⟨p', e2, cr⟩ := S.slot i _ h
      rw [hv] at e2
      cases e2
      obtain ⟨u, hu, du⟩ := cr.dat
      exact tabs_upd hu du S.tabs⟩,
    ⟨fun j pm2 lk c2 hs => ?_, fun j lk c2 hs => ?_, fun j pm2 c2 hs => ?_, fun j s hs n => ?_, fun a u ea _ na => ?_, fun a z => ?_⟩⟩
  · by_cases z : a = p
    · subst z; rw [upd_same]; exact fun z => nomatch z
    · rw [upd_ne z]; exact S.dom a b
  · rcases getElem?_set_own hs with ⟨rfl, rfl⟩ | ⟨n, z⟩
    · exact ⟨p, hv, R.sub (sub_less less) rfl⟩
    · have q := S.slot j s z
      cases s with
      | none => trivial
      | val d => obtain ⟨x, e1, r⟩ := q; exact ⟨x, e1, r.sub sb⟩
      | own pm2 lk c2 =>
        obtain ⟨x, e1, r⟩ := q
        have nx : x ≠ p := fun y => by subst y; exact n (S.inj j i x ⟨⟨_, _, _, z⟩, e1⟩ oi)
        exact ⟨x, e1, r.sub sb (upd_ne nx)⟩
  · rcases getElem?_set_own hs with ⟨rfl, z⟩ | ⟨n, z⟩
    · cases z; exact ⟨c, h⟩
    · exact ⟨c2, z⟩
  · by_cases z : i = j
    · subst z; rw [h] at hs; cases hs; exact ⟨c', List.getElem?_set_self hl⟩
    · exact ⟨c2, by rw [List.getElem?_set_ne z]; exact hs⟩
  · by_cases z : i = j
    · subst z; rw [h] at hs; cases hs
    · rw [List.getElem?_set_ne z]; exact hs
  · by_cases z : i = j
    · subst z; exact ⟨_, List.getElem?_set_self hl, fun z => nomatch z⟩
    · exact ⟨s, by rw [List.getElem?_set_ne z]; exact hs, n⟩
  · rw [upd_ne (fun z => na (by subst z; exact ⟨i, oi⟩))]; exact ea
  · by_cases q : a = p
    · subst q; rw [upd_same] at z; cases z
    · rw [upd_ne q] at z; exact z
theorem SRel.less {B' : Addr → Prop} (S : SRel K ca B σ H e) (h : ∀ a, B' a → B a) : SRel K ca B' σ H e where
  len := S.len
  dom := fun a b => S.dom a (h a b)
  sep := fun a z b => S.sep a z (h a b)
  inj := S.inj
  slot := fun i s q => by
    have r := S.slot i s q
    have sb : ∀ a, Nof B' e σ a → Nof B e σ a := fun a z => z.imp (h a) id
    cases s with
    | none => trivial
    | val d => obtain ⟨x, e1, r⟩ := r; exact ⟨x, e1, r.sub (sub_less sb)⟩
    | own pm2 lk c2 => obtain ⟨x, e1, r⟩ := r; exact ⟨x, e1, r.sub (sub_less sb) rfl⟩
  tabs := S.tabs
/-- a hidden object changes -/
theorem SRel.mutHid {p : Addr} {o u0 : HO} (h0 : H p = some u0) (d0 : Dat u0) (S : SRel K ca (fun a => B a ∨ a = p) σ H e) : SRel K ca (fun a => B a ∨ a = p) σ (upd H p o) e where
  len := S.len
  dom := fun a b => by
    by_cases z : a = p
    · subst z; rw [upd_same]; exact fun z => nomatch z
    · rw [upd_ne z]; exact S.dom a b
  sep := S.sep
  inj := S.inj
  slot := fun i s q => by
    have r := S.slot i s q
    have sb : Sub (Nof (fun a => B a ∨ a = p) e σ) (Nof (fun a => B a ∨ a = p) e σ) H (upd H p o) := fun a u ea _ na => ⟨na, by
      rw [upd_ne (fun z => na (.inl (.inr z)))]; exact ea⟩
    cases s with
    | none => trivial
    | val d => obtain ⟨x, e1, r⟩ := r; exact ⟨x, e1, r.sub sb⟩
    | own pm2 lk c2 =>
      obtain ⟨x, e1, r⟩ := r
      refine ⟨x, e1, r.sub sb (upd_ne fun z => ?_)⟩
      subst z
      exact S.sep x ⟨i, ⟨_, _, _, q⟩, e1⟩ (.inr rfl)
  tabs := tabs_upd h0 d0 S.tabs
end
theorem XRep.sub {K : PySem.W.Frag} {ca : Ca} {N N' : Addr → Prop} {H : Hp} {cls : Value} {d : Option Addr} {x : Ex} (s : ∀ a, N' a → N a) (h : XRep K ca N H cls d x) : XRep K ca N' H cls d x := by
  obtain ⟨C, dd, fvs, h1, h2, h3, h4, h5⟩ := h
  exact ⟨C, dd, fvs, h1, h2, h3, h4, fun f => ⟨fun y e => by
    obtain ⟨v, e1, r⟩ := (h5 f).1 y e
    exact ⟨v, e1, r.sub (sub_less s)⟩, (h5 f).2⟩⟩
theorem Nof.less {B B' : Addr → Prop} {σ : St} {e : En} (h : ∀ a, B' a → B a) : ∀ a, Nof B' e σ a → Nof B e σ a := fun a z => z.imp (h a) id
/-- with more hidden -/
theorem CondG.more {K : PySem.W.Frag} {ca : Ca} {W : WX} {B B' : Addr → Prop} {σ : St} {H : Hp} {env : En} {α : Type} {o : Out α} {k k' : α → En → Hp → Prop} (b : ∀ a, B a → B' a) (h : CondG K ca W B σ H env o k)
    (i : ∀ r e H', Post K ca B' σ H env H' e → k r e H' → k' r e H') : CondG K ca W B' σ H env o k' := by
  cases o with
  | ok r e => exact fun H' P => i r e H' P (h H' ⟨P.rel.less b, P.keep⟩)
  | exn x e => exact fun cls d H' P xr => h cls d H' ⟨P.rel.less b, P.keep⟩ (xr.sub (Nof.less b))
  | stuck => exact h
/-! ### methods of a list that change it -/
abbrev GM := List D → List D → Option (D × List D)
def mutOut (g : GM) (r : RV) (ds : List D) (e : En) : Out RV := match r with
  | .bor i => match e[i]? with
    | some (.own pm false (.lst xs)) => match g xs ds with
      | some (d, ys) => .ok (.val d) (e.set i (.own pm false (.lst ys)))
      | none => .stuck
    | _ => .stuck
  | .fresh (.lst xs) => match g xs ds with
    | some (d, _) => .ok (.val d) e
    | none => .stuck
  | _ => .stuck
def isLst (r : RV) (e : En) : Bool := match view r e with
  | some (.lst _) => true
  | _ => false
def mMut (g : GM) (o : ME) (m : MA) : ME := fun e => (o e).bind fun r e1 => if isLst r e1 = true then (m e1).bind fun rs e2 => (shareAll rs e2).bind fun ds e3 => mutOut g r ds e3 else .stuck
def mMut0 (g : GM) (o : ME) : ME := fun e => (o e).bind fun r e1 => if isLst r e1 = true then mutOut g r [] e1 else .stuck
def MutV (K : PySem.W.Frag) (ca : Ca) (r : V → List V → Hp → VK → Prop) (g : GM) : Prop := ∀ (N : Addr → Prop) (H : Hp) (p : Addr) (vs ws : List V) (xs ds ys : List D) (d : D) (Q : VK),
  H p = some (.lst vs) → Reps K ca N H vs xs → Reps K ca N H ws ds → g xs ds = some (d, ys) → (∀ v zs, Reps K ca N H zs ys → Rep K ca N H v d → Q v (upd H p (.lst zs))) → r (.ref p) ws H Q
section
variable {X : Cx} {ca : Ca} {B : Addr → Prop} {σ : St} {W : WX}
/-- behind the arguments -/
theorem mut_end {r0 : V → List V → Hp → VK → Prop} {g : GM} (hm : MutV X.K ca r0 g) {H H2 : Hp} {env e : En} {v : V} {ws : List V} {ds : List D} {Q : VK} {i : Nat} (dm : ∀ a, H2 a = none → H a = none) (S : SRel X.K ca B σ H2 e) (hv : σ[i]? = some (some v)) (Rs : Reps X.K ca (Nof B e σ) H2 ws ds)
    (k : CondG X.K ca W B σ H2 e (mutOut g (.bor i) ds e) fun r e H' => ∀ v, RRep X.K ca B σ H H' e v r → Q v H') : r0 v ws H2 Q := by
  unfold mutOut at k
  dsimp only at k
  split at k
  · rename_i pm xs hi
    obtain ⟨p, e1, c⟩ := S.slot i _ hi
    rw [hv] at e1
    cases e1
    cases c with
    | @lst vs _ h r =>
      cases q : g xs ds with
      | none => rw [q] at k; exact k.elim
      | some dy =>
        obtain ⟨d, ys⟩ := dy
        rw [q] at k
        refine hm _ H2 p vs ws xs ds ys d Q h r Rs q fun v zs rz rd => ?_
        have np : ∀ a, ¬ Nof B e σ a → a ≠ p := fun a na z => na (by subst z; exact .inr ⟨i, ⟨_, _, _, hi⟩, hv⟩)
        have sb : Sub (Nof B e σ) (Nof B e σ) H2 (upd H2 p (.lst zs)) := fun a o ea _ na => ⟨na, by rw [upd_ne (np a na)]; exact ea⟩
        have P := mutOwn (o := .lst zs) S hi hv (.lst upd_same (rz.sub sb))
        exact k _ P v ((rd.sub sb).sub (sub_less fun a z => z.imp id fun ⟨j, z⟩ => by
          obtain ⟨⟨pm2, lk, c2, e1⟩, e2⟩ := z
          rcases getElem?_set_own e1 with ⟨rfl, _⟩ | ⟨n, z⟩
          · exact ⟨_, ⟨_, _, _, hi⟩, e2⟩
          · exact ⟨j, ⟨pm2, lk, c2, z⟩, e2⟩))
  · exact k.elim
theorem mut_endF {r0 : V → List V → Hp → VK → Prop} {g : GM} (hm : MutV X.K ca r0 g) {H H2 : Hp} {e : En} {p : Addr} {vs ws : List V} {xs ds : List D} {Q : VK} (S : SRel X.K ca (fun a => B a ∨ a = p) σ H2 e) (h : H2 p = some (.lst vs)) (r : Reps X.K ca (Nof (fun a => B a ∨ a = p) e σ) H2 vs xs)
    (n0 : H p = none) (Rs : Reps X.K ca (Nof (fun a => B a ∨ a = p) e σ) H2 ws ds) {env : En} (kp : Keep σ H env H2 e)
    (k : CondG X.K ca W B σ H env (mutOut g (.fresh (.lst xs)) ds e) fun r e H' => ∀ v, RRep X.K ca B σ H H' e v r → Q v H') : r0 (.ref p) ws H2 Q := by
  unfold mutOut at k
  dsimp only at k
  cases q : g xs ds with
  | none => rw [q] at k; exact k.elim
  | some dy =>
    obtain ⟨d, ys⟩ := dy
    rw [q] at k
    refine hm _ H2 p vs ws xs ds ys d Q h r Rs q fun v zs rz rd => ?_
    have sb : Sub (Nof (fun a => B a ∨ a = p) e σ) (Nof B e σ) H2 (upd H2 p (.lst zs)) := fun a o ea _ na => ⟨fun z => na (z.imp .inl id), by rw [upd_ne (fun z => na (.inl (.inr z)))]; exact ea⟩
    refine k _ ⟨(SRel.mutHid h (.inl ⟨_, rfl⟩) S).less fun a z => .inl z, kp.own, kp.pm, kp.lkd, kp.nn, fun a u ea nu na => ?_, fun a z => ?_⟩ v (rd.sub sb)
    · rw [upd_ne (fun z => by subst z; rw [n0] at ea; cases ea)]; exact kp.heap a u ea nu na
    · by_cases q : a = p
      · subst q; rw [upd_same] at z; cases z
      · rw [upd_ne q] at z; exact kp.dom a z
variable {o a : Expr} {es : List Expr} {mo ma : ME} {m : MA} {name : Str} {apos cpos : Pos} {id : String} {r0 : V → List V → Hp → VK → Prop} {g : GM}
theorem lst_ty {H1 : Hp} {e : En} {v : V} {r : RV} {H0 : Hp} (S : SRel X.K ca B σ H1 e) (R : RRep X.K ca B σ H0 H1 e v r) (c : isLst r e = true) : tyV X.K "list" v H1 := by
  unfold isLst at c
  cases q : view r e with
  | none => rw [q] at c; cases c
  | some d =>
    rw [q] at c
    cases d <;> try cases c
    obtain ⟨p, vs, rfl, h, _⟩ := vr_lst (R.view S q)
    exact .inl ⟨rfl, vs, .inl (.inl h)⟩
/-- o.name(args), o a list that changes -/
theorem ve_mut (pa : PlainAttrs "list") (slot : Slot "list" name id) (hty : typeOf (.builtin id) = pure (.type "method_descriptor")) (hr : MtR X id r0) (hm : MutV X.K ca r0 g) (ho : VE X ca o mo) (ha : VA X ca (a :: es) m)
    (hbase : attributeBase o name X.env (eval o X.env) = eval o X.env) (hfew : ((backTo cpos (starEach (a :: es) X.env)).all (fun x => !x.1) && (backToKw cpos (keywordEach [] X.env)).all (fun x => x.1.isSome) && decide ((a :: es).length + ([] : List Keyword).length + (if ([] : List Keyword).isEmpty then 0 else 1) < 30)) = true)
    (hline : (apos.endLine == cpos.line) = true) (hs : starEach (a :: es) X.env = (false, eval a X.env) :: starEach es X.env) (hplain : (backTo cpos (starEach es X.env)).any (·.1) = false) : VE X ca (.Call (.Attribute o name apos) (a :: es) [] cpos) (mMut g mo m) := fun W tk =>
  peImp (pe_bm pa slot hty hr (ho W tk) (ha W tk) hbase hfew hline hs hplain) fun σ H Q ⟨B, env, S, h⟩ => ⟨B, env, S, h.bind'.imp fun r e H1 P1 k0 v R => by
    by_cases c : isLst r e = true
    · rw [if_pos c] at k0
      have k := CondG.from P1 k0
      refine ⟨lst_ty P1.rel R c, ?_⟩
      cases r with
      | val d =>
        refine ⟨B, e, P1.rel, k.bind.imp fun rs e2 H2 P2 k2 ws Rs => ?_⟩
        obtain ⟨ds, e3, P3, Rd, k3⟩ := shareAll_ok k2.bind P2.rel Rs
        exact k3.elim
      | bor i =>
        obtain ⟨hv, _⟩ := R
        refine ⟨B, e, P1.rel, k.bind.imp fun rs e2 H2 P2 k2 ws Rs => ?_⟩
        obtain ⟨ds, e3, P3, Rd, k3⟩ := shareAll_ok k2.bind P2.rel Rs
        refine mut_end hm (H := H) (env := env) (fun a z => P1.keep.dom a (P2.keep.dom a z)) P3.rel hv Rd k3
      | fresh ct =>
        obtain ⟨p, rfl, n0, np, cr, Sp⟩ := R
        cases ct <;> try cases c
        rename_i xs
        -- the arguments, the new list hidden
        obtain ⟨o1, ho1, hd1⟩ := cr.dat
        refine ⟨fun a => B a ∨ a = p, e, Sp, CondG.more (fun a z => .inl z) (CondG.from P1 (CondG.bind' k0)) fun rs e2 H2 P2 k2 ws Rs => ?_⟩
        have PB : Post X.K ca B σ H env H2 e2 := P1.trans ⟨P2.rel.less fun a z => .inl z, P2.keep⟩
        have k2' : CondG X.K ca W (fun a => B a ∨ a = p) σ H2 e2 (shareAll rs e2) fun ds e3 H3 => CondG X.K ca W B σ H env (mutOut g (.fresh (.lst xs)) ds e3) fun r e H' => ∀ v, RRep X.K ca B σ H H' e v r → Q v H' := CondG.more (fun a z => .inl z) (CondG.from PB (CondG.bind' k2)) fun _ _ _ _ z => z
        obtain ⟨ds, e3, P3, Rd, k3⟩ := shareAll_ok k2' P2.rel Rs
        have kp := P2.keep.trans P3.keep
        have cr2 := cr.sub (N' := Nof (fun a => B a ∨ a = p) e3 σ) (fun a u ea nu na => ⟨fun z => na (by
          rcases z with (z | z) | z
          · exact .inl (.inl z)
          · exact .inr z
          · exact .inl (.inr (kp.hid z))), kp.heap a u ea nu fun z => na (.inl (.inr z))⟩) (by
          rw [ho1]; exact kp.heap p o1 ho1 hd1.nt fun z => np (.inr z))
        cases cr2 with
        | lst hp rp =>
          exact mut_endF hm P3.rel hp rp n0 Rd (P1.keep.trans kp) k3
    · rw [if_neg c] at k0; exact k0.elim⟩
theorem ve_mut0 (pa : PlainAttrs "list") (slot : Slot "list" name id) (hty : typeOf (.builtin id) = pure (.type "method_descriptor")) (hr : MtR X id r0) (hm : MutV X.K ca r0 g) (ho : VE X ca o mo)
    (hbase : attributeBase o name X.env (eval o X.env) = eval o X.env) (hline : (apos.endLine == cpos.line) = true) : VE X ca (.Call (.Attribute o name apos) [] [] cpos) (mMut0 g mo) := fun W tk =>
  peImp (pe_bm0 pa slot hty hr (ho W tk) hbase hline) fun σ H Q ⟨B, env, S, h⟩ => ⟨B, env, S, h.bind'.imp fun r e H1 P1 k0 v R => by
    by_cases c : isLst r e = true
    · rw [if_pos c] at k0
      refine ⟨lst_ty P1.rel R c, ?_⟩
      cases r with
      | val d => exact k0.elim
      | bor i => exact mut_end hm (H := H) (env := env) P1.keep.dom P1.rel R.1 .nil (CondG.from P1 k0)
      | fresh ct =>
        obtain ⟨p, rfl, n0, np, cr, Sp⟩ := R
        cases ct <;> try cases c
        have cr2 := cr.sub (N' := Nof (fun a => B a ∨ a = p) e σ) (sub_less fun a z => by
          rcases z with (z | z) | z
          · exact .inl (.inl z)
          · exact .inr z
          · exact .inl (.inr z)) rfl
        cases cr2 with
        | lst hp rp => exact mut_endF hm Sp hp rp n0 .nil P1.keep k0
    · rw [if_neg c] at k0; exact k0.elim⟩
end
/-! the methods themselves -/
def gAppend : GM := fun xs ds => match ds with
  | [d] => if xs.length < sizeLine then some (.non, xs ++ [d]) else none
  | _ => none
def gPop : GM := fun xs ds => match ds with
  | [] => match xs[xs.length - 1]? with
    | some d => some (d, xs.dropLast)
    | none => none
  | _ => none
def okPop (i : Int) : Prop := -(2 ^ 63) ≤ i ∧ i < 2 ^ 63
instance : ∀ i, Decidable (okPop i) := fun i => inferInstanceAs (Decidable (_ ∧ _))
def gPopAt : GM := fun xs ds => match ds with
  | [.int i] => if okPop i then match seqIndex? i xs.length with
    | some k => match xs[k]? with
      | some d => some (d, xs.eraseIdx k)
      | none => none
    | none => none else none
  | _ => none
def gClear : GM := fun _ ds => match ds with
  | [] => some (.non, [])
  | _ => none
section
variable {K : PySem.W.Frag} {ca : Ca}
theorem rs1 {N : Addr → Prop} {H : Hp} {d : D} {ws : List V} (h : Reps K ca N H ws [d]) : ∃ w, ws = [w] ∧ Rep K ca N H w d := by
  cases h with
  | cons r t => cases t; exact ⟨_, rfl, r⟩
theorem rs0 {N : Addr → Prop} {H : Hp} {ws : List V} (h : Reps K ca N H ws []) : ws = [] := by cases h; rfl
theorem reps_last {N : Addr → Prop} {H : Hp} {vs : List V} {xs : List D} (r : Reps K ca N H vs xs) : Reps K ca N H vs.dropLast xs.dropLast := by
  rw [List.dropLast_eq_take, List.dropLast_eq_take, r.len]
  exact r.take _
theorem mu_append : MutV K ca rAppend gAppend := fun N H p vs ws xs ds ys d Q h r rs q k => by
  unfold gAppend at q
  split at q
  · rename_i d1
    split at q
    · rename_i hl
      cases q
      obtain ⟨w, rfl, rw'⟩ := rs1 rs
      exact ⟨p, vs, w, rfl, rfl, h, by rw [r.len]; exact hl, k _ _ (r.app (.cons rw' .nil)) .non⟩
    · cases q
  · cases q
theorem mu_pop : MutV K ca rPop gPop := fun N H p vs ws xs ds ys d Q h r rs q k => by
  unfold gPop at q
  split at q
  · split at q
    · rename_i d1 e
      cases q
      cases rs0 rs
      obtain ⟨y, e1, ry⟩ := r.get e
      exact ⟨p, vs, y, rfl, rfl, h, by rw [r.len]; exact e1, k _ _ (reps_last r) ry⟩
    · cases q
  · cases q
theorem mu_popAt : MutV K ca rPopAt gPopAt := fun N H p vs ws xs ds ys d Q h r rs q k => by
  unfold gPopAt at q
  split at q
  · rename_i i
    split at q
    · rename_i ok
      split at q
      · rename_i j e
        split at q
        · rename_i d1 e1
          cases q
          obtain ⟨w, rfl, rw'⟩ := rs1 rs
          cases rw'
          obtain ⟨y, e2, ry⟩ := r.get e1
          exact ⟨p, vs, i, j, y, rfl, rfl, h, ok.1, ok.2, by rw [r.len]; exact e, e2, k _ _ (r.eraseIdx j) ry⟩
        · cases q
      · cases q
    · cases q
  · cases q
theorem mu_clear : MutV K ca rClear gClear := fun N H p vs ws xs ds ys d Q h r rs q k => by
  unfold gClear at q
  split at q
  · cases q
    cases rs0 rs
    exact ⟨p, vs, rfl, rfl, h, k _ _ .nil .non⟩
  · cases q
end
/-! ### methods that change nothing -/
def MtV (X : Cx) (ca : Ca) (id : String) (g : D → List D → Po) : Prop := ∃ r : V → List V → Hp → VK → Prop, MtR X id r ∧
  ∀ N H x xs dx ds Q kx, NDom N H → VRep X.K ca N H x dx → VReps X.K ca N H xs ds → POK X.K ca N H Q kx (g dx ds) → r x xs H Q
/-- the receiver is of the type -/
def isTy (T : String) (r : RV) (e : En) : Bool := match view r e with
  | some (.lst _) => T == "list"
  | some (.str _) => T == "str"
  | _ => false
def methOut (g : D → List D → Po) (r : RV) (rs : List RV) (e : En) : Out RV := match view r e, views rs e with
  | some d, some ds => (g d ds).out e
  | _, _ => .stuck
def mMeth (T : String) (g : D → List D → Po) (o : ME) (m : MA) : ME := fun e => (o e).bind fun r e1 => if isTy T r e1 = true then (m e1).bind fun rs e2 => methOut g (norm r) rs e2 else .stuck
section
variable {X : Cx} {ca : Ca} {B : Addr → Prop} {σ : St} {W : WX}
theorem ty_ok {T : String} {H0 H1 : Hp} {e : En} {v : V} {r : RV} (S : SRel X.K ca B σ H1 e) (R : RRep X.K ca B σ H0 H1 e v r) (c : isTy T r e = true) : tyV X.K T v H1 := by
  unfold isTy at c
  cases q : view r e with
  | none => rw [q] at c; cases c
  | some d =>
    rw [q] at c
    have R' := R.view S q
    cases d <;> try cases c
    · rw [vr_str R']; exact beq_iff_eq.mp c
    · obtain ⟨p, vs, rfl, h, _⟩ := vr_lst R'
      exact .inl ⟨beq_iff_eq.mp c, vs, .inl (.inl h)⟩
variable {o a : Expr} {es : List Expr} {mo ma : ME} {m : MA} {name : Str} {apos cpos : Pos} {T id : String} {g : D → List D → Po}
theorem ve_meth (pa : PlainAttrs T) (slot : PySem.Slot T name id) (hty : typeOf (.builtin id) = pure (.type "method_descriptor")) (hm : MtV X ca id g) (ho : VE X ca o mo) (ha : VA X ca (a :: es) m)
    (hbase : attributeBase o name X.env (eval o X.env) = eval o X.env) (hfew : ((backTo cpos (starEach (a :: es) X.env)).all (fun x => !x.1) && (backToKw cpos (keywordEach [] X.env)).all (fun x => x.1.isSome) && decide ((a :: es).length + ([] : List Keyword).length + (if ([] : List Keyword).isEmpty then 0 else 1) < 30)) = true)
    (hline : (apos.endLine == cpos.line) = true) (hs : starEach (a :: es) X.env = (false, eval a X.env) :: starEach es X.env) (hplain : (backTo cpos (starEach es X.env)).any (·.1) = false) : VE X ca (.Call (.Attribute o name apos) (a :: es) [] cpos) (mMeth T g mo m) := fun W tk => by
  obtain ⟨r0, hr, hk⟩ := hm
  refine peImp (pe_bm pa slot hty hr (ho W tk) (ha W tk) hbase hfew hline hs hplain) fun σ H Q ⟨B, env, S, h⟩ => ⟨B, env, S, h.bind.imp fun r e H1 P1 k v R => ?_⟩
  by_cases c : isTy T r e = true
  · rw [if_pos c] at k
    refine ⟨ty_ok P1.rel R c, B, e, P1.rel, k.bind.imp fun rs e2 H2 P2 k2 ws Rs => ?_⟩
    have R' := R.norm.nkeep (H1 := H) P2.keep
    unfold methOut at k2
    cases q1 : view (norm r) e2 with
    | none => rw [q1] at k2; exact k2.elim
    | some d =>
      cases q2 : views rs e2 with
      | none => rw [q1, q2] at k2; exact k2.elim
      | some ds =>
        rw [q1, q2] at k2
        exact hk _ H2 v ws d ds Q _ (fun a z => P2.rel.ndom z) (R'.view P2.rel q1) (views_ok P2.rel Rs q2) (POK.of_out (fun a z => P1.keep.dom a (P2.keep.dom a z)) P2.rel k2)
  · rw [if_neg c] at k; exact k.elim
end
end Pw

set_option maxHeartbeats 4000000
/-! PwH: targets. -/
namespace Pw
open PySem PySem.Spec PyProof.Rows L2

inductive Tg where
  | nm (i : Nat) | tp (ts : List Tg)
mutual
def Tg.set : Tg → D → En → Option En
  | .nm i, d, e => if freeSlot e[i]? = true then some (e.set i (.val d)) else none
  | .tp ts, .tup ds, e => Tg.sets ts ds e
  | .tp ts, .lst ds, e => Tg.sets ts ds e
  | .tp _, _, _ => none
def Tg.sets : List Tg → List D → En → Option En
  | [], [], e => some e
  | t :: ts, d :: ds, e => (Tg.set t d e).bind fun e1 => Tg.sets ts ds e1
  | _, _, _ => none
end
mutual
def Tg.ix : Tg → List Nat
  | .nm i => [i]
  | .tp ts => Tg.ixs ts
def Tg.ixs : List Tg → List Nat
  | [] => []
  | t :: ts => Tg.ix t ++ Tg.ixs ts
end
theorem wipe_set {σ : St} {i : Nat} {x : Option V} : ∀ {vs : List Nat}, i ∈ vs → wipe (σ.set i x) vs = wipe σ vs
  | [], h => by cases h
  | v :: vs, h => by
    unfold wipe
    by_cases q : i ∈ vs
    · rw [wipe_set q]
    · have : i = v := by
        rcases List.mem_cons.mp h with z | z
        · exact z
        · exact absurd z q
      subst this
      have aux : ∀ (vs : List Nat) (σ : St), i ∉ vs → wipe (σ.set i x) vs = (wipe σ vs).set i x := by
        intro vs
        induction vs with
        | nil => intro σ _; rfl
        | cons w ws ih =>
          intro σ hn
          unfold wipe
          rw [ih σ (fun z => hn (List.mem_cons_of_mem _ z)), List.set_comm _ _ (fun z => hn (by rw [← z]; exact List.mem_cons_self))]
      rw [aux vs σ q, List.set_set]
section
variable (K : PySem.W.Frag) (ca : Ca)
def TgEnd (B : Addr → Prop) (σ : St) (H : Hp) (e e' : En) (ix : List Nat) (Q : St → Hp → Prop) : Prop :=
  ∀ σ', SRel K ca B σ' H e' → KeepS σ H e σ' H e' → (∀ vs, (∀ i ∈ ix, i ∈ vs) → wipe σ' vs = wipe σ vs) → Q σ' H
def gTg (t : Tg) : TG := fun v σ H Q => ∃ B e d e', SRel K ca B σ H e ∧ Rep K ca (Nof B e σ) H v d ∧ t.set d e = some e' ∧ TgEnd K ca B σ H e e' t.ix Q
def gTgs (ts : List Tg) : TGs := fun vs σ H Q => ∃ B e ds e', SRel K ca B σ H e ∧ Reps K ca (Nof B e σ) H vs ds ∧ Tg.sets ts ds e = some e' ∧ TgEnd K ca B σ H e e' (Tg.ixs ts) Q
end
def VG (X : Cx) (ca : Ca) (tg : Expr) (t : Tg) : Prop := PG X tg (gTg X.K ca t)
def VGs (X : Cx) (ca : Ca) (tgs : List Expr) (ts : List Tg) : Prop := PGs X tgs (gTgs X.K ca ts)
section
variable {X : Cx} {tg : Expr} {tgs : List Expr}
theorem pgImp {t t' : TG} (h : PG X tg t) (i : ∀ v σ H Q, t' v σ H Q → t v σ H Q) : PG X tg t' := ⟨fun pins s σ H v u Q I r q => h.run pins s σ H v u Q I r (i v σ H Q q)⟩
theorem pgsImp {t t' : TGs} (h : PGs X tgs t) (i : ∀ v σ H Q, t' v σ H Q → t v σ H Q) : PGs X tgs t' := ⟨fun pins s σ H v u Q I r q => h.run pins s σ H v u Q I r (i v σ H Q q)⟩
theorem pgOr {t t' : TG} (h : PG X tg t) (h' : PG X tg t') : PG X tg fun v σ H Q => t v σ H Q ∨ t' v σ H Q := ⟨fun pins s σ H v u Q I r q => q.elim (h.run pins s σ H v u Q I r) (h'.run pins s σ H v u Q I r)⟩
variable {ca : Ca} {t : Tg} {ts : List Tg}
theorem vg_nm {i : Nat} {x : Str} {pos : Pos} (hN : X.N.Nodup) (hi : X.N[i]? = some x) (hx : Loc X.env.scope x) (hf : X.fn x = true ∨ X.env.scope.names.lookup x = some .local) : VG X ca (.Name x pos) (.nm i) :=
  pgImp (pg_name hN hi hx hf) fun v σ H Q ⟨B, e, d, e', S, R, q, k⟩ => by
    have q' : (if freeSlot e[i]? = true then some (e.set i (Sv.val d)) else none) = some e' := q
    by_cases f : freeSlot e[i]? = true
    · rw [if_pos f] at q'
      cases q'
      obtain ⟨S', k'⟩ := set_val S f R
      exact k _ S' k' fun vs hv => wipe_set (hv i (List.mem_singleton.mpr rfl))
    · rw [if_neg f] at q'; cases q'
theorem vgs_nil : VGs X ca [] [] := pgsImp pgs_nil fun vs σ H Q ⟨B, e, ds, e', S, R, q, k⟩ => by
  cases ds with
  | nil =>
    cases R
    cases (show some e = some e' from q)
    exact ⟨rfl, k σ S .refl fun _ _ => rfl⟩
  | cons d ds => cases (show none = some e' from q)
theorem vgs_cons (h1 : VG X ca tg t) (h2 : VGs X ca tgs ts) (hs : (assignEach (tg :: tgs) X.env).map (·.2) = assign tg X.env :: (assignEach tgs X.env).map (·.2)) : VGs X ca (tg :: tgs) (t :: ts) :=
  pgsImp (pgs_cons h1 h2 hs) fun vs σ H Q ⟨B, e, ds, e', S, R, q, k⟩ => by
    cases ds with
    | nil => cases (show none = some e' from q)
    | cons d ds =>
      cases R with
      | cons r rr =>
        have q' : (Tg.set t d e).bind (fun e1 => Tg.sets ts ds e1) = some e' := q
        cases z : Tg.set t d e with
        | none => rw [z] at q'; cases q'
        | some e1 =>
          rw [z] at q'
          refine ⟨_, _, rfl, B, e, d, e1, S, r, z, fun σ1 S1 k1 w1 => ⟨B, e1, ds, e', S1, rr.sub (k1.sub S), q', fun σ2 S2 k2 w2 => k σ2 S2 (k1.trans k2) fun vs hv => ?_⟩⟩
          rw [w2 vs fun i hi => hv i (List.mem_append_right _ hi), w1 vs fun i hi => hv i (List.mem_append_left _ hi)]
theorem vg_tp {es : List Expr} {kk : Nat} {pos : Pos} (hc : X.calm = true) (h : VGs X ca es ts) (hn : (assignEach es X.env).length = ts.length) (hst : (assignEach es X.env).findIdx? (·.1) = none) : VG X ca (.Tuple es kk pos) (.tp ts) :=
  pgImp (pgOr (pg_tup hc h hn hst) (pg_lst hc h hn hst)) fun v σ H Q ⟨B, e, d, e', S, R, q, k⟩ => by
    have len : ∀ {ts : List Tg} {ds : List D} {e e' : En}, Tg.sets ts ds e = some e' → ds.length = ts.length := by
      intro ts
      induction ts with
      | nil => intro ds e e' q; cases ds with
        | nil => rfl
        | cons => cases (show none = some e' from q)
      | cons t ts ih => intro ds e e' q; cases ds with
        | nil => cases (show none = some e' from q)
        | cons d ds =>
          have q' : (Tg.set t d e).bind (fun e1 => Tg.sets ts ds e1) = some e' := q
          cases z : Tg.set t d e with
          | none => rw [z] at q'; cases q'
          | some e1 => rw [z] at q'; exact congrArg (· + 1) (ih q')
    cases d with
    | tup ds =>
      cases R with
      | tup h r => exact .inl ⟨_, _, rfl, h.sq, r.len.trans (len (show Tg.sets ts ds e = some e' from q)), B, e, ds, e', S, r, q, k⟩
    | lst ds =>
      cases R with
      | lst n h r => exact .inr ⟨_, _, rfl, .inl (.inl h), r.len.trans (len (show Tg.sets ts ds e = some e' from q)), B, e, ds, e', S, r, q, k⟩
    | _ => cases (show none = some e' from q)
end
/-! ### assignments -/
def tgOut (t : Tg) (d : D) (e : En) : SO := match t.set d e with
  | some e1 => .next e1
  | none => .stuck
def mAsgT (t : Tg) (m : ME) : MS := fun e => (m e).toS fun r e1 => (share r e1).toS fun d e2 => tgOut t d e2
def putSlot (i : Nat) (d : D) (e : En) : SO := if freeSlot e[i]? = true then .next (e.set i (.val d)) else .stuck
def mPar (i j : Nat) (m : MA) : MS := fun e => (m e).toS fun rs e1 => (shareAll rs e1).toS fun ds e2 => match ds with
  | [a, b] => (putSlot i a e2).seq fun e3 => putSlot j b e3
  | _ => .stuck
def mPar3 (i j l : Nat) (m : MA) : MS := fun e => (m e).toS fun rs e1 => (shareAll rs e1).toS fun ds e2 => match ds with
  | [a, b, c] => (putSlot i a e2).seq fun e3 => (putSlot j b e3).seq fun e4 => putSlot l c e4
  | _ => .stuck
/-- o[i] = d, o one slot's own list -/
def subOut (ro ri : RV) (d : D) (e : En) : SO := match ro, ri with
  | .bor i, .val (.int k) => match e[i]? with
    | some (.own pm false (.lst xs)) => match ixN xs.length k with
      | some j => .next (e.set i (.own pm false (.lst (xs.set j d))))
      | none => .stuck
    | _ => .stuck
  | _, _ => .stuck
def mSetSub (mo mi m : ME) : MS := fun e => (m e).toS fun r e1 => (share r e1).toS fun d e2 => (mo e2).toS fun ro e3 => (mi e3).toS fun ri e4 => subOut ro (norm ri) d e4
section
variable {K : PySem.W.Frag} {ca : Ca} {W : WX} {B : Addr → Prop} {σ σ1 : St} {H H1 H' : Hp} {env e : En} {Dn : Ends}
theorem putSlot_ok {i : Nat} {d : D} {v : V} {f : En → SO} (S : SRel K ca B σ H e) (R : Rep K ca (Nof B e σ) H v d) (h : SCond K ca W B σ H e Dn ((putSlot i d e).seq f)) :
    ∃ e', SRel K ca B (σ.set i (some v)) H e' ∧ KeepS σ H e (σ.set i (some v)) H e' ∧ SCond K ca W B (σ.set i (some v)) H e' Dn (f e') := by
  unfold putSlot at h
  by_cases q : freeSlot e[i]? = true
  · rw [if_pos q] at h
    obtain ⟨S', k'⟩ := set_val S q R
    exact ⟨_, S', k', SCond.later k' h⟩
  · rw [if_neg q] at h; exact h.elim
theorem seq_next_id (o : SO) : o.seq (fun e => .next e) = o := by cases o <;> rfl
theorem putSlot_end {i : Nat} {d : D} {v : V} (S : SRel K ca B σ H e) (R : Rep K ca (Nof B e σ) H v d) (h : SCond K ca W B σ H e Dn (putSlot i d e)) : Dn.nx (σ.set i (some v)) H := by
  rw [← seq_next_id (putSlot i d e)] at h
  obtain ⟨e', S', k', q⟩ := putSlot_ok S R h
  exact q _ _ S' .refl
end
section
variable {X : Cx} {ca : Ca} {a : Expr} {ma mo mi : ME} {m : MA} {pos pos' : Pos}
theorem vs_asgT {tg : Expr} {t : Tg} (he : VE X ca a ma) (hg : VG X ca tg t) (hs : swapsWithSole [tg] a pos.line X.env = pure false) (hw : swappedStores [tg] a X.env = pure none)
    (h1 : (assignEach [tg] X.env).map (·.2) = [assign tg X.env]) : VS X ca (.Assign [tg] a pos) (mAsgT t ma) := fun W tk => psImp (ps_asg (he W tk) hg hs hw h1) fun D σ H ⟨B, env, S, h⟩ =>
  ⟨B, env, S, (h.ofE S).imp fun r e H1 P k v R => by
    have k0 := P.keep.toS P.rel S
    obtain ⟨d, e1, P1, rd, h2⟩ := share_ok ((SCond.later k0 k).ofE P.rel) P.rel R
    unfold tgOut at h2
    cases q : t.set d e1 with
    | none => rw [q] at h2; exact h2.elim
    | some e2 =>
      rw [q] at h2
      exact ⟨B, e1, d, e2, P1.rel, rd, q, fun σ' S' k' _ => h2 σ' H1 S' ((P1.keep.toS P1.rel P.rel).trans k')⟩⟩
theorem vs_par {i j : Nat} {x y : Str} {b : Expr} {px py pt : Pos} {kt k2 pt2} (hc : X.calm = true) (hN : X.N.Nodup) (hi : X.N[i]? = some x) (hj : X.N[j]? = some y) (hij : i ≠ j)
    (hx : X.env.scope.names.lookup x = some .local) (hy : X.env.scope.names.lookup y = some .local) (ha : VA X ca [a, b] m)
    (hw : swappedStores [.Tuple [.Name x px, .Name y py] kt pt] (.Tuple [a, b] k2 pt2) X.env = pure (some [x, y]))
    (hs : swapsWithSole [.Tuple [.Name x px, .Name y py] kt pt] (.Tuple [a, b] k2 pt2) pos.line X.env = pure false) : VS X ca (.Assign [.Tuple [.Name x px, .Name y py] kt pt] (.Tuple [a, b] k2 pt2) pos) (mPar i j m) := fun W tk =>
  psImp (ps_par hc hN hi hj hij hx hy (ha W tk) hw hs) fun D σ H ⟨B, env, S, h⟩ => ⟨B, env, S, (h.ofE S).imp fun rs e H1 P k vs Rs => by
    have k0 := P.keep.toS P.rel S
    obtain ⟨ds, e1, P1, rd, h2⟩ := shareAll_ok ((SCond.later k0 k).ofE P.rel) P.rel Rs
    have kk := P1.keep.toS P1.rel P.rel
    have h3 := SCond.later kk h2
    split at h3
    · rename_i a b
      cases rd with
      | cons r1 t => cases t with
        | cons r2 t => cases t with
          | nil =>
            obtain ⟨e2, S2, k2, h4⟩ := putSlot_ok P1.rel r1 h3
            exact ⟨_, _, rfl, putSlot_end S2 (r2.sub (k2.sub P1.rel)) h4⟩
    · exact h3.elim⟩
theorem vs_par3 {i j l : Nat} {x y z : Str} {b c : Expr} {px py pz pt : Pos} {kt k2 pt2} (hc : X.calm = true) (hN : X.N.Nodup) (hi : X.N[i]? = some x) (hj : X.N[j]? = some y) (hl : X.N[l]? = some z) (hij : i ≠ j) (hil : i ≠ l) (hjl : j ≠ l)
    (hx : X.env.scope.names.lookup x = some .local) (hy : X.env.scope.names.lookup y = some .local) (hz : X.env.scope.names.lookup z = some .local) (ha : VA X ca [a, b, c] m)
    (hw : swappedStores [.Tuple [.Name x px, .Name y py, .Name z pz] kt pt] (.Tuple [a, b, c] k2 pt2) X.env = pure (some [x, y, z]))
    (hs : swapsWithSole [.Tuple [.Name x px, .Name y py, .Name z pz] kt pt] (.Tuple [a, b, c] k2 pt2) pos.line X.env = pure false) : VS X ca (.Assign [.Tuple [.Name x px, .Name y py, .Name z pz] kt pt] (.Tuple [a, b, c] k2 pt2) pos) (mPar3 i j l m) := fun W tk =>
  psImp (ps_par3 hc hN hi hj hl hij hil hjl hx hy hz (ha W tk) hw hs) fun D σ H ⟨B, env, S, h⟩ => ⟨B, env, S, (h.ofE S).imp fun rs e H1 P k vs Rs => by
    have k0 := P.keep.toS P.rel S
    obtain ⟨ds, e1, P1, rd, h2⟩ := shareAll_ok ((SCond.later k0 k).ofE P.rel) P.rel Rs
    have kk := P1.keep.toS P1.rel P.rel
    have h3 := SCond.later kk h2
    split at h3
    · rename_i a b c
      cases rd with
      | cons r1 t => cases t with
        | cons r2 t => cases t with
          | cons r3 t => cases t with
            | nil =>
              obtain ⟨e2, S2, k2, h4⟩ := putSlot_ok P1.rel r1 h3
              obtain ⟨e3, S3, k3, h5⟩ := putSlot_ok S2 (r2.sub (k2.sub P1.rel)) h4
              exact ⟨_, _, _, rfl, putSlot_end S3 (r3.sub ((k2.trans k3).sub P1.rel)) h5⟩
    · exact h3.elim⟩
theorem vs_setSub {o i : Expr} (he : VE X ca a ma) (ho : VE X ca o mo) (hi : VE X ca i mi)
    (hav : ∀ v, assign (.Subscript o i pos') X.env v = (do
      let ov ← holding [v] (eval o X.env)
      let iv ← holding [v, ov] (eval i X.env)
      standAt pos'
      holding [v, ov, iv] (setItem ov iv v)
      release [v, ov, iv] []))
    (hs : swapsWithSole [.Subscript o i pos'] a pos.line X.env = pure false) (hw : swappedStores [.Subscript o i pos'] a X.env = pure none)
    (h1 : (assignEach [.Subscript o i pos'] X.env).map (·.2) = [assign (.Subscript o i pos') X.env]) : VS X ca (.Assign [.Subscript o i pos'] a pos) (mSetSub mo mi ma) := fun W tk =>
  psImp (ps_asg (he W tk) (pg_sub (ho W tk) (hi W tk) set_list hav) hs hw h1) fun D σ H ⟨B, env, S, h⟩ => ⟨B, env, S, (h.ofE S).imp fun r e H1 P k v R => by
    have k0 := P.keep.toS P.rel S
    obtain ⟨d, e1, P1, rd, h2⟩ := share_ok ((SCond.later k0 k).ofE P.rel) P.rel R
    have kk := P1.keep.toS P1.rel P.rel
    have h3 := SCond.later kk h2
    refine ⟨B, e1, P1.rel, (h3.ofE P1.rel).imp fun ro e3 H3 P3 k3 vo Ro => ?_⟩
    have k3' := SCond.later (P3.keep.toS P3.rel P1.rel) k3
    refine ⟨B, e3, P3.rel, (k3'.ofE P3.rel).imp fun ri e4 H4 P4 k4 vi Ri => ?_⟩
    have k4' := SCond.later (P4.keep.toS P4.rel P3.rel) k4
    have rd4 := (rd.sub P3.keep.sub).sub P4.keep.sub
    unfold subOut at k4'
    split at k4'
    · rename_i i kz heq
      have Ri' := Ri.norm
      rw [heq] at Ri'
      cases (show Rep X.K ca _ H4 vi (.int kz) from Ri')
      split at k4'
      · rename_i pm xs hi
        split at k4'
        · rename_i j hj
          obtain ⟨ho', s0, hs0, _⟩ := Ro
          obtain ⟨p, e1', c⟩ := P4.rel.slot _ _ hi
          rw [ho'] at e1'
          cases e1'
          cases c with
          | @lst vs _ hp rp =>
            refine ⟨p, vs, kz, j, rfl, rfl, hp, by rw [rp.len]; exact hj, ?_⟩
            have np : ∀ b, ¬ Nof B e4 σ b → b ≠ p := fun b nb z => nb (by subst z; exact .inr ⟨i, ⟨_, _, _, hi⟩, ho'⟩)
            have sb : Sub (Nof B e4 σ) (Nof B e4 σ) H4 (upd H4 p (.lst (vs.set j v))) := fun b o ea _ nb => ⟨nb, by rw [upd_ne (np b nb)]; exact ea⟩
            have PP := mutOwn (o := .lst (vs.set j v)) P4.rel hi ho' (.lst upd_same ((rp.set rd4 j).sub sb))
            exact k4' σ _ PP.rel (PP.keep.toS PP.rel P4.rel)
        · exact k4'.elim
      · exact k4'.elim
    · exact k4'.elim⟩
end
end Pw

set_option maxHeartbeats 4000000
/-! PwI: loops. -/
namespace Pw
open PySem PySem.Spec PyProof.Rows L2

/-- what is walked: the items, the slot to be locked -/
structure Wk where
  ds : List D
  lk : Option Nat
def lockE (o : Option Nat) (e : En) : En := match o with
  | some i => match e[i]? with
    | some (.own pm false c) => e.set i (.own pm true c)
    | _ => e
  | none => e
def unlockE (o : Option Nat) (e : En) : En := match o with
  | some i => match e[i]? with
    | some (.own pm true c) => e.set i (.own pm false c)
    | _ => e
  | none => e
/-- the same but for the locks -/
def LkEq : Sv → Sv → Prop
  | .none, .none => True
  | .val d, .val d' => d = d'
  | .own pm _ c, .own pm' _ c' => pm = pm' ∧ c = c'
  | _, _ => False
def EnEq (e e' : En) : Prop := e.length = e'.length ∧ ∀ (i : Nat) s, e[i]? = some s → ∃ s', e'[i]? = some s' ∧ LkEq s s'
theorem LkEq.refl : ∀ s, LkEq s s
  | .none => trivial
  | .val d => rfl
  | .own _ _ _ => ⟨rfl, rfl⟩
theorem LkEq.symm : ∀ {s t}, LkEq s t → LkEq t s
  | .none, .none, _ => trivial
  | .val d, .val _, h => Eq.symm h
  | .own _ _ _, .own _ _ _, h => ⟨h.1.symm, h.2.symm⟩
theorem EnEq.refl {e : En} : EnEq e e := ⟨rfl, fun i s h => ⟨s, h, .refl s⟩⟩
theorem EnEq.symm {e e' : En} (h : EnEq e e') : EnEq e' e := ⟨h.1.symm, fun i s q => by
  have hl : i < e'.length := (List.getElem?_eq_some_iff.mp q).1
  rw [← h.1] at hl
  obtain ⟨s', q', r⟩ := h.2 i e[i] (List.getElem?_eq_getElem hl)
  rw [q] at q'
  cases q'
  exact ⟨_, List.getElem?_eq_getElem hl, r.symm⟩⟩
theorem EnEq.set {e : En} {i : Nat} {s t : Sv} (h : e[i]? = some s) (l : LkEq s t) : EnEq e (e.set i t) := ⟨by rw [List.length_set], fun j u q => by
  by_cases z : i = j
  · subst z
    rw [h] at q; cases q
    exact ⟨t, List.getElem?_set_self (List.getElem?_eq_some_iff.mp h).1, l⟩
  · exact ⟨u, by rw [List.getElem?_set_ne z]; exact q, .refl u⟩⟩
theorem lock_eq (o : Option Nat) (e : En) : EnEq e (lockE o e) := by
  unfold lockE
  cases o with
  | none => exact .refl
  | some i =>
    dsimp only
    split
    · rename_i h; exact .set h ⟨rfl, rfl⟩
    · exact .refl
theorem unlock_eq (o : Option Nat) (e : En) : EnEq e (unlockE o e) := by
  unfold unlockE
  cases o with
  | none => exact .refl
  | some i =>
    dsimp only
    split
    · rename_i h; exact .set h ⟨rfl, rfl⟩
    · exact .refl
section
variable {K : PySem.W.Frag} {ca : Ca} {W : WX} {B : Addr → Prop} {σ σ1 σ2 : St} {H H1 H2 H' : Hp} {env e e' e1 e2 : En} {Dn : Ends}
theorem OwnAt.eqv (q : EnEq e e') {i : Nat} {a : Addr} (h : OwnAt e σ i a) : OwnAt e' σ i a := by
  obtain ⟨⟨pm, lk, c, e1⟩, e2⟩ := h
  obtain ⟨s', h', l⟩ := q.2 i _ e1
  cases s' with
  | none => exact l.elim
  | val d => exact l.elim
  | own pm' lk' c' => exact ⟨⟨_, _, _, h'⟩, e2⟩
theorem hid.eqv (q : EnEq e e') {a : Addr} (h : hid e σ a) : hid e' σ a := let ⟨i, h⟩ := h; ⟨i, h.eqv q⟩
theorem Nof.eqv (q : EnEq e e') : ∀ a, Nof B e σ a → Nof B e' σ a := fun a h => h.imp id fun z => z.eqv q
theorem SRel.eqv (q : EnEq e e') (S : SRel K ca B σ H e) : SRel K ca B σ H e' where
  len := q.1.symm.trans S.len
  dom := S.dom
  tabs := S.tabs
  sep := fun a h => S.sep a (h.eqv q.symm)
  inj := fun i j a h1 h2 => S.inj i j a (h1.eqv q.symm) (h2.eqv q.symm)
  slot := fun i s h => by
    obtain ⟨s', h', l⟩ := q.symm.2 i s h
    have r := S.slot i s' h'
    have sb : ∀ a, Nof B e' σ a → Nof B e σ a := Nof.eqv q.symm
    cases s with
    | none => trivial
    | val d => cases s' with
      | val d' =>
        cases (show d = d' from l)
        obtain ⟨x, e1, r⟩ := r
        exact ⟨x, e1, r.sub (sub_less sb)⟩
      | none => exact l.elim
      | own _ _ _ => exact l.elim
    | own pm lk c => cases s' with
      | own pm' lk' c' =>
        obtain ⟨_, hc⟩ := (show pm = pm' ∧ c = c' from l)
        subst hc
        obtain ⟨x, e1, r⟩ := r
        exact ⟨x, e1, r.sub (sub_less sb) rfl⟩
      | none => exact l.elim
      | val _ => exact l.elim
theorem RRep.eqv (q : EnEq e e') {v : V} {r : RV} {H0 : Hp} (h : RRep K ca B σ H0 H e v r) : RRep K ca B σ H0 H e' v r := by
  cases r with
  | val d => exact Rep.sub (sub_less (Nof.eqv q.symm)) h
  | fresh c =>
    obtain ⟨p, e1, n0, np, cr, S⟩ := h
    exact ⟨p, e1, n0, fun z => np (Nof.eqv q.symm _ z), cr.sub (sub_less fun a z => z.imp (Nof.eqv q.symm _) id) rfl, S.eqv q⟩
  | bor i =>
    obtain ⟨e1, s, h1, h2⟩ := h
    obtain ⟨s', h', l⟩ := q.2 i s h1
    exact ⟨e1, s', h', fun z => by subst z; cases s with
      | none => exact h2 rfl
      | val _ => exact l.elim
      | own _ _ _ => exact l.elim⟩
theorem XRep.eqv (q : EnEq e e') {cls : Value} {d : Option Addr} {x : Ex} (h : XRep K ca (Nof B e σ) H cls d x) : XRep K ca (Nof B e' σ) H cls d x := h.sub (Nof.eqv q.symm)
/-- the slot to be locked is free -/
def LkOk (o : Option Nat) (e : En) : Prop := ∀ i, o = some i → ∃ pm c, e[i]? = some (.own pm false c)
/-- a piece of work done under a lock -/
theorem KeepS.under {o : Option Nat} (lo : LkOk o e) (k : KeepS σ H (lockE o e) σ2 H2 e2) : KeepS σ H e σ2 H2 (unlockE o e2) := by
  have q1 := lock_eq o e
  have q2 := unlock_eq o e2
  have hw : ∀ {i : Nat}, o = some i → ∀ pm c, e[i]? = some (.own pm false c) → (lockE o e)[i]? = some (.own pm true c) := fun {i} ho pm c h => by
    subst ho
    unfold lockE
    simp only [h]
    exact List.getElem?_set_self (List.getElem?_eq_some_iff.mp h).1
  have hn : ∀ {j : Nat}, o ≠ some j → (lockE o e)[j]? = e[j]? := fun {j} ho => by
    unfold lockE
    cases o with
    | none => rfl
    | some i =>
      dsimp only
      split
      · exact List.getElem?_set_ne fun z => ho (by rw [z])
      · rfl
  have hn2 : ∀ {j : Nat}, o ≠ some j → (unlockE o e2)[j]? = e2[j]? := fun {j} ho => by
    unfold unlockE
    cases o with
    | none => rfl
    | some i =>
      dsimp only
      split
      · exact List.getElem?_set_ne fun z => ho (by rw [z])
      · rfl
  have hu : ∀ {i : Nat}, o = some i → ∀ pm c, e2[i]? = some (.own pm true c) → (unlockE o e2)[i]? = some (.own pm false c) := fun {i} ho pm c h => by
    subst ho
    unfold unlockE
    simp only [h]
    exact List.getElem?_set_self (List.getElem?_eq_some_iff.mp h).1
  refine ⟨(q2.1.symm.trans k.len).trans q1.1.symm, fun i lk c h => ?_, fun i pm c h => ?_, fun a h => ?_, fun a u ea nu n => k.heap a u ea nu fun z => n (z.eqv q1.symm), k.dom⟩
  · by_cases z : o = some i
    · obtain ⟨pm, c2, h0⟩ := lo i z
      rw [h] at h0
      cases h0
      obtain ⟨h1, h2⟩ := k.lkd i true c (hw z true c h)
      exact ⟨⟨c, hu z true c h1⟩, h2⟩
    · rw [← hn z] at h
      obtain ⟨⟨c', h1⟩, h2⟩ := k.pm i lk c h
      exact ⟨⟨c', by rw [hn2 z]; exact h1⟩, h2⟩
  · by_cases z : o = some i
    · obtain ⟨pm2, c2, h0⟩ := lo i z
      rw [h] at h0
      cases h0
    · rw [← hn z] at h
      obtain ⟨h1, h2⟩ := k.lkd i pm c h
      exact ⟨by rw [hn2 z]; exact h1, h2⟩
  · rcases k.new a (h.eqv q2.symm) with z | z
    · exact .inl (z.eqv q1.symm)
    · exact .inr z
end
/-! ### what is walked -/
section
variable (K : PySem.W.Frag) (ca : Ca)
/-- the iterator gives the items as long as L holds -/
def ItOk (J : It) (ds : List D) (L : (Addr → Prop) → Hp → Prop) : Prop := ∀ N H, NDom N H → L N H →
  (∀ (i : Nat) d, ds[i]? = some d → J.go i H ∧ ∀ x H', J.yld i H x H' → Ext H H' ∧ Rep K ca N H' x d) ∧ ∀ i, ds.length ≤ i → J.stop i H
/-- L holds as long as what is seen stays and what is locked -/
def WalkL (N : Addr → Prop) (σ : St) (H : Hp) (e : En) (L : (Addr → Prop) → Hp → Prop) : Prop := ∀ N2 H2, Sub N N2 H H2 →
  (∀ (i : Nat) pm c p, e[i]? = some (.own pm true c) → σ[i]? = some (some (.ref p)) → CRep K ca N2 H2 p c) → L N2 H2
def tMI (W : WX) (mi : En → Out Wk) : TI := fun σ H R => ∃ B env, SRel K ca B σ H env ∧ CondG K ca W B σ H env (mi env) fun w e H1 => ∀ J L, LkOk w.lk e → ItOk K ca J w.ds L → WalkL K ca (Nof B (lockE w.lk e) σ) σ H1 (lockE w.lk e) L → R J H1
end
def VI (X : Cx) (ca : Ca) (tg iter : Expr) (mi : En → Out Wk) : Prop := ∀ W, Takes X W → PI X tg iter (tMI X.K ca W mi)
def forL (f : D → MS) : List D → MS
  | [], e => .next e
  | d :: ds, e => match f d e with
    | .next e1 => forL f ds e1
    | .cont e1 => forL f ds e1
    | .brk e1 => .next e1
    | .ret r e1 => .ret r e1
    | .exn x e1 => .exn x e1
    | .stuck => .stuck
def SO.mapE (g : En → En) : SO → SO
  | .next e => .next (g e)
  | .ret r e => .ret r (g e)
  | .brk e => .brk (g e)
  | .cont e => .cont (g e)
  | .exn x e => .exn x (g e)
  | .stuck => .stuck
def mFor (t : Tg) (mi : En → Out Wk) (b : MS) : MS := fun e => (mi e).toS fun w e1 => (forL (fun d e => (tgOut t d e).seq b) w.ds (lockE w.lk e1)).mapE (unlockE w.lk)
section
variable {X : Cx} {ca : Ca} {tg iter : Expr} {t : Tg} {mi : En → Out Wk} {body : List Stmt} {mb : MS} {pos : Pos}
theorem piImp {w w' : TI} (h : PI X tg iter w) (i : ∀ σ H R, w' σ H R → w σ H R) : PI X tg iter w' := ⟨fun pins s σ H R I q => h.run pins s σ H R I (i σ H R q)⟩
theorem vs_for (hp : PassesOwn (model X.prog X.w) X.A X.env X.xe) (hc : X.calm = true) (hi : VI X ca tg iter mi) (hg : VG X ca tg t) (hb : VSs X ca body mb)
    (hs : ∀ x, foldedSetIterable iter X.env x = pure x) : VS X ca (.For tg iter body [] pos) (mFor t mi mb) := fun W tk =>
  psImp (ps_for hp hc (hi W tk) hg (hb W tk) hs) fun D σ H ⟨B, env, S, h⟩ => by
    refine ⟨B, env, S, (h.ofE S).imp fun w e H1 P k J L lo it wl => ?_⟩
    have k0 := P.keep.toS P.rel S
    have ql := lock_eq w.lk e
    have S1 := P.rel.eqv ql
    have lval : ∀ {σ2 : St} {H2 : Hp} {e2 : En}, SRel X.K ca B σ2 H2 e2 → KeepS σ H1 (lockE w.lk e) σ2 H2 e2 → L (Nof B e2 σ2) H2 := fun {σ2 H2 e2} S2 k2 => wl _ _ (k2.sub S1) fun i pm c p hi hp => by
      obtain ⟨h1, h2⟩ := k2.lkd i pm c hi
      obtain ⟨p', e1, cr⟩ := S2.slot i _ h1
      rw [h2, hp] at e1
      cases e1
      exact cr
    refine ⟨fun i m σ' H' => m = w.ds.length - i ∧ i ≤ w.ds.length ∧ ∃ e', SRel X.K ca B σ' H' e' ∧ KeepS σ H1 (lockE w.lk e) σ' H' e' ∧ SCond X.K ca W B σ H env D ((forL (fun d e => (tgOut t d e).seq mb) (w.ds.drop i) e').mapE (unlockE w.lk)),
      ⟨_, rfl, Nat.zero_le _, lockE w.lk e, S1, .refl, by rw [List.drop_zero]; exact k⟩, ?_⟩
    rintro i m σ' H' ⟨rfl, hle, e', S', kp, sc⟩
    obtain ⟨igo, istop⟩ := it _ _ (fun a z => S'.ndom z) (lval S' kp)
    have out : ∀ {σ3 : St} {H3 : Hp} {e3 : En}, KeepS σ H1 (lockE w.lk e) σ3 H3 e3 → KeepS σ H env σ3 H3 (unlockE w.lk e3) := fun k3 => k0.trans (k3.under lo)
    by_cases hlt : i < w.ds.length
    · have hd : w.ds[i]? = some w.ds[i] := List.getElem?_eq_getElem hlt
      obtain ⟨go, yld⟩ := igo i _ hd
      refine .inr ⟨go, _, fun σ2 H2 z => ⟨w.ds.length - (i + 1), by omega, z⟩, fun x H2 hy => ?_⟩
      obtain ⟨ex, rd⟩ := yld x H2 hy
      rw [List.drop_eq_getElem_cons hlt] at sc
      have S2 := S'.ext ex
      have kp2 : KeepS σ H1 (lockE w.lk e) σ' H2 e' := kp.trans (Keep.toS S2 S' (.ext ex))
      unfold forL tgOut at sc
      cases qt : t.set w.ds[i] e' with
      | none => rw [qt] at sc; exact sc.elim
      | some e2 =>
        rw [qt] at sc
        simp only [SO.seq_next] at sc
        refine ⟨B, e', _, e2, S2, rd, qt, fun σ3 S3 k3 _ => ⟨B, e2, S3, ?_⟩⟩
        have kp3 := kp2.trans k3
        cases qb : mb e2 with
        | next e4 =>
          rw [qb] at sc
          exact fun σ4 H4 S4 k4 => ⟨rfl, hlt, e4, S4, kp3.trans k4, sc⟩
        | cont e4 =>
          rw [qb] at sc
          exact fun σ4 H4 S4 k4 => ⟨rfl, hlt, e4, S4, kp3.trans k4, sc⟩
        | brk e4 =>
          rw [qb] at sc
          exact fun σ4 H4 S4 k4 => sc σ4 H4 (S4.eqv (unlock_eq _ _)) (out (kp3.trans k4))
        | ret r e4 =>
          rw [qb] at sc
          exact fun v σ4 H4 S4 k4 R => sc v σ4 H4 (S4.eqv (unlock_eq _ _)) (out (kp3.trans k4)) ((R.back (fun a z => P.keep.dom a (kp3.dom a z))).eqv (unlock_eq _ _))
        | exn x e4 =>
          rw [qb] at sc
          exact fun cls d σ4 H4 S4 k4 xr => sc cls d σ4 H4 (S4.eqv (unlock_eq _ _)) (out (kp3.trans k4)) (xr.eqv (unlock_eq _ _))
        | stuck => rw [qb] at sc; exact sc.elim
    · have he : i = w.ds.length := by omega
      subst he
      rw [List.drop_length] at sc
      exact .inl ⟨istop _ (Nat.le_refl _), sc σ' H' (S'.eqv (unlock_eq _ _)) (out kp)⟩
end
/-! ### lists, tuples, the script -/
theorem CondG.eqn {K : PySem.W.Frag} {ca : Ca} {W : WX} {B : Addr → Prop} {σ : St} {H : Hp} {env : En} {α : Type} {o : Out α} {k : α → En → Hp → Prop} (h : CondG K ca W B σ H env o k) : CondG K ca W B σ H env o fun r e H' => o = .ok r e ∧ k r e H' := by
  cases o with
  | ok r e => exact fun H' P => ⟨rfl, h H' P⟩
  | exn x e => exact h
  | stuck => exact h
def wkVal (d : D) : Option (List D) := match d with
  | .lst ds => some ds
  | .tup ds => some ds
  | .scr ns => some (ns.map .int)
  | _ => none
def wkOf (r : RV) (e : En) : Out Wk := match r with
  | .val d => match wkVal d with
    | some ds => .ok ⟨ds, none⟩ e
    | none => .stuck
  | .fresh c => match wkVal c.toD with
    | some ds => .ok ⟨ds, none⟩ e
    | none => .stuck
  | .bor i => match e[i]? with
    | some (.val d) => match wkVal d with
      | some ds => .ok ⟨ds, none⟩ e
      | none => .stuck
    | some (.own _ lk (.lst ds)) => .ok ⟨ds, if lk = true then none else some i⟩ e
    | _ => .stuck
def mWSeq (m : ME) : En → Out Wk := fun e => (m e).bind wkOf
def isTupR (r : RV) (e : En) : Bool := match view r e with
  | some (.tup _) => true
  | _ => false
section
variable {K : PySem.W.Frag} {ca : Ca} {B : Addr → Prop} {σ : St} {H H0 : Hp} {e : En}
theorem itl_ok {a : Addr} {ds : List D} {L : (Addr → Prop) → Hp → Prop} (h : ∀ N H, L N H → ∃ vs, SqL K H a vs ∧ Reps K ca N H vs ds) : ItOk K ca (Itl K a) ds L := fun N H nd l => by
  obtain ⟨vs, sq, r⟩ := h N H l
  refine ⟨fun i d hd => ?_, fun i hi => ⟨vs, sq, by rw [r.len]; exact hi⟩⟩
  obtain ⟨y, hy, ry⟩ := r.get hd
  refine ⟨⟨vs, y, sq, hy⟩, fun x H' hyl => ?_⟩
  obtain ⟨rfl, q⟩ := hyl
  have := q vs sq
  rw [hy] at this
  cases this
  exact ⟨fun _ _ z => z, ry⟩
theorem itt_ok {a : Addr} {ds : List D} {L : (Addr → Prop) → Hp → Prop} (h : ∀ N H, L N H → ∃ vs, SqT K H a vs ∧ Reps K ca N H vs ds) : ItOk K ca (Itt K a) ds L := fun N H nd l => by
  obtain ⟨vs, sq, r⟩ := h N H l
  refine ⟨fun i d hd => ?_, fun i hi => ⟨vs, sq, by rw [r.len]; exact hi⟩⟩
  obtain ⟨y, hy, ry⟩ := r.get hd
  refine ⟨⟨vs, y, sq, hy⟩, fun x H' hyl => ?_⟩
  obtain ⟨rfl, q⟩ := hyl
  have := q vs sq
  rw [hy] at this
  cases this
  exact ⟨fun _ _ z => z, ry⟩
/-- a datum is walked: as a list -/
theorem seqL {v : V} {d : D} {ds : List D} {N : Addr → Prop} (R : Rep K ca N H v d) (q : wkVal d = some ds) (nt : ∀ xs, d ≠ .tup xs) : ∃ a, v = .ref a ∧ ∀ N H, Rep K ca N H (.ref a) d → ∃ vs, SqL K H a vs ∧ Reps K ca N H vs ds := by
  cases d with
  | lst xs =>
    cases q
    cases R with
    | lst n h r => exact ⟨_, rfl, fun N H R => by
      cases R with
      | lst n h r => exact ⟨_, .inl (.inl h), r⟩⟩
  | scr ns =>
    cases q
    cases R with
    | scr h => exact ⟨_, rfl, fun N H R => by
      cases R with
      | scr h => exact ⟨_, h.sq, reps_ints ns⟩⟩
  | tup xs => exact absurd rfl (nt xs)
  | _ => cases q
theorem seqT {v : V} {ds : List D} {N : Addr → Prop} (R : Rep K ca N H v (.tup ds)) : ∃ a, v = .ref a ∧ ∀ N H, Rep K ca N H (.ref a) (.tup ds) → ∃ vs, SqT K H a vs ∧ Reps K ca N H vs ds := by
  cases R with
  | tup h r => exact ⟨_, rfl, fun N H R => by
    cases R with
    | tup h r => exact ⟨_, h.sq, r⟩⟩
theorem walk_rep {v : V} {d : D} (R : Rep K ca (Nof B e σ) H v d) : WalkL K ca (Nof B e σ) σ H e fun N H => Rep K ca N H v d := fun N2 H2 s _ => R.sub s
theorem walk_own {i : Nat} {pm : Bool} {c : Ct} {p : Addr} (h : e[i]? = some (.own pm true c)) (hp : σ[i]? = some (some (.ref p))) : WalkL K ca (Nof B e σ) σ H e fun N H => CRep K ca N H p c := fun N2 H2 s q => q i pm c p h hp
end
section
variable {X : Cx} {ca : Ca} {tg iter : Expr} {ma : ME}
/-- what a value that is walked gives to the loop -/
theorem wk_src {K : PySem.W.Frag} {B : Addr → Prop} {σ : St} {H H1 : Hp} {e e' : En} {r : RV} {v : V} {w : Wk} (S : SRel K ca B σ H1 e) (Rv : RRep K ca B σ H H1 e v r) (k : wkOf r e = .ok w e') :
    e' = e ∧ ∃ a L, v = .ref a ∧ LkOk w.lk e ∧ WalkL K ca (Nof B (lockE w.lk e) σ) σ H1 (lockE w.lk e) L ∧ L (Nof B e σ) H1 ∧
      (isTupR r e = true → ∀ N H, L N H → ∃ vs, SqT K H a vs ∧ Reps K ca N H vs w.ds) ∧ (isTupR r e = false → ∀ N H, L N H → ∃ vs, SqL K H a vs ∧ Reps K ca N H vs w.ds) := by
  have lk0 : LkOk none e := fun i z => nomatch z
  have val : ∀ {d : D} {ds : List D}, Rep K ca (Nof B e σ) H1 v d → wkVal d = some ds → (isTupR r e = true ↔ ∃ xs, d = .tup xs) →
      ∃ a L, v = .ref a ∧ LkOk none e ∧ WalkL K ca (Nof B (lockE none e) σ) σ H1 (lockE none e) L ∧ L (Nof B e σ) H1 ∧
      (isTupR r e = true → ∀ N H, L N H → ∃ vs, SqT K H a vs ∧ Reps K ca N H vs ds) ∧ (isTupR r e = false → ∀ N H, L N H → ∃ vs, SqL K H a vs ∧ Reps K ca N H vs ds) := fun {d ds} Rd q ht => by
    by_cases c : isTupR r e = true
    · obtain ⟨xs, rfl⟩ := ht.mp c
      cases q
      obtain ⟨a, rfl, h⟩ := seqT Rd
      exact ⟨a, _, rfl, lk0, walk_rep Rd, Rd, fun _ => h, fun z => by rw [c] at z; cases z⟩
    · obtain ⟨a, rfl, h⟩ := seqL Rd q fun xs z => c (ht.mpr ⟨xs, z⟩)
      exact ⟨a, _, rfl, lk0, walk_rep Rd, Rd, fun z => absurd z c, fun _ => h⟩
  have tt : ∀ {d : D}, view r e = some d → (isTupR r e = true ↔ ∃ xs, d = .tup xs) := fun {d} hv => by
    unfold isTupR
    rw [hv]
    cases d <;> simp
  unfold wkOf at k
  cases r with
  | val d =>
    dsimp only at k
    cases q : wkVal d with
    | none => rw [q] at k; cases k
    | some ds => rw [q] at k; cases k; exact ⟨rfl, val Rv q (tt rfl)⟩
  | fresh c =>
    dsimp only at k
    cases q : wkVal c.toD with
    | none => rw [q] at k; cases k
    | some ds => rw [q] at k; cases k; exact ⟨rfl, val (d := c.toD) (RRep.norm Rv) q (tt rfl)⟩
  | bor i =>
    dsimp only at k
    split at k
    · rename_i d hi
      cases q : wkVal d with
      | none => rw [q] at k; cases k
      | some ds =>
        rw [q] at k
        cases k
        obtain ⟨hv, _⟩ := Rv
        obtain ⟨y, e1, ry⟩ := S.slot i _ hi
        rw [hv] at e1
        cases e1
        exact ⟨rfl, val ry q (tt (by simp [view, hi]))⟩
    · rename_i pm lk ds hi
      cases k
      obtain ⟨hv, _⟩ := Rv
      obtain ⟨p, e1, cr⟩ := S.slot i _ hi
      rw [hv] at e1
      cases e1
      have c : isTupR (.bor i) e = false := by simp only [isTupR, view, hi, Ct.toD]
      have lok : ∀ N H, CRep K ca N H p (.lst ds) → ∃ vs, SqL K H p vs ∧ Reps K ca N H vs ds := fun N H cr => by
        cases cr with
        | lst h r => exact ⟨_, .inl (.inl h), r⟩
      cases lk with
      | true => exact ⟨rfl, p, _, rfl, lk0, walk_own hi hv, cr, fun z => absurd z (by rw [c]; exact Bool.false_ne_true), fun _ => lok⟩
      | false =>
        refine ⟨rfl, p, _, rfl, fun j z => ?_, walk_own (i := i) (pm := pm) ?_ hv, cr, fun z => absurd z (by rw [c]; exact Bool.false_ne_true), fun _ => lok⟩
        · cases z; exact ⟨_, _, hi⟩
        · simp only [lockE, Bool.false_eq_true, if_false, hi]
          exact List.getElem?_set_self (List.getElem?_eq_some_iff.mp hi).1
    · cases k
theorem CondG.ok_of {K : PySem.W.Frag} {W : WX} {B : Addr → Prop} {σ : St} {H : Hp} {env : En} {α : Type} {o : Out α} {k : α → En → Hp → Prop} (h : CondG K ca W B σ H env o k) (n : ∀ x e, o ≠ .exn x e) : ∃ a e, o = .ok a e := by
  cases o with
  | ok a e => exact ⟨a, e, rfl⟩
  | exn x e => exact absurd rfl (n x e)
  | stuck => exact h.elim
theorem wkOf_noexn (r : RV) (e : En) : ∀ x e', wkOf r e ≠ .exn x e' := by
  intro x e' q
  unfold wkOf at q
  split at q
  · split at q <;> cases q
  · split at q <;> cases q
  · split at q
    · split at q <;> cases q
    · cases q
    · cases q
theorem vi_seq (he : VE X ca iter ma) : VI X ca tg iter (mWSeq ma) := fun W tk => ⟨fun pins s σ H R I ⟨B, env, S, h⟩ => by
  cases q : ma env with
  | stuck =>
    have h' : CondG X.K ca W B σ H env ((ma env).bind wkOf) _ := h
    rw [q] at h'; exact h'.elim
  | exn x e =>
    have h' : CondG X.K ca W B σ H env ((ma env).bind wkOf) _ := h
    rw [q] at h'
    exact (pi_list (tg := tg) (he W tk)).run pins s σ H R I ⟨B, env, S, by rw [q]; exact h'⟩
  | ok r e =>
    by_cases c : isTupR r e = true
    · refine (pi_tup (tg := tg) (he W tk)).run pins s σ H R I ⟨B, env, S, (CondG.bind' h).eqn.imp fun r1 e1 H1 P ⟨q1, k⟩ v Rv => ?_⟩
      rw [q] at q1
      cases q1
      obtain ⟨w, e1, qw⟩ := CondG.ok_of k (wkOf_noexn r e)
      obtain ⟨rfl, a, L, rfl, lo, wl, l1, ht, _⟩ := wk_src P.rel Rv qw
      rw [qw] at k
      obtain ⟨vs, sq, _⟩ := ht c _ _ l1
      exact ⟨a, rfl, ⟨vs, sq⟩, k H1 P _ _ lo (itt_ok (ht c)) wl⟩
    · have c' : isTupR r e = false := by cases z : isTupR r e <;> simp_all
      refine (pi_list (tg := tg) (he W tk)).run pins s σ H R I ⟨B, env, S, (CondG.bind' h).eqn.imp fun r1 e1 H1 P ⟨q1, k⟩ v Rv => ?_⟩
      rw [q] at q1
      cases q1
      obtain ⟨w, e1, qw⟩ := CondG.ok_of k (wkOf_noexn r e)
      obtain ⟨rfl, a, L, rfl, lo, wl, l1, _, ht⟩ := wk_src P.rel Rv qw
      rw [qw] at k
      obtain ⟨vs, sq, _⟩ := ht c' _ _ l1
      exact ⟨a, rfl, ⟨vs, sq⟩, k H1 P _ _ lo (itl_ok (ht c')) wl⟩⟩
end
/-! ### ranges -/
def okRng (i : Int) : Prop := -(2 ^ 62) ≤ i ∧ i < 2 ^ 62
instance : ∀ i, Decidable (okRng i) := fun i => inferInstanceAs (Decidable (_ ∧ _))
def rngD (lo : Int) (n : Nat) : List D := (List.range n).map fun k => .int (lo + (k : Nat))
def rngOut1 (rs : List RV) (e : En) : Out Wk := match rs with
  | [.val (.int j)] => if okRng j then .ok ⟨rngD 0 j.toNat, none⟩ e else .stuck
  | _ => .stuck
def rngOut2 (rs : List RV) (e : En) : Out Wk := match rs with
  | [.val (.int i), .val (.int j)] => if okRng i ∧ okRng j then .ok ⟨rngD i (j - i).toNat, none⟩ e else .stuck
  | _ => .stuck
def mWRng1 (m : MA) : En → Out Wk := fun e => (m e).bind rngOut1
def mWRng2 (m : MA) : En → Out Wk := fun e => (m e).bind rngOut2
section
variable {X : Cx} {ca : Ca} {tg : Expr} {m : MA} {p pos : Pos}
theorem itr_ok {K : PySem.W.Frag} {lo : Int} {n : Nat} : ItOk K ca (Itr lo n) (rngD lo n) fun _ _ => True := fun N H nd _ => by
  refine ⟨fun i d hd => ?_, fun i hi => (by simpa [rngD] using hi : n ≤ i)⟩
  unfold rngD at hd
  rw [List.getElem?_map] at hd
  cases q : (List.range n)[i]? with
  | none => rw [q] at hd; cases hd
  | some k =>
    rw [q] at hd
    cases hd
    obtain ⟨h1, h2⟩ := List.getElem?_eq_some_iff.mp q
    rw [List.length_range] at h1
    rw [List.getElem_range] at h2
    subst h2
    refine ⟨h1, fun x H' hy => ?_⟩
    obtain ⟨rfl, rfl⟩ := hy
    exact ⟨fun _ _ z => z, .int _⟩
theorem vi_rng1 {a : Expr} (hg : Gl X "range") (hm : X.mg "range" = none) (ha : VA X ca [a] m) (hs : starEach [a] X.env = [(false, eval a X.env)]) : VI X ca tg (.Call (.Name "range" p) [a] [] pos) (mWRng1 m) := fun W tk => by
  refine piImp (pi_range1 hg hm (ha W tk) hs) fun σ H R ⟨B, env, S, h⟩ => ⟨B, env, S, h.bind'.imp fun rs e H1 P k vs Rs => ?_⟩
  unfold rngOut1 at k
  split at k
  · rename_i j
    by_cases c : okRng j
    · rw [if_pos c] at k
      cases Rs with
      | cons r t => cases t with
        | nil =>
          cases (show Rep X.K ca _ H1 _ (.int j) from r.2 H1)
          exact ⟨j, rfl, c.1, c.2, k H1 P _ _ (fun i z => nomatch z) itr_ok fun _ _ _ _ => trivial⟩
    · rw [if_neg c] at k; exact k.elim
  · exact k.elim
theorem vi_rng2 {a b : Expr} (hg : Gl X "range") (hm : X.mg "range" = none) (ha : VA X ca [a, b] m) (hs : starEach [a, b] X.env = [(false, eval a X.env), (false, eval b X.env)]) (hs2 : starEach [b] X.env = [(false, eval b X.env)]) :
    VI X ca tg (.Call (.Name "range" p) [a, b] [] pos) (mWRng2 m) := fun W tk => by
  refine piImp (pi_range2 hg hm (ha W tk) hs hs2) fun σ H R ⟨B, env, S, h⟩ => ⟨B, env, S, h.bind'.imp fun rs e H1 P k vs Rs => ?_⟩
  unfold rngOut2 at k
  split at k
  · rename_i i j
    by_cases c : okRng i ∧ okRng j
    · rw [if_pos c] at k
      cases Rs with
      | cons r t => cases t with
        | cons r2 t => cases t with
          | nil =>
            cases (show Rep X.K ca _ H1 _ (.int i) from r.2 H1)
            cases (show Rep X.K ca _ H1 _ (.int j) from r2.2 H1)
            exact ⟨i, j, rfl, ⟨c.1.1, c.1.2, c.2.1, c.2.2⟩, k H1 P _ _ (fun i z => nomatch z) itr_ok fun _ _ _ _ => trivial⟩
    · rw [if_neg c] at k; exact k.elim
  · exact k.elim
end
/-! ### enumerate -/
def enumD (n : Nat) : List D → List D
  | [] => []
  | d :: ds => .tup [.int (n : Int), d] :: enumD (n + 1) ds
theorem enumD_get : ∀ (ds : List D) (n i : Nat) (d : D), (enumD n ds)[i]? = some d → ∃ x, ds[i]? = some x ∧ d = .tup [.int ((n + i : Nat) : Int), x]
  | [], _, _, _, h => by simp [enumD] at h
  | x :: ds, n, 0, d, h => by simp [enumD] at h; exact ⟨x, rfl, by rw [← h]; rfl⟩
  | x :: ds, n, i + 1, d, h => by
    obtain ⟨y, h1, h2⟩ := enumD_get ds (n + 1) i d (by simpa [enumD] using h)
    exact ⟨y, by simpa using h1, by rw [h2]; congr 4; omega⟩
theorem enumD_len : ∀ (ds : List D) (n : Nat), (enumD n ds).length = ds.length
  | [], _ => rfl
  | _ :: ds, n => congrArg (· + 1) (enumD_len ds (n + 1))
def enumOut (rs : List RV) (e : En) : Out Wk := match rs with
  | [r] => if isTupR r e = true then .stuck else (wkOf r e).bind fun w e1 => .ok ⟨enumD 0 w.ds, w.lk⟩ e1
  | _ => .stuck
def mWEnum (m : MA) : En → Out Wk := fun e => (m e).bind enumOut
section
variable {X : Cx} {ca : Ca} {m : MA} {p pos tpos : Pos} {a : Expr} {elts : List Expr} {kk : Nat}
theorem ite_ok {K : PySem.W.Frag} {a : Addr} {ds : List D} {L : (Addr → Prop) → Hp → Prop} (h : ∀ N H, L N H → ∃ vs, SqL K H a vs ∧ Reps K ca N H vs ds) : ItOk K ca (Ite K a) (enumD 0 ds) L := fun N H nd l => by
  obtain ⟨vs, sq, r⟩ := h N H l
  refine ⟨fun i d hd => ?_, fun i hi => ⟨vs, sq, by rw [r.len]; rw [enumD_len] at hi; exact hi⟩⟩
  obtain ⟨x, hx, rfl⟩ := enumD_get ds 0 i d hd
  obtain ⟨y, hy, ry⟩ := r.get hx
  refine ⟨⟨vs, y, sq, hy⟩, fun z H' hyl => ?_⟩
  obtain ⟨T, x', rfl, n0, rfl, q⟩ := hyl
  have := q vs sq
  rw [hy] at this
  cases this
  have ex : Ext H (upd H T (.tup [.int (i : Nat), y])) := .new n0
  refine ⟨ex, .tup (.inl ⟨fun z => nd T z n0, .inl upd_same⟩) (.cons ?_ (.cons (ry.sub ex.sub) .nil))⟩
  rw [Nat.zero_add]
  exact .int _
theorem vi_enum (hg : Gl X "enumerate") (hm : X.mg "enumerate" = none) (ha : VA X ca [a] m) (hs : starEach [a] X.env = [(false, eval a X.env)]) : VI X ca (.Tuple elts kk tpos) (.Call (.Name "enumerate" p) [a] [] pos) (mWEnum m) := fun W tk => by
  refine piImp (pi_enum hg hm (ha W tk) hs) fun σ H R ⟨B, env, S, h⟩ => ⟨B, env, S, h.bind'.imp fun rs e H1 P k vs Rs => ?_⟩
  unfold enumOut at k
  split at k
  · rename_i r
    cases c : isTupR r e with
    | true => rw [if_pos c] at k; exact k.elim
    | false =>
      rw [if_neg (by rw [c]; exact Bool.false_ne_true)] at k
      cases Rs with
      | cons rr t => cases t with
        | nil =>
          obtain ⟨w, e1, qw⟩ := CondG.ok_of (CondG.bind' k) (wkOf_noexn r e)
          obtain ⟨rfl, a, L, rfl, lo, wl, l1, _, ht⟩ := wk_src P.rel (rr.2 H1) qw
          rw [qw] at k
          obtain ⟨vs, sq, _⟩ := ht c _ _ l1
          exact ⟨a, vs, rfl, sq, k H1 P _ _ lo (ite_ok (ht c)) wl⟩
  · exact k.elim
end
/-! ### zip -/
def zipD : List D → List D → List D
  | d :: ds, e :: es => .tup [d, e] :: zipD ds es
  | _, _ => []
def zipOut (rs : List RV) (e : En) : Out Wk := match rs with
  | [r, r'] => if isTupR r e = isTupR r' e then (match wkOf r e, wkOf r' e with
    | .ok w _, .ok w' _ => match w.lk, w'.lk with
      | none, o => .ok ⟨zipD w.ds w'.ds, o⟩ e
      | some i, none => .ok ⟨zipD w.ds w'.ds, some i⟩ e
      | _, _ => .stuck
    | _, _ => .stuck) else .stuck
  | _ => .stuck
end Pw

set_option maxHeartbeats 4000000
/-! PwJ: while; list comprehensions. -/
namespace Pw
open PySem PySem.Spec PyProof.Rows L2

def whileF (c : MT) (b : MS) : Nat → MS
  | 0, _ => .stuck
  | n + 1, e => (c e).toS fun t e1 => if t = true then (match b e1 with
    | .next e2 => whileF c b n e2
    | .cont e2 => whileF c b n e2
    | .brk e2 => .next e2
    | .ret r e2 => .ret r e2
    | .exn x e2 => .exn x e2
    | .stuck => .stuck) else .next e1
theorem whileF_mono {c : MT} {b : MS} : ∀ (n : Nat) (e : En), whileF c b n e ≠ .stuck → whileF c b (n + 1) e = whileF c b n e
  | 0, e, h => absurd rfl h
  | n + 1, e, h => by
    unfold whileF at h ⊢
    cases q : c e with
    | ok t e1 =>
      rw [q] at h
      simp only [Out.toS_ok] at h ⊢
      cases t with
      | false => rfl
      | true =>
        simp only [if_true] at h ⊢
        cases q2 : b e1 with
        | next e2 => rw [q2] at h; exact whileF_mono n e2 h
        | cont e2 => rw [q2] at h; exact whileF_mono n e2 h
        | brk e2 => rfl
        | ret r e2 => rfl
        | exn x e2 => rfl
        | stuck => rfl
    | exn x e1 => rfl
    | stuck => rfl
theorem whileF_more {c : MT} {b : MS} {n : Nat} {e : En} (h : whileF c b n e ≠ .stuck) : ∀ k, whileF c b (n + k) e = whileF c b n e
  | 0 => rfl
  | k + 1 => by
    have ih := whileF_more h k
    rw [← Nat.add_assoc, whileF_mono _ _ (by rw [ih]; exact h), ih]
open Classical in
noncomputable def whileM (c : MT) (b : MS) : MS := fun e => if h : ∃ n, whileF c b n e ≠ .stuck then whileF c b (Classical.choose h) e else .stuck
theorem whileM_eq {c : MT} {b : MS} {n : Nat} {e : En} (h : whileF c b n e ≠ .stuck) : whileM c b e = whileF c b n e := by
  have hx : ∃ n, whileF c b n e ≠ .stuck := ⟨n, h⟩
  unfold whileM
  rw [dif_pos hx]
  have h2 := Classical.choose_spec hx
  rcases Nat.le_total n (Classical.choose hx) with z | z
  · obtain ⟨k, hk⟩ := Nat.exists_eq_add_of_le z
    rw [hk]; exact whileF_more h k
  · obtain ⟨k, hk⟩ := Nat.exists_eq_add_of_le z
    have := whileF_more h2 k
    rw [← hk] at this
    exact this.symm
theorem whileM_stuck {c : MT} {b : MS} {e : En} (h : whileM c b e ≠ .stuck) : ∃ n, whileM c b e = whileF c b n e := by
  by_cases hx : ∃ n, whileF c b n e ≠ .stuck
  · obtain ⟨n, hn⟩ := hx
    exact ⟨n, whileM_eq hn⟩
  · exfalso; apply h; unfold whileM; rw [dif_neg hx]
theorem SCond.ofE' {K : PySem.W.Frag} {ca : Ca} {W : WX} {B : Addr → Prop} {σ σ' : St} {H H' : Hp} {env e' : En} {Dn : Ends} {α : Type} {q : Out α} {f : α → En → SO} (S' : SRel K ca B σ' H' e') (kp : KeepS σ H env σ' H' e') (h : SCond K ca W B σ H env Dn (q.toS f)) :
    CondG K ca W B σ' H' e' q fun r e H1 => SCond K ca W B σ H env Dn (f r e) := by
  cases q with
  | ok r e => exact fun H' P => h
  | exn x e => exact fun cls d H' P xr => h cls d σ' H' P.rel (kp.trans (P.keep.toS P.rel S')) xr
  | stuck => exact h
section
variable {X : Cx} {ca : Ca} {c : Expr} {mc : MT} {body : List Stmt} {mb : MS} {pos : Pos}
theorem vs_while (hp : PassesOwn (model X.prog X.w) X.A X.env X.xe) (hc : VT X ca c mc) (hb : VSs X ca body mb) : VS X ca (.While c body [] pos) (whileM mc mb) := fun W tk =>
  psImp (ps_while hp (hc W tk) (hb W tk)) fun D σ H ⟨B, env, S, h⟩ => by
    have ns : whileM mc mb env ≠ .stuck := fun z => by rw [z] at h; exact h
    obtain ⟨n, hn⟩ := whileM_stuck ns
    rw [hn] at h
    refine ⟨fun m σ' H' => ∃ e', SRel X.K ca B σ' H' e' ∧ KeepS σ H env σ' H' e' ∧ SCond X.K ca W B σ H env D (whileF mc mb m e'), ⟨n, env, S, .refl, h⟩, ?_⟩
    rintro m σ' H' ⟨e', S', kp, sc⟩
    cases m with
    | zero => exact sc.elim
    | succ m =>
      unfold whileF at sc
      refine ⟨B, e', S', (SCond.ofE' S' kp sc).imp fun t e1 H1 P k => ?_⟩
      have k1 := P.keep.toS P.rel S'
      cases t with
      | false =>
        simp only [Bool.false_eq_true, if_false] at k ⊢
        exact k σ' H1 P.rel (kp.trans k1)
      | true =>
        simp only [if_true] at k ⊢
        refine ⟨_, fun σ2 H2 z => ⟨m, Nat.lt_succ_self m, z⟩, B, e1, P.rel, ?_⟩
        have kp1 := kp.trans k1
        cases q : mb e1 with
        | next e2 =>
          rw [q] at k
          exact fun σ2 H2 S2 k2 => ⟨e2, S2, kp1.trans k2, k⟩
        | cont e2 =>
          rw [q] at k
          exact fun σ2 H2 S2 k2 => ⟨e2, S2, kp1.trans k2, k⟩
        | brk e2 =>
          rw [q] at k
          exact fun σ2 H2 S2 k2 => k σ2 H2 S2 (kp1.trans k2)
        | ret r e2 =>
          rw [q] at k
          exact fun v σ2 H2 S2 k2 R => k v σ2 H2 S2 (kp1.trans k2) (R.back kp1.dom)
        | exn x e2 =>
          rw [q] at k
          exact fun cls d σ2 H2 S2 k2 xr => k cls d σ2 H2 S2 (kp1.trans k2) xr
        | stuck => rw [q] at k; exact k.elim
end
/-! ### the block of a comprehension: its own slots wiped, put back -/
def wipeE (e : En) : List Nat → En
  | [] => e
  | v :: vs => (wipeE e vs).set v .none
def restE (e0 e : En) : List Nat → En
  | [] => e
  | v :: vs => (restE e0 e vs).set v (e0[v]?.getD .none)
theorem wipeE_len (e : En) : ∀ vs, (wipeE e vs).length = e.length
  | [] => rfl
  | v :: vs => by unfold wipeE; rw [List.length_set, wipeE_len e vs]
theorem restE_len (e0 e : En) : ∀ vs, (restE e0 e vs).length = e.length
  | [] => rfl
  | v :: vs => by unfold restE; rw [List.length_set, restE_len e0 e vs]
theorem wipeE_out {e : En} {i : Nat} : ∀ {vs : List Nat}, i ∉ vs → (wipeE e vs)[i]? = e[i]?
  | [], _ => rfl
  | v :: vs, h => by
    unfold wipeE
    rw [List.getElem?_set_ne (fun z => h (by rw [z]; exact List.mem_cons_self))]
    exact wipeE_out fun z => h (List.mem_cons_of_mem _ z)
theorem wipeE_in {e : En} {i : Nat} : ∀ {vs : List Nat} {s : Sv}, i ∈ vs → (wipeE e vs)[i]? = some s → s = .none
  | [], _, h, _ => by cases h
  | v :: vs, s, h, q => by
    unfold wipeE at q
    rcases getElem?_set_own q with ⟨_, z⟩ | ⟨n, z⟩
    · exact z
    · rcases List.mem_cons.mp h with y | y
      · exact absurd y n
      · exact wipeE_in y z
theorem restE_out {e0 e : En} {i : Nat} : ∀ {vs : List Nat}, i ∉ vs → (restE e0 e vs)[i]? = e[i]?
  | [], _ => rfl
  | v :: vs, h => by
    unfold restE
    rw [List.getElem?_set_ne (fun z => h (by rw [z]; exact List.mem_cons_self))]
    exact restE_out fun z => h (List.mem_cons_of_mem _ z)
theorem restE_in {e0 e : En} {i : Nat} (hl : e0.length = e.length) : ∀ {vs : List Nat}, i ∈ vs → (restE e0 e vs)[i]? = e0[i]?
  | [], h => by cases h
  | v :: vs, h => by
    unfold restE
    by_cases z : v = i
    · subst z
      by_cases y : v < e0.length
      · rw [List.getElem?_set_self (by rw [restE_len, ← hl]; exact y), List.getElem?_eq_getElem y]; rfl
      · rw [List.getElem?_eq_none (by rw [List.length_set, restE_len, ← hl]; omega), List.getElem?_eq_none (by omega)]
    · rw [List.getElem?_set_ne z]
      rcases List.mem_cons.mp h with y | y
      · exact absurd y.symm z
      · exact restE_in hl y
theorem wipe_out {σ : St} {i : Nat} : ∀ {vs : List Nat}, i ∉ vs → (wipe σ vs)[i]? = σ[i]?
  | [], _ => rfl
  | v :: vs, h => by
    unfold wipe
    rw [List.getElem?_set_ne (fun z => h (by rw [z]; exact List.mem_cons_self))]
    exact wipe_out fun z => h (List.mem_cons_of_mem _ z)
theorem wipe_idem {σ : St} : ∀ {ws vs : List Nat}, (∀ i ∈ vs, i ∈ ws) → wipe (wipe σ vs) ws = wipe σ ws
  | ws, [], _ => rfl
  | ws, v :: vs, h => by
    show wipe ((wipe σ vs).set v none) ws = wipe σ ws
    rw [wipe_set (h v List.mem_cons_self)]
    exact wipe_idem fun i hi => h i (List.mem_cons_of_mem _ hi)
mutual
theorem Tg.set_ix : ∀ (t : Tg) (d : D) (e e' : En), t.set d e = some e' → e'.length = e.length ∧ ∀ (i : Nat), (i ∉ t.ix → e'[i]? = e[i]?) ∧ (i ∈ t.ix → ∃ d, e'[i]? = some (.val d))
  | .nm j, d, e, e', h => by
    have q : (if freeSlot e[j]? = true then some (e.set j (Sv.val d)) else none) = some e' := h
    by_cases f : freeSlot e[j]? = true
    · rw [if_pos f] at q
      cases q
      refine ⟨List.length_set, fun i => ⟨fun n => ?_, fun y => ?_⟩⟩
      · exact List.getElem?_set_ne fun z => n (by rw [z]; exact List.mem_singleton.mpr rfl)
      · cases List.mem_singleton.mp y
        exact ⟨d, List.getElem?_set_self (free_lt f)⟩
    · rw [if_neg f] at q; cases q
  | .tp ts, .tup ds, e, e', h => Tg.sets_ix ts ds e e' h
  | .tp ts, .lst ds, e, e', h => Tg.sets_ix ts ds e e' h
  | .tp ts, .non, e, e', h => by cases h
  | .tp ts, .bl _, e, e', h => by cases h
  | .tp ts, .int _, e, e', h => by cases h
  | .tp ts, .str _, e, e', h => by cases h
  | .tp ts, .ty _, e, e', h => by cases h
  | .tp ts, .obj _ _, e, e', h => by cases h
  | .tp ts, .dct _, e, e', h => by cases h
  | .tp ts, .scr _, e, e', h => by cases h
  | .tp ts, .cls _, e, e', h => by cases h
theorem Tg.sets_ix : ∀ (ts : List Tg) (ds : List D) (e e' : En), Tg.sets ts ds e = some e' → e'.length = e.length ∧ ∀ (i : Nat), (i ∉ Tg.ixs ts → e'[i]? = e[i]?) ∧ (i ∈ Tg.ixs ts → ∃ d, e'[i]? = some (.val d))
  | [], [], e, e', h => by cases h; exact ⟨rfl, fun i => ⟨fun _ => rfl, fun z => by cases z⟩⟩
  | [], _ :: _, e, e', h => by cases h
  | _ :: _, [], e, e', h => by cases h
  | t :: ts, d :: ds, e, e', h => by
    have q : (Tg.set t d e).bind (fun e1 => Tg.sets ts ds e1) = some e' := h
    cases z : Tg.set t d e with
    | none => rw [z] at q; cases q
    | some e1 =>
      rw [z] at q
      obtain ⟨l1, h1⟩ := Tg.set_ix t d e e1 z
      obtain ⟨l2, h2⟩ := Tg.sets_ix ts ds e1 e' q
      refine ⟨l2.trans l1, fun i => ⟨fun n => ?_, fun y => ?_⟩⟩
      · rw [(h2 i).1 fun z => n (List.mem_append_right _ z), (h1 i).1 fun z => n (List.mem_append_left _ z)]
      · by_cases c : i ∈ Tg.ixs ts
        · exact (h2 i).2 c
        · rw [(h2 i).1 c]
          rcases List.mem_append.mp y with y | y
          · exact (h1 i).2 y
          · exact absurd y c
end
def isOwn : Option Sv → Bool
  | some (.own _ _ _) => true
  | _ => false
/-- the block's own names hold no object of their own -/
def okOwn (own : List Nat) (e : En) : Bool := own.all fun i => !isOwn e[i]?
theorem okOwn_not {own : List Nat} {e : En} (h : okOwn own e = true) {i : Nat} (hi : i ∈ own) {pm lk : Bool} {c : Ct} : e[i]? ≠ some (.own pm lk c) := fun z => by
  have := List.all_eq_true.mp h i hi
  rw [z] at this
  cases this
section
variable {K : PySem.W.Frag} {ca : Ca} {W : WX} {B : Addr → Prop} {σ σ1 σ2 : St} {H H1 H2 H' : Hp} {env e e' e1 e2 : En} {own : List Nat}
theorem own_unwipe {i : Nat} {pm lk : Bool} {c : Ct} (h : (wipeE e own)[i]? = some (.own pm lk c)) : i ∉ own ∧ e[i]? = some (.own pm lk c) := by
  by_cases z : i ∈ own
  · cases wipeE_in z h
  · exact ⟨z, by rw [← wipeE_out z]; exact h⟩
theorem OwnAt.unwipe {i : Nat} {a : Addr} (h : OwnAt (wipeE e own) (wipe σ own) i a) : i ∉ own ∧ OwnAt e σ i a := by
  obtain ⟨⟨pm, lk, c, h1⟩, h2⟩ := h
  obtain ⟨n, q⟩ := own_unwipe h1
  exact ⟨n, ⟨_, _, _, q⟩, by rw [← wipe_out n]; exact h2⟩
theorem SRel.wipe (S : SRel K ca B σ H e) (ok : okOwn own e = true) : SRel K ca B (L2.wipe σ own) H (wipeE e own) where
  tabs := S.tabs
  len := by rw [wipeE_len, wipe_length]; exact S.len
  dom := S.dom
  sep := fun a ⟨i, h⟩ => S.sep a ⟨i, h.unwipe.2⟩
  inj := fun i j a h1 h2 => S.inj i j a h1.unwipe.2 h2.unwipe.2
  slot := fun i s h => by
    have less : ∀ a, Nof B (wipeE e own) (L2.wipe σ own) a → Nof B e σ a := fun a z => z.imp id fun ⟨j, z⟩ => ⟨j, z.unwipe.2⟩
    by_cases z : i ∈ own
    · rw [wipeE_in z h]; trivial
    · rw [wipeE_out z] at h
      rw [wipe_out z]
      have r := S.slot i s h
      cases s with
      | none => trivial
      | val d => obtain ⟨x, e1, r⟩ := r; exact ⟨x, e1, r.sub (sub_less less)⟩
      | own pm lk c => obtain ⟨x, e1, r⟩ := r; exact ⟨x, e1, r.sub (sub_less less) rfl⟩
theorem Keep.under {o : Option Nat} (lo : LkOk o e) (k : Keep σ H (lockE o e) H2 e2) : Keep σ H e H2 (unlockE o e2) := by
  have q1 := lock_eq o e
  have q2 := unlock_eq o e2
  have hn : ∀ {j : Nat}, o ≠ some j → (lockE o e)[j]? = e[j]? := fun {j} ho => by
    unfold lockE
    cases o with
    | none => rfl
    | some i =>
      dsimp only
      split
      · exact List.getElem?_set_ne fun z => ho (by rw [z])
      · rfl
  have hn2 : ∀ {j : Nat}, o ≠ some j → (unlockE o e2)[j]? = e2[j]? := fun {j} ho => by
    unfold unlockE
    cases o with
    | none => rfl
    | some i =>
      dsimp only
      split
      · exact List.getElem?_set_ne fun z => ho (by rw [z])
      · rfl
  have at_o : ∀ {i : Nat}, o = some i → ∃ pm c, e[i]? = some (.own pm false c) ∧ (unlockE o e2)[i]? = some (.own pm false c) := fun {i} z => by
    obtain ⟨pm, c, h0⟩ := lo i z
    refine ⟨pm, c, h0, ?_⟩
    subst z
    have h1 : (lockE (some i) e)[i]? = some (.own pm true c) := by
      unfold lockE
      simp only [h0]
      exact List.getElem?_set_self (List.getElem?_eq_some_iff.mp h0).1
    have h2 := k.lkd i pm c h1
    unfold unlockE
    simp only [h2]
    exact List.getElem?_set_self (List.getElem?_eq_some_iff.mp h2).1
  refine ⟨fun i pm lk c' h => ?_, fun i lk c h => ?_, fun i pm c h => ?_, fun i s h n => ?_, fun a u ea nu n => k.heap a u ea nu fun z => n (z.eqv q1.symm), k.dom⟩
  · by_cases z : o = some i
    · obtain ⟨pm2, c2, h1, h2⟩ := at_o z
      rw [h] at h2; cases h2
      exact ⟨_, h1⟩
    · rw [hn2 z] at h
      obtain ⟨c, h1⟩ := k.own i pm lk c' h
      exact ⟨c, by rw [← hn z]; exact h1⟩
  · by_cases z : o = some i
    · obtain ⟨pm2, c2, h1, h2⟩ := at_o z
      rw [h] at h1; cases h1
      exact ⟨_, h2⟩
    · rw [← hn z] at h
      obtain ⟨c', h1⟩ := k.pm i lk c h
      exact ⟨c', by rw [hn2 z]; exact h1⟩
  · by_cases z : o = some i
    · obtain ⟨pm2, c2, h1, h2⟩ := at_o z
      rw [h] at h1; cases h1
    · rw [← hn z] at h
      rw [hn2 z]
      exact k.lkd i pm c h
  · by_cases z : o = some i
    · obtain ⟨pm2, c2, h1, h2⟩ := at_o z
      exact ⟨_, h2, fun z => nomatch z⟩
    · rw [← hn z] at h
      rw [hn2 z]
      exact k.nn i s h n
/-- one turn of the block, seen from its start -/
theorem blk_step {t : Tg} {d : D} {σw : St} {ew e4 : En} {H4 : Hp} (hix : ∀ i ∈ t.ix, i ∈ own) (hn : ∀ {i : Nat} {pm lk c}, i ∈ own → ew[i]? ≠ some (.own pm lk c)) (hnn : ∀ {i : Nat} {s : Sv}, i ∈ own → ew[i]? = some s → s = .none)
    (kp : Keep σw H1 ew H' e') (ex : Ext H' H2) (qt : t.set d e' = some e1) (hw : L2.wipe σ2 own = σw) (S4 : SRel K ca B σ2 H4 e4) (k4 : Keep σ2 H2 e1 H4 e4) :
    SRel K ca B σw H4 (wipeE e4 own) ∧ Keep σw H1 ew H4 (wipeE e4 own) ∧ (∀ a, Nof B (wipeE e4 own) σw a → Nof B e4 σ2 a) ∧ Sub (Nof B e' σw) (Nof B (wipeE e4 own) σw) H' H4 := by
  obtain ⟨hl, ht⟩ := Tg.set_ix t d e' e1 qt
  have so : ∀ {i : Nat}, i ∉ own → σ2[i]? = σw[i]? := fun {i} z => by rw [← hw, wipe_out z]
  have o1 : ∀ {i : Nat} {pm lk c}, e1[i]? = some (.own pm lk c) → i ∉ own ∧ e'[i]? = some (.own pm lk c) := fun {i pm lk c} h => by
    by_cases z : i ∈ t.ix
    · obtain ⟨d, q⟩ := (ht i).2 z
      rw [h] at q; cases q
    · rw [(ht i).1 z] at h
      refine ⟨fun y => ?_, h⟩
      obtain ⟨c0, h0⟩ := kp.own i pm lk c h
      exact hn y h0
  have hid1 : ∀ {a}, hid e1 σ2 a → hid e' σw a := fun {a} ⟨i, ⟨pm, lk, c, h1⟩, h2⟩ => by
    obtain ⟨n, q⟩ := o1 h1
    exact ⟨i, ⟨_, _, _, q⟩, by rw [← so n]; exact h2⟩
  have nt : ∀ {i : Nat}, i ∉ own → e1[i]? = e'[i]? := fun {i} n => (ht i).1 fun z => n (hix i z)
  have ok4 : okOwn own e4 = true := List.all_eq_true.mpr fun i hi => by
    cases q : e4[i]? with
    | none => rfl
    | some s => cases s with
      | none => rfl
      | val d => rfl
      | own pm lk c =>
        obtain ⟨c0, h0⟩ := k4.own i pm lk c q
        exact absurd hi (o1 h0).1
  have S6 := S4.wipe ok4
  rw [hw] at S6
  have less : ∀ a, Nof B (wipeE e4 own) σw a → Nof B e4 σ2 a := fun a z => z.imp id fun ⟨j, ⟨pm, lk, c, h1⟩, h2⟩ => by
    obtain ⟨n, q⟩ := own_unwipe h1
    exact ⟨j, ⟨_, _, _, q⟩, by rw [so n]; exact h2⟩
  refine ⟨S6, ⟨fun i pm lk c h => ?_, fun i lk c h => ?_, fun i pm c h => ?_, fun i s h n => ?_, fun a o ea nt2 n => ?_, fun a h => kp.dom a (ex.back (k4.dom a h))⟩, less, fun a o ea nt2 n => ⟨fun z => ?_, ?_⟩⟩
  · obtain ⟨n, q⟩ := own_unwipe h
    obtain ⟨c1, h1⟩ := k4.own i pm lk c q
    obtain ⟨_, h2⟩ := o1 h1
    exact kp.own i pm lk c1 h2
  · have n : i ∉ own := fun z => hn z h
    obtain ⟨c1, h1⟩ := kp.pm i lk c h
    rw [← nt n] at h1
    obtain ⟨c2, h2⟩ := k4.pm i lk c1 h1
    exact ⟨c2, by rw [wipeE_out n]; exact h2⟩
  · have n : i ∉ own := fun z => hn z h
    have h1 := kp.lkd i pm c h
    rw [← nt n] at h1
    rw [wipeE_out n]
    exact k4.lkd i pm c h1
  · have z : i ∉ own := fun z => n (hnn z h)
    obtain ⟨s1, h1, n1⟩ := kp.nn i s h n
    rw [← nt z] at h1
    rw [wipeE_out z]
    exact k4.nn i s1 h1 n1
  · exact k4.heap a o (ex a o (kp.heap a o ea nt2 n)) nt2 fun z => n (kp.hid (hid1 z))
  · rcases less a z with z | z
    · exact n (.inl z)
    · obtain ⟨j, ⟨pm, lk, c, h1⟩, h2⟩ := z
      obtain ⟨c1, h1⟩ := k4.own j pm lk c h1
      exact n (.inr (hid1 ⟨j, ⟨_, _, _, h1⟩, h2⟩))
  · exact k4.heap a o (ex a o ea) nt2 fun z => n (.inr (hid1 z))
/-- the block left: its names' slots put back -/
theorem blk_end {B' : Addr → Prop} {ef : En} (S1 : SRel K ca B σ H1 e1) (ok : okOwn own e1 = true) (hB : ∀ a, B a → B' a) (hB' : ∀ a, B' a → B a ∨ H1 a = none)
    (kp : Keep (L2.wipe σ own) H1 (wipeE e1 own) H' ef) (S : SRel K ca B' (L2.wipe σ own) H' ef) :
    SRel K ca B' σ H' (restE e1 ef own) ∧ Keep σ H1 e1 H' (restE e1 ef own) ∧ ∀ a, Nof B' (restE e1 ef own) σ a → Nof B' ef (L2.wipe σ own) a := by
  have hl : e1.length = ef.length := by rw [S.len, wipe_length]; exact S1.len
  have o1 : ∀ {i : Nat} {pm lk c}, (restE e1 ef own)[i]? = some (.own pm lk c) → i ∉ own ∧ ef[i]? = some (.own pm lk c) := fun {i pm lk c} h => by
    by_cases z : i ∈ own
    · rw [restE_in hl z] at h
      exact absurd h (okOwn_not ok z)
    · exact ⟨z, by rw [← restE_out z]; exact h⟩
  have ow : ∀ {i a}, OwnAt (restE e1 ef own) σ i a → OwnAt ef (L2.wipe σ own) i a := fun {i a} ⟨⟨pm, lk, c, h1⟩, h2⟩ => by
    obtain ⟨n, q⟩ := o1 h1
    exact ⟨⟨_, _, _, q⟩, by rw [wipe_out n]; exact h2⟩
  have h1 : ∀ {a}, hid ef (L2.wipe σ own) a → hid e1 σ a := fun {a} z => by
    obtain ⟨i, z⟩ := kp.hid z
    exact ⟨i, z.unwipe.2⟩
  have less : ∀ a, Nof B' (restE e1 ef own) σ a → Nof B' ef (L2.wipe σ own) a := fun a z => z.imp id fun ⟨i, z⟩ => ⟨i, ow z⟩
  have heap : ∀ a o, H1 a = some o → NT o → ¬ hid e1 σ a → H' a = some o := fun a o ea nu n => kp.heap a o ea nu fun ⟨i, z⟩ => n ⟨i, z.unwipe.2⟩
  refine ⟨⟨by rw [restE_len, ← hl]; exact S1.len, S.dom, fun a ⟨i, z⟩ => S.sep a ⟨i, ow z⟩, fun i j a z1 z2 => S.inj i j a (ow z1) (ow z2), fun i s h => ?_, S.tabs⟩,
    ⟨fun i pm lk c h => ?_, fun i lk c h => ?_, fun i pm c h => ?_, fun i s h n => ?_, heap, kp.dom⟩, less⟩
  · by_cases z : i ∈ own
    · rw [restE_in hl z] at h
      have r := S1.slot i s h
      cases s with
      | none => trivial
      | own pm lk c => exact absurd h (okOwn_not ok z)
      | val d =>
        obtain ⟨x, e1', r⟩ := r
        refine ⟨x, e1', r.sub fun a o ea nu n => ⟨fun y => ?_, heap a o ea nu fun y => n (.inr y)⟩⟩
        rcases less a y with y | y
        · rcases hB' a y with y | y
          · exact n (.inl y)
          · rw [ea] at y; cases y
        · exact n (.inr (h1 y))
    · rw [restE_out z] at h
      have r := S.slot i s h
      rw [wipe_out z] at r
      cases s with
      | none => trivial
      | val d => obtain ⟨x, e1', r⟩ := r; exact ⟨x, e1', r.sub (sub_less less)⟩
      | own pm lk c => obtain ⟨x, e1', r⟩ := r; exact ⟨x, e1', r.sub (sub_less less) rfl⟩
  · obtain ⟨n, q⟩ := o1 h
    obtain ⟨c0, h0⟩ := kp.own i pm lk c q
    exact ⟨c0, (own_unwipe h0).2⟩
  · have n : i ∉ own := fun z => okOwn_not ok z h
    rw [← wipeE_out (e := e1) n] at h
    obtain ⟨c', h'⟩ := kp.pm i lk c h
    exact ⟨c', by rw [restE_out n]; exact h'⟩
  · have n : i ∉ own := fun z => okOwn_not ok z h
    rw [← wipeE_out (e := e1) n] at h
    rw [restE_out n]
    exact kp.lkd i pm c h
  · by_cases z : i ∈ own
    · exact ⟨s, by rw [restE_in hl z]; exact h, n⟩
    · rw [← wipeE_out (e := e1) z] at h
      rw [restE_out z]
      exact kp.nn i s h n
end
end Pw

set_option maxHeartbeats 4000000
/-! PwK: list comprehensions. -/
namespace Pw
open PySem PySem.Spec PyProof.Rows L2

def VTs (X : Cx) (ca : Ca) (ifs : List Expr) (m : MT) : Prop := ∀ W, Takes X W → PTs X ifs (tMT X.K ca W m)
def mYes : MT := fun e => .ok true e
section
variable {X : Cx} {ca : Ca}
theorem vts_nil : VTs X ca [] mYes := fun W tk => ⟨fun pins s σ H Q I ⟨B, env, S, h⟩ => pts_nil.run pins s σ H Q I (h.now (.refl S))⟩
theorem vts_one {c : Expr} {mt : MT} (h : VT X ca c mt) : VTs X ca [c] mt := fun W tk => pts_one (h W tk)
end
def lcL (t : Tg) (tt : MT) (te : ME) (own : List Nat) : List D → List D → En → Option (List D × En)
  | [], acc, e => some (acc, e)
  | d :: ds, acc, e => match t.set d e with
    | none => none
    | some e1 => match tt e1 with
      | .ok true e2 => match (te e2).bind share with
        | .ok y e3 => if acc.length < sizeLine then lcL t tt te own ds (acc ++ [y]) (wipeE e3 own) else none
        | _ => none
      | .ok false e2 => lcL t tt te own ds acc (wipeE e2 own)
      | _ => none
def mLc (own : List Nat) (t : Tg) (mi : En → Out Wk) (tt : MT) (te : ME) : ME := fun e => (mi e).bind fun w e1 =>
  if okOwn own (lockE w.lk e1) = true then match lcL t tt te own w.ds [] (wipeE (lockE w.lk e1) own) with
    | some (acc, ef) => .ok (.fresh (.lst acc)) (unlockE w.lk (restE (lockE w.lk e1) ef own))
    | none => .stuck
  else .stuck
section
variable {K : PySem.W.Frag} {ca : Ca} {W Wf : WX} {σ : St} {H : Hp} {Q : VK} {t : Tg} {own : List Nat} {mi : En → Out Wk} {tt : MT} {te : ME} {B : Addr → Prop} {env : En}
theorem lc_tlc (hix : ∀ i ∈ t.ix, i ∈ own) (S : SRel K ca B σ H env) (h : CondG K ca W B σ H env (mLc own t mi tt te env) fun r e H' => ∀ v, RRep K ca B σ H H' e v r → Q v H') :
    tLc (tMI K ca W mi) (gTg K ca t) (tMT K ca Wf tt) (tM K ca Wf te) own σ H Q := by
  refine ⟨B, env, S, (CondG.bind' h).imp fun w e1 H1 P k J L lo it wl => ?_⟩
  intro Dd hD
  by_cases ok : okOwn own (lockE w.lk e1) = true
  case neg => rw [if_neg ok] at k; exact k.elim
  rw [if_pos ok] at k
  cases ql : lcL t tt te own w.ds [] (wipeE (lockE w.lk e1) own) with
  | none => rw [ql] at k; exact k.elim
  | some af =>
  obtain ⟨accF, ef⟩ := af
  rw [ql] at k
  have S1 := P.rel.eqv (lock_eq w.lk e1)
  have exD : Ext H1 (upd H1 Dd (.lst [])) := .new hD
  have Ss := (S1.hide exD hD (by rw [upd_same]; exact fun z => nomatch z)).wipe ok
  have hn : ∀ {i : Nat} {pm lk : Bool} {c : Ct}, i ∈ own → (wipeE (lockE w.lk e1) own)[i]? ≠ some (.own pm lk c) := fun {i pm lk c} hi z => (own_unwipe z).1 hi
  have hnn : ∀ {i : Nat} {s : Sv}, i ∈ own → (wipeE (lockE w.lk e1) own)[i]? = some s → s = .none := fun {i s} hi z => wipeE_in hi z
  refine ⟨fun i m H' => m = w.ds.length - i ∧ i ≤ w.ds.length ∧ ∃ e' acc accV, SRel K ca (fun a => B a ∨ a = Dd) (wipe σ own) H' e' ∧ Keep (wipe σ own) H1 (wipeE (lockE w.lk e1) own) H' e' ∧ H' Dd = some (.lst accV) ∧
    Reps K ca (Nof (fun a => B a ∨ a = Dd) e' (wipe σ own)) H' accV acc ∧ lcL t tt te own (w.ds.drop i) acc e' = some (accF, ef),
    ⟨_, rfl, Nat.zero_le _, _, [], [], Ss, .ext exD, upd_same, .nil, by rw [List.drop_zero]; exact ql⟩, ?_⟩
  rintro i m H' ⟨rfl, hle, e', acc, accV, S', kp, hDd, ra, sc⟩
  have lv : L (Nof (fun a => B a ∨ a = Dd) e' (wipe σ own)) H' := wl _ _ (fun a o ea nu n => ⟨fun z => by
      rcases z with (z | z) | z
      · exact n (.inl z)
      · subst z; rw [hD] at ea; cases ea
      · obtain ⟨j, z⟩ := kp.hid z
        exact n (.inr ⟨j, z.unwipe.2⟩), kp.heap a o ea nu fun ⟨j, z⟩ => n (.inr ⟨j, z.unwipe.2⟩)⟩) fun j pm c p hi hp => by
    have nj : j ∉ own := fun z => okOwn_not ok z hi
    have h1 := kp.lkd j pm c (by rw [wipeE_out nj]; exact hi)
    obtain ⟨p', e2, cr⟩ := S'.slot j _ h1
    rw [wipe_out nj, hp] at e2
    cases e2
    exact cr
  obtain ⟨igo, istop⟩ := it _ _ (fun a z => S'.ndom z) lv
  by_cases hlt : i < w.ds.length
  · have hd : w.ds[i]? = some w.ds[i] := List.getElem?_eq_getElem hlt
    obtain ⟨go, yld⟩ := igo i _ hd
    refine .inr ⟨go, _, fun H2 z => ⟨w.ds.length - (i + 1), by omega, z⟩, fun x H2 hy => ?_⟩
    obtain ⟨ex, rd⟩ := yld x H2 hy
    rw [List.drop_eq_getElem_cons hlt] at sc
    unfold lcL at sc
    cases qt : t.set w.ds[i] e' with
    | none => rw [qt] at sc; cases sc
    | some e2 =>
    rw [qt] at sc
    dsimp only at sc
    refine ⟨_, e', _, e2, S'.ext ex, rd, qt, fun σ2 S2 k2 hw => ⟨(hw own hix).trans (wipe_idem fun i hi => hi), _, e2, S2, ?_⟩⟩
    have hw' : wipe σ2 own = wipe σ own := (hw own hix).trans (wipe_idem fun i hi => hi)
    cases q1 : tt e2 with
    | exn x e3 => rw [q1] at sc; cases sc
    | stuck => rw [q1] at sc; cases sc
    | ok b e3 =>
    rw [q1] at sc
    intro H3 P3
    cases b with
    | false =>
      rw [if_neg Bool.false_ne_true]
      obtain ⟨S6, k6, _, sb⟩ := blk_step hix hn hnn kp ex qt hw' P3.rel P3.keep
      refine ⟨rfl, hlt, _, acc, accV, S6, k6, ?_, ra.sub sb, sc⟩
      have h2 := ex Dd _ hDd
      exact P3.keep.heap Dd _ h2 nt_lst fun z => S2.sep Dd z (.inr rfl)
    | true =>
      rw [if_pos rfl]
      refine ⟨_, e3, P3.rel, ?_⟩
      dsimp only at sc
      cases q2 : te e3 with
      | exn x e4 => rw [q2] at sc; cases sc
      | stuck => rw [q2] at sc; cases sc
      | ok r e4 =>
      rw [q2] at sc
      simp only [Out.bind_ok] at sc
      intro H4 P4 v R
      cases q3 : share r e4 with
      | exn x e5 => rw [q3] at sc; cases sc
      | stuck => rw [q3] at sc; cases sc
      | ok y e5 =>
      rw [q3] at sc
      dsimp only at sc
      have hsh : CondG K ca Wf (fun a => B a ∨ a = Dd) σ2 H4 e4 (share r e4) fun d e _ => d = y ∧ e = e5 := by rw [q3]; exact fun _ _ => ⟨rfl, rfl⟩
      obtain ⟨d', e5', P5, ry, h5⟩ := share_ok hsh P4.rel R
      obtain ⟨rfl, rfl⟩ := h5
      by_cases hz : acc.length < sizeLine
      case neg => rw [if_neg hz] at sc; cases sc
      rw [if_pos hz] at sc
      obtain ⟨S6, k6, less, sb⟩ := blk_step hix hn hnn kp ex qt hw' P5.rel ((P3.keep.trans P4.keep).trans P5.keep)
      have hD4 : H4 Dd = some (.lst accV) := (P3.keep.trans P4.keep).heap Dd _ (ex Dd _ hDd) nt_lst fun z => S2.sep Dd z (.inr rfl)
      have sbD : Sub (Nof (fun a => B a ∨ a = Dd) (wipeE e5' own) (wipe σ own)) (Nof (fun a => B a ∨ a = Dd) (wipeE e5' own) (wipe σ own)) H4 (upd H4 Dd (.lst (accV ++ [v]))) := fun a o ea _ n => ⟨n, by
        rw [upd_ne (fun z => n (.inl (.inr z)))]; exact ea⟩
      refine ⟨accV, hD4, by rw [ra.len]; exact hz, rfl, hlt, _, acc ++ [d'], accV ++ [v], SRel.mutHid hD4 (.inl ⟨_, rfl⟩) S6, ⟨k6.own, k6.pm, k6.lkd, k6.nn, fun a o ea nu n => ?_, fun a z => ?_⟩, upd_same, ((ra.sub sb).app (.cons (ry.sub (sub_less less)) .nil)).sub sbD, sc⟩
      · rw [upd_ne (fun z => by subst z; rw [hD] at ea; cases ea)]; exact k6.heap a o ea nu n
      · by_cases z2 : a = Dd
        · subst z2; exact hD
        · rw [upd_ne z2] at z; exact k6.dom a z
  · have he : i = w.ds.length := by omega
    subst he
    rw [List.drop_length] at sc
    cases sc
    obtain ⟨Se, ke, le⟩ := blk_end S1 ok (fun a z => .inl z) (fun a z => z.imp id fun y => by subst y; exact hD) kp S'
    have qu := unlock_eq w.lk (restE (lockE w.lk e1) ef own)
    refine .inl ⟨istop _ (Nat.le_refl _), ?_⟩
    have ku := Keep.under lo ke
    have Su := Se.eqv qu
    have nD : ¬ Nof B (unlockE w.lk (restE (lockE w.lk e1) ef own)) σ Dd := fun z => by
      rcases z with z | z
      · exact P.rel.dom Dd z hD
      · exact Su.sep Dd z (.inr rfl)
    refine k H' (P.trans ⟨Su.less fun a z => .inl z, ku⟩) (.ref Dd) ⟨Dd, rfl, P.keep.dom Dd hD, nD, ?_, Su⟩
    refine .lst hDd (ra.sub (sub_less fun a z => ?_))
    rcases z with (z | z) | z
    · exact .inl (.inl z)
    · exact le a (.inr (z.eqv qu.symm))
    · exact .inl (.inr z)
end
section
variable {X : Cx} {ca : Ca} {elt tg iter : Expr} {ifs : List Expr} {scope : Scope} {own : List (Str × Nat)} {pos : Pos} {mi : En → Out Wk} {t : Tg} {tt : MT} {te : ME}
theorem takes_ff {X : Cx} (h : X.xe = fun _ _ => False) : Takes X (fun _ _ _ _ => False) := fun u s' ⟨_, _, _, _, _, _, _, _, _, _, _, _, _, _, _, _, w⟩ => w.elim
theorem ve_lc (hc : X.calm = true) (hN : X.N.Nodup) (hi : VI X ca tg iter mi) (ok : BlkOk X.N X.env.scope scope own) (hix : ∀ i ∈ t.ix, i ∈ own.map (·.2))
    (hg : ∀ (s : Shared) (H : Hp) (C : Addr) (cl : List (Str × Addr)) (fp : List Addr), VG (X.blk s H scope (compEnvC scope cl C X.env) fp) ca tg t) (ht : ∀ (s : Shared) (H : Hp) (C : Addr) (cl : List (Str × Addr)) (fp : List Addr), VTs (X.blk s H scope (compEnvC scope cl C X.env) fp) ca ifs tt)
    (he : ∀ (s : Shared) (H : Hp) (C : Addr) (cl : List (Str × Addr)) (fp : List Addr), VE (X.blk s H scope (compEnvC scope cl C X.env) fp) ca elt te) (hs : ∀ x, foldedSetIterable iter X.env x = pure x) :
    VE X ca (.ListComp elt [⟨tg, iter, ifs, 0⟩] scope pos) (mLc (own.map (·.2)) t mi tt te) := fun W tk =>
  peImp (pe_lc (g := gTg X.K ca t) (tt := tMT X.K ca (fun _ _ _ _ => False) tt) (te := tM X.K ca (fun _ _ _ _ => False) te) hc hN (hi W tk) ok hg (fun s H C cl fp => ht s H C cl fp _ (takes_ff rfl)) (fun s H C cl fp => he s H C cl fp _ (takes_ff rfl)) hs) fun σ H Q ⟨B, env, S, h⟩ => lc_tlc hix S h
theorem vs_setLc {i : Nat} {y : Str} {py spos : Pos} (hc : X.calm = true) (hN : X.N.Nodup) (hy : X.N[i]? = some y) (hyl : X.env.scope.names.lookup y = some .local)
    (hsw : swapsWith (.ListComp elt [⟨tg, iter, ifs, 0⟩] scope pos) (some (.Name y py)) spos.line X.env = pure true) (hi : VI X ca tg iter mi) (ok : BlkOk X.N X.env.scope scope own) (hix : ∀ i ∈ t.ix, i ∈ own.map (·.2))
    (hg : ∀ (s : Shared) (H : Hp) (C : Addr) (cl : List (Str × Addr)) (fp : List Addr), VG (X.blk s H scope (compEnvC scope cl C X.env) fp) ca tg t) (ht : ∀ (s : Shared) (H : Hp) (C : Addr) (cl : List (Str × Addr)) (fp : List Addr), VTs (X.blk s H scope (compEnvC scope cl C X.env) fp) ca ifs tt)
    (he : ∀ (s : Shared) (H : Hp) (C : Addr) (cl : List (Str × Addr)) (fp : List Addr), VE (X.blk s H scope (compEnvC scope cl C X.env) fp) ca elt te) (hs : ∀ x, foldedSetIterable iter X.env x = pure x) :
    VS X ca (.Assign [.Name y py] (.ListComp elt [⟨tg, iter, ifs, 0⟩] scope pos) spos) (mSet i (mLc (own.map (·.2)) t mi tt te)) := fun W tk =>
  psImp (ps_setLc (g := gTg X.K ca t) (tt := tMT X.K ca (fun _ _ _ _ => False) tt) (te := tM X.K ca (fun _ _ _ _ => False) te) hc hN hy hyl hsw (hi W tk) ok hg (fun s H C cl fp => ht s H C cl fp _ (takes_ff rfl)) (fun s H C cl fp => he s H C cl fp _ (takes_ff rfl)) hs) fun D σ H ⟨B, env, S, h⟩ =>
    lc_tlc hix S ((h.ofE S).imp fun r e H1 P k v R => setSlot_ok S P R k)
end
end Pw

set_option maxHeartbeats 4000000
/-! PwL: defs and their calls. -/
namespace Pw
open PySem PySem.Spec PyProof.Rows L2

/-- a def: from its parameters' slots (an own one is the caller's, changed in place) -/
abbrev Fn := En → Out RV
abbrev WEx (E : XK) : WX := fun cls d _ H => E cls d H
def pmOnly (env : En) : Prop := ∀ (i : Nat) pm lk c, env[i]? = some (.own pm lk c) → pm = true ∧ lk = false
def spF (K : PySem.W.Frag) (ca : Ca) (n : Nat) (fn : Fn) : Sp := fun vs H Q E => vs.length = n ∧ ∃ B env, SRel K ca B (vs.map some) H env ∧ pmOnly env ∧
  CondG K ca (WEx E) B (vs.map some) H env (fn env) fun r e H' => ∀ v, RRep K ca B (vs.map some) H H' e v r → Q v H'
/-- the parameters behind the body -/
def mergeP : En → En → En
  | [], _ => []
  | s :: es, [] => s :: es
  | .own pm lk c :: es, t :: ts => t :: mergeP es ts
  | .val d :: es, _ :: ts => .val d :: mergeP es ts
  | .none :: es, _ :: ts => .none :: mergeP es ts
theorem mergeP_len : ∀ (a b : En), (mergeP a b).length = a.length
  | [], _ => rfl
  | _ :: _, [] => rfl
  | .own _ _ _ :: es, _ :: ts => congrArg (· + 1) (mergeP_len es ts)
  | .val _ :: es, _ :: ts => congrArg (· + 1) (mergeP_len es ts)
  | .none :: es, _ :: ts => congrArg (· + 1) (mergeP_len es ts)
theorem mergeP_own : ∀ {a b : En} {i : Nat} {pm lk : Bool} {c : Ct}, a[i]? = some (.own pm lk c) → i < b.length → (mergeP a b)[i]? = b[i]?
  | [], _, _, _, _, _, h, _ => by simp at h
  | _ :: _, [], _, _, _, _, _, hl => by simp at hl
  | .own _ _ _ :: es, t :: ts, 0, _, _, _, _, _ => rfl
  | .val _ :: es, t :: ts, 0, _, _, _, h, _ => by simp at h
  | .none :: es, t :: ts, 0, _, _, _, h, _ => by simp at h
  | .own _ _ _ :: es, t :: ts, i + 1, _, _, _, h, hl => by
    simpa [mergeP] using mergeP_own (a := es) (b := ts) (i := i) (by simpa using h) (by simpa using hl)
  | .val _ :: es, t :: ts, i + 1, _, _, _, h, hl => by
    simpa [mergeP] using mergeP_own (a := es) (b := ts) (i := i) (by simpa using h) (by simpa using hl)
  | .none :: es, t :: ts, i + 1, _, _, _, h, hl => by
    simpa [mergeP] using mergeP_own (a := es) (b := ts) (i := i) (by simpa using h) (by simpa using hl)
theorem mergeP_not : ∀ {a b : En} {i : Nat} {s : Sv}, a[i]? = some s → (∀ pm lk c, s ≠ .own pm lk c) → (mergeP a b)[i]? = some s
  | [], _, _, _, h, _ => by simp at h
  | _ :: _, [], _, _, h, _ => h
  | .own _ _ _ :: es, t :: ts, 0, s, h, n => by simp at h; exact absurd h.symm (n _ _ _)
  | .val _ :: es, t :: ts, 0, _, h, _ => h
  | .none :: es, t :: ts, 0, _, h, _ => h
  | .own _ _ _ :: es, t :: ts, i + 1, _, h, n => by
    simpa [mergeP] using mergeP_not (a := es) (b := ts) (i := i) (by simpa using h) n
  | .val _ :: es, t :: ts, i + 1, _, h, n => by
    simpa [mergeP] using mergeP_not (a := es) (b := ts) (i := i) (by simpa using h) n
  | .none :: es, t :: ts, i + 1, _, h, n => by
    simpa [mergeP] using mergeP_not (a := es) (b := ts) (i := i) (by simpa using h) n
/-- the value that a body returns, seen by the caller -/
def retOut (env : En) (r : RV) (e : En) : Out RV := match r with
  | .val d => .ok (.val d) (mergeP env e)
  | .fresh c => .ok (.fresh c) (mergeP env e)
  | .bor i => match e[i]? with
    | some (.val d) => .ok (.val d) (mergeP env e)
    | some (.own true _ _) => if isOwn env[i]? = true then .ok (.bor i) (mergeP env e) else .stuck
    | some (.own false false c) => if isOwn env[i]? = true then .stuck else .ok (.fresh c) (mergeP env e)
    | _ => .stuck
def startE (N : Nat) (env : En) : En := env ++ List.replicate (N - env.length) .none
def runF (N : Nat) (m : MS) : Fn := fun env => match m (startE N env) with
  | .next e => .ok (.val .non) (mergeP env e)
  | .ret r e => retOut env r e
  | .exn x e => .exn x (mergeP env e)
  | _ => .stuck
section
variable {K : PySem.W.Frag} {ca : Ca} {W : WX} {B : Addr → Prop} {σ σ' : St} {H H1 H' : Hp} {env e : En} {n : Nat}
theorem startE_get {N : Nat} {i : Nat} {s : Sv} (h : (startE N env)[i]? = some s) : env[i]? = some s ∨ s = .none := by
  unfold startE at h
  by_cases hi : i < env.length
  · rw [List.getElem?_append_left hi] at h; exact .inl h
  · rw [List.getElem?_append_right (by omega), List.getElem?_replicate] at h
    split at h
    · cases h; exact .inr rfl
    · cases h
theorem startE_own {N : Nat} {vs : List V} (hl : env.length = vs.length) {M : List Str} {i : Nat} {a : Addr} (h : OwnAt (startE N env) (L2.start M vs) i a) : OwnAt env (vs.map some) i a := by
  obtain ⟨⟨pm, lk, c, h1⟩, h2⟩ := h
  rcases startE_get h1 with z | z
  · refine ⟨⟨_, _, _, z⟩, ?_⟩
    have hi : i < vs.length := by rw [← hl]; exact (List.getElem?_eq_some_iff.mp z).1
    unfold L2.start at h2
    rw [List.getElem?_append_left (by simpa using hi)] at h2
    exact h2
  · cases z
theorem SRel.start {M : List Str} {vs : List V} (S : SRel K ca B (vs.map some) H env) (hn : vs.length ≤ M.length) : SRel K ca B (L2.start M vs) H (startE M.length env) := by
  have hl : env.length = vs.length := by rw [S.len, List.length_map]
  have less : ∀ a, Nof B (startE M.length env) (L2.start M vs) a → Nof B env (vs.map some) a := fun a z => z.imp id fun ⟨j, z⟩ => ⟨j, startE_own hl z⟩
  refine ⟨?_, S.dom, fun a ⟨j, z⟩ => S.sep a ⟨j, startE_own hl z⟩, fun i j a z1 z2 => S.inj i j a (startE_own hl z1) (startE_own hl z2), fun i s h => ?_, S.tabs⟩
  · simp only [startE, L2.start, List.length_append, List.length_map, List.length_replicate, hl]
  · rcases startE_get h with z | z
    · have r := S.slot i s z
      have hi : i < vs.length := by rw [← hl]; exact (List.getElem?_eq_some_iff.mp z).1
      have e1 : (L2.start M vs)[i]? = (vs.map some)[i]? := by unfold L2.start; rw [List.getElem?_append_left (by simpa using hi)]
      rw [e1]
      cases s with
      | none => trivial
      | val d => obtain ⟨x, e2, r⟩ := r; exact ⟨x, e2, r.sub (sub_less less)⟩
      | own pm lk c => obtain ⟨x, e2, r⟩ := r; exact ⟨x, e2, r.sub (sub_less less) rfl⟩
    · subst z; trivial
theorem merge_set {s : Sv} : ∀ {a b : En} {i : Nat}, isOwn a[i]? = false → mergeP a (b.set i s) = mergeP a b
  | [], _, _, _ => by cases ‹En› <;> rfl
  | _ :: _, [], i, _ => by cases i <;> rfl
  | .own _ _ _ :: es, t :: ts, 0, h => by simp [isOwn] at h
  | .val _ :: es, t :: ts, 0, _ => rfl
  | .none :: es, t :: ts, 0, _ => rfl
  | .own _ _ _ :: es, t :: ts, i + 1, h => by
    simp only [List.set_cons_succ, mergeP]; rw [merge_set (by simpa using h)]
  | .val _ :: es, t :: ts, i + 1, h => by
    simp only [List.set_cons_succ, mergeP]; rw [merge_set (by simpa using h)]
  | .none :: es, t :: ts, i + 1, h => by
    simp only [List.set_cons_succ, mergeP]; rw [merge_set (by simpa using h)]
/-- an object leaves its slot -/
theorem SRel.moveOut {i : Nat} {pm lk : Bool} {c : Ct} {p : Addr} (S : SRel K ca B σ H e) (h : e[i]? = some (.own pm lk c)) (hp : σ[i]? = some (some (.ref p))) :
    SRel K ca (fun a => B a ∨ a = p) σ H (e.set i .none) ∧ CRep K ca (Nof (fun a => B a ∨ a = p) (e.set i .none) σ) H p c := by
  have oi : OwnAt e σ i p := ⟨⟨_, _, _, h⟩, hp⟩
  have ow : ∀ {j a}, OwnAt (e.set i .none) σ j a → j ≠ i ∧ OwnAt e σ j a := fun {j a} z => by
    obtain ⟨⟨pm2, lk2, c2, e1⟩, e2⟩ := z
    rcases getElem?_set_own e1 with ⟨_, z⟩ | ⟨n, z⟩
    · cases z
    · exact ⟨n, ⟨_, _, _, z⟩, e2⟩
  have less : ∀ a, Nof (fun a => B a ∨ a = p) (e.set i .none) σ a → Nof B e σ a := fun a z => by
    rcases z with (z | z) | ⟨j, z⟩
    · exact .inl z
    · subst z; exact .inr ⟨i, oi⟩
    · exact .inr ⟨j, (ow z).2⟩
  obtain ⟨p', e1, cr⟩ := S.slot i _ h
  rw [hp] at e1
  cases e1
  refine ⟨⟨by rw [List.length_set]; exact S.len, fun a z => ?_, fun a ⟨j, z⟩ y => ?_, fun j k a z1 z2 => S.inj j k a (ow z1).2 (ow z2).2, fun j s hs => ?_, S.tabs⟩, cr.sub (sub_less less) rfl⟩
  · rcases z with z | z
    · exact S.dom a z
    · subst z; exact S.ndom (.inr ⟨i, oi⟩)
  · rcases y with y | y
    · exact S.sep a ⟨j, (ow z).2⟩ y
    · subst y; exact (ow z).1 (S.inj j i a (ow z).2 oi)
  · rcases getElem?_set_own hs with ⟨_, rfl⟩ | ⟨n, z⟩
    · trivial
    · have r := S.slot j s z
      cases s with
      | none => trivial
      | val d => obtain ⟨x, e2, r⟩ := r; exact ⟨x, e2, r.sub (sub_less less)⟩
      | own pm lk c => obtain ⟨x, e2, r⟩ := r; exact ⟨x, e2, r.sub (sub_less less) rfl⟩
/-- behind a body: what the caller keeps -/
theorem body_post {M : List Str} {vs : List V} {B' : Addr → Prop} (hB : ∀ a, B a → B' a) (hB' : ∀ a, B' a → B a ∨ H a = none) (S : SRel K ca B (vs.map some) H env) (po : pmOnly env) (hn : vs.length ≤ M.length) (S' : SRel K ca B' σ' H' e) (k : KeepS (L2.start M vs) H (startE M.length env) σ' H' e) :
    SRel K ca B' (vs.map some) H' (mergeP env e) ∧ Keep (vs.map some) H env H' (mergeP env e) ∧ (∀ a, Nof B' (mergeP env e) (vs.map some) a → Nof B' e σ' a) := by
  have hl : env.length = vs.length := by rw [S.len, List.length_map]
  have he : env.length ≤ e.length := by
    rw [k.len]; simp only [startE, List.length_append]; omega
  have s0 : ∀ {i : Nat} {s : Sv}, env[i]? = some s → (startE M.length env)[i]? = some s ∧ (L2.start M vs)[i]? = (vs.map some)[i]? := fun {i s} h => by
    have hi : i < env.length := (List.getElem?_eq_some_iff.mp h).1
    refine ⟨by unfold startE; rw [List.getElem?_append_left hi]; exact h, ?_⟩
    unfold L2.start
    rw [List.getElem?_append_left (by rw [List.length_map]; omega)]
  -- an own parameter
  have own : ∀ {i : Nat} {pm lk c}, env[i]? = some (.own pm lk c) → ∃ c', pm = true ∧ lk = false ∧ e[i]? = some (.own true false c') ∧ (mergeP env e)[i]? = some (.own true false c') ∧ σ'[i]? = (vs.map some)[i]? := fun {i pm lk c} h => by
    obtain ⟨rfl, rfl⟩ := po i pm lk c h
    obtain ⟨h1, h2⟩ := s0 h
    obtain ⟨⟨c', h3⟩, h4⟩ := k.pm i false c h1
    have hi : i < e.length := (List.getElem?_eq_some_iff.mp h3).1
    exact ⟨c', rfl, rfl, h3, by rw [mergeP_own h hi]; exact h3, h4.trans h2⟩
  have mown : ∀ {i : Nat} {pm lk c'}, (mergeP env e)[i]? = some (.own pm lk c') → ∃ c, env[i]? = some (.own pm lk c) ∧ e[i]? = some (.own pm lk c') ∧ σ'[i]? = (vs.map some)[i]? := fun {i pm lk c'} h => by
    cases q : env[i]? with
    | none =>
      have : i < (mergeP env e).length := (List.getElem?_eq_some_iff.mp h).1
      rw [mergeP_len] at this
      rw [List.getElem?_eq_getElem this] at q; cases q
    | some s => cases s with
      | none => rw [mergeP_not q (fun _ _ _ z => nomatch z)] at h; cases h
      | val d => rw [mergeP_not q (fun _ _ _ z => nomatch z)] at h; cases h
      | own pm2 lk2 c =>
        obtain ⟨c2, rfl, rfl, h1, h2, h3⟩ := own q
        rw [h] at h2; cases h2
        exact ⟨c, rfl, h1, h3⟩
  have ow : ∀ {i a}, OwnAt (mergeP env e) (vs.map some) i a → OwnAt e σ' i a ∧ OwnAt env (vs.map some) i a := fun {i a} ⟨⟨pm, lk, c, h1⟩, h2⟩ => by
    obtain ⟨c0, h3, h4, h5⟩ := mown h1
    exact ⟨⟨⟨_, _, _, h4⟩, h5.trans h2⟩, ⟨⟨_, _, _, h3⟩, h2⟩⟩
  have less : ∀ a, Nof B' (mergeP env e) (vs.map some) a → Nof B' e σ' a := fun a z => z.imp id fun ⟨j, z⟩ => ⟨j, (ow z).1⟩
  have hst : ∀ {a}, hid (startE M.length env) (L2.start M vs) a → hid env (vs.map some) a := fun {a} ⟨j, z⟩ => ⟨j, startE_own hl z⟩
  have heap : ∀ a o, H a = some o → NT o → ¬ hid env (vs.map some) a → H' a = some o := fun a o ea nu n => k.heap a o ea nu fun z => n (hst z)
  refine ⟨⟨by rw [mergeP_len]; exact S.len, S'.dom, fun a ⟨j, z⟩ => S'.sep a ⟨j, (ow z).1⟩, fun i j a z1 z2 => S.inj i j a (ow z1).2 (ow z2).2, fun i s h => ?_, S'.tabs⟩,
    ⟨fun i pm lk c' h => ?_, fun i lk c h => ?_, fun i pm c h => ?_, fun i s h ns => ?_, heap, k.dom⟩, less⟩
  · cases s with
    | none => trivial
    | own pm lk c' =>
      obtain ⟨c0, h3, h4, h5⟩ := mown h
      obtain ⟨p, e2, r⟩ := S'.slot i _ h4
      exact ⟨p, h5.symm.trans e2, r.sub (sub_less less) rfl⟩
    | val d =>
      have q : env[i]? = some (.val d) := by
        cases q : env[i]? with
        | none =>
          have : i < (mergeP env e).length := (List.getElem?_eq_some_iff.mp h).1
          rw [mergeP_len] at this
          rw [List.getElem?_eq_getElem this] at q; cases q
        | some s => cases s with
          | none => rw [mergeP_not q (fun _ _ _ z => nomatch z)] at h; cases h
          | val d2 => rw [mergeP_not q (fun _ _ _ z => nomatch z)] at h; cases h; rfl
          | own pm2 lk2 c =>
            obtain ⟨c2, _, _, _, h2, _⟩ := own q
            rw [h] at h2; cases h2
      obtain ⟨x, e2, r⟩ := S.slot i _ q
      refine ⟨x, e2, r.sub fun a o ea nu na => ⟨fun z => ?_, heap a o ea nu fun z => na (.inr z)⟩⟩
      rcases z with z | ⟨j, z⟩
      · rcases hB' a z with z | z
        · exact na (.inl z)
        · rw [ea] at z; cases z
      · exact na (.inr ⟨j, (ow z).2⟩)
  · obtain ⟨c0, h3, _⟩ := mown h
    exact ⟨c0, h3⟩
  · obtain ⟨c2, _, rfl, _, h2, _⟩ := own h
    exact ⟨c2, h2⟩
  · obtain ⟨c2, _, z, _, h2, _⟩ := own h
    cases z
  · cases s with
    | none => exact absurd rfl ns
    | val d => exact ⟨_, mergeP_not h (fun _ _ _ z => nomatch z), ns⟩
    | own pm lk c =>
      obtain ⟨c2, _, _, _, h2, _⟩ := own h
      exact ⟨_, h2, fun z => nomatch z⟩
end
/-- the body's end, as the caller wants it -/
theorem body_end {K : PySem.W.Frag} {ca : Ca} {B : Addr → Prop} {H : Hp} {env : En} {N : List Str} {vs : List V} {m : MS} {Q : VK} {E : XK} (Sr : SRel K ca B (vs.map some) H env) (po : pmOnly env) (hn : vs.length ≤ N.length)
    (hc : CondG K ca (WEx E) B (vs.map some) H env (runF N.length m env) fun r e H' => ∀ v, RRep K ca B (vs.map some) H H' e v r → Q v H') : tMS K ca (WEx E) m { nx := fun _ H' => Q .non H', rt := Q } (L2.start N vs) H := by
  refine ⟨B, startE N.length env, SRel.start Sr hn, ?_⟩
  unfold runF at hc
  show SCond K ca (WEx E) B (L2.start N vs) H (startE N.length env) { nx := fun _ H' => Q .non H', rt := Q } (m (startE N.length env))
  cases q : m (startE N.length env) with
  | next e =>
    rw [q] at hc
    intro σ' H' S' k'
    obtain ⟨S2, k2, _⟩ := body_post (fun a z => z) (fun a z => .inl z) Sr po hn S' k'
    exact hc H' ⟨S2, k2⟩ .non .non
  | brk e => rw [q] at hc; exact hc.elim
  | cont e => rw [q] at hc; exact hc.elim
  | stuck => rw [q] at hc; exact hc.elim
  | exn y e =>
    rw [q] at hc
    intro cls d σ' H' S' k' xr
    obtain ⟨S2, k2, less⟩ := body_post (fun a z => z) (fun a z => .inl z) Sr po hn S' k'
    exact hc cls d H' ⟨S2, k2⟩ (xr.sub less)
  | ret r e =>
    rw [q] at hc
    intro v σ' H' S' k' R
    obtain ⟨S2, k2, less⟩ := body_post (fun a z => z) (fun a z => .inl z) Sr po hn S' k'
    unfold retOut at hc
    dsimp only at hc
    cases r with
    | val d => exact hc H' ⟨S2, k2⟩ v (R.sub (sub_less less))
    | fresh c =>
      obtain ⟨p, rfl, n0, np, cr, Sp⟩ := R
      obtain ⟨S3, _, _⟩ := body_post (B' := fun a => B a ∨ a = p) (fun a z => .inl z) (fun a z => z.imp id fun y => by subst y; exact n0) Sr po hn Sp k'
      exact hc H' ⟨S2, k2⟩ (.ref p) ⟨p, rfl, n0, fun z => np (less _ z), cr.sub (sub_less fun a z => z.imp (less a) id) rfl, S3⟩
    | bor i =>
      obtain ⟨hv, s0, hs, ns⟩ := R
      dsimp only at hc
      split at hc
      · rename_i d hi
        obtain ⟨y, e1, ry⟩ := S'.slot i _ hi
        rw [hv] at e1
        cases e1
        exact hc H' ⟨S2, k2⟩ v (ry.sub (sub_less less))
      · rename_i lk c hi
        split at hc
        · rename_i ho
          cases q2 : env[i]? with
          | none => rw [q2] at ho; cases ho
          | some s => cases s with
            | none => rw [q2] at ho; cases ho
            | val d => rw [q2] at ho; cases ho
            | own pm lk2 c2 =>
              obtain ⟨rfl, rfl⟩ := po i _ _ _ q2
              have hi2 : i < env.length := (List.getElem?_eq_some_iff.mp q2).1
              have hl2 : env.length = vs.length := by rw [Sr.len, List.length_map]
              have h1 : (startE N.length env)[i]? = some (.own true false c2) := by unfold startE; rw [List.getElem?_append_left hi2]; exact q2
              obtain ⟨_, h4⟩ := k'.pm i false c2 h1
              have h5 : (L2.start N vs)[i]? = (vs.map some)[i]? := by unfold L2.start; rw [List.getElem?_append_left (by rw [List.length_map]; omega)]
              obtain ⟨c3, h6⟩ := k2.pm i false c2 q2
              exact hc H' ⟨S2, k2⟩ v ⟨by rw [← h5, ← h4]; exact hv, _, h6, fun z => nomatch z⟩
        · exact hc.elim
      · rename_i c hi
        split at hc
        · exact hc.elim
        · rename_i ho
          -- the body's own object leaves its slot
          have ho' : isOwn env[i]? = false := by cases z : isOwn env[i]? <;> simp_all
          obtain ⟨p, e1, _⟩ := S'.slot i _ hi
          rw [hv] at e1
          cases e1
          have oi : OwnAt e σ' i p := ⟨⟨_, _, _, hi⟩, hv⟩
          obtain ⟨Sm, cm⟩ := S'.moveOut hi hv
          have hl2 : env.length = vs.length := by rw [Sr.len, List.length_map]
          have n0 : H p = none := by
            rcases k'.new p ⟨i, oi⟩ with ⟨j, z⟩ | z
            · exfalso
              obtain ⟨⟨pm, lk, c2, h1⟩, h2⟩ := z
              rcases startE_get h1 with y | y
              · obtain ⟨rfl, rfl⟩ := po j _ _ _ y
                obtain ⟨⟨c3, h3⟩, h4⟩ := k'.pm j false c2 h1
                have := S'.inj i j p oi ⟨⟨_, _, _, h3⟩, h4.trans h2⟩
                subst this
                rw [hi] at h3; cases h3
              · cases y
            · exact z
          have km : KeepS (L2.start N vs) H (startE N.length env) σ' H' (e.set i .none) := by
            refine ⟨by rw [List.length_set]; exact k'.len, fun j lk c2 h1 => ?_, fun j pm c2 h1 => ?_, fun a ⟨j, z⟩ => ?_, k'.heap, k'.dom⟩
            · obtain ⟨⟨c3, h3⟩, h4⟩ := k'.pm j lk c2 h1
              have nj : i ≠ j := fun z => by subst z; rw [hi] at h3; cases h3
              exact ⟨⟨c3, by rw [List.getElem?_set_ne nj]; exact h3⟩, h4⟩
            · obtain ⟨h3, h4⟩ := k'.lkd j pm c2 h1
              have nj : i ≠ j := fun z => by subst z; rw [hi] at h3; cases h3
              exact ⟨by rw [List.getElem?_set_ne nj]; exact h3, h4⟩
            · obtain ⟨⟨pm2, lk2, c2, e1⟩, e2⟩ := z
              rcases getElem?_set_own e1 with ⟨_, z⟩ | ⟨n, z⟩
              · cases z
              · exact k'.new a ⟨j, ⟨_, _, _, z⟩, e2⟩
          obtain ⟨S3, k3, less3⟩ := body_post (B' := fun a => B a ∨ a = p) (fun a z => .inl z) (fun a z => z.imp id fun y => by subst y; exact n0) Sr po hn Sm km
          rw [merge_set ho'] at S3 k3 less3
          have np : ¬ Nof B (mergeP env e) (vs.map some) p := fun z => by
            rcases z with z | z
            · exact Sr.dom p z n0
            · exact S3.sep p z (.inr rfl)
          refine hc H' ⟨S2, k2⟩ (.ref p) ⟨p, rfl, n0, np, cm.sub (sub_less fun a z => ?_) rfl, S3⟩
          refine less3 a ?_
          rcases z with (z | z) | z
          · exact .inl (.inl z)
          · exact .inr z
          · exact .inl (.inr z)
      · exact hc.elim
section
variable {P : Program} {w : World} {K : PySem.W.Frag} {mg : Str → Option Value} {base : Heap} {ca : Ca}
/-- a def by the meaning of its body -/
theorem fn_ok {x qual : Str} {params : Arguments} {body : List Stmt} {scope : Scope} {dvs : List V} {kws : List (Str × V)} {f : Addr} {fd : FuncData} {N ps : List Str} {k : Nat} {m : MS}
    (F : FunD K x qual params body scope dvs kws f fd) (S : FnScope N ps scope)
    (hb : ∀ (cdv : Value) (A : Around) (outer : List Env) (s : Shared) (H : Hp) (E : XK), Room k (A.deeper (envOfC qual scope s.heap.objs.size f cdv)) → VSs (cxOf (L2.CX P w) P w K mg base N qual scope f cdv A outer s H E) ca body m) :
    FnOk P w K mg base (L2.CX P w) (k + 1) f fd ps (spF K ca ps.length (runF N.length m)) := by
  have hnl : ps.length ≤ N.length := by have := congrArg List.length S.pre; rw [List.length_take] at this; omega
  refine F.ok S (fun vs H Q E h => h.1) fun cdv A outer s H vs Q E hr h => ?_
  obtain ⟨hl, B, env, Sr, po, hc⟩ := h
  have hn : vs.length ≤ N.length := by rw [hl]; exact hnl
  exact ⟨_, hb cdv A outer s H E hr (WEx E) (takes_of rfl rfl rfl rfl), body_end Sr po hn hc⟩
end
end Pw

set_option maxHeartbeats 4000000
/-! PwM: calls of defs. -/
namespace Pw
open PySem PySem.Spec PyProof.Rows L2

/-- an argument: a datum, or the slot whose object is handed over to be changed -/
inductive Ag where
  | v (d : D) | o (i : Nat)
def prep1 (m : Bool) (r : RV) (e : En) : Out Ag := match m, r with
  | true, .bor i => match e[i]? with
    | some (.own _ false _) => .ok (.o i) e
    | _ => (share (.bor i) e).bind fun d e1 => .ok (.v d) e1
  | _, r => (share r e).bind fun d e1 => .ok (.v d) e1
def prep : List Bool → List RV → En → Out (List Ag)
  | _, [], e => .ok [] e
  | ms, r :: rs, e => (prep1 (ms.headD false) r e).bind fun a e1 => (prep ms.tail rs e1).bind fun as e2 => .ok (a :: as) e2
def agSlot (e : En) : Ag → Sv
  | .v d => .val d
  | .o i => match e[i]? with
    | some (.own _ _ c) => .own true false c
    | _ => .none
def penv (as : List Ag) (e : En) : En := as.map (agSlot e)
def agNum : Ag → Option Nat
  | .v _ => none
  | .o i => some i
def nums (as : List Ag) : List Nat := as.filterMap agNum
def agOk (as : List Ag) (e : En) : Bool := decide (nums as).Nodup && (nums as).all fun i => match e[i]? with
  | some (.own _ false _) => true
  | _ => false
/-- the objects behind the call -/
def back : List Ag → En → En → En
  | .v _ :: as, _ :: pe, e => back as pe e
  | .o i :: as, .own _ _ c :: pe, e => back as pe (match e[i]? with
    | some (.own pm lk _) => e.set i (.own pm lk c)
    | _ => e)
  | .o _ :: as, _ :: pe, e => back as pe e
  | _, _, e => e
def retB (as : List Ag) (r : RV) : RV := match r with
  | .bor j => match as[j]? with
    | some (.o i) => .bor i
    | some (.v d) => .val d
    | none => .val .non
  | r => r
def callEnd (as : List Ag) (e : En) (o : Out RV) : Out RV := match o with
  | .ok r pe => .ok (retB as r) (back as pe e)
  | .exn x pe => .exn x (back as pe e)
  | .stuck => .stuck
def callOn (modes : List Bool) (fn : Fn) (rs : List RV) (e : En) : Out RV := (prep modes rs e).bind fun as e2 => if agOk as e2 = true then callEnd as e2 (fn (penv as e2)) else .stuck
def callD (n : Nat) (modes : List Bool) (fn : Fn) (dfs : List D) (rs : List RV) (e : En) : Out RV := if rs.length + dfs.length = n then callOn modes fn (rs ++ dfs.map .val) e else .stuck
def mCall (n : Nat) (modes : List Bool) (fn : Fn) (dfs : List D) (ma : MA) : ME := fun e => (ma e).bind fun rs e1 => callD n modes fn dfs rs e1
/-- a default's value is its datum anywhere -/
def DfRep (K : PySem.W.Frag) (ca : Ca) (dvs : List V) (dfs : List D) : Prop := Paired (fun v d => ∀ N H, Rep K ca N H v d) dvs dfs

/-- the arguments stand -/
def AgRep (K : PySem.W.Frag) (ca : Ca) (N : Addr → Prop) (σ : St) (H : Hp) (v : V) : Ag → Prop
  | .v d => Rep K ca N H v d
  | .o i => σ[i]? = some (some v)
section
variable {K : PySem.W.Frag} {ca : Ca} {W : WX} {B : Addr → Prop} {σ : St} {H H' : Hp} {env e e2 : En}
theorem AgRep.keep (k : Keep σ H e H' e2) {v : V} {a : Ag} (h : AgRep K ca (Nof B e σ) σ H v a) : AgRep K ca (Nof B e2 σ) σ H' v a := by
  cases a with
  | v d => exact Rep.sub k.sub h
  | o i => exact h
theorem prep1_ok {m : Bool} {r : RV} {v : V} {k : Ag → En → Hp → Prop} (h : CondG K ca W B σ H e (prep1 m r e) k) (S : SRel K ca B σ H e) (R : norm r = r ∧ ∀ H0, RRep K ca B σ H0 H e v r) :
    ∃ a e', Post K ca B σ H e H e' ∧ AgRep K ca (Nof B e' σ) σ H v a ∧ k a e' H := by
  have sh : ∀ {r : RV}, (∀ H0, RRep K ca B σ H0 H e v r) → CondG K ca W B σ H e ((share r e).bind fun d e1 => .ok (.v d) e1) k → ∃ a e', Post K ca B σ H e H e' ∧ AgRep K ca (Nof B e' σ) σ H v a ∧ k a e' H := fun {r} R h => by
    obtain ⟨d, e1, P, rd, q⟩ := share_ok h.bind S (R H)
    exact ⟨.v d, e1, P, rd, q.now (.refl P.rel)⟩
  cases m with
  | false => exact sh R.2 h
  | true =>
    cases r with
    | val d => exact sh R.2 h
    | fresh c => exact sh R.2 h
    | bor i =>
      unfold prep1 at h
      dsimp only at h
      split at h
      · exact ⟨.o i, e, .refl S, (R.2 H).1, h.now (.refl S)⟩
      · exact sh R.2 h
theorem prep_ok : ∀ {ms : List Bool} {rs : List RV} {vs : List V} {e : En} {k : List Ag → En → Hp → Prop}, CondG K ca W B σ H e (prep ms rs e) k → SRel K ca B σ H e → RReps K ca B σ H e vs rs →
    ∃ as e', Post K ca B σ H e H e' ∧ Paired (fun v a => AgRep K ca (Nof B e' σ) σ H v a) vs as ∧ k as e' H
  | _, [], _, e, k, h, S, .nil => ⟨[], e, .refl S, .nil, h.now (.refl S)⟩
  | ms, r :: rs, _, e, k, h, S, .cons R Rs => by
    obtain ⟨a, e1, P1, r1, h1⟩ := prep1_ok h.bind S R
    obtain ⟨as, e2, P2, r2, h2⟩ := prep_ok h1.bind P1.rel (RReps.keep P1.keep Rs)
    exact ⟨a :: as, e2, P1.trans P2, .cons (AgRep.keep P2.keep r1) r2, h2.now (.refl P2.rel)⟩
theorem pr_get {α β : Type} {R : α → β → Prop} : ∀ {xs : List α} {ys : List β} {i : Nat} {y : β}, Paired R xs ys → ys[i]? = some y → ∃ x, xs[i]? = some x ∧ R x y
  | _, _, i, _, .nil, h => by simp at h
  | _, _, 0, _, .cons r t, h => by simp at h; subst h; exact ⟨_, rfl, r⟩
  | _, _, i + 1, _, .cons r t, h => by
    obtain ⟨x, h1, h2⟩ := pr_get (i := i) t (by simpa using h)
    exact ⟨x, by simpa using h1, h2⟩
theorem pr_len {α β : Type} {R : α → β → Prop} : ∀ {xs : List α} {ys : List β}, Paired R xs ys → xs.length = ys.length
  | _, _, .nil => rfl
  | _, _, .cons r t => congrArg (· + 1) (pr_len t)
theorem agOk_own {as : List Ag} (h : agOk as e = true) {j i : Nat} (hj : as[j]? = some (.o i)) : ∃ pm c, e[i]? = some (.own pm false c) := by
  unfold agOk at h
  rw [Bool.and_eq_true] at h
  have hm : i ∈ nums as := List.mem_filterMap.mpr ⟨_, List.mem_of_getElem? hj, rfl⟩
  have := List.all_eq_true.mp h.2 i hm
  split at this
  · exact ⟨_, _, by assumption⟩
  · cases this
theorem nums_nodup : ∀ {as : List Ag} {j k i : Nat}, (nums as).Nodup → as[j]? = some (.o i) → as[k]? = some (.o i) → j = k
  | [], j, k, i, _, h, _ => by simp at h
  | a :: as, 0, 0, i, _, _, _ => rfl
  | a :: as, 0, k + 1, i, nd, h1, h2 => by
    simp at h1; subst h1
    have : i ∈ nums as := List.mem_filterMap.mpr ⟨_, List.mem_of_getElem? (by simpa using h2), rfl⟩
    have e1 : nums (.o i :: as) = i :: nums as := rfl
    rw [e1] at nd
    exact absurd this (List.nodup_cons.mp nd).1
  | a :: as, j + 1, 0, i, nd, h1, h2 => by
    simp at h2; subst h2
    have : i ∈ nums as := List.mem_filterMap.mpr ⟨_, List.mem_of_getElem? (by simpa using h1), rfl⟩
    have e1 : nums (.o i :: as) = i :: nums as := rfl
    rw [e1] at nd
    exact absurd this (List.nodup_cons.mp nd).1
  | a :: as, j + 1, k + 1, i, nd, h1, h2 => by
    have nd' : (nums as).Nodup := by
      unfold nums at nd ⊢
      exact nd.sublist ((List.sublist_cons_self a as).filterMap _)
    exact congrArg (· + 1) (nums_nodup (i := i) nd' (by simpa using h1) (by simpa using h2))
theorem agOk_inj {as : List Ag} (h : agOk as e = true) {j k i : Nat} (h1 : as[j]? = some (.o i)) (h2 : as[k]? = some (.o i)) : j = k := by
  unfold agOk at h
  rw [Bool.and_eq_true] at h
  exact nums_nodup (of_decide_eq_true h.1) h1 h2
/-- what the write-back does: only the slots handed over change, and only their objects -/
theorem back_not : ∀ {as : List Ag} {pe e : En} {i : Nat}, i ∉ nums as → (back as pe e)[i]? = e[i]?
  | [], _, _, _, _ => by unfold back; rfl
  | .v _ :: as, [], _, _, _ => by unfold back; rfl
  | .o _ :: as, [], _, _, _ => by unfold back; rfl
  | .v _ :: as, _ :: pe, e, i, h => by unfold back; exact back_not h
  | .o k :: as, .none :: pe, e, i, h => by unfold back; exact back_not fun z => h (List.mem_cons_of_mem _ z)
  | .o k :: as, .val _ :: pe, e, i, h => by unfold back; exact back_not fun z => h (List.mem_cons_of_mem _ z)
  | .o k :: as, .own _ _ c :: pe, e, i, h => by
    have hk : k ≠ i := fun z => h (by subst z; exact List.mem_cons_self)
    have ih := fun e => back_not (as := as) (pe := pe) (e := e) (i := i) fun z => h (List.mem_cons_of_mem _ z)
    unfold back
    rw [ih]
    split
    · exact List.getElem?_set_ne hk
    · rfl
theorem back_len : ∀ {as : List Ag} {pe e : En}, (back as pe e).length = e.length
  | [], _, _ => by unfold back; rfl
  | .v _ :: as, [], _ => by unfold back; rfl
  | .o _ :: as, [], _ => by unfold back; rfl
  | .v _ :: as, _ :: pe, e => by unfold back; exact back_len
  | .o k :: as, .none :: pe, e => by unfold back; exact back_len
  | .o k :: as, .val _ :: pe, e => by unfold back; exact back_len
  | .o k :: as, .own _ _ c :: pe, e => by
    unfold back
    rw [back_len]
    split
    · exact List.length_set
    · rfl
theorem back_at : ∀ {as : List Ag} {pe e : En} {j i : Nat} {pm pm' lk lk' : Bool} {c c' : Ct}, (nums as).Nodup → as[j]? = some (.o i) → pe[j]? = some (.own pm' lk' c') → e[i]? = some (.own pm lk c) → (back as pe e)[i]? = some (.own pm lk c')
  | [], _, _, _, _, _, _, _, _, _, _, _, h, _, _ => by simp at h
  | _ :: _, [], _, _, _, _, _, _, _, _, _, _, _, h, _ => by simp at h
  | .v _ :: as, _ :: pe, e, 0, i, _, _, _, _, _, _, nd, h, _, _ => by simp at h
  | .v _ :: as, _ :: pe, e, j + 1, i, _, _, _, _, _, _, nd, h1, h2, h3 => by
    unfold back; exact back_at (j := j) nd (by simpa using h1) (by simpa using h2) h3
  | .o k :: as, .none :: pe, e, 0, i, _, _, _, _, _, _, nd, h1, h2, h3 => by simp at h2
  | .o k :: as, .val _ :: pe, e, 0, i, _, _, _, _, _, _, nd, h1, h2, h3 => by simp at h2
  | .o k :: as, .own _ _ c0 :: pe, e, 0, i, pm, _, lk, _, _, c', nd, h1, h2, h3 => by
    simp at h1 h2
    obtain ⟨_, _, rfl⟩ := h2
    subst h1
    have nk : k ∉ nums as := (List.nodup_cons.mp (show (k :: nums as).Nodup from nd)).1
    unfold back
    rw [back_not nk]
    simp only [h3]
    exact List.getElem?_set_self (List.getElem?_eq_some_iff.mp h3).1
  | .o k :: as, .none :: pe, e, j + 1, i, _, _, _, _, _, _, nd, h1, h2, h3 => by
    unfold back; exact back_at (j := j) (List.nodup_cons.mp (show (k :: nums as).Nodup from nd)).2 (by simpa using h1) (by simpa using h2) h3
  | .o k :: as, .val _ :: pe, e, j + 1, i, _, _, _, _, _, _, nd, h1, h2, h3 => by
    unfold back; exact back_at (j := j) (List.nodup_cons.mp (show (k :: nums as).Nodup from nd)).2 (by simpa using h1) (by simpa using h2) h3
  | .o k :: as, .own _ _ c0 :: pe, e, j + 1, i, pm, pm', lk, lk', c, c', nd, h1, h2, h3 => by
    have nd' : (k :: nums as).Nodup := nd
    have hj : as[j]? = some (.o i) := by simpa using h1
    have hki : k ≠ i := fun z => by
      subst z
      exact (List.nodup_cons.mp nd').1 (List.mem_filterMap.mpr ⟨_, List.mem_of_getElem? hj, rfl⟩)
    unfold back
    refine back_at (j := j) (c := c) (List.nodup_cons.mp nd').2 hj (by simpa using h2) ?_
    split
    · rw [List.getElem?_set_ne hki]; exact h3
    · exact h3
/-- a call, between frames -/
theorem call_core {as : List Ag} {fn : Fn} {vs : List V} {E : XK} {Q : VK} {H0 : Hp} (dm : ∀ a, H a = none → H0 a = none) (S : SRel K ca B σ H e) (ha : Paired (fun v a => AgRep K ca (Nof B e σ) σ H v a) vs as) (ok : agOk as e = true) (hE : ∀ cls d H', E cls d H' → W cls d σ H') 
    (hW : ∀ cls d H', W cls d σ H' → E cls d H')
    (h : CondG K ca W B σ H e (callEnd as e (fn (penv as e))) fun r e H' => ∀ v, RRep K ca B σ H0 H' e v r → Q v H') : spF K ca as.length fn vs H Q E := by
  have hl : vs.length = as.length := pr_len ha
  -- the addresses handed over
  have hand : ∀ {j : Nat} {a : Addr}, OwnAt (penv as e) (vs.map some) j a → ∃ i pm c, as[j]? = some (.o i) ∧ e[i]? = some (.own pm false c) ∧ (penv as e)[j]? = some (.own true false c) ∧ OwnAt e σ i a := fun {j a} ⟨⟨pm, lk, c, h1⟩, h2⟩ => by
    unfold penv at h1
    rw [List.getElem?_map] at h1
    cases q : as[j]? with
    | none => rw [q] at h1; cases h1
    | some g =>
      obtain ⟨v, hv, rv⟩ := pr_get ha q
      rw [List.getElem?_map, hv] at h2
      cases h2
      cases g with
      | v d => rw [q] at h1; cases h1
      | o i =>
        obtain ⟨pm2, c2, h3⟩ := agOk_own ok q
        refine ⟨i, pm2, c2, rfl, h3, ?_, ⟨⟨_, _, _, h3⟩, rv⟩⟩
        unfold penv
        rw [List.getElem?_map, q]
        simp only [Option.map_some, agSlot, h3]
  have less : ∀ a, Nof (fun a => Nof B e σ a ∧ ¬ hid (penv as e) (vs.map some) a) (penv as e) (vs.map some) a → Nof B e σ a := fun a z => by
    rcases z with z | ⟨j, z⟩
    · exact z.1
    · obtain ⟨i, _, _, _, _, _, y⟩ := hand z
      exact .inr ⟨i, y⟩
  have more : ∀ a, Nof B e σ a → Nof (fun a => Nof B e σ a ∧ ¬ hid (penv as e) (vs.map some) a) (penv as e) (vs.map some) a := fun a z => by
    by_cases q : hid (penv as e) (vs.map some) a
    · exact .inr q
    · exact .inl ⟨z, q⟩
  have Sp : SRel K ca (fun a => Nof B e σ a ∧ ¬ hid (penv as e) (vs.map some) a) (vs.map some) H (penv as e) := by
    refine ⟨by simp only [penv, List.length_map]; exact hl.symm, fun a z => S.ndom z.1, fun a z y => y.2 z, fun i j a z1 z2 => ?_, fun j s h1 => ?_, S.tabs⟩
    · obtain ⟨i1, _, _, a1, _, _, o1⟩ := hand z1
      obtain ⟨i2, _, _, a2, _, _, o2⟩ := hand z2
      have := S.inj i1 i2 a o1 o2
      subst this
      exact agOk_inj ok a1 a2
    · have h0 := h1
      unfold penv at h1
      rw [List.getElem?_map] at h1
      cases q : as[j]? with
      | none => rw [q] at h1; cases h1
      | some g =>
        obtain ⟨v, hv, rv⟩ := pr_get ha q
        rw [q] at h1
        cases h1
        cases g with
        | v d => exact ⟨v, by rw [List.getElem?_map, hv]; rfl, Rep.sub (sub_less less) rv⟩
        | o i =>
          obtain ⟨pm2, c2, h3⟩ := agOk_own ok q
          simp only [agSlot, h3]
          obtain ⟨p, e1, cr⟩ := S.slot i _ h3
          rw [show σ[i]? = some (some v) from rv] at e1
          cases e1
          exact ⟨p, by rw [List.getElem?_map, hv]; rfl, cr.sub (sub_less less) rfl⟩
  refine ⟨hl, _, penv as e, Sp, fun i pm lk c z => ?_, ?_⟩
  · unfold penv at z
    rw [List.getElem?_map] at z
    cases q : as[i]? with
    | none => rw [q] at z; cases z
    | some g =>
      rw [q] at z
      cases g with
      | v d => cases z
      | o k =>
        obtain ⟨pm2, c2, h3⟩ := agOk_own ok q
        simp only [Option.map_some, agSlot, h3] at z
        cases z
        exact ⟨rfl, rfl⟩
  · -- behind the call
    have nd : (nums as).Nodup := by
      have ok' := ok
      unfold agOk at ok'
      rw [Bool.and_eq_true] at ok'
      exact of_decide_eq_true ok'.1
    have fin : ∀ {H' : Hp} {pe : En} {B1 : Addr → Prop}, (∀ a, (Nof B e σ a ∧ ¬ hid (penv as e) (vs.map some) a) → B1 a) → (∀ a, B1 a → (Nof B e σ a ∧ ¬ hid (penv as e) (vs.map some) a) ∨ H a = none) → SRel K ca B1 (vs.map some) H' pe → Keep (vs.map some) H (penv as e) H' pe →
        SRel K ca (fun a => B a ∨ (B1 a ∧ H a = none)) σ H' (back as pe e) ∧ Keep σ H e H' (back as pe e) ∧ (∀ a, Nof (fun a => B a ∨ (B1 a ∧ H a = none)) (back as pe e) σ a → Nof B1 pe (vs.map some) a) := fun {H' pe B1} hB hB' Sq kq => by
      have pown : ∀ {j i : Nat}, as[j]? = some (.o i) → ∃ pm c c' p, e[i]? = some (.own pm false c) ∧ (penv as e)[j]? = some (.own true false c) ∧ pe[j]? = some (.own true false c') ∧ (back as pe e)[i]? = some (.own pm false c') ∧ σ[i]? = some (some (.ref p)) ∧ (vs.map some)[j]? = some (some (.ref p)) := fun {j i} hj => by
        obtain ⟨pm, c, h3⟩ := agOk_own ok hj
        obtain ⟨v, hv, rv⟩ := pr_get ha hj
        obtain ⟨p, e1, _⟩ := S.slot i _ h3
        have rv' : σ[i]? = some (some v) := rv
        rw [rv'] at e1
        cases e1
        have hp : (penv as e)[j]? = some (.own true false c) := by
          unfold penv
          rw [List.getElem?_map, hj]
          simp only [Option.map_some, agSlot, h3]
        obtain ⟨c', h4⟩ := kq.pm j false c hp
        exact ⟨pm, c, c', p, h3, hp, h4, back_at nd hj h4 h3, rv', by rw [List.getElem?_map, hv]; rfl⟩
      -- the slots behind
      have bown : ∀ {i : Nat} {pm lk c'}, (back as pe e)[i]? = some (.own pm lk c') → ∃ c, e[i]? = some (.own pm lk c) := fun {i pm lk c'} hb => by
        by_cases hi : i ∈ nums as
        · obtain ⟨g, hg, hn⟩ := List.mem_filterMap.mp hi
          obtain ⟨j, hj⟩ := List.mem_iff_getElem?.mp hg
          cases g with
          | v d => cases hn
          | o k =>
            cases hn
            obtain ⟨pm2, c, c2, p, h3, _, _, h4, _, _⟩ := pown hj
            rw [hb] at h4; cases h4
            exact ⟨c, h3⟩
        · rw [back_not hi] at hb; exact ⟨_, hb⟩
      have eown : ∀ {i : Nat} {pm lk c}, e[i]? = some (.own pm lk c) → ∃ c', (back as pe e)[i]? = some (.own pm lk c') := fun {i pm lk c} he => by
        by_cases hi : i ∈ nums as
        · obtain ⟨g, hg, hn⟩ := List.mem_filterMap.mp hi
          obtain ⟨j, hj⟩ := List.mem_iff_getElem?.mp hg
          cases g with
          | v d => cases hn
          | o k =>
            cases hn
            obtain ⟨pm2, c, c2, p, h3, _, _, h4, _, _⟩ := pown hj
            rw [he] at h3; cases h3
            exact ⟨_, h4⟩
        · exact ⟨c, by rw [back_not hi]; exact he⟩
      have hb : ∀ {i a}, OwnAt (back as pe e) σ i a → OwnAt e σ i a := fun {i a} ⟨⟨pm, lk, c, h1⟩, h2⟩ => by
        obtain ⟨c0, h3⟩ := bown h1
        exact ⟨⟨_, _, _, h3⟩, h2⟩
      have he : ∀ {i a}, OwnAt e σ i a → OwnAt (back as pe e) σ i a := fun {i a} ⟨⟨pm, lk, c, h1⟩, h2⟩ => by
        obtain ⟨c0, h3⟩ := eown h1
        exact ⟨⟨_, _, _, h3⟩, h2⟩
      have hsub : ∀ {a}, hid (penv as e) (vs.map some) a → hid e σ a := fun {a} ⟨j, z⟩ => by
        obtain ⟨i, _, _, _, _, _, y⟩ := hand z
        exact ⟨i, y⟩
      have pn : ∀ {a}, hid (penv as e) (vs.map some) a → hid pe (vs.map some) a := fun {a} ⟨j, ⟨pm, lk, c, h1⟩, h2⟩ => by
        obtain ⟨i, pm2, c2, _, _, h3, _⟩ := hand ⟨⟨pm, lk, c, h1⟩, h2⟩
        obtain ⟨c', h4⟩ := kq.pm j false c2 h3
        exact ⟨j, ⟨_, _, _, h4⟩, h2⟩
      have lessB : ∀ a, Nof (fun a => B a ∨ (B1 a ∧ H a = none)) (back as pe e) σ a → Nof B1 pe (vs.map some) a := fun a z => by
        have key : Nof B e σ a → Nof B1 pe (vs.map some) a := fun z => by
          by_cases q : hid (penv as e) (vs.map some) a
          · exact .inr (pn q)
          · exact .inl (hB a ⟨z, q⟩)
        rcases z with (z | z) | ⟨i, z⟩
        · exact key (.inl z)
        · exact .inl z.1
        · exact key (.inr ⟨i, hb z⟩)
      have heap : ∀ a o, H a = some o → NT o → ¬ hid e σ a → H' a = some o := fun a o ea nu n => kq.heap a o ea nu fun z => n (hsub z)
      refine ⟨⟨by rw [back_len]; exact S.len, fun a z => ?_, fun a ⟨i, z⟩ y => ?_, fun i j a z1 z2 => S.inj i j a (hb z1) (hb z2), fun i s h1 => ?_, Sq.tabs⟩, ⟨fun i pm lk c' h1 => bown h1, fun i lk c h1 => eown h1, fun i pm c h1 => ?_, fun i s h1 ns => ?_, heap, kq.dom⟩, lessB⟩
      · rcases z with z | z
        · exact fun y => S.dom a z (kq.dom a y)
        · exact Sq.dom a z.1
      · rcases y with y | y
        · exact S.sep a ⟨i, hb z⟩ y
        · obtain ⟨o, eo⟩ := S.hdom ⟨i, hb z⟩
          rw [y.2] at eo; cases eo
      · by_cases hi : i ∈ nums as
        · obtain ⟨g, hg, hn⟩ := List.mem_filterMap.mp hi
          obtain ⟨j, hj⟩ := List.mem_iff_getElem?.mp hg
          cases g with
          | v d => cases hn
          | o k =>
            cases hn
            obtain ⟨pm2, c, c2, p, h3, h5, h6, h4, h7, h8⟩ := pown hj
            rw [h1] at h4
            cases h4
            obtain ⟨p', e1, cr⟩ := Sq.slot j _ h6
            rw [h8] at e1
            cases e1
            exact ⟨p, h7, cr.sub (sub_less lessB) rfl⟩
        · rw [back_not hi] at h1
          have r := S.slot i s h1
          have sbx : Sub (Nof B e σ) (Nof (fun a => B a ∨ (B1 a ∧ H a = none)) (back as pe e) σ) H H' := fun a o ea nu n => ⟨fun z => by
            rcases z with (z | z) | ⟨j, z⟩
            · exact n (.inl z)
            · rw [z.2] at ea; cases ea
            · exact n (.inr ⟨j, hb z⟩), heap a o ea nu fun z => n (.inr z)⟩
          cases s with
          | none => trivial
          | val d => obtain ⟨x, e1, r⟩ := r; exact ⟨x, e1, r.sub sbx⟩
          | own pm lk c =>
            obtain ⟨p, e1, cr⟩ := r
            refine ⟨p, e1, cr.sub sbx ?_⟩
            obtain ⟨o, ho, hdat⟩ := cr.dat
            rw [ho]
            refine kq.heap p o ho hdat.nt fun ⟨j, z⟩ => ?_
            obtain ⟨i2, _, _, a2, _, _, o2⟩ := hand z
            have : i = i2 := S.inj i i2 p ⟨⟨_, _, _, h1⟩, e1⟩ o2
            subst this
            exact hi (List.mem_filterMap.mpr ⟨_, List.mem_of_getElem? a2, rfl⟩)
      · by_cases hi : i ∈ nums as
        · exfalso
          obtain ⟨g, hg, hn⟩ := List.mem_filterMap.mp hi
          obtain ⟨j, hj⟩ := List.mem_iff_getElem?.mp hg
          cases g with
          | v d => cases hn
          | o k =>
            cases hn
            obtain ⟨pm2, c, c2, p, h3, _, _, h4, _, _⟩ := pown hj
            rw [h1] at h3; cases h3
        · rw [back_not hi]; exact h1
      · cases s with
        | none => exact absurd rfl ns
        | own pm lk c =>
          obtain ⟨c', h2⟩ := eown h1
          exact ⟨_, h2, fun z => nomatch z⟩
        | val d =>
          refine ⟨_, ?_, ns⟩
          rw [back_not]
          · exact h1
          · intro hi
            obtain ⟨g, hg, hn⟩ := List.mem_filterMap.mp hi
            obtain ⟨j, hj⟩ := List.mem_iff_getElem?.mp hg
            cases g with
            | v d => cases hn
            | o k =>
              cases hn
              obtain ⟨pm2, c, c2, p, h3, _⟩ := pown hj
              rw [h1] at h3; cases h3
    have sbc : ∀ {H' : Hp} {pe : En}, Keep (vs.map some) H (penv as e) H' pe → Keep σ H e H' (back as pe e) → Sub (Nof B e σ) (Nof B (back as pe e) σ) H H' := fun {H' pe} kq k2 => k2.sub
    have post : ∀ {H' : Hp} {pe : En}, Post K ca (fun a => Nof B e σ a ∧ ¬ hid (penv as e) (vs.map some) a) (vs.map some) H (penv as e) H' pe →
        Post K ca B σ H e H' (back as pe e) ∧ ∀ a, Nof B (back as pe e) σ a → Nof (fun a => Nof B e σ a ∧ ¬ hid (penv as e) (vs.map some) a) pe (vs.map some) a := fun {H' pe} P => by
      obtain ⟨S2, k2, l2⟩ := fin (fun a z => z) (fun a z => .inl z) P.rel P.keep
      exact ⟨⟨S2.less fun a z => .inl z, k2⟩, fun a z => l2 a (z.imp .inl id)⟩
    cases q : fn (penv as e) with
    | stuck => rw [q] at h; exact h.elim
    | exn x pe =>
      rw [q] at h
      intro cls d H' P xr
      obtain ⟨P2, l2⟩ := post P
      exact hW cls d H' (h cls d H' P2 (xr.sub l2))
    | ok r pe =>
      rw [q] at h
      intro H' P v R
      obtain ⟨P2, l2⟩ := post P
      refine h H' P2 v ?_
      cases r with
      | val d => exact Rep.sub (sub_less l2) R
      | fresh c =>
        obtain ⟨p, rfl, n0, np, cr, Sq⟩ := R
        obtain ⟨S3, k3, l3⟩ := fin (B1 := fun a => (Nof B e σ a ∧ ¬ hid (penv as e) (vs.map some) a) ∨ a = p) (fun a z => .inl z) (fun a z => z.imp id fun y => by subst y; exact n0) Sq P.keep
        refine ⟨p, rfl, dm p n0, fun z => np (l2 p z), cr.sub (sub_less fun a z => z.imp (l2 a) id) rfl, S3.less fun a z => z.imp id fun y => ⟨.inr y, by subst y; exact n0⟩⟩
      | bor j =>
        obtain ⟨hv, s0, hs, ns⟩ := R
        show RRep K ca B σ H0 H' _ v (match as[j]? with
          | some (.o i) => .bor i
          | some (.v d) => .val d
          | none => .val .non)
        cases q2 : as[j]? with
        | none =>
          exfalso
          have h1 : j < pe.length := (List.getElem?_eq_some_iff.mp hs).1
          have h2 := P.rel.len
          rw [List.length_map, hl] at h2
          rw [List.getElem?_eq_getElem (by omega)] at q2; cases q2
        | some g =>
          obtain ⟨v', hv', rv⟩ := pr_get ha q2
          rw [List.getElem?_map, hv'] at hv
          cases hv
          cases g with
          | v d => exact Rep.sub P2.keep.sub rv
          | o i =>
            refine ⟨rv, ?_⟩
            obtain ⟨pm, c, h3⟩ := agOk_own ok q2
            exact P2.keep.nn i _ h3 fun z => nomatch z
end
section
variable {X : Cx} {ca : Ca} {k : Nat} {f : Addr} {fd : FuncData} {ps : List Str} {x : Str} {p pos : Pos} {e : Expr} {es : List Expr} {ma : MA} {fn : Fn} {modes : List Bool} {n : Nat}
theorem prep_len : ∀ {ms : List Bool} {rs : List RV} {e e2 : En} {as : List Ag}, prep ms rs e = .ok as e2 → as.length = rs.length
  | _, [], e, e2, as, h => by cases h; rfl
  | ms, r :: rs, e, e2, as, h => by
    unfold prep at h
    cases q : prep1 (ms.headD false) r e with
    | stuck => rw [q] at h; cases h
    | exn x e1 => rw [q] at h; cases h
    | ok a e1 =>
      rw [q] at h
      simp only [Out.bind_ok] at h
      cases q2 : prep ms.tail rs e1 with
      | stuck => rw [q2] at h; cases h
      | exn x e1 => rw [q2] at h; cases h
      | ok as2 e3 =>
        rw [q2] at h
        cases h
        exact congrArg (· + 1) (prep_len q2)
/-- from the arguments to the callee -/
theorem callOn_core {W : WX} {B : Addr → Prop} {σ : St} {H H1 : Hp} {env e1 : En} {rs : List RV} {vs : List V} {Q : VK} (P : Post X.K ca B σ H env H1 e1) (Rs : RReps X.K ca B σ H1 e1 vs rs) (hn : rs.length = n)
    (h : CondG X.K ca W B σ H1 e1 (callOn modes fn rs e1) fun r e H' => ∀ v, RRep X.K ca B σ H H' e v r → Q v H') : spF X.K ca n fn vs H1 Q (WE W σ) := by
  obtain ⟨as, e2, P2, ra, k⟩ := prep_ok (CondG.eqn h.bind) P.rel Rs
  obtain ⟨qp, k⟩ := k
  have hl : as.length = n := (prep_len qp).trans hn
  by_cases ok : agOk as e2 = true
  · rw [if_pos ok] at k
    rw [← hl]
    exact call_core P.keep.dom P2.rel ra ok (fun _ _ _ z => z) (fun _ _ _ z => z) k
  · rw [if_neg ok] at k; exact k.elim
theorem rreps_app {K : PySem.W.Frag} {B : Addr → Prop} {σ : St} {H : Hp} {env : En} : ∀ {vs ws : List V} {rs ts : List RV}, RReps K ca B σ H env vs rs → RReps K ca B σ H env ws ts → RReps K ca B σ H env (vs ++ ws) (rs ++ ts)
  | _, _, _, _, .nil, h => h
  | _, _, _, _, .cons r t, h => .cons r (rreps_app t h)
theorem rreps_dfs {K : PySem.W.Frag} {B : Addr → Prop} {σ : St} {H : Hp} {env : En} : ∀ {dvs : List V} {dfs : List D}, DfRep K ca dvs dfs → RReps K ca B σ H env dvs (dfs.map .val)
  | _, _, .nil => .nil
  | _, _, .cons r t => .cons ⟨rfl, fun H0 => r _ _⟩ (rreps_dfs t)
theorem callD_core {W : WX} {B : Addr → Prop} {σ : St} {H H1 : Hp} {env e1 : En} {rs : List RV} {vs dvs : List V} {dfs : List D} {Q : VK} (hd : DfRep X.K ca dvs dfs) (P : Post X.K ca B σ H env H1 e1) (Rs : RReps X.K ca B σ H1 e1 vs rs)
    (h : CondG X.K ca W B σ H1 e1 (callD n modes fn dfs rs e1) fun r e H' => ∀ v, RRep X.K ca B σ H H' e v r → Q v H') : spF X.K ca n fn (vs ++ dvs) H1 Q (WE W σ) := by
  unfold callD at h
  by_cases q : rs.length + dfs.length = n
  · rw [if_pos q] at h
    exact callOn_core P (rreps_app Rs (rreps_dfs hd)) (by rw [List.length_append, List.length_map]; exact q) h
  · rw [if_neg q] at h; exact h.elim
/-- a def that may be called by its name: its meaning, its defaults -/
structure Call1 (X : Cx) (ca : Ca) (k : Nat) (x : Str) (n : Nat) (fn : Fn) (dfs : List D) : Prop where
  ex : ∃ (f : Addr) (fd : FuncData) (ps : List Str) (dvs : List V) (ds : List Value), FnOk X.prog X.w X.K X.mg X.base (L2.CX X.prog X.w) k f fd ps (spF X.K ca n fn) ∧ X.mg x = some (.ref f) ∧ PySem.W.keepIn X.K (.ref f) = true ∧ L2.Binds X.K fd ps ds ∧ Vals dvs ds ∧ DfRep X.K ca dvs dfs
variable {dfs : List D}
/-- f(e, ..) -/
theorem ve_call (C : Call1 X ca k x n fn dfs) (hr : Room k X.A) (hg : Gl X x)
    (ha : VA X ca (e :: es) ma) (hdb : (x == ("__debug__" : Str)) = false) (he : starEach (e :: es) X.env = (false, eval e X.env) :: starEach es X.env) (hpl : (backTo pos (starEach es X.env)).any (·.1) = false) :
    VE X ca (.Call (.Name x p) (e :: es) [] pos) (mCall n modes fn dfs ma) := fun W tk => by
  obtain ⟨f, fd, ps, dvs, ds, F, hm, hk, hb, hv, hd⟩ := C.ex
  exact peImp (pe_callSD (E := WE W) F hr hg hm hk hb hv (passAt tk) (ha W tk) hdb he hpl) fun σ H Q ⟨B, env, S, h⟩ => ⟨B, env, S, (CondG.bind h).imp fun rs e1 H1 P k vs Rs => callD_core hd P Rs k⟩
end
end Pw

set_option maxHeartbeats 4000000
/-! PwN: attributes, methods, new instances, stores to an attribute. -/
namespace Pw
open PySem PySem.Spec PyProof.Rows L2

def noExn {α : Type} (o : Out α) : Out α := match o with
  | .ok a e => .ok a e
  | _ => .stuck
/-- f is an attribute of these classes' instances, no class of them has it -/
structure AtI where
  flds : List Str
  props : List (Str × Fn)
def attrOut (I : AtI) (f : Str) (r : RV) (e : En) : Out RV := match view r e with
  | some (.obj c fs) => match I.props.lookup c with
    | some fn => noExn (callD 1 [true] fn [] [norm r] e)
    | none => if I.flds.contains c = true then match fs.lookup f with
      | some d => .ok (.val d) e
      | none => .stuck
      else .stuck
  | _ => .stuck
def mAttr (I : AtI) (f : Str) (m : ME) : ME := fun e => (m e).bind fun r e1 => attrOut I f r e1
structure FldOk (X : Cx) (ca : Ca) (c f : Str) : Prop where
  ok : ∀ C, ca c = some C → Cls X.K C ∧ NoAttr X.K C f
structure PropOk (X : Cx) (ca : Ca) (k : Nat) (c f : Str) (fn : Fn) : Prop where
  ok : ∃ (C p g : Addr) (fd : FuncData) (ps : List Str), ca c = some C ∧ Cls X.K C ∧ PropOf X.K C f p g ∧ FnOk X.prog X.w X.K X.mg X.base (L2.CX X.prog X.w) k g fd ps (spF X.K ca 1 fn) ∧ L2.Binds X.K fd ps []
structure AtOk (X : Cx) (ca : Ca) (k : Nat) (I : AtI) (f : Str) : Prop where
  fld : ∀ c ∈ I.flds, FldOk X ca c f
  prop : ∀ c fn, I.props.lookup c = some fn → PropOk X ca k c f fn
section
variable {X : Cx} {ca : Ca} {k : Nat} {e : Expr} {f : Str} {I : AtI} {mo : ME} {pos : Pos} {W : WX} {B : Addr → Prop} {σ : St} {H H1 : Hp} {env e1 : En} {α : Type}
theorem noExn_cond {o : Out α} {k : α → En → Hp → Prop} {W' : WX} (h : CondG X.K ca W B σ H env (noExn o) k) : CondG X.K ca W' B σ H env o k := by
  cases o with
  | ok a e => exact h
  | exn x e => exact h.elim
  | stuck => exact h.elim
theorem spF_E {n : Nat} {fn : Fn} {vs : List V} {Q : VK} {E E' : XK} (h : spF X.K ca n fn vs H Q E) (i : ∀ cls d H, E cls d H → E' cls d H) : spF X.K ca n fn vs H Q E' := by
  obtain ⟨hl, B, env, S, po, q⟩ := h
  refine ⟨hl, B, env, S, po, ?_⟩
  cases z : fn env with
  | ok r e => rw [z] at q; exact q
  | stuck => rw [z] at q; exact q
  | exn x e => rw [z] at q; exact fun cls d H' P xr => i cls d H' (q cls d H' P xr)
theorem pass_none {X : Cx} : Passes (L2.CX X.prog X.w) X fun _ _ _ => False := fun _ _ _ _ _ _ _ ⟨_, _, _, _, _, _, _, _, _, _, _, _, z⟩ => z.elim
theorem obj_of {r : RV} {v : V} {c : Str} {fs : List (Str × D)} {H0 : Hp} (S : SRel X.K ca B σ H1 e1) (R : RRep X.K ca B σ H0 H1 e1 v r) (q : view r e1 = some (.obj c fs)) :
    ∃ a C dx fvs, v = .ref a ∧ ca c = some C ∧ H1 a = some (.ins C dx fvs) ∧ FReps X.K ca (Nof B e1 σ) H1 fvs fs := vr_obj (R.view S q)
theorem ve_attr (hk : AtOk X ca k I f) (hr : Room (k + 1) X.A) (he : VE X ca e mo) (hb : attributeBase e f X.env (eval e X.env) = eval e X.env) : VE X ca (.Attribute e f pos) (mAttr I f mo) := fun W tk => ⟨fun pins s σ H Q Iv ⟨B, env, S, h⟩ => by
  have h' : CondG X.K ca W B σ H env ((mo env).bind fun r e1 => attrOut I f r e1) fun r e H' => ∀ v, RRep X.K ca B σ H H' e v r → Q v H' := h
  cases q : mo env with
  | stuck => rw [q] at h'; exact h'.elim
  | exn x e1 =>
    rw [q] at h'
    refine (L2.pe_fld (pos := pos) (f := f) (he W tk) hb).run pins s σ H Q Iv ⟨B, env, S, ?_⟩
    rw [q]
    exact h'
  | ok r0 e0 =>
    cases qv : view r0 e0 with
    | none => rw [q] at h'; simp only [Out.bind_ok, attrOut, qv] at h'; exact h'.elim
    | some d =>
    cases d with
    | obj c fs =>
      cases qp : I.props.lookup c with
      | some fn =>
        obtain ⟨C, p, g, fd, ps, hc, cl, hp, F, hbi⟩ := (hk.prop c fn qp).ok
        refine (pe_prop (pos := pos) (he W tk) cl hp F hr hbi .nil (pass_none (X := X.nox)) hb).run pins s σ H Q Iv ⟨B, env, S, (CondG.eqn (CondG.bind h')).imp fun r e1 H1 P ⟨q1, k1⟩ v R => ?_⟩
        rw [q] at q1
        cases q1
        obtain ⟨a, C', dx, fvs, rfl, hc', ha, fr⟩ := obj_of P.rel R qv
        rw [hc] at hc'
        cases hc'
        refine ⟨a, dx, fvs, rfl, ha, ?_⟩
        simp only [attrOut, qv, qp] at k1
        have k2 := noExn_cond (W' := fun _ _ _ _ => False) k1
        have := callD_core (vs := [.ref a]) (dvs := []) .nil P (.cons ⟨norm_norm _, fun H0 => (RRep.norm R).any⟩ .nil) k2
        exact spF_E this fun _ _ _ z => z
      | none =>
        refine (L2.pe_fld (pos := pos) (f := f) (he W tk) hb).run pins s σ H Q Iv ⟨B, env, S, (CondG.eqn (CondG.bind h')).imp fun r e1 H1 P ⟨q1, k1⟩ v R => ?_⟩
        rw [q] at q1
        cases q1
        obtain ⟨a, C', dx, fvs, rfl, hc', ha, fr⟩ := obj_of P.rel R qv
        simp only [attrOut, qv, qp] at k1
        by_cases cf : I.flds.contains c = true
        · rw [if_pos cf] at k1
          obtain ⟨cl, na⟩ := (hk.fld c (by simpa using cf)).ok C' hc'
          cases ql : fs.lookup f with
          | none => rw [ql] at k1; exact k1.elim
          | some d =>
            rw [ql] at k1
            obtain ⟨y, hy, ry⟩ := fr.look ql
            exact ⟨a, C', dx, fvs, y, rfl, ha, cl, na, hy, k1.now (.refl P.rel) y ry⟩
        · rw [if_neg cf] at k1; exact k1.elim
    | _ => rw [q] at h'; simp only [Out.bind_ok, attrOut, qv] at h'; exact h'.elim⟩
end
/-! ### methods -/
section
variable {X : Cx} {CX : CXT} {k : Nat} {f C : Addr} {fd : FuncData} {ps : List Str} {sp : Sp} {dvs : List V} {ds : List Value} {E : St → XK} {m : Str} {pos apos : Pos} {e o : Expr} {es : List Expr} {ta : TE} {t : TA}
def tMethA (C : Addr) (m : Str) (sp : Sp) (dvs : List V) (E : St → XK) (ta : TE) (t : TA) : TE := fun σ H Q =>
  ta σ H fun x H1 => ∃ a dx fs, x = .ref a ∧ H1 a = some (.ins C dx fs) ∧ fs.lookup m = none ∧ t σ H1 fun vs H2 => sp ((x :: vs) ++ dvs) H2 Q (E σ)
/-- how the tree of a method's call is walked -/
def MTree (env : Env) (o : Expr) (m : Str) (args : List Expr) (apos pos : Pos) : Prop := ∃ pl : Sem Bool, eval (.Call (.Attribute o m apos) args [] pos) env = (do
  let ov ← eval o env
  standAt apos.atName
  let (f, first) ← holding [ov] (getMethod ov m pl)
  callWith pos f first (backTo pos (starEach args env)) (backToKw pos (keywordEach [] env)))
theorem pe_methA (he : PE X o ta) (c : Cls X.K C) (hm : Meth X.K C m f) (F : FnOk X.prog X.w X.K X.mg X.base CX k f fd ps sp) (hr : Room k X.A) (hb : L2.Binds X.K fd ps ds) (hd : Vals dvs ds) (hx : ∀ σ, PassesAt CX X σ (E σ))
    (ha : PA X es t) (h0 : (es = [] ∧ ∀ σ H Q, t σ H Q → Q [] H) ∨ ∃ e r, es = e :: r ∧ starEach (e :: r) X.env = (false, eval e X.env) :: starEach r X.env ∧ (backTo pos (starEach r X.env)).any (·.1) = false) (ht : MTree X.env o m es apos pos) :
    PE X (.Call (.Attribute o m apos) es [] pos) (tMethA C m sp dvs E ta t) := by
  obtain ⟨pl, ht⟩ := ht
  constructor
  intro pins s σ H Q I h
  refine PySem.W.methodCall_KW (pl := pl) (thn (he.run pins s σ H _ I h) ?_) ht
  rintro u s1 ⟨x, H1, I1, rx, a, dx, fs, rfl, ea, l, q⟩
  cases rx
  refine getmeth_ok I1 ea c hm l ?_
  have fin : ∀ (us : List Value) (s2 : Shared) (vs : List V) (H2 : Hp), Inv X pins σ H2 s2 → Vals vs us → sp ((V.ref a :: vs) ++ dvs) H2 Q (E σ) → wpAny (model X.prog X.w) X.A (call (.ref f) (.ref a :: us)) (EP X pins σ Q) X.xe s2 :=
    fun us s2 vs H2 I2 r q2 => run_fnSD (vs := .ref a :: vs) F hr hb hd (hx σ) I2 (.cons rfl r) q2
  rcases h0 with ⟨rfl, h0⟩ | ⟨e, r, rfl, hs, hp⟩
  · exact PySem.W.callWith_K0 (first := [.ref a]) I1.kIn hm.kp (fin [] s1 [] H1 I1 .nil (h0 _ _ _ q))
  · exact PySem.W.callWith_K (first := [.ref a]) (h₀ := X.base) I1.ok.mod.kin hm.kp (thn (ha.run pos pins s1 σ H1 _ I1 q) fun us s2 ⟨vs, H2, I2, rr, q2⟩ => ⟨I2.kIn, fin us s2 vs H2 I2 rr q2⟩) hs hp
end
/-- a method by its class: its meaning -/
structure MtI where
  n : Nat
  modes : List Bool
  fn : Fn
  dfs : List D
def methO (cs : List (Str × MtI)) (m : Str) (r : RV) (e : En) : Option MtI := match view r e with
  | some (.obj c fs) => match fs.lookup m with
    | none => cs.lookup c
    | some _ => none
  | _ => none
def mMethO (cs : List (Str × MtI)) (m : Str) (mo : ME) (ma : MA) : ME := fun e => (mo e).bind fun r e1 => match methO cs m r e1 with
  | some i => (ma e1).bind fun rs e2 => callD i.n i.modes i.fn i.dfs (norm r :: rs) e2
  | none => .stuck
structure MetOk (X : Cx) (ca : Ca) (k : Nat) (c m : Str) (i : MtI) : Prop where
  ok : ∃ (C f : Addr) (fd : FuncData) (ps : List Str) (dvs : List V) (ds : List Value), ca c = some C ∧ Cls X.K C ∧ Meth X.K C m f ∧ FnOk X.prog X.w X.K X.mg X.base (L2.CX X.prog X.w) k f fd ps (spF X.K ca i.n i.fn) ∧ L2.Binds X.K fd ps ds ∧ Vals dvs ds ∧ DfRep X.K ca dvs i.dfs
section
variable {X : Cx} {ca : Ca} {k : Nat} {m : Str} {pos apos : Pos} {e o : Expr} {es : List Expr} {mo : ME} {ma : MA} {cs : List (Str × MtI)}
theorem ve_methO (hk : ∀ c i, cs.lookup c = some i → MetOk X ca k c m i) (hr : Room k X.A) (ho : VE X ca o mo) (ha : VA X ca es ma)
    (h0 : (es = [] ∧ ma = mNil) ∨ ∃ e r, es = e :: r ∧ starEach (e :: r) X.env = (false, eval e X.env) :: starEach r X.env ∧ (backTo pos (starEach r X.env)).any (·.1) = false) (ht : MTree X.env o m es apos pos) :
    VE X ca (.Call (.Attribute o m apos) es [] pos) (mMethO cs m mo ma) := fun W tk => ⟨fun pins s σ H Q Iv ⟨B, env, S, h⟩ => by
  have h' : CondG X.K ca W B σ H env ((mo env).bind fun r e1 => match methO cs m r e1 with
    | some i => (ma e1).bind fun rs e2 => callD i.n i.modes i.fn i.dfs (norm r :: rs) e2
    | none => .stuck) fun r e H' => ∀ v, RRep X.K ca B σ H H' e v r → Q v H' := h
  have h1 : (es = [] ∧ ∀ σ H Q, tMA X.K ca W ma σ H Q → Q [] H) ∨ ∃ e r, es = e :: r ∧ starEach (e :: r) X.env = (false, eval e X.env) :: starEach r X.env ∧ (backTo pos (starEach r X.env)).any (·.1) = false :=
    h0.imp (fun ⟨a, b⟩ => ⟨a, fun σ H Q ⟨B, env, S, q⟩ => by subst b; exact q.now (.refl S) [] .nil⟩) id
  have run : ∀ {C f : Addr} {fd : FuncData} {ps : List Str} {dvs : List V} {ds : List Value} {i : MtI}, Cls X.K C → Meth X.K C m f → FnOk X.prog X.w X.K X.mg X.base (L2.CX X.prog X.w) k f fd ps (spF X.K ca i.n i.fn) → L2.Binds X.K fd ps ds → Vals dvs ds →
      PE X (.Call (.Attribute o m apos) es [] pos) (tMethA C m (spF X.K ca i.n i.fn) dvs (WE W) (tM X.K ca W mo) (tMA X.K ca W ma)) := fun cl hm F hb hd => pe_methA (ho W tk) cl hm F hr hb hd (passAt tk) (ha W tk) h1 ht
  cases q : mo env with
  | stuck => rw [q] at h'; exact h'.elim
  | exn x e1 =>
    rw [q] at h'
    obtain ⟨pl, ht⟩ := ht
    exact PySem.W.methodCall_KW (pl := pl) (thn ((ho W tk).run pins s σ H (fun _ _ => False) Iv ⟨B, env, S, by rw [q]; exact h'⟩) fun u s1 ⟨_, _, _, _, z⟩ => z.elim) ht
  | ok r0 e0 =>
    rw [q] at h'
    simp only [Out.bind_ok] at h'
    cases qi : methO cs m r0 e0 with
    | none => rw [qi] at h'; exact h'.elim
    | some i =>
      have hv : ∃ c fs, view r0 e0 = some (.obj c fs) ∧ fs.lookup m = none ∧ cs.lookup c = some i := by
        unfold methO at qi
        split at qi
        · rename_i c fs hv
          split at qi
          · rename_i hl
            exact ⟨c, fs, hv, hl, qi⟩
          · cases qi
        · cases qi
      obtain ⟨c, fs, hv, hl, hc⟩ := hv
      obtain ⟨C, f, fd, ps, dvs, ds, hC, cl, hm, F, hb, hd, hdf⟩ := (hk c i hc).ok
      have h2 : CondG X.K ca W B σ H env (mo env) fun r e1 H1 => CondG X.K ca W B σ H1 e1 (match methO cs m r e1 with
        | some i => (ma e1).bind fun rs e2 => callD i.n i.modes i.fn i.dfs (norm r :: rs) e2
        | none => .stuck) fun r e H' => ∀ v, RRep X.K ca B σ H H' e v r → Q v H' := CondG.bind h
      refine (run cl hm F hb hd).run pins s σ H Q Iv ⟨B, env, S, h2.eqn.imp fun r e1 H1 P ⟨q1, k1⟩ v R => ?_⟩
      rw [q] at q1
      cases q1
      obtain ⟨a, C', dx, fvs, rfl, hc', ha', fr⟩ := obj_of P.rel R hv
      rw [hC] at hc'
      cases hc'
      refine ⟨a, dx, fvs, rfl, ha', fr.look_none hl, ?_⟩
      rw [qi] at k1
      refine ⟨B, e0, P.rel, (CondG.bind k1).imp fun rs e2 H2 P2 k2 vs Rs => ?_⟩
      exact callD_core hdf (P.trans P2) (.cons ⟨norm_norm _, fun H0 => ((RRep.norm R).nkeep (H1 := H) P2.keep).any⟩ Rs) k2⟩
end
/-! ### a new instance -/
section
variable {X : Cx} {CX : CXT} {k : Nat} {f C : Addr} {fd : FuncData} {ps : List Str} {sp : Sp} {dvs : List V} {ds : List Value} {E : St → XK} {x : Str} {p pos : Pos} {e : Expr} {es : List Expr} {t : TA}
/-- the maker's end, the wish of exceptions at the caller's slots -/
theorem run_makeA {pins : List (Addr × Obj)} {σ : St} {H : Hp} {s : Shared} {Q : VK} {us : List Value} {vs : List V} (M : Mk X.K C f) (F : FnOk X.prog X.w X.K X.mg X.base CX k f fd ps sp) (hr : Room (k + 1) X.A) (hb : L2.Binds X.K fd ps ds) (hd : Vals dvs ds)
    (hx : PassesAt CX X σ (E σ)) (I : Inv X pins σ H s) (r : Vals vs us)
    (h : ∀ x dx, H x = none → H dx = none → dx ≠ x → sp (.ref x :: (vs ++ dvs)) (upd (upd H dx (.own x)) x (.ins C dx [])) (fun v H2 => v = .non ∧ Q (.ref x) H2) (E σ)) :
    wpAny (model X.prog X.w) X.A (call (.ref C) us) (EP X pins σ Q) X.xe s := by
  have n1 := I.hok.fresh (Nat.le_refl s.heap.objs.size)
  have n2 := I.hok.fresh (Nat.le_succ s.heap.objs.size)
  have want := h _ _ n2 n1 (Nat.ne_of_lt (Nat.lt_succ_self s.heap.objs.size))
  have J := Inv.made (C := C) I
  have rr : Vals (V.ref (s.heap.objs.size + 1) :: (vs ++ dvs)) (Value.ref (s.heap.objs.size + 1) :: (us ++ ds)) := .cons rfl (r.append hd)
  have bd := hb _ (Value.ref (s.heap.objs.size + 1) :: us) J.kIn (by rw [List.cons_append, ← rr.length]; exact F.len _ _ _ _ want)
  have go := F.run _ X.stack _ _ ⟨Value.ref (s.heap.objs.size + 1) :: us, []⟩ _ _ _ (E σ) (hr.make C us []) (J.env0.make C us []) bd rr want
  refine wpAny_call (make_map (f := f) I.kIn M.makes M.init (beq_iff_eq.mp M.fn) (codeAny_mono go ?_))
  intro r s' z
  cases r with
  | error e => exact hx pins _ _ e s' J z
  | ok fl =>
    cases fl with
    | ret u =>
      obtain ⟨v, H', J', rv, rfl, q⟩ := J.after z
      exact ⟨rv, V.ref (s.heap.objs.size + 1), H', J', rfl, q⟩
    | _ => exact z.elim
def tMakeA (C : Addr) (sp : Sp) (dvs : List V) (E : St → XK) (t : TA) : TE := fun σ H Q => t σ H fun vs H1 =>
  ∀ x dx, H1 x = none → H1 dx = none → dx ≠ x → sp (.ref x :: (vs ++ dvs)) (upd (upd H1 dx (.own x)) x (.ins C dx [])) (fun v H2 => v = .non ∧ Q (.ref x) H2) (E σ)
theorem pe_makeA (M : Mk X.K C f) (F : FnOk X.prog X.w X.K X.mg X.base CX k f fd ps sp) (hr : Room (k + 1) X.A) (hg : Gl X x) (hm : X.mg x = some (.ref C)) (hb : L2.Binds X.K fd ps ds) (hd : Vals dvs ds) (hx : ∀ σ, PassesAt CX X σ (E σ))
    (ha : PA X es t) (h0 : (es = [] ∧ ∀ σ H Q, t σ H Q → Q [] H) ∨ ∃ e r, es = e :: r ∧ starEach (e :: r) X.env = (false, eval e X.env) :: starEach r X.env ∧ (backTo pos (starEach r X.env)).any (·.1) = false)
    (hdb : (x == ("__debug__" : Str)) = false) : PE X (.Call (.Name x p) es [] pos) (tMakeA C sp dvs E t) := by
  constructor
  intro pins s σ H Q I h
  refine wpAny_Call_Name_kw (ld_glob I hg hm ?_ hdb)
  rcases h0 with ⟨rfl, h0⟩ | ⟨e, r, rfl, hs, hp⟩
  · exact PySem.W.callWith_K0 I.kIn M.kp (run_makeA (us := []) (vs := []) M F hr hb hd (hx σ) I .nil (h0 _ _ _ h))
  · exact PySem.W.callWith_K (h₀ := X.base) I.ok.mod.kin M.kp (thn (ha.run pos pins s σ H _ I h) fun us s2 ⟨vs, H2, I2, rr, q2⟩ => ⟨I2.kIn, run_makeA M F hr hb hd (hx σ) I2 rr q2⟩) hs hp
end
def makeEnd (as : List Ag) (e : En) (o : Out RV) : Out RV := match o with
  | .ok (.val .non) (.own _ _ ct :: pe) => .ok (.fresh ct) (back as pe e)
  | .exn x (_ :: pe) => .exn x (back as pe e)
  | _ => .stuck
def makeOn (c : Str) (modes : List Bool) (fn : Fn) (rs : List RV) (e : En) : Out RV := (prep modes rs e).bind fun as e2 => if agOk as e2 = true then makeEnd as e2 (fn (.own true false (.obj c []) :: penv as e2)) else .stuck
def makeD (c : Str) (n : Nat) (modes : List Bool) (fn : Fn) (dfs : List D) (rs : List RV) (e : En) : Out RV := if rs.length + dfs.length + 1 = n then makeOn c modes fn (rs ++ dfs.map .val) e else .stuck
def mMake (c : Str) (n : Nat) (modes : List Bool) (fn : Fn) (dfs : List D) (ma : MA) : ME := fun e => (ma e).bind fun rs e1 => makeD c n modes fn dfs rs e1
def shiftA : Ag → Ag
  | .v d => .v d
  | .o i => .o (i + 1)
theorem slot_shift (s : Sv) (e : En) : ∀ a : Ag, agSlot (s :: e) (shiftA a) = agSlot e a
  | .v _ => rfl
  | .o i => by simp [shiftA, agSlot]
theorem penv_shift (s : Sv) (e : En) (as : List Ag) : penv (as.map shiftA) (s :: e) = penv as e := by
  unfold penv
  rw [List.map_map]
  exact List.map_congr_left fun a _ => slot_shift s e a
theorem nums_shift : ∀ as : List Ag, nums (as.map shiftA) = (nums as).map (· + 1)
  | [] => rfl
  | .v _ :: as => nums_shift as
  | .o i :: as => congrArg (fun l => (i + 1) :: l) (nums_shift as)
theorem back_shift (s : Sv) : ∀ (as : List Ag) (pe e : En), back (as.map shiftA) pe (s :: e) = s :: back as pe e
  | [], pe, e => by simp [back]
  | .v _ :: as, [], e => by simp [back, shiftA]
  | .o _ :: as, [], e => by simp [back, shiftA]
  | .v _ :: as, _ :: pe, e => by simp only [List.map_cons, shiftA, back]; exact back_shift s as pe e
  | .o i :: as, .none :: pe, e => by simp only [List.map_cons, shiftA, back]; exact back_shift s as pe e
  | .o i :: as, .val _ :: pe, e => by simp only [List.map_cons, shiftA, back]; exact back_shift s as pe e
  | .o i :: as, .own _ _ c :: pe, e => by
    simp only [List.map_cons, shiftA, back, List.getElem?_cons_succ]
    cases hq : e[i]? with
    | none => exact back_shift s as pe e
    | some t => cases t with
      | none => exact back_shift s as pe e
      | val d => exact back_shift s as pe e
      | own a b c2 => dsimp only; rw [List.set_cons_succ]; exact back_shift s as pe _
section
variable {K : PySem.W.Frag} {ca : Ca} {W : WX} {B : Addr → Prop} {σ : St} {H H' : Hp} {e e' : En} {p : Addr} {c c' : Ct}
theorem own_cons {s : Sv} {v : Option V} {i : Nat} {a : Addr} : OwnAt (s :: e) (v :: σ) (i + 1) a ↔ OwnAt e σ i a := by
  unfold OwnAt
  simp only [List.getElem?_cons_succ]
theorem SRel.consNew (S : SRel K ca B σ H e) (ex : Ext H H') (n : H p = none) (R : CRep K ca (fun a => Nof B e σ a ∨ a = p) H' p c) : SRel K ca B (some (.ref p) :: σ) H' (.own false false c :: e) := by
  have hd : ∀ {i a}, OwnAt (.own false false c :: e) (some (.ref p) :: σ) i a → (i = 0 ∧ a = p) ∨ ∃ j, i = j + 1 ∧ OwnAt e σ j a := fun {i a} h => by
    cases i with
    | zero =>
      obtain ⟨_, h2⟩ := h
      simp at h2
      exact .inl ⟨rfl, h2.symm⟩
    | succ j => exact .inr ⟨j, rfl, own_cons.mp h⟩
  have np : ∀ {j}, ¬ OwnAt e σ j p := fun {j} z => by
    obtain ⟨o, eo⟩ := S.hdom ⟨j, z⟩
    rw [n] at eo; cases eo
  have less : ∀ a, Nof B (.own false false c :: e) (some (.ref p) :: σ) a → Nof B e σ a ∨ a = p := fun a z => by
    rcases z with z | ⟨i, z⟩
    · exact .inl (.inl z)
    · rcases hd z with ⟨_, z⟩ | ⟨j, _, z⟩
      · exact .inr z
      · exact .inl (.inr ⟨j, z⟩)
  have sb : Sub (Nof B e σ) (Nof B (.own false false c :: e) (some (.ref p) :: σ)) H H' := fun a o ea _ na => ⟨(fun z => by
    rcases less a z with z | z
    · exact na z
    · subst z; rw [n] at ea; cases ea), ex a o ea⟩
  refine ⟨congrArg (· + 1) S.len, fun a b z => S.dom a b (ex.back z), fun a ⟨i, z⟩ => ?_, fun i j a z1 z2 => ?_, fun i s h => ?_, S.tabs.ext ex⟩
  · rcases hd z with ⟨_, z⟩ | ⟨j, _, z⟩
    · subst z; exact fun b => S.dom a b n
    · exact S.sep a ⟨j, z⟩
  · rcases hd z1 with ⟨rfl, rfl⟩ | ⟨j1, rfl, z1⟩ <;> rcases hd z2 with ⟨rfl, y⟩ | ⟨j2, rfl, z2⟩
    · rfl
    · exact absurd z2 np
    · subst y; exact absurd z1 np
    · rw [S.inj j1 j2 a z1 z2]
  · cases i with
    | zero => simp at h; subst h; exact ⟨p, rfl, R.sub (sub_less less) rfl⟩
    | succ i =>
      have r := S.slot i s (by simpa using h)
      rw [List.getElem?_cons_succ]
      cases s with
      | none => trivial
      | val d => obtain ⟨x, e1, r⟩ := r; exact ⟨x, e1, r.sub sb⟩
      | own pm lk c2 =>
        obtain ⟨x, e1, r⟩ := r
        obtain ⟨o, ho⟩ := r.dom
        exact ⟨x, e1, r.sub sb ((ex x o ho).trans ho.symm)⟩
theorem SRel.tailNone {v : Option V} (S : SRel K ca B (v :: σ) H (.none :: e)) : SRel K ca B σ H e := by
  have less : ∀ a, Nof B e σ a → Nof B (.none :: e) (v :: σ) a := fun a z => z.imp id fun ⟨j, z⟩ => ⟨j + 1, own_cons.mpr z⟩
  refine ⟨by have := S.len; simpa using this, S.dom, fun a ⟨i, z⟩ => S.sep a ⟨i + 1, own_cons.mpr z⟩, fun i j a z1 z2 => by simpa using S.inj (i + 1) (j + 1) a (own_cons.mpr z1) (own_cons.mpr z2), fun i s h => ?_, S.tabs⟩
  have r := S.slot (i + 1) s (by simpa using h)
  rw [List.getElem?_cons_succ] at r
  cases s with
  | none => trivial
  | val d => obtain ⟨x, e1, r⟩ := r; exact ⟨x, e1, r.sub (sub_less less)⟩
  | own pm lk c2 => obtain ⟨x, e1, r⟩ := r; exact ⟨x, e1, r.sub (sub_less less) rfl⟩
/-- the new object's slot taken away again -/
theorem post_uncons {H0 : Hp} (S0 : SRel K ca B σ H0 e) (ex : Ext H0 H) (n : H0 p = none) (P : Post K ca B (some (.ref p) :: σ) H (.own false false c :: e) H' (.own false false c' :: e')) :
    Post K ca B σ H0 e H' e' ∧ (∀ a, Nof B e' σ a → Nof B (.own false false c' :: e') (some (.ref p) :: σ) a) ∧ ¬ Nof B e' σ p ∧ CRep K ca (fun a => Nof B e' σ a ∨ a = p) H' p c' ∧ SRel K ca (fun a => B a ∨ a = p) σ H' e' := by
  obtain ⟨S1, cr⟩ := P.rel.moveOut (i := 0) rfl rfl
  have S2 : SRel K ca (fun a => B a ∨ a = p) σ H' e' := SRel.tailNone S1
  have less : ∀ a, Nof B e' σ a → Nof B (.own false false c' :: e') (some (.ref p) :: σ) a := fun a z => z.imp id fun ⟨j, z⟩ => ⟨j + 1, own_cons.mpr z⟩
  have np : ¬ Nof B e' σ p := fun z => by
    rcases z with z | z
    · exact S0.dom p z n
    · exact S2.sep p z (.inr rfl)
  have k := P.keep
  refine ⟨⟨S2.less fun a z => .inl z, fun i pm lk c2 h => ?_, fun i lk c2 h => ?_, fun i pm c2 h => ?_, fun i s h ns => ?_, fun a o ea nu na => ?_, fun a z => ?_⟩, less, np, cr.sub (sub_less fun a z => ?_) rfl, S2⟩
  · simpa using k.own (i + 1) pm lk c2 (by simpa using h)
  · simpa using k.pm (i + 1) lk c2 (by simpa using h)
  · simpa using k.lkd (i + 1) pm c2 (by simpa using h)
  · simpa using k.nn (i + 1) s (by simpa using h) ns
  · refine k.heap a o (ex a o ea) nu fun ⟨i, z⟩ => ?_
    cases i with
    | zero =>
      obtain ⟨_, h2⟩ := z
      simp at h2
      subst h2
      rw [n] at ea; cases ea
    | succ i => exact na ⟨i, own_cons.mp z⟩
  · exact ex.back (k.dom a z)
  · rcases z with (z | ⟨i, z⟩) | z
    · exact .inl (.inl z)
    · exact .inr ⟨i + 1, own_cons.mpr z⟩
    · exact .inl (.inr z)
end
theorem args_shift {K : PySem.W.Frag} {ca : Ca} {N N' : Addr → Prop} {σ : St} {v0 : Option V} {H H' : Hp} (sb : Sub N N' H H') : ∀ {vs : List V} {as : List Ag}, Paired (fun v a => AgRep K ca N σ H v a) vs as → Paired (fun v a => AgRep K ca N' (v0 :: σ) H' v a) vs (as.map shiftA)
  | _, _, .nil => .nil
  | _, _, .cons (b := .v d) r t => .cons (Rep.sub sb r) (args_shift sb t)
  | _, _, .cons (b := .o i) r t => .cons (show (v0 :: σ)[i + 1]? = _ by rw [List.getElem?_cons_succ]; exact r) (args_shift sb t)
section
variable {X : Cx} {ca : Ca} {k n : Nat} {c x : Str} {fn : Fn} {modes : List Bool} {dfs : List D} {W : WX} {B : Addr → Prop} {σ : St} {H H1 : Hp} {env e1 : En}
theorem make_core {rs : List RV} {vs : List V} {Q : VK} {C xa dx : Addr} (hc : ca c = some C) (hx : H1 xa = none) (hdx : H1 dx = none) (ne : dx ≠ xa) (P : Post X.K ca B σ H env H1 e1) (Rs : RReps X.K ca B σ H1 e1 vs rs) (hn : rs.length + 1 = n)
    (h : CondG X.K ca W B σ H1 e1 (makeOn c modes fn rs e1) fun r e H' => ∀ v, RRep X.K ca B σ H H' e v r → Q v H') :
    spF X.K ca n fn (.ref xa :: vs) (upd (upd H1 dx (.own xa)) xa (.ins C dx [])) (fun v H2 => v = .non ∧ Q (.ref xa) H2) (WE W σ) := by
  obtain ⟨as, e2, P2, ra, qp, k⟩ := prep_ok (CondG.eqn h.bind) P.rel Rs
  have hl : as.length + 1 = n := by rw [prep_len qp]; exact hn
  by_cases ok : agOk as e2 = true
  case neg => rw [if_neg ok] at k; exact k.elim
  rw [if_pos ok] at k
  have ex : Ext H1 (upd (upd H1 dx (.own xa)) xa (.ins C dx [])) := (Ext.new hdx).trans (.new (by rw [upd_ne (Ne.symm ne)]; exact hx))
  have cr : CRep X.K ca (fun a => Nof B e2 σ a ∨ a = xa) (upd (upd H1 dx (.own xa)) xa (.ins C dx [])) xa (.obj c []) := .obj hc upd_same .nil
  have Sc := SRel.consNew P2.rel ex hx cr
  have ra2 : Paired (fun v a => AgRep X.K ca (Nof B (.own false false (.obj c []) :: e2) (some (.ref xa) :: σ)) (some (.ref xa) :: σ) (upd (upd H1 dx (.own xa)) xa (.ins C dx [])) v a) (.ref xa :: vs) (.o 0 :: as.map shiftA) := by
    refine .cons rfl ?_
    have sb : Sub (Nof B e2 σ) (Nof B (.own false false (.obj c []) :: e2) (some (.ref xa) :: σ)) H1 (upd (upd H1 dx (.own xa)) xa (.ins C dx [])) := fun a o ea _ na => ⟨(fun z => by
      rcases z with z | ⟨i, z⟩
      · exact na (.inl z)
      · cases i with
        | zero =>
          obtain ⟨_, h2⟩ := z
          simp at h2
          subst h2
          rw [hx] at ea; cases ea
        | succ i => exact na (.inr ⟨i, own_cons.mp z⟩)), ex a o ea⟩
    exact args_shift sb ra
  have ok2 : agOk (.o 0 :: as.map shiftA) (.own false false (.obj c []) :: e2) = true := by
    unfold agOk at ok ⊢
    rw [Bool.and_eq_true] at ok ⊢
    have e0 : nums (.o 0 :: as.map shiftA) = 0 :: (nums as).map (· + 1) := congrArg (0 :: ·) (nums_shift as)
    rw [e0]
    refine ⟨decide_eq_true ?_, ?_⟩
    · refine List.nodup_cons.mpr ⟨fun z => ?_, List.Pairwise.map (· + 1) (fun a b h z => h (Nat.succ.inj z)) (of_decide_eq_true ok.1)⟩
      obtain ⟨_, _, z⟩ := List.mem_map.mp z
      cases z
    · rw [List.all_cons, List.all_map]
      refine Bool.and_eq_true_iff.mpr ⟨rfl, ?_⟩
      refine Eq.trans ?_ ok.2
      congr 1
  have hpe : penv (.o 0 :: as.map shiftA) (.own false false (.obj c []) :: e2) = .own true false (.obj c []) :: penv as e2 := by
    show agSlot _ _ :: penv (as.map shiftA) _ = _
    rw [penv_shift]
    rfl
  have hlen : (.o 0 :: as.map shiftA : List Ag).length = n := by rw [List.length_cons, List.length_map]; exact hl
  rw [← hlen]
  refine call_core (W := fun cls d _ H => W cls d σ H) (E := WE W σ) (H0 := upd (upd H1 dx (.own xa)) xa (.ins C dx [])) (fun a z => z) Sc ra2 ok2 (fun _ _ _ z => z) (fun _ _ _ z => z) ?_
  rw [hpe]
  have pb : ∀ {s : Sv} {pe : En}, ∃ ct, back (.o 0 :: as.map shiftA) (s :: pe) (.own false false (.obj c []) :: e2) = .own false false ct :: back as pe e2 := fun {s pe} => by
    cases s with
    | none => exact ⟨_, by simp only [back]; exact back_shift _ as pe e2⟩
    | val d => exact ⟨_, by simp only [back]; exact back_shift _ as pe e2⟩
    | own a b ct => exact ⟨ct, by simp only [back, List.getElem?_cons_zero, List.set_cons_zero]; exact back_shift _ as pe e2⟩
  have pbo : ∀ {a b : Bool} {ct : Ct} {pe : En}, back (.o 0 :: as.map shiftA) (.own a b ct :: pe) (.own false false (.obj c []) :: e2) = .own false false ct :: back as pe e2 := fun {a b ct pe} => by
    simp only [back, List.getElem?_cons_zero, List.set_cons_zero]; exact back_shift _ as pe e2
  cases q : fn (.own true false (.obj c []) :: penv as e2) with
  | stuck => rw [q] at k; exact k.elim
  | exn y pe =>
    rw [q] at k
    cases pe with
    | nil => exact k.elim
    | cons s pe =>
      obtain ⟨ct, hb⟩ := pb (s := s) (pe := pe)
      intro cls d H' P'
      rw [hb] at P' ⊢
      intro xr
      obtain ⟨P3, less, _⟩ := post_uncons P2.rel ex hx P'
      exact k cls d H' P3 (xr.sub less)
  | ok r pe =>
    rw [q] at k
    unfold makeEnd at k
    split at k
    · rename_i a b ct pe' heq
      cases heq
      intro H' P' v R
      rw [pbo] at P' R
      cases (show Rep X.K ca _ H' v .non from R)
      obtain ⟨P3, less, np, cr', S3⟩ := post_uncons P2.rel ex hx P'
      exact ⟨rfl, k H' P3 (.ref xa) ⟨xa, rfl, P.keep.dom xa hx, np, cr', S3⟩⟩
    · rename_i heq; cases heq
    · exact k.elim
/-- a class that may be called by its name -/
structure MakeOk (X : Cx) (ca : Ca) (k : Nat) (x c : Str) (i : MtI) : Prop where
  ok : ∃ (C f : Addr) (fd : FuncData) (ps : List Str) (dvs : List V) (ds : List Value), ca c = some C ∧ X.mg x = some (.ref C) ∧ Mk X.K C f ∧ FnOk X.prog X.w X.K X.mg X.base (L2.CX X.prog X.w) k f fd ps (spF X.K ca i.n i.fn) ∧ L2.Binds X.K fd ps ds ∧ Vals dvs ds ∧ DfRep X.K ca dvs i.dfs
theorem ve_make {es : List Expr} {ma : MA} {i : MtI} {p pos : Pos} (hk : MakeOk X ca k x c i) (hr : Room (k + 1) X.A) (hg : Gl X x) (ha : VA X ca es ma)
    (h0 : (es = [] ∧ ma = mNil) ∨ ∃ e r, es = e :: r ∧ starEach (e :: r) X.env = (false, eval e X.env) :: starEach r X.env ∧ (backTo pos (starEach r X.env)).any (·.1) = false)
    (hdb : (x == ("__debug__" : Str)) = false) : VE X ca (.Call (.Name x p) es [] pos) (mMake c i.n i.modes i.fn i.dfs ma) := fun W tk => by
  obtain ⟨C, f, fd, ps, dvs, ds, hC, hm, M, F, hb, hd, hdf⟩ := hk.ok
  have h1 : (es = [] ∧ ∀ σ H Q, tMA X.K ca W ma σ H Q → Q [] H) ∨ ∃ e r, es = e :: r ∧ starEach (e :: r) X.env = (false, eval e X.env) :: starEach r X.env ∧ (backTo pos (starEach r X.env)).any (·.1) = false :=
    h0.imp (fun ⟨a, b⟩ => ⟨a, fun σ H Q ⟨B, env, S, q⟩ => by subst b; exact q.now (.refl S) [] .nil⟩) id
  refine peImp (pe_makeA (E := WE W) M F hr hg hm hb hd (passAt tk) (ha W tk) h1 hdb) fun σ H Q ⟨B, env, S, h⟩ => ⟨B, env, S, (CondG.bind h).imp fun rs e1 H1 P k1 vs Rs xa dx hx hdx ne => ?_⟩
  unfold makeD at k1
  by_cases q : rs.length + i.dfs.length + 1 = i.n
  · rw [if_pos q] at k1
    exact make_core hC hx hdx ne P (rreps_app Rs (rreps_dfs hdf)) (by rw [List.length_append, List.length_map]; exact q) k1
  · rw [if_neg q] at k1; exact k1.elim
end
/-! ### o.f = e, o one slot's own object -/
def fldOut (flds : List Str) (f : Str) (ro : RV) (d : D) (e : En) : SO := match ro with
  | .bor i => match e[i]? with
    | some (.own pm false (.obj c fs)) => if flds.contains c = true ∧ fs.length < 1000 then .next (e.set i (.own pm false (.obj c (putD f d fs)))) else .stuck
    | _ => .stuck
  | _ => .stuck
def mSetFld (flds : List Str) (f : Str) (mo m : ME) : MS := fun e => (m e).toS fun r e1 => (share r e1).toS fun d e2 => (mo e2).toS fun ro e3 => fldOut flds f ro d e3
theorem FReps.put {K : PySem.W.Frag} {ca : Ca} {N : Addr → Prop} {H : Hp} {f : Str} {v : V} {d : D} (r : Rep K ca N H v d) : ∀ {vs : List (Str × V)} {ds : List (Str × D)}, FReps K ca N H vs ds → FReps K ca N H (putF f v vs) (putD f d ds)
  | _, _, .nil => .cons r .nil
  | _, _, .cons (f := g) q t => by
    unfold putF putD
    by_cases h : g = f
    · simp only [if_pos h]; exact .cons r t
    · simp only [if_neg h]; exact .cons q (FReps.put r t)
section
variable {X : Cx} {ca : Ca} {o value : Expr} {f : Str} {pos pos' : Pos} {mo mv : ME} {flds : List Str}
theorem vs_setFld (hk : ∀ c ∈ flds, FldOk X ca c f) (ho : VE X ca o mo) (hv : VE X ca value mv) (hs : swapsWith value (some (.Attribute o f pos')) pos.line X.env = pure false) :
    VS X ca (.Assign [.Attribute o f pos'] value pos) (mSetFld flds f mo mv) := fun W tk => psImp (ps_fld (ho W tk) (hv W tk) hs) fun D σ H ⟨B, env, S, h⟩ => ⟨B, env, S, (h.ofE S).imp fun r e H1 P k v R => by
    have k0 := P.keep.toS P.rel S
    obtain ⟨d, e1, P1, rd, h2⟩ := share_ok ((SCond.later k0 k).ofE P.rel) P.rel R
    have h3 := SCond.later (P1.keep.toS P1.rel P.rel) h2
    refine ⟨B, e1, P1.rel, (h3.ofE P1.rel).imp fun ro e3 H3 P3 k3 vo Ro => ?_⟩
    have k4 := SCond.later (P3.keep.toS P3.rel P1.rel) k3
    have rd4 := rd.sub P3.keep.sub
    unfold fldOut at k4
    split at k4
    · rename_i i
      split at k4
      · rename_i pm c fs hi
        split at k4
        · rename_i hc
          obtain ⟨ho', s0, hs0, _⟩ := Ro
          obtain ⟨p, e1', cr⟩ := P3.rel.slot _ _ hi
          rw [ho'] at e1'
          cases e1'
          cases cr with
          | @obj C dx fvs _ _ hC hp rp =>
            obtain ⟨cl, na⟩ := (hk c (by simpa using hc.1)).ok C hC
            refine ⟨p, C, dx, fvs, rfl, hp, cl, na, by rw [rp.len]; exact hc.2, ?_⟩
            have np : ∀ b, ¬ Nof B e3 σ b → b ≠ p := fun b nb z => nb (by subst z; exact .inr ⟨i, ⟨_, _, _, hi⟩, ho'⟩)
            have sb : Sub (Nof B e3 σ) (Nof B e3 σ) H3 (upd H3 p (.ins C dx (putF f v fvs))) := fun b o ea _ nb => ⟨nb, by rw [upd_ne (np b nb)]; exact ea⟩
            have PP := mutOwn (o := .ins C dx (putF f v fvs)) P3.rel hi ho' (.obj hC upd_same ((rp.put rd4).sub sb))
            exact k4 σ _ PP.rel (PP.keep.toS PP.rel P3.rel)
        · exact k4.elim
      · exact k4.elim
    · exact k4.elim⟩
end
end Pw

set_option maxHeartbeats 4000000
/-! PwO: isinstance; chains. -/
namespace Pw
open PySem PySem.Spec PyProof.Rows L2

/-- a built-in type, an own class -/
abbrev Ty := String ⊕ Str
def tyD : D → Option Ty
  | .non => some (.inl "NoneType")
  | .bl _ => some (.inl "bool")
  | .int _ => some (.inl "int")
  | .str _ => some (.inl "str")
  | .tup _ => some (.inl "tuple")
  | .lst _ => some (.inl "list")
  | .scr _ => some (.inl "list")
  | .dct _ => none
  | .cls _ => none
  | .obj c _ => some (.inr c)
  | .ty _ => none
abbrev IsTab := List ((Ty × Ty) × Bool)
def isOne (tab : IsTab) : Ty → Ty → Option Bool
  | .inl a, .inl b => kitB a b
  | t, c => (tab.find? fun p => decide (p.1 = (t, c))).map (·.2)
def isAny (tab : IsTab) (t : Ty) : List Ty → Option Bool
  | [] => some false
  | c :: r => match isOne tab t c with
    | some true => some true
    | some false => isAny tab t r
    | none => none
def isD (tab : IsTab) (ts : List Ty) (d : D) : Option Bool := match tyD d with
  | some t => isAny tab t ts
  | none => none
def tyVal (ca : Ca) : Ty → Value → Prop
  | .inl n, v => v = .type n
  | .inr c, v => ∃ C, ca c = some C ∧ v = .ref C
structure TabOk (K : PySem.W.Frag) (ca : Ca) (tab : IsTab) : Prop where
  one : ∀ p ∈ tab, ∀ u v, tyVal ca p.1.1 u → tyVal ca p.1.2 v → PySem.W.kitOne K u v = some p.2
/-- what isinstance asks of an own class -/
structure OwnTy (K : PySem.W.Frag) (C : Addr) : Prop where
  cl : Cls K C
  ha : PySem.W.findIn K (.ref C) "__class__" = some (some (.builtin "object.__class__"))
  hn : PySem.W.specialIn K (.builtin "object.__class__") "__get__" = some (some (.builtin "getset_descriptor.__get__"))
  htk : PySem.W.takesIn K (.builtin "object.__class__") = some true
  hm : PySem.W.mroIn K C (.type "object") = some true
section
variable {K : PySem.W.Frag} {ca : Ca} {tab : IsTab} {N : Addr → Prop} {H : Hp} {v : V} {d : D} {t : Ty}
theorem isOne_ok (T : TabOk K ca tab) {t c : Ty} {u w : Value} {b : Bool} (h : isOne tab t c = some b) (hu : tyVal ca t u) (hw : tyVal ca c w) : PySem.W.kitOne K u w = some b := by
  unfold isOne at h
  split at h
  · cases hu; cases hw; exact kit_ty h
  · cases q : tab.find? fun p => decide (p.1 = (t, c)) with
    | none => rw [q] at h; cases h
    | some p =>
      rw [q] at h
      cases h
      have e1 : p.1 = (t, c) := of_decide_eq_true (by simpa using List.find?_some q)
      have := T.one p (List.mem_of_find?_eq_some q) u w
      rw [e1] at this
      exact this hu hw
theorem isAny_ok (T : TabOk K ca tab) {t : Ty} {u : Value} (hu : tyVal ca t u) : ∀ {cs : List Ty} {ws : List Value} {b : Bool}, isAny tab t cs = some b → Paired (tyVal ca) cs ws → PySem.W.kitAny K u ws = some b
  | [], _, b, h, .nil => by cases h; exact kitAny_nil
  | c :: cs, _, b, h, .cons r p => by
    unfold isAny at h
    cases q : isOne tab t c with
    | none => rw [q] at h; cases h
    | some x =>
      rw [q] at h
      cases x with
      | true => cases h; exact kitAny_cons (isOne_ok T q hu r) (fun z => nomatch z) fun _ => rfl
      | false => exact kitAny_cons (isOne_ok T q hu r) (fun _ => isAny_ok T hu h p) fun z => nomatch z
/-- the own classes that the table tells of -/
abbrev OwnT (K : PySem.W.Frag) (ca : Ca) (tab : IsTab) : Prop := ∀ c C, ca c = some C → (∃ p ∈ tab, p.1.1 = .inr c) → OwnTy K C
theorem isAny_in {c : Str} {cs : List Ty} {t : Ty} {b : Bool} (h : isAny tab (.inr c) (t :: cs) = some b) : ∃ p ∈ tab, p.1.1 = .inr c := by
  unfold isAny at h
  cases q : isOne tab (.inr c) t with
  | none => rw [q] at h; cases h
  | some x =>
    unfold isOne at q
    obtain ⟨p, hp, _⟩ := Option.map_eq_some_iff.mp q
    have e1 : p.1 = (.inr c, t) := of_decide_eq_true (by simpa using List.find?_some hp)
    exact ⟨p, List.mem_of_find?_eq_some hp, by rw [e1]⟩
theorem ty_of (O : OwnT K ca tab) (hin : ∀ c, t = .inr c → ∃ p ∈ tab, p.1.1 = .inr c) (R : VRep K ca N H v d) (q : tyD d = some t) : ∃ u, tyVal ca t u ∧ TyX K H v u := by
  cases d with
  | non => cases q; rw [vr_non R]; exact ⟨_, rfl, .base .non⟩
  | bl b => cases q; rw [vr_bl R]; exact ⟨_, rfl, .base (.bl b)⟩
  | int i => cases q; rw [vr_int R]; exact ⟨_, rfl, .base (.int i)⟩
  | str s => cases q; rw [vr_str R]; exact ⟨_, rfl, .base (.str s)⟩
  | ty n => cases q
  | tup ds =>
    cases q
    obtain ⟨a, vs, rfl, h, _⟩ := vr_tup R
    refine ⟨_, rfl, ?_⟩
    rcases h with ⟨_, h | ⟨o, h⟩⟩ | ⟨o, its, n, h1, h2, _⟩
    · exact .base (.tup h)
    · exact .fTuple h
    · exact .kTuple h1 h2
  | lst ds =>
    cases q
    obtain ⟨a, vs, rfl, h, _⟩ := vr_lst R
    exact ⟨_, rfl, .base (.lst h)⟩
  | scr ns =>
    cases q
    obtain ⟨a, rfl, h⟩ := vr_scr R
    refine ⟨_, rfl, ?_⟩
    rcases h with ⟨_, h | ⟨o, h⟩⟩ | ⟨o, its, n, h1, h2, _⟩
    · exact .base (.lst h)
    · exact .base (.frz h)
    · exact .kList h1 h2
  | dct kvs => cases q
  | cls c => cases q
  | obj c fs =>
    cases q
    obtain ⟨a, C, dx, fvs, rfl, hc, h, _⟩ := vr_obj R
    obtain ⟨cl, ha, hn, htk, hm⟩ := O c C hc (hin c rfl)
    exact ⟨_, ⟨C, hc, rfl⟩, .base (.ins h cl ha hn htk hm)⟩
end
theorem RRep.ext {K : PySem.W.Frag} {ca : Ca} {B : Addr → Prop} {σ : St} {H0 H H' : Hp} {e : En} {v : V} {r : RV} (R : RRep K ca B σ H0 H e v r) (x : Ext H H') : RRep K ca B σ H0 H' e v r := by
  cases r with
  | val d => exact Rep.sub x.sub R
  | fresh c =>
    obtain ⟨p, e1, n0, np, cr, S⟩ := R
    exact ⟨p, e1, n0, np, cr.ext x, S.ext x⟩
  | bor i => exact R
/-- a written name that is a class -/
structure NmTy (X : Cx) (ca : Ca) (x : Str) (t : Ty) : Prop where
  ok : ∃ v u, ClsV v u ∧ tyVal ca t u ∧ RelV v u ∧ ((X.mg x = some u) ∨ (X.mg x = none ∧ bootBuiltins x = some u ∧ x ≠ "__name__"))
def isiOut (tab : IsTab) (ts : List Ty) (r : RV) (e : En) : Out RV := match view r e with
  | some d => match isD tab ts d with
    | some b => .ok (.val (.bl b)) e
    | none => .stuck
  | none => .stuck
def mIsi (tab : IsTab) (ts : List Ty) (m : ME) : ME := fun e => (m e).bind fun r e1 => isiOut tab ts r e1
section
variable {X : Cx} {ca : Ca} {tab : IsTab} {e : Expr} {m : ME} {p pos p2 : Pos}
theorem pe_nmTy {x : Str} {t : Ty} {pos : Pos} (hg : Gl X x) (hd : (x == ("__debug__" : Str)) = false) (h : NmTy X ca x t) : ∃ v u, ClsV v u ∧ tyVal ca t u ∧ PE X (.Name x pos) (tC v) := by
  obtain ⟨v, u, c, ty, r, h | ⟨h1, h2, h3⟩⟩ := h.ok
  · exact ⟨v, u, c, ty, pe_glob hg h r hd⟩
  · exact ⟨v, u, c, ty, pe_bltn hg h1 h2 r h3 hd⟩
theorem isi_end {W : WX} {B : Addr → Prop} {σ : St} {H H1 : Hp} {env e1 : En} {t0 : Ty} {ts : List Ty} {r : RV} {v : V} {Q : VK} (T : TabOk X.K ca tab) (O : OwnT X.K ca tab) (P : Post X.K ca B σ H env H1 e1) (R : RRep X.K ca B σ H H1 e1 v r)
    (k : CondG X.K ca W B σ H env (isiOut tab (t0 :: ts) r e1) fun r e H' => ∀ v, RRep X.K ca B σ H H' e v r → Q v H') : ∃ (u : Value) (b : Bool) (t : Ty), tyVal ca t u ∧ isAny tab t (t0 :: ts) = some b ∧ TyX X.K H1 v u ∧ Q (.bl b) H1 := by
  unfold isiOut at k
  cases q : view r e1 with
  | none => rw [q] at k; exact k.elim
  | some d =>
    rw [q] at k
    dsimp only at k
    cases q2 : isD tab (t0 :: ts) d with
    | none => rw [q2] at k; exact k.elim
    | some b =>
      rw [q2] at k
      unfold isD at q2
      cases q3 : tyD d with
      | none => rw [q3] at q2; cases q2
      | some t =>
        rw [q3] at q2
        obtain ⟨u, hu, ht⟩ := ty_of (tab := tab) O (fun c e => by subst e; exact isAny_in q2) (R.view P.rel q) q3
        exact ⟨u, b, t, hu, q2, ht, k H1 P _ (.bl b)⟩
theorem ve_isi1 {x : Str} {t : Ty} (T : TabOk X.K ca tab) (O : OwnT X.K ca tab) (hg : Gl X "isinstance") (hm : X.mg "isinstance" = none) (he : VE X ca e m) (hgx : Gl X x) (hd : (x == ("__debug__" : Str)) = false) (hx : NmTy X ca x t)
    (h1 : starEach [e, .Name x p2] X.env = (false, eval e X.env) :: starEach [.Name x p2] X.env) (h2 : starEach [.Name x p2] X.env = (false, eval (.Name x p2) X.env) :: starEach [] X.env) (hpl : (backTo pos (starEach [.Name x p2] X.env)).any (·.1) = false) :
    VE X ca (.Call (.Name "isinstance" p) [e, .Name x p2] [] pos) (mIsi tab [t] m) := fun W tk => by
  obtain ⟨v, u, hc, ht, px⟩ := pe_nmTy (pos := p2) hgx hd hx
  refine peImp (pe_callB call_isi hg hm (by rfl) (pa_cons (he W tk) (pa_cons px pa_nil h2) h1) (by decide) (by decide) h1 hpl) fun σ H Q ⟨B, env, S, h⟩ => ⟨B, env, S, (CondG.bind' h).imp fun r e1 H1 P k w R => ?_⟩
  obtain ⟨u1, b, t1, hu, ha, hty, q⟩ := isi_end T O P R k
  refine ⟨w, v, u1, u, b, rfl, hc, hty, ?_, q⟩
  unfold isAny at ha
  cases q2 : isOne tab t1 t with
  | none => rw [q2] at ha; cases ha
  | some y =>
    rw [q2] at ha
    cases y with
    | true => cases ha; exact isOne_ok T q2 hu ht
    | false => cases ha; exact isOne_ok T q2 hu ht
theorem ve_isi2 {x y : Str} {t t' : Ty} {p3 pt : Pos} {kk : Nat} (T : TabOk X.K ca tab) (O : OwnT X.K ca tab) (hg : Gl X "isinstance") (hm : X.mg "isinstance" = none) (he : VE X ca e m) (hgx : Gl X x) (hd : (x == ("__debug__" : Str)) = false) (hx : NmTy X ca x t) (hgy : Gl X y) (hdy : (y == ("__debug__" : Str)) = false) (hy : NmTy X ca y t')
    (h1 : starEach [e, .Tuple [.Name x p2, .Name y p3] kk pt] X.env = (false, eval e X.env) :: starEach [.Tuple [.Name x p2, .Name y p3] kk pt] X.env) (h2 : starEach [.Tuple [.Name x p2, .Name y p3] kk pt] X.env = (false, eval (.Tuple [.Name x p2, .Name y p3] kk pt) X.env) :: starEach [] X.env)
    (h3 : starEach [.Name x p2, .Name y p3] X.env = (false, eval (.Name x p2) X.env) :: starEach [.Name y p3] X.env) (h4 : starEach [.Name y p3] X.env = (false, eval (.Name y p3) X.env) :: starEach [] X.env)
    (hpl : (backTo pos (starEach [.Tuple [.Name x p2, .Name y p3] kk pt] X.env)).any (·.1) = false) :
    VE X ca (.Call (.Name "isinstance" p) [e, .Tuple [.Name x p2, .Name y p3] kk pt] [] pos) (mIsi tab [t, t'] m) := fun W tk => by
  obtain ⟨v, u, hc, ht, px⟩ := pe_nmTy (pos := p2) hgx hd hx
  obtain ⟨v', u', hc', ht', px'⟩ := pe_nmTy (pos := p3) hgy hdy hy
  refine peImp (pe_callB call_isiT hg hm (by rfl) (pa_cons (he W tk) (pa_cons (pe_tup (pa_cons px (pa_cons px' pa_nil h4) h3)) pa_nil h2) h1) (by decide) (by decide) h1 hpl) fun σ H Q ⟨B, env, S, h⟩ => ⟨B, env, S, (CondG.bind' h).imp fun r e1 H1 P k w R => ?_⟩
  have two : (2 : Nat) ≤ sizeLine := by decide
  refine ⟨two, fun tp hp => ?_⟩
  have P' := P.trans (.ext P.rel (.new (o := .tup [v, v']) hp))
  have R' : RRep X.K ca B σ H (upd H1 tp (.tup [v, v'])) e1 w r := R.ext (.new hp)
  obtain ⟨u1, b, t1, hu, ha, hty, q⟩ := isi_end T O P' R' k
  exact ⟨w, tp, [v, v'], u1, [u, u'], b, rfl, upd_same, .cons hc (.cons hc' .nil), hty, isAny_ok T hu ha (.cons ht (.cons ht' .nil)), q⟩
end
end Pw

set_option maxHeartbeats 4000000
/-! PwP: operators of own instances: what the model asks. -/
namespace Pw
open PySem PySem.Spec PyProof.Rows PySem.Calls PySem.W

section
variable {prog : Program} {w : World} {A : Around} {E : Value → Shared → Prop} {s : Shared} {K : PySem.W.Frag} {x C f : Addr} {ox : Obj} {od : Option Obj}
/-- abs(o) by the own __abs__ -/
theorem abs_own {Q : Value → Shared → Prop} (X : K.In s.heap) (I : InstAt s.heap x ox C od) (hs : findIn K (.ref C) "__abs__" = some (some (.ref f))) (hf : isFn K (.ref f) = true)
    (h : wpAny (model prog w) A.in1 (call (.ref f) [.ref x]) Q E s) : wpAny (model prog w) A (call (.builtin "abs") [.ref x]) Q E s := by
  refine Calls.call_function_entry PyProof.Rows.kind_abs PyProof.Rows.plain_abs PyProof.Rows.entry_abs (PyProof.Rows.args_abs _) ?_
  unfold Builtin.«abs»
  refine wpAny_bind (m := oneArg "abs" _) (wpAny_pure ?_)
  refine wpAny_bind (m := callSpecial? (.ref x) (Str.ofString "__abs__")) (special_fn X I hs (beq_iff_eq.mp hf) (wpAny_mono h (fun r s' hr => ?_) fun _ _ y => y))
  exact wpAny_pure ⟨_, rfl, hr⟩
/-- object's own != turns the own __eq__ round -/
theorem check_ne {b : Value} {Q : Unit → Shared → Prop} {M : Model} (X : K.In s.heap) (I : InstAt s.heap x ox C od) (hsub : subIn K (.ref C) (.type "object") = some true) (hq : Q () s) : wpAny M A (checkBuiltinCall "object.__ne__" ⟨[.ref x, b], []⟩) Q E s := by
  simp only [checkBuiltinCall, PySem.F.cmpKind_ne, PySem.F.cmpSplit_ne]
  refine wpAny_bind ?_
  unfold isInstance
  refine wpAny_bind (I.type.here ((looks_subIn X hsub).here ?_))
  rw [if_neg (show ¬ (!true) = true from Bool.false_ne_true)]
  have ok := PySem.F.cmpArgs_ne (.ref x) b
  unfold argsOk at ok
  cases sg : Manifest.signature? "object.__ne__" with
  | none => exact wpAny_pure hq
  | some g =>
    rw [sg] at ok
    dsimp only at ok ⊢
    rw [ok]
    exact wpAny_pure hq
theorem bind_ne (self : Value) : bindSpecial (.builtin "object.__ne__") self = pure (.builtin "object.__ne__", [self]) := PySem.F.cmp_object.ne.bind self
theorem try_ne {b : Value} {Q : Value → Shared → Prop} (hu : A.units + 1 < cLine) (X : K.In s.heap) (I : InstAt s.heap x ox C od) (hn : findIn K (.ref C) "__ne__" = some (some (.builtin "object.__ne__"))) (hsub : subIn K (.ref C) (.type "object") = some true)
    (hs : findIn K (.ref C) "__eq__" = some (some (.ref f))) (hf : isFn K (.ref f) = true) (h : wpAny (model prog w) A.in1 (call (.ref f) [.ref x, b]) (fun v s' => ∃ r, v = .bool r ∧ Q (.bool (!r)) s') E s) :
    wpAny (model prog w) A (tryCompare (.ref x) "__ne__" b) (fun r s' => ∃ v, r = some v ∧ Q v s') E s := by
  have ne : wpAny (model prog w) A.in1 (Builtin.«object.__ne__» ⟨[.ref x, b], []⟩) (fun fin s' => ∃ r, fin = .done (.ret (.bool r)) ∧ Q (.bool r) s') E s := by
    unfold Builtin.«object.__ne__»
    refine wpAny_bind (m := slotArgs "__ne__" 1 _) (wpAny_pure ?_)
    refine wpAny_bind (wpAny_cRoomFor hu ?_)
    refine wpAny_bind (m := callSpecialIfBound? (.ref x) (Str.ofString "__eq__") [b]) (ifBound_K X I hs hf (wpAny_mono h (fun v s' hv => ?_) fun _ _ e => e))
    obtain ⟨r, rfl, q⟩ := hv
    exact wpAny_bind (wpAny_truthy_bool (wpAny_pure ⟨_, rfl, q⟩))
  have called : wpAny (model prog w) A (call (.builtin "object.__ne__") [.ref x, b]) (fun v s' => ∃ r, v = .bool r ∧ Q (.bool r) s') E s := by
    refine wpAny_call (codeAny_call_builtin PySem.F.cmp_object.ne.plain PySem.F.cmpEntry_ne (check_ne X I hsub (wpAny_mono ne (fun fin s' hv => ?_) fun _ _ e => e)))
    obtain ⟨r, rfl, q⟩ := hv
    exact ⟨r, rfl, q⟩
  unfold tryCompare
  simp only [callSpecialIfBound?, bindSpecialIfBound?]
  refine wpAny_bind (wpAny_holding (wpAny_bind (wpAny_bind (wpAny_bind (I.type.here ((looks_findIn X hn).here ?_))))))
  simp only [bind_ne]
  refine wpAny_bind (wpAny_askSetting (wpAny_ite ?_))
  have fin : wpAny (model prog w) A (call (.builtin "object.__ne__") ([.ref x] ++ [b]) >>= fun v => pure (some v)) (fun r s' => wpAny (model prog w) A (match r with
      | some .notImplemented | none => pure none
      | some v => pure (some v)) (fun r s' => ∃ v, r = some v ∧ Q v s') E s') E s := by
    refine wpAny_bind (wpAny_mono called (fun v s' hv => ?_) fun _ _ e => e)
    obtain ⟨r, rfl, q⟩ := hv
    exact wpAny_pure (wpAny_pure ⟨_, rfl, q⟩)
  split
  · exact wpAny_bind (wpAny_pure (wpAny_pure fin))
  · exact wpAny_tryCatch (wpAny_bind (wpAny_pure (wpAny_pure fin)))
/-- o != b -/
theorem ne_own {b tb : Value} {Q : Value → Shared → Prop} (hu : A.units + 1 < cLine) (X : K.In s.heap) (I : InstAt s.heap x ox C od) (hb : Looks (model prog w) s.heap (typeOf b) tb) (hnf : notFirst K C tb = true) (hn : findIn K (.ref C) "__ne__" = some (some (.builtin "object.__ne__"))) (hsub : subIn K (.ref C) (.type "object") = some true)
    (hs : findIn K (.ref C) "__eq__" = some (some (.ref f))) (hf : isFn K (.ref f) = true) (h : wpAny (model prog w) A.in1 (call (.ref f) [.ref x, b]) (fun v s' => ∃ r, v = .bool r ∧ Q (.bool (!r)) s') E s) :
    wpAny (model prog w) A (richCompare .NotEq (.ref x) b) Q E s := by
  have one := try_ne hu X I hn hsub hs hf h
  unfold richCompare
  simp only [oneThing_ref]
  refine wpAny_holding (wpAny_bind (wpAny_cRoomFor (Nat.lt_of_succ_lt hu) ?_))
  refine wpAny_bind (I.type.here (wpAny_bind (hb.here ?_)))
  split
  · rename_i q
    have e : subIn K tb (.ref C) = some false := by
      rcases Bool.or_eq_true_iff.mp hnf with z | z
      · rw [beq_iff_eq.mp z] at q
        exact absurd q (by simp)
      · exact beq_iff_eq.mp z
    refine wpAny_bind ((looks_subIn X e).here ?_)
    simp only [Bool.false_eq_true, if_false]
    exact wpAny_bind (m := tryCompare (.ref x) "__ne__" b) (wpAny_mono one (fun r s' ⟨v, ev, hq⟩ => by subst ev; exact wpAny_pure hq) fun _ _ z => z)
  · refine wpAny_bind (wpAny_pure ?_)
    simp only [Bool.false_eq_true, if_false]
    exact wpAny_bind (m := tryCompare (.ref x) "__ne__" b) (wpAny_mono one (fun r s' ⟨v, ev, hq⟩ => by subst ev; exact wpAny_pure hq) fun _ _ z => z)
/-- n op o: the int declines, o's reflected method answers -/
theorem rbin_own {op : Operator} {id name : String} {fI : Int → Int → Sem Fin} {i : Int} {t : Tok} {f0 : Addr} {Q : Value → Shared → Prop} (hfill : fillsNumberSlot (.type "int") op.info.2 = pure true) (slot : Slot "int" (dunder op.info.2) id)
    (entry : entryFor table id = some (Builtin.Int.intBinary name fI)) (args : argsOk id ⟨[.int i t, .ref x], []⟩) (X : K.In s.heap) (I : InstAt s.heap x ox C od) (hp : ox.data = .plain) (hc : selfFirst K C = true)
    (hs : findIn K (.ref C) (dunder op.info.2) = some (some (.ref f0))) (hr : findIn K (.ref C) (dunderR op.info.2) = some (some (.ref f))) (hf : isFn K (.ref f) = true) (hsub : subIn K (.ref C) (.type "int") = some false)
    (h : wpAny (model prog w) A (call (.ref f) [.ref x, .int i t]) (PySem.W.CmpBack Q) E s) : wpAny (model prog w) A (binaryOp op (.int i t) (.ref x)) Q E s := by
  obtain ⟨cd, rest, hcd, hm⟩ := ksp_first hc
  have dec : wpAny (model prog w) A (call (.builtin id) [.int i t, .ref x]) (fun v s' => v = .notImplemented ∧ s' = s) E s := by
    refine wpAny_call (codeAny_call_builtin slot.plain entry (slot.check _ _ _ _ _ _ _ _ (typeIs_int s i t) args ?_))
    unfold Builtin.Int.intBinary
    refine wpAny_bind (m := slotArgs name 1 _) (wpAny_pure ?_)
    refine wpAny_bind (m := Builtin.Int.intOfSelf (.int i t)) (wpAny_pure ?_)
    refine wpAny_bind (m := asInt? (.ref x)) ?_
    unfold asInt?
    refine wpAny_bind (wpAny_load I.at_ ?_)
    rw [hp]
    refine wpAny_pure ?_
    exact wpAny_bind (wpAny_rule (wpAny_pure ⟨rfl, rfl⟩))
  have no : wpAny (model prog w) A (tryMethod (.int i t) (dunder op.info.2) (.ref x)) (fun r s' => r = none ∧ s' = s) E s :=
    wpAny_tryMethod_declines (typeIs_int s i t) slot (wpAny_mono dec (fun v s' z => ⟨z.1, rfl, z.2⟩) fun _ _ e => e)
  have yes : wpAny (model prog w) A (tryMethod (.ref x) (dunderR op.info.2) (.int i t)) (fun r s' => ∃ v, r = some v ∧ Q v s') E s := ksp_try X I hr hf h
  have one : wpAny (model prog w) A (binaryOp1 op.info.2 (.int i t) (.ref x)) (fun r s' => ∃ v, r = some v ∧ Q v s') E s := by
    generalize op.info.2 = nm at hfill hs hr no yes
    have ne : (Value.type "int" == Value.ref C) = false := Bool.eq_false_iff.mpr fun q => by cases beq_iff_eq.mp q
    have py : numberSlotInPython (.type "int") nm = pure false := rfl
    unfold binaryOp1
    refine wpAny_bind (wpAny_typeOf (typeIs_int s i t) (wpAny_bind (I.type.here (wpAny_bind (wpAny_of_eq hfill ?_)))))
    simp only [ne, Bool.false_eq_true, if_false]
    refine wpAny_bind ((fills_K X hcd hm hs).here ?_)
    simp only [Bool.and_self, if_true]
    refine wpAny_bind ((looks_subIn X hsub).here ?_)
    simp only [Bool.false_eq_true, if_false, pure_bind, Bool.not_false, Bool.and_self, if_true, py]
    refine wpAny_bind (wpAny_mono no (fun r s' z => ?_) fun _ _ e => e)
    obtain ⟨rfl, rfl⟩ := z
    refine wpAny_bind (wpAny_mono yes (fun r s' z => ?_) fun _ _ e => e)
    obtain ⟨v, rfl, q⟩ := z
    exact wpAny_bind (wpAny_rule (wpAny_pure ⟨v, rfl, q⟩))
  rcases hi : op.info with ⟨sym, nm⟩
  rw [hi] at one
  simp only [binaryOp, hi]
  refine wpAny_holding (wpAny_bind (wpAny_mono one (fun r s' z => ?_) fun _ _ e => e))
  obtain ⟨v, rfl, q⟩ := z
  exact wpAny_pure q
end
end Pw

set_option maxHeartbeats 4000000
/-! PwQ: operators, of data and of own instances. -/
namespace Pw
open PySem PySem.Spec PyProof.Rows L2

theorem RRep.keepN {K : PySem.W.Frag} {ca : Ca} {B : Addr → Prop} {σ : St} {H H' : Hp} {e e' : En} {v : V} {r : RV} (n : Pw.norm r = r) (k : Keep σ H e H' e') (h : ∀ H1, RRep K ca B σ H1 H e v r) (H1 : Hp) : RRep K ca B σ H1 H' e' v r := by
  have q := h H1
  rw [← n] at q ⊢
  exact q.nkeep k
/-- an operation on two values of the frame -/
def Op2 (X : Cx) (ca : Ca) (f : Value → Value → Sem Value) (o : RV → RV → En → Out RV) : Prop := ∀ W, Takes X W → ∀ (pins : List (Addr × Obj)) (s : Shared) (σ : St) (B : Addr → Prop) (H0 H : Hp) (e : En) (x y : V) (v u : Value) (rx ry : RV) (Q : VK),
  Inv X pins σ H s → RelV x v → RelV y u → SRel X.K ca B σ H e → (∀ a, H a = none → H0 a = none) → (norm rx = rx ∧ ∀ H1, RRep X.K ca B σ H1 H e x rx) → (norm ry = ry ∧ ∀ H1, RRep X.K ca B σ H1 H e y ry) →
  CondG X.K ca W B σ H e (o rx ry e) (fun r e H' => ∀ v, RRep X.K ca B σ H0 H' e v r → Q v H') → wpAny (model X.prog X.w) X.A (f v u) (EP X pins σ Q) X.xe s
def mOp2 (o : RV → RV → En → Out RV) (a b : ME) : ME := fun e => (a e).bind fun x e1 => (b e1).bind fun y e2 => o (norm x) (norm y) e2
section
variable {X : Cx} {ca : Ca} {a b : Expr} {ma mb : ME} {pos : Pos} {o o' : RV → RV → En → Out RV}
theorem op2_of {f : Value → Value → Sem Value} {g : D → D → Po} (h : OpV ca X f g) : Op2 X ca f (opOut g) := fun W tk pins s σ B H0 H e x y v u rx ry Q I r1 r2 S dm R1 R2 k => by
  unfold opOut at k
  cases q1 : view rx e with
  | none => rw [q1] at k; exact k.elim
  | some dx =>
    cases q2 : view ry e with
    | none => rw [q1, q2] at k; exact k.elim
    | some dy =>
      rw [q1, q2] at k
      exact h W tk pins s σ H x y v u Q _ dx dy I r1 r2 (fun a z => S.ndom z) ((R1.2 H).view S q1) ((R2.2 H).view S q2) (POK.of_out dm S k)
theorem bin_run2 {f : Value → Value → Sem Value} (ho : Op2 X ca f o) (ha : VE X ca a ma) (hb : VE X ca b mb) {W : WX} (tk : Takes X W) {pins : List (Addr × Obj)} {s : Shared} {σ : St} {H : Hp} {Q : VK}
    (I : Inv X pins σ H s) (h : tM X.K ca W (mOp2 o ma mb) σ H Q) :
    wpAny (model X.prog X.w) X.A (eval a X.env) (fun v s₁ => wpAny (model X.prog X.w) X.A (eval b X.env) (fun u s₂ => wpAny (model X.prog X.w) X.A (f v u) (EP X pins σ Q) X.xe s₂) X.xe s₁) X.xe s := by
  obtain ⟨B, env, S, h⟩ := h
  refine thn ((ha W tk).run pins s σ H (fun v H1 => ∃ r e, ∃ (P1 : Post X.K ca B σ H env H1 e), CondG X.K ca W B σ H1 e ((mb e).bind fun y e2 => o (norm r) (norm y) e2) (fun r e H' => ∀ v, RRep X.K ca B σ H H' e v r → Q v H') ∧ RRep X.K ca B σ H H1 e v r) I ⟨B, env, S, h.bind.imp fun r e H1 P1 k v R => ⟨r, e, P1, k, R⟩⟩) fun v s1 ⟨x, H1, I1, rx, r, e1, P1, k, R⟩ => ?_
  refine thn ((hb W tk).run pins s1 σ H1 (fun v2 H2 => ∃ r2 e, ∃ (P2 : Post X.K ca B σ H1 e1 H2 e), CondG X.K ca W B σ H2 e (o (norm r) (norm r2) e) (fun r e H' => ∀ v, RRep X.K ca B σ H H' e v r → Q v H') ∧ RRep X.K ca B σ H1 H2 e v2 r2) I1 ⟨B, e1, P1.rel, k.bind.imp fun r2 e H2 P2 k2 v2 R2 => ⟨r2, e, P2, k2, R2⟩⟩) fun u s2 ⟨y, H2, I2, ry, r2, e2, P2, k2, R2⟩ => ?_
  exact ho W tk pins s2 σ B H H2 e2 x y v u (norm r) (norm r2) Q I2 rx ry P2.rel (fun a z => P1.keep.dom a (P2.keep.dom a z)) ⟨norm_norm r, fun H0 => (R.norm.nkeep (H1 := H0) P2.keep)⟩ ⟨norm_norm r2, fun H0 => R2.norm.any⟩ k2
theorem ve_op2 {op : Operator} (ho : Op2 X ca (binaryOp op) o) (ha : VE X ca a ma) (hb : VE X ca b mb) : VE X ca (.BinOp a op b pos) (mOp2 o ma mb) := fun W tk => ⟨fun pins s σ H Q I h => wpAny_BinOp (bin_run2 ho ha hb tk I h)⟩
theorem ve_cmp2 {op : CmpOp} (ho : Op2 X ca (compareOp op) o) (ha : VE X ca a ma) (hb : VE X ca b mb) (hm : behindInMarks op b = false) : VE X ca (.Compare a [op] [b] pos) (mOp2 o ma mb) := fun W tk =>
  ⟨fun pins s σ H Q I h => wpAny_Compare1 (bin_run2 ho ha hb tk I h) hm⟩
theorem vt_cmp2 {op : CmpOp} (ho : Op2 X ca (compareOp op) o) (ha : VE X ca a ma) (hb : VE X ca b mb) (hm : behindInMarks op b = false) : VT X ca (.Compare a [op] [b] pos) (mTst (mOp2 o ma mb)) := fun W tk => by
  refine ⟨fun pins s σ H Q I ⟨B, env, S, h⟩ => ?_⟩
  have h2 : tM X.K ca W (mOp2 o ma mb) σ H fun v H1 => ∃ b, v = .bl b ∧ Q b H1 := ⟨B, env, S, h.bind.imp fun r e H1 P1 k v R => by
    obtain ⟨b, e1, _, q⟩ := boolOut_ok k P1.rel R
    exact ⟨b, e1, q⟩⟩
  refine wpAny_isTrue_Compare1 (thn (bin_run2 ho ha hb tk I h2) fun v s1 h1 => thn h1 fun u s2 h2 => thn h2 fun c s3 h3 => ?_) hm
  obtain ⟨z, H3, I3, r3, b, e1, q⟩ := h3
  subst e1
  cases r3
  exact wpAny_truthy_bool ⟨H3, I3, q⟩
end
/-! ### own instances -/
structure OpE where
  rev : Bool
  neg : Bool
  fn : Fn
abbrev OpTab := List ((Ty × Ty) × OpE)
def resOut (neg : Bool) (o : Out RV) : Out RV := match neg, o with
  | false, .ok r e => .ok r e
  | true, .ok (.val (.bl b)) e => .ok (.val (.bl (!b))) e
  | _, _ => .stuck
def opArgs (rev : Bool) (x y : RV) : List RV := if rev = true then [y, x] else [x, y]
def opFind (tab : OpTab) (x y : D) : Option OpE := match tyD x, tyD y with
  | some tx, some ty => (tab.find? fun p => decide (p.1 = (tx, ty))).map (·.2)
  | _, _ => none
def opOwn (tab : OpTab) (x y : RV) (e : En) : Out RV := (share x e).bind fun dx e1 => (share y e1).bind fun dy e2 => match opFind tab dx dy with
  | some p => resOut p.neg (callD 2 [] p.fn [] (opArgs p.rev (.val dx) (.val dy)) e2)
  | none => .stuck
def isObjR (r : RV) (e : En) : Bool := match view r e with
  | some (.obj _ _) => true
  | _ => false
def opBoth (g : D → D → Po) (tab : OpTab) (x y : RV) (e : En) : Out RV := if (isObjR x e || isObjR y e) = true then opOwn tab x y e else opOut g x y e
/-- what a type says of a value -/
def TyS (K : PySem.W.Frag) (ca : Ca) (H : Hp) (x : V) : Ty → Prop
  | .inl n => TyX K H x (.type n) ∧ (n = "int" → ∃ i, x = .int i)
  | .inr c => ∃ a C dx fs, x = .ref a ∧ ca c = some C ∧ H a = some (.ins C dx fs)
def resQ (neg : Bool) (Q : VK) : VK := fun v H' => if neg = true then ∃ b, v = .bl b ∧ Q (.bl (!b)) H' else Q v H'
def vArgs (rev : Bool) (x y : V) : List V := if rev = true then [y, x] else [x, y]
/-- the operation calls that def -/
def BinTo (X : Cx) (ca : Ca) (f : Value → Value → Sem Value) (tx ty : Ty) (p : OpE) : Prop := ∀ (pins : List (Addr × Obj)) (s : Shared) (σ : St) (H : Hp) (x y : V) (v u : Value) (Q : VK), Inv X pins σ H s → RelV x v → RelV y u →
  TyS X.K ca H x tx → TyS X.K ca H y ty → spF X.K ca 2 p.fn (vArgs p.rev x y) H (resQ p.neg Q) (fun _ _ _ => False) → wpAny (model X.prog X.w) X.A (f v u) (EP X pins σ Q) X.xe s
structure OpsOk (X : Cx) (ca : Ca) (f : Value → Value → Sem Value) (tab : OpTab) : Prop where
  all : ∀ p ∈ tab, BinTo X ca f p.1.1 p.1.2 p.2
section
variable {X : Cx} {ca : Ca} {B : Addr → Prop} {σ : St} {H : Hp} {e : En}
theorem tyS_of {N : Addr → Prop} {x : V} {d : D} {t : Ty} (R : Rep X.K ca N H x d) (q : tyD d = some t) : TyS X.K ca H x t := by
  cases R with
  | obj n hc h r => cases q; exact ⟨_, _, _, _, rfl, hc, h⟩
  | int i => cases q; exact ⟨.base (.int i), fun _ => ⟨i, rfl⟩⟩
  | non => cases q; exact ⟨.base .non, fun z => absurd z (by decide)⟩
  | bl b => cases q; exact ⟨.base (.bl b), fun z => absurd z (by decide)⟩
  | str b => cases q; exact ⟨.base (.str b), fun z => absurd z (by decide)⟩
  | ty b => cases q
  | tup h r =>
    cases q
    refine ⟨?_, fun z => absurd z (by decide)⟩
    rcases h with ⟨_, h | ⟨o, h⟩⟩ | ⟨o, its, n, h1, h2, _⟩
    · exact .base (.tup h)
    · exact .fTuple h
    · exact .kTuple h1 h2
  | lst n h r => cases q; exact ⟨.base (.lst h), fun z => absurd z (by decide)⟩
  | dct n h r => cases q
  | dcg n h r => cases q
  | cls h => cases q
  | scr h =>
    cases q
    refine ⟨?_, fun z => absurd z (by decide)⟩
    rcases h with ⟨_, h | ⟨o, h⟩⟩ | ⟨o, its, n, h1, h2, _⟩
    · exact .base (.lst h)
    · exact .base (.frz h)
    · exact .kList h1 h2
theorem op2_own {f : Value → Value → Sem Value} {tab : OpTab} (h : OpsOk X ca f tab) : Op2 X ca f (opOwn tab) := fun W tk pins s σ B H0 H e x y v u rx ry Q I r1 r2 S dm R1 R2 k => by
  obtain ⟨dx, e1, P1, rd1, k1⟩ := share_ok (CondG.bind k) S (R1.2 H)
  obtain ⟨dy, e2, P2, rd2, k2⟩ := share_ok (CondG.bind k1) P1.rel (RRep.keepN R2.1 P1.keep R2.2 H)
  have rd1' := rd1.sub P2.keep.sub
  cases qf : opFind tab dx dy with
  | none => rw [qf] at k2; exact k2.elim
  | some p =>
  rw [qf] at k2
  unfold opFind at qf
  cases qx : tyD dx with
  | none => rw [qx] at qf; cases qf
  | some tx =>
  cases qy : tyD dy with
  | none => rw [qx, qy] at qf; cases qf
  | some ty =>
  rw [qx, qy] at qf
  dsimp only at qf
  cases qt : tab.find? fun p => decide (p.1 = (tx, ty)) with
  | none => rw [qt] at qf; cases qf
  | some pe =>
  rw [qt] at qf
  cases qf
  dsimp only at k2
  have he : pe.1 = (tx, ty) := of_decide_eq_true (by simpa using List.find?_some qt)
  have hb := h.all pe (List.mem_of_find?_eq_some qt)
  rw [he] at hb
  refine hb pins s σ H x y v u Q I r1 r2 (tyS_of rd1' qx) (tyS_of rd2 qy) ?_
  have args : RReps X.K ca B σ H e2 (vArgs pe.2.rev x y) (opArgs pe.2.rev (.val dx) (.val dy)) := by
    unfold vArgs opArgs
    cases pe.2.rev with
    | true => exact .cons ⟨rfl, fun _ => rd2⟩ (.cons ⟨rfl, fun _ => rd1'⟩ .nil)
    | false => exact .cons ⟨rfl, fun _ => rd1'⟩ (.cons ⟨rfl, fun _ => rd2⟩ .nil)
  have k3 : CondG X.K ca (fun _ _ _ _ => False) B σ H e2 (callD 2 [] pe.2.fn [] (opArgs pe.2.rev (.val dx) (.val dy)) e2) fun r e H' => ∀ v, RRep X.K ca B σ H H' e v r → resQ pe.2.neg Q v H' := by
    cases qc : callD 2 [] pe.2.fn [] (opArgs pe.2.rev (.val dx) (.val dy)) e2 with
    | stuck =>
      rw [qc] at k2
      cases hn : pe.2.neg <;> rw [hn] at k2 <;> exact k2.elim
    | exn x e3 =>
      rw [qc] at k2
      cases hn : pe.2.neg <;> rw [hn] at k2 <;> exact k2.elim
    | ok r e3 =>
      rw [qc] at k2
      unfold resQ
      cases qn : pe.2.neg with
      | false =>
        rw [qn] at k2
        simp only [Bool.false_eq_true, if_false]
        exact fun H' P v R => k2 H' P v (R.back dm)
      | true =>
        rw [qn] at k2
        simp only [if_true]
        cases r with
        | fresh c => exact k2.elim
        | bor i => exact k2.elim
        | val d => cases d with
          | bl b =>
            intro H' P v R
            cases (show Rep X.K ca _ H' v (.bl b) from R)
            exact ⟨b, rfl, k2 H' P (.bl (!b)) (.bl _)⟩
          | _ => exact k2.elim
  have := callD_core (dvs := []) .nil (.refl P2.rel) args k3
  rw [List.append_nil] at this
  exact spF_E this fun _ _ _ z => z
theorem op2_both {f : Value → Value → Sem Value} {g : D → D → Po} {tab : OpTab} (hg : OpV ca X f g) (h : OpsOk X ca f tab) : Op2 X ca f (opBoth g tab) := fun W tk pins s σ B H0 H e x y v u rx ry Q I r1 r2 S dm R1 R2 k => by
  unfold opBoth at k
  by_cases c : (isObjR rx e || isObjR ry e) = true
  · rw [if_pos c] at k
    exact op2_own h W tk pins s σ B H0 H e x y v u rx ry Q I r1 r2 S dm R1 R2 k
  · rw [if_neg c] at k
    exact op2_of hg W tk pins s σ B H0 H e x y v u rx ry Q I r1 r2 S dm R1 R2 k
end
end Pw

set_option maxHeartbeats 4000000
/-! PwR: own operators, by the facts of their defs. -/
namespace Pw
open PySem PySem.Spec PyProof.Rows L2

/-- a def of the class under that name, found first there -/
structure DunOk (X : Cx) (ca : Ca) (k : Nat) (c name : Str) (n : Nat) (fn : Fn) : Prop where
  ok : ∃ (C f : Addr) (fd : FuncData) (ps : List Str), ca c = some C ∧ PySem.W.selfFirst X.K C = true ∧ PySem.W.findIn X.K (.ref C) name = some (some (.ref f)) ∧ PySem.W.isFn X.K (.ref f) = true ∧
    FnOk X.prog X.w X.K X.mg X.base (L2.CX X.prog X.w) k f fd ps (spF X.K ca n fn) ∧ L2.Binds X.K fd ps []
section
variable {X : Cx} {ca : Ca} {k : Nat} {c : Str} {fn : Fn}
theorem not_ni {y : V} (h : RelV y .notImplemented) : False := by
  cases y <;> first | exact nomatch h | (obtain ⟨_, z⟩ := h; cases z) | cases h
theorem back_of {pins : List (Addr × Obj)} {σ : St} {Q : VK} {v : Value} {s' : Shared} (h : EP X pins σ Q v s') : PySem.W.CmpBack (EP X pins σ Q) v s' := by
  obtain ⟨y, H', I, r, q⟩ := h
  cases v <;> first | exact (not_ni r).elim | exact ⟨y, H', I, r, q⟩
theorem ins_at {pins : List (Addr × Obj)} {s : Shared} {σ : St} {H : Hp} {a C dx : Addr} {fs : List (Str × V)} (I : Inv X pins σ H s) (h : H a = some (.ins C dx fs)) : ∃ ox od, PySem.W.InstAt s.heap a ox C od ∧ ox.data = .plain :=
  StX.insC_at I (.inr ⟨dx, fs, h⟩)
/-- o op p, both of the class -/
theorem binTo_same {op : Operator} (D : DunOk X ca k c (PySem.dunder op.info.2) 2 fn) (hr : Room k X.A) : BinTo X ca (binaryOp op) (.inr c) (.inr c) ⟨false, false, fn⟩ := fun pins s σ H x y v u Q I rx ry tx ty h => by
  obtain ⟨C, f, fd, ps, hc, sf, hs, hf, F, hb⟩ := D.ok
  obtain ⟨a, C1, dx, fs, rfl, hc1, ha⟩ := tx
  obtain ⟨b, C2, dy, gs, rfl, hc2, hb2⟩ := ty
  rw [hc] at hc1 hc2
  cases hc1
  cases hc2
  cases rx
  cases ry
  obtain ⟨oa, da, J, _⟩ := ins_at I ha
  obtain ⟨ob, db, J2, _⟩ := ins_at I hb2
  obtain ⟨m, hF⟩ := I.fr
  refine PySem.W.binop_K hF I.ok.mod.kin J J2.type sf hs hf (thn (run_fn (dvs := []) (ds := []) (us := [.ref a, .ref b]) (vs := [.ref a, .ref b]) F hr hb .nil (pass_none (X := X)) I (.cons rfl (.cons rfl .nil)) h) fun w s' z => back_of z)
/-- o op n, n an int -/
theorem binTo_int {op : Operator} (D : DunOk X ca k c (PySem.dunder op.info.2) 2 fn) (hr : Room k X.A) (hq : ∀ C, ca c = some C → (∃ rc, PySem.W.findIn X.K (.ref C) (dunderR op.info.2) = some rc ∧ (rc = none ∨ ∃ g : Addr, rc = some (.ref g))) ∧ PySem.W.subIn X.K (.type "int") (.ref C) = some false)
    (h1 : ∃ fo, PySem.W.findIn X.K (.type "int") (PySem.dunder op.info.2) = some fo) (h2 : ∃ ro, PySem.W.findIn X.K (.type "int") (dunderR op.info.2) = some ro) : BinTo X ca (binaryOp op) (.inr c) (.inl "int") ⟨false, false, fn⟩ := fun pins s σ H x y v u Q I rx ry tx ty h => by
  obtain ⟨C, f, fd, ps, hc, sf, hs, hf, F, hb⟩ := D.ok
  obtain ⟨a, C1, dx, fs, rfl, hc1, ha⟩ := tx
  obtain ⟨i, rfl⟩ := ty.2 rfl
  rw [hc] at hc1
  cases hc1
  cases rx
  obtain ⟨t, rfl⟩ := ry
  obtain ⟨oa, da, J, _⟩ := ins_at I ha
  obtain ⟨m, hF⟩ := I.fr
  obtain ⟨⟨rc, q1, q2⟩, q3⟩ := hq C hc
  obtain ⟨fo, e1⟩ := h1
  obtain ⟨ro, e2⟩ := h2
  exact PySem.W.ksp_binT hF I.ok.mod.kin J rfl sf hs hf q1 q2 e1 e2 q3 (thn (run_fn (dvs := []) (ds := []) (us := [.ref a, .int i t]) (vs := [.ref a, .int i]) F hr hb .nil (pass_none (X := X)) I (.cons rfl (.cons ⟨t, rfl⟩ .nil)) h) fun w s' z => back_of z)
/-- n op o -/
theorem binTo_rev {op : Operator} {id name : String} {fI : Int → Int → Sem Fin} (D : DunOk X ca k c (dunderR op.info.2) 2 fn) (hr : Room k X.A) (hq : ∀ C, ca c = some C → (∃ f0 : Addr, PySem.W.findIn X.K (.ref C) (PySem.dunder op.info.2) = some (some (.ref f0))) ∧ PySem.W.subIn X.K (.ref C) (.type "int") = some false)
    (hfill : fillsNumberSlot (.type "int") op.info.2 = pure true) (slot : PySem.Slot "int" (PySem.dunder op.info.2) id) (entry : entryFor table id = some (Builtin.Int.intBinary name fI)) (args : ∀ u v, argsOk id ⟨[u, v], []⟩) :
    BinTo X ca (binaryOp op) (.inl "int") (.inr c) ⟨true, false, fn⟩ := fun pins s σ H x y v u Q I rx ry tx ty h => by
  obtain ⟨C, f, fd, ps, hc, sf, hs, hf, F, hb⟩ := D.ok
  obtain ⟨a, C1, dx, fs, rfl, hc1, ha⟩ := ty
  obtain ⟨i, rfl⟩ := tx.2 rfl
  rw [hc] at hc1
  cases hc1
  cases ry
  obtain ⟨t, rfl⟩ := rx
  obtain ⟨oa, da, J, pl⟩ := ins_at I ha
  obtain ⟨⟨f0, q1⟩, q2⟩ := hq C hc
  exact rbin_own hfill slot entry (args _ _) I.kIn J pl sf q1 hs hf q2 (thn (run_fn (dvs := []) (ds := []) (us := [.ref a, .int i t]) (vs := [.ref a, .int i]) F hr hb .nil (pass_none (X := X)) I (.cons rfl (.cons ⟨t, rfl⟩ .nil)) h) fun w s' z => back_of z)
/-- a def called one built-in deeper -/
theorem run_in1 {f : Addr} {fd : FuncData} {ps : List Str} {n : Nat} {pins : List (Addr × Obj)} {s : Shared} {σ : St} {H : Hp} {us : List Value} {vs : List V} {Q : VK} {E' : Value → Shared → Prop} (F : FnOk X.prog X.w X.K X.mg X.base (L2.CX X.prog X.w) k f fd ps (spF X.K ca n fn)) (hr : Room (k + 1) X.A) (hb : L2.Binds X.K fd ps []) (I : Inv X pins σ H s) (r : Vals vs us)
    (h : spF X.K ca n fn vs H Q (fun _ _ _ => False)) : wpAny (model X.prog X.w) X.A.in1 (call (.ref f) us) (EP X pins σ Q) E' s := by
  have hl : us.length = ps.length := by rw [← r.length]; exact F.len _ _ _ _ h
  have b := hb s us I.kIn (by rw [List.append_nil]; exact hl)
  rw [List.append_nil] at b
  refine wpAny_call (codeAny_mono (F.run X.A.in1 X.stack s H ⟨us, []⟩ us vs Q _ hr.in1 I.env0.in1 b r h) fun z s' hq => ?_)
  cases z with
  | error e => obtain ⟨_, _, _, _, _, _, _, _, _, _, _, _, z⟩ := hq; exact z.elim
  | ok fl =>
    cases fl with
    | ret u => exact I.after hq
    | _ => exact hq.elim
/-- o != b by the own == -/
theorem ne_to {ty : Ty} (D : DunOk X ca k c "__eq__" 2 fn) (hr : Room (k + 1) X.A) (ht : (∃ n, ty = .inl n ∧ ∀ C, ca c = some C → PySem.W.notFirst X.K C (.type n) = true) ∨ ty = .inr c)
    (hq : ∀ C, ca c = some C → PySem.W.findIn X.K (.ref C) "__ne__" = some (some (.builtin "object.__ne__")) ∧ PySem.W.subIn X.K (.ref C) (.type "object") = some true) :
    BinTo X ca (compareOp .NotEq) (.inr c) ty ⟨false, true, fn⟩ := fun pins s σ H x y v u Q I rx ry tx tyy h => by
  obtain ⟨C, f, fd, ps, hc, sf, hs, hf, F, hb⟩ := D.ok
  obtain ⟨a, C1, dx, fs, rfl, hc1, ha⟩ := tx
  rw [hc] at hc1
  cases hc1
  cases rx
  obtain ⟨oa, da, J, _⟩ := ins_at I ha
  obtain ⟨q1, q2⟩ := hq C hc
  have hu : X.A.units + 1 < cLine := by have := hr.un; omega
  have fin : ∀ {tb : Value}, PySem.W.Looks (model X.prog X.w) s.heap (typeOf u) tb → PySem.W.notFirst X.K C tb = true → wpAny (model X.prog X.w) X.A (compareOp .NotEq (.ref a) u) (EP X pins σ Q) X.xe s := fun {tb} lb nf => by
    unfold compareOp
    refine ne_own hu I.kIn J lb nf q1 q2 hs hf (thn (run_in1 (us := [.ref a, u]) (vs := [.ref a, y]) F hr hb I (.cons rfl (.cons ry .nil)) h) fun w s' z => ?_)
    obtain ⟨z, H', I', rz, q⟩ := z
    obtain ⟨b, rfl, q⟩ := q
    cases rz
    exact ⟨b, rfl, .bl (!b), H', I', rfl, q⟩
  rcases ht with ⟨n, rfl, q3⟩ | rfl
  · obtain ⟨Pk, Z, hP, _⟩ := kit_of I ry tyy.1
    exact fin (Z.ty _ _ I.kIn hP) (q3 C hc)
  · obtain ⟨b, C2, dy, gs, rfl, hc2, hb2⟩ := tyy
    rw [hc] at hc2
    cases hc2
    cases ry
    obtain ⟨ob, db, J2, _⟩ := ins_at I hb2
    exact fin J2.type (by simp [PySem.W.notFirst])
/-- o == b -/
theorem eq_to {ty : Ty} (D : DunOk X ca k c "__eq__" 2 fn) (hr : Room (k + 1) X.A) (ht : (∃ n, ty = .inl n ∧ ∀ C, ca c = some C → PySem.W.notFirst X.K C (.type n) = true) ∨ ty = .inr c) :
    BinTo X ca (compareOp .Eq) (.inr c) ty ⟨false, false, fn⟩ := fun pins s σ H x y v u Q I rx ry tx tyy h => by
  obtain ⟨C, f, fd, ps, hc, sf, hs, hf, F, hb⟩ := D.ok
  obtain ⟨a, C1, dx, fs, rfl, hc1, ha⟩ := tx
  rw [hc] at hc1
  cases hc1
  cases rx
  obtain ⟨oa, da, J, _⟩ := ins_at I ha
  obtain ⟨m, hF⟩ := I.fr
  have fin : ∀ {tb : Value}, PySem.W.Looks (model X.prog X.w) s.heap (typeOf u) tb → PySem.W.notFirst X.K C tb = true → wpAny (model X.prog X.w) X.A (compareOp .Eq (.ref a) u) (EP X pins σ Q) X.xe s := fun {tb} lb nf => by
    unfold compareOp
    exact PySem.W.cmp_K (op := .Eq) hr.units0 hF I.ok.mod.kin J lb nf hs hf (thn (run_fn (dvs := []) (ds := []) (us := [.ref a, u]) (vs := [.ref a, y]) F (hr.mono (Nat.le_succ k)) hb .nil (pass_none (X := X)) I (.cons rfl (.cons ry .nil)) h) fun w s' z => back_of z)
  rcases ht with ⟨n, rfl, q3⟩ | rfl
  · obtain ⟨Pk, Z, hP, _⟩ := kit_of I ry tyy.1
    exact fin (Z.ty _ _ I.kIn hP) (q3 C hc)
  · obtain ⟨b, C2, dy, gs, rfl, hc2, hb2⟩ := tyy
    rw [hc] at hc2
    cases hc2
    cases ry
    obtain ⟨ob, db, J2, _⟩ := ins_at I hb2
    exact fin J2.type (by simp [PySem.W.notFirst])
end
end Pw

set_option maxHeartbeats 4000000
/-! PwS: one-place operators and built-ins of own instances. -/
namespace Pw
open PySem PySem.Spec PyProof.Rows L2

/-- a one-place operation's own def, its answer turned to what the operation gives -/
structure UnE where
  chk : D → Bool
  fn : Fn
abbrev UnTab := List (Str × UnE)
def chkOut (p : UnE) (o : Out RV) : Out RV := match o with
  | .ok (.val d) e => if p.chk d = true then .ok (.val d) e else .stuck
  | .ok (.fresh c) e => if p.chk c.toD = true then .ok (.fresh c) e else .stuck
  | _ => .stuck
def unOwn (tab : UnTab) (x : RV) (e : En) : Out RV := (share x e).bind fun dx e1 => match dx with
  | .obj c _ => match tab.lookup c with
    | some p => chkOut p (callD 1 [] p.fn [] [.val dx] e1)
    | none => .stuck
  | _ => .stuck
def chkQ (K : PySem.W.Frag) (ca : Ca) (p : UnE) (Q : VK) : VK := fun v H' => (∃ d N, VRep K ca N H' v d ∧ p.chk d = true) ∧ Q v H'
/-- the operation calls that def -/
def UnTo (X : Cx) (ca : Ca) (f : Value → Sem Value) (c : Str) (p : UnE) : Prop := ∀ (pins : List (Addr × Obj)) (s : Shared) (σ : St) (H : Hp) (x : V) (v : Value) (Q : VK), Inv X pins σ H s → RelV x v →
  TyS X.K ca H x (.inr c) → spF X.K ca 1 p.fn [x] H (chkQ X.K ca p Q) (fun _ _ _ => False) → wpAny (model X.prog X.w) X.A (f v) (EP X pins σ Q) X.xe s
structure UnsOk (X : Cx) (ca : Ca) (f : Value → Sem Value) (tab : UnTab) : Prop where
  all : ∀ c p, tab.lookup c = some p → UnTo X ca f c p
section
variable {X : Cx} {ca : Ca} {B : Addr → Prop} {σ : St} {H H0 : Hp} {e : En} {W : WX}
theorem un_own {f : Value → Sem Value} {tab : UnTab} (h : UnsOk X ca f tab) {pins : List (Addr × Obj)} {s : Shared} {x : V} {v : Value} {rx : RV} {Q : VK} (I : Inv X pins σ H s) (r1 : RelV x v) (S : SRel X.K ca B σ H e) (dm : ∀ a, H a = none → H0 a = none)
    (R : ∃ H1, RRep X.K ca B σ H1 H e x rx) (k : CondG X.K ca W B σ H e (unOwn tab rx e) fun r e H' => ∀ v, RRep X.K ca B σ H0 H' e v r → Q v H') : wpAny (model X.prog X.w) X.A (f v) (EP X pins σ Q) X.xe s := by
  obtain ⟨H1, R⟩ := R
  obtain ⟨dx, e1, P1, rd1, k1⟩ := share_ok (CondG.bind k) S R
  cases dx with
  | obj c fs =>
    dsimp only at k1
    cases q : tab.lookup c with
    | none => rw [q] at k1; exact k1.elim
    | some p =>
      rw [q] at k1
      dsimp only at k1
      refine h.all c p q pins s σ H x v Q I r1 (tyS_of rd1 rfl) ?_
      have k3 : CondG X.K ca (fun _ _ _ _ => False) B σ H e1 (callD 1 [] p.fn [] [.val (.obj c fs)] e1) fun r e H' => ∀ v, RRep X.K ca B σ H H' e v r → chkQ X.K ca p Q v H' := by
        cases qc : callD 1 [] p.fn [] [.val (.obj c fs)] e1 with
        | stuck => rw [qc] at k1; exact k1.elim
        | exn x e3 => rw [qc] at k1; exact k1.elim
        | ok r e3 =>
          rw [qc] at k1
          cases r with
          | bor i => exact k1.elim
          | val d =>
            have k1' : CondG X.K ca W B σ H e1 (if p.chk d = true then .ok (.val d) e3 else .stuck) fun r e H' => ∀ v, RRep X.K ca B σ H0 H' e v r → Q v H' := k1
            by_cases c : p.chk d = true
            · rw [if_pos c] at k1'
              exact fun H' P v R => ⟨⟨d, _, .of R, c⟩, k1' H' P v R⟩
            · rw [if_neg c] at k1'; exact k1'.elim
          | fresh ct =>
            have k1' : CondG X.K ca W B σ H e1 (if p.chk ct.toD = true then .ok (.fresh ct) e3 else .stuck) fun r e H' => ∀ v, RRep X.K ca B σ H0 H' e v r → Q v H' := k1
            by_cases c : p.chk ct.toD = true
            · rw [if_pos c] at k1'
              refine fun H' P v R => ⟨?_, k1' H' P v (R.back dm)⟩
              obtain ⟨a, rfl, _, _, cr, _⟩ := R
              exact ⟨ct.toD, _, .ct cr rfl, c⟩
            · rw [if_neg c] at k1'; exact k1'.elim
      have := callD_core (vs := [x]) (dvs := []) .nil (.refl P1.rel) (show RReps X.K ca B σ H e1 [x] [.val (.obj c fs)] from .cons ⟨rfl, fun _ => rd1⟩ .nil) k3
      exact spF_E this fun _ _ _ z => z
  | _ => exact k1.elim
end
def unBoth (g : D → Po) (tab : UnTab) (x : RV) (e : En) : Out RV := if isObjR x e = true then unOwn tab x e else unOut g x e
def mUn2 (g : D → Po) (tab : UnTab) (a : ME) : ME := fun e => (a e).bind fun x e1 => unBoth g tab x e1
def call1Both (g : List D → Po) (tab : UnTab) (rs : List RV) (e : En) : Out RV := match rs with
  | [r] => if isObjR r e = true then unOwn tab r e else callOut g rs e
  | _ => callOut g rs e
def mCallO (g : List D → Po) (tab : UnTab) (m : MA) : ME := fun e => (m e).bind fun rs e1 => call1Both g tab rs e1
section
variable {X : Cx} {ca : Ca} {a e : Expr} {es : List Expr} {ma : ME} {m : MA} {tab : UnTab} {pos p : Pos} {x : Str}
theorem ve_un2 {op : UnaryOp} {g : D → Po} (ho : UnV ca X (unaryOp op) g) (hu : UnsOk X ca (unaryOp op) tab) (ha : VE X ca a ma) : VE X ca (.UnaryOp op a pos) (mUn2 g tab ma) := fun W tk => by
  refine ⟨fun pins s σ H Q I ⟨B, env, S, h⟩ => ?_⟩
  refine UnaryOp_ (thn ((ha W tk).run pins s σ H (fun v H1 => ∃ r e, ∃ (P1 : Post X.K ca B σ H env H1 e), CondG X.K ca W B σ H1 e (unBoth g tab r e) (fun r e H' => ∀ v, RRep X.K ca B σ H H' e v r → Q v H') ∧ RRep X.K ca B σ H H1 e v r) I ⟨B, env, S, h.bind.imp fun r e H1 P1 k v R => ⟨r, e, P1, k, R⟩⟩) fun v s1 h1 => ?_)
  obtain ⟨x, H1, I1, rx, r, e1, P1, k, R⟩ := h1
  unfold unBoth at k
  by_cases c : isObjR r e1 = true
  · rw [if_pos c] at k
    exact un_own hu I1 rx P1.rel P1.keep.dom ⟨_, R⟩ k
  · rw [if_neg c] at k
    unfold unOut at k
    cases q1 : view r e1 with
    | none => rw [q1] at k; exact k.elim
    | some dx =>
      rw [q1] at k
      exact ho W tk pins s1 σ H1 x v Q _ dx I1 rx (fun a z => P1.rel.ndom z) (R.view P1.rel q1) (POK.of_out P1.keep.dom P1.rel k)
theorem args_run2 (ha : VA X ca es m) {f : Value} {g : List D → Po} (hc : CallV ca X f g) (hu : UnsOk X ca (fun v => call f [v]) tab) {W : WX} (tk : Takes X W) {pins : List (Addr × Obj)} {s : Shared} {σ : St} {H : Hp} {Q : VK} (I : Inv X pins σ H s) (h : tM X.K ca W (mCallO g tab m) σ H Q) (pos : Pos) :
    wpAny (model X.prog X.w) X.A (spliced (backTo pos (starEach es X.env))) (fun us s1 => wpAny (model X.prog X.w) X.A (call f us) (EP X pins σ Q) X.xe s1) X.xe s := by
  obtain ⟨B, env, S, h⟩ := h
  refine thn ((ha W tk).run pos pins s σ H (fun vs H1 => ∃ rs e, ∃ (P1 : Post X.K ca B σ H env H1 e), CondG X.K ca W B σ H1 e (call1Both g tab rs e) (fun r e H' => ∀ v, RRep X.K ca B σ H H' e v r → Q v H') ∧ RReps X.K ca B σ H1 e vs rs) I ⟨B, env, S, h.bind.imp fun rs e H1 P1 k vs R => ⟨rs, e, P1, k, R⟩⟩) fun us s1 ⟨vs, H1, I1, r1, rs, e1, P1, k, R⟩ => ?_
  have plain : CondG X.K ca W B σ H1 e1 (callOut g rs e1) (fun r e H' => ∀ v, RRep X.K ca B σ H H' e v r → Q v H') → wpAny (model X.prog X.w) X.A (call f us) (EP X pins σ Q) X.xe s1 := fun k => by
    unfold callOut at k
    cases q : views rs e1 with
    | none => rw [q] at k; exact k.elim
    | some ds =>
      rw [q] at k
      exact hc W tk pins s1 σ H1 vs us Q _ ds I1 r1 (fun a z => P1.rel.ndom z) (views_ok P1.rel R q) (POK.of_out P1.keep.dom P1.rel k)
  unfold call1Both at k
  split at k
  · rename_i r
    by_cases c : isObjR r e1 = true
    · rw [if_pos c] at k
      cases R with
      | cons R0 t => cases t with
        | nil => cases r1 with
          | cons rv t => cases t with
            | nil => exact un_own hu I1 rv P1.rel P1.keep.dom ⟨H1, R0.2 H1⟩ k
    · rw [if_neg c] at k; exact plain k
  · exact plain k
theorem ve_callO {id : String} {g : List D → Po} (hc : CallV ca X (.builtin id) g) (hu : UnsOk X ca (fun v => call (.builtin id) [v]) tab) (hg : Gl X x) (hm : X.mg x = none) (hv : bootBuiltins x = some (.builtin id)) (ha : VA X ca (e :: es) m) (hn : x ≠ "__name__") (hdb : (x == ("__debug__" : Str)) = false)
    (he : starEach (e :: es) X.env = (false, eval e X.env) :: starEach es X.env) (hpl : (backTo pos (starEach es X.env)).any (·.1) = false) : VE X ca (.Call (.Name x p) (e :: es) [] pos) (mCallO g tab m) := fun W tk =>
  ⟨fun pins s σ H Q I h => wpAny_Call_Name_kw (ld_blt I hg hm hv (PyProof.Rows.callWith_builtin1 (args_run2 ha hc hu tk I h pos) he hpl) hn hdb)⟩
theorem ve_callTyO {T : String} {g : List D → Po} (hc : CallV ca X (.type T) g) (hu : UnsOk X ca (fun v => call (.type T) [v]) tab) (hg : Gl X x) (hm : X.mg x = none) (hv : bootBuiltins x = some (.type T)) (ha : VA X ca (e :: es) m) (hn : x ≠ "__name__") (hdb : (x == ("__debug__" : Str)) = false)
    (he : starEach (e :: es) X.env = (false, eval e X.env) :: starEach es X.env) (hpl : (backTo pos (starEach es X.env)).any (·.1) = false) : VE X ca (.Call (.Name x p) (e :: es) [] pos) (mCallO g tab m) := fun W tk =>
  ⟨fun pins s σ H Q I h => wpAny_Call_Name_kw (ld_blt I hg hm hv (PyProof.Rows.callWith_type1 (args_run2 ha hc hu tk I h pos) he hpl) hn hdb)⟩
end
section
variable {X : Cx} {ca : Ca} {k : Nat} {c : Str} {fn : Fn}
def chkAny : D → Bool := fun _ => true
theorem chkQ_any {K : PySem.W.Frag} {p : UnE} {Q : VK} {v : V} {H' : Hp} (h : chkQ K ca p Q v H') : Q v H' := h.2
theorem spF_Q {n : Nat} {fn : Fn} {vs : List V} {H : Hp} {Q Q' : VK} {E : XK} (h : spF X.K ca n fn vs H Q E) (i : ∀ v H', Q v H' → Q' v H') : spF X.K ca n fn vs H Q' E := by
  obtain ⟨hl, B, env, S, po, q⟩ := h
  exact ⟨hl, B, env, S, po, q.imp fun r e H' P k v R => i v H' (k v R)⟩
/-- -o -/
theorem neg_to (D : DunOk X ca k c "__neg__" 1 fn) (hr : Room k X.A) : UnTo X ca (unaryOp .USub) c ⟨chkAny, fn⟩ := fun pins s σ H x v Q I rx tx h => by
  obtain ⟨C, f, fd, ps, hc, sf, hs, hf, F, hb⟩ := D.ok
  obtain ⟨a, C1, dx, fs, rfl, hc1, ha⟩ := tx
  rw [hc] at hc1
  cases hc1
  cases rx
  obtain ⟨oa, da, J, _⟩ := ins_at I ha
  obtain ⟨m, hF⟩ := I.fr
  exact PySem.W.ksp_neg hF I.ok.mod.kin J hs hf (run_fn (dvs := []) (ds := []) (us := [.ref a]) (vs := [.ref a]) F hr hb .nil (pass_none (X := X)) I (.cons rfl .nil) (spF_Q h fun _ _ z => z.2))
/-- abs(o) -/
theorem abs_to (D : DunOk X ca k c "__abs__" 1 fn) (hr : Room (k + 1) X.A) : UnTo X ca (fun v => call (.builtin "abs") [v]) c ⟨chkAny, fn⟩ := fun pins s σ H x v Q I rx tx h => by
  obtain ⟨C, f, fd, ps, hc, sf, hs, hf, F, hb⟩ := D.ok
  obtain ⟨a, C1, dx, fs, rfl, hc1, ha⟩ := tx
  rw [hc] at hc1
  cases hc1
  cases rx
  obtain ⟨oa, da, J, _⟩ := ins_at I ha
  exact abs_own I.kIn J hs hf (run_in1 (us := [.ref a]) (vs := [.ref a]) F hr hb I (.cons rfl .nil) (spF_Q h fun _ _ z => z.2))
end
end Pw

set_option maxHeartbeats 4000000
/-! PwT: static methods with star parameters; constants of classes and of the module; chains. -/
namespace Pw
open PySem PySem.Spec PyProof.Rows L2

/-- what a def with a star parameter alone promises -/
def spStar (K : PySem.W.Frag) (ca : Ca) (fn : Fn) : Sp := fun vs H Q E => ∃ ws rest : List V, vs = ws ++ rest ∧ ws.length = ([] : List Str).length ∧ rest.length ≤ sizeLine ∧ ∀ p, H p = none → spF K ca 1 fn (ws ++ [V.ref p]) (upd H p (.tup rest)) Q E
structure StatOk (X : Cx) (ca : Ca) (k : Nat) (x m : Str) (fn : Fn) : Prop where
  ok : ∃ (C p f : Addr) (mc : Value) (rest : List Value), X.mg x = some (.ref C) ∧ PySem.W.typeIn X.K (.ref C) = some mc ∧ PySem.W.readsIn X.K C mc = true ∧ PySem.W.specialIn X.K (.ref C) "__getattribute__" = some (some (.builtin "type.__getattribute__")) ∧
    PySem.W.findCls X.K (.ref C) mc m = some (.get (.builtin "staticmethod.__get__") (.ref p) .none (.ref C)) ∧ PySem.W.recIn X.K p "staticmethod" = some (.ref f :: rest) ∧ PySem.W.keepIn X.K (.ref f) = true ∧
    FnR X.prog X.w X.K X.mg X.base (L2.CX X.prog X.w) k f (spStar X.K ca fn)
def statOut (fn : Fn) (rs : List RV) (e : En) : Out RV := (shareAll rs e).bind fun ds e1 => if ds.length ≤ sizeLine then noExn (callD 1 [] fn [] [.val (.tup ds)] e1) else .stuck
def mStatic (fn : Fn) (m : MA) : ME := fun e => (m e).bind fun rs e1 => statOut fn rs e1
section
variable {X : Cx} {ca : Ca} {k : Nat} {x m : Str} {fn : Fn} {ma : MA} {es : List Expr} {p1 apos pos : Pos}
theorem ve_static (hk : StatOk X ca k x m fn) (hr : Room k X.A) (hg : Gl X x) (hdb : (x == ("__debug__" : Str)) = false) (ha : VA X ca es ma)
    (h0 : (es = [] ∧ ma = mNil) ∨ ∃ e r, es = e :: r ∧ starEach (e :: r) X.env = (false, eval e X.env) :: starEach r X.env ∧ (backTo pos (starEach r X.env)).any (·.1) = false) (ht : MTree X.env (.Name x p1) m es apos pos) :
    VE X ca (.Call (.Attribute (.Name x p1) m apos) es [] pos) (mStatic fn ma) := fun W tk => ⟨fun pins s σ H Q I ⟨B, env, S, h⟩ => by
  obtain ⟨C, p, f, mc, rest, hm, ty, rd, ga, fc, rc, kp, F⟩ := hk.ok
  obtain ⟨pl, ht⟩ := ht
  have fin : ∀ (us : List Value) (s2 : Shared) (vs : List V) (rs : List RV) (e1 : En) (H1 : Hp), Inv X pins σ H1 s2 → Vals vs us → Post X.K ca B σ H env H1 e1 → RReps X.K ca B σ H1 e1 vs rs →
      CondG X.K ca W B σ H1 e1 (statOut fn rs e1) (fun r e H' => ∀ v, RRep X.K ca B σ H H' e v r → Q v H') → wpAny (model X.prog X.w) X.A (call (.ref f) us) (EP X pins σ Q) X.xe s2 := fun us s2 vs rs e1 H1 I2 rv P Rs k1 => by
    obtain ⟨ds, e2, P2, rd, k2⟩ := shareAll_ok (CondG.bind k1) P.rel Rs
    by_cases hl : ds.length ≤ sizeLine
    case neg => rw [if_neg hl] at k2; exact k2.elim
    rw [if_pos hl] at k2
    have k3 := noExn_cond (W' := fun _ _ _ _ => False) k2
    refine wpAny_call (codeAny_mono (run_fnR (E := fun _ _ _ => False) (Q := Q) F hr (pass_none (X := X)) I2 rv ⟨[], vs, rfl, rfl, by rw [rd.len]; exact hl, fun q hq => ?_⟩) fun r s' z => ?_)
    · have ex : Ext H1 (upd H1 q (.tup vs)) := .new hq
      have P3 : Post X.K ca B σ H1 e2 (upd H1 q (.tup vs)) e2 := .ext P2.rel ex
      have rt : Rep X.K ca (Nof B e2 σ) (upd H1 q (.tup vs)) (.ref q) (.tup ds) := .tup (.inl ⟨fun z => P2.rel.ndom z hq, .inl upd_same⟩) (rd.sub ex.sub)
      have := callD_core (X := X) (vs := [.ref q]) (dvs := []) .nil P3 (show RReps X.K ca B σ (upd H1 q (.tup vs)) e2 [.ref q] [.val (.tup ds)] from .cons ⟨rfl, fun _ => rt⟩ .nil) ((CondG.from P3 k3).imp fun r e H' P' kk v R => kk v (R.back fun a z => P.keep.dom a z))
      exact spF_E this fun _ _ _ z => z
    · cases r with
      | ok fl => cases fl with
        | ret v => exact z
        | _ => exact z.elim
      | error e => exact z
  refine PySem.W.methodCall_KW (pl := pl) (ld_glob I hg hm (PySem.W.method_cls I.kIn ga ?_) hdb) ht
  obtain ⟨mm, hF⟩ := I.fr
  refine PySem.W.cls_sm hF I.ok.mod.kin ty rd fc rc rfl ?_
  have I1 := I.tok (s.toks + 1)
  rcases h0 with ⟨rfl, rfl⟩ | ⟨e, r, rfl, hs, hp⟩
  · exact PySem.W.callWith_K0 I1.kIn kp (fin [] _ [] [] env H I1 .nil (.refl S) .nil (CondG.now (CondG.bind h) (.refl S)))
  · exact PySem.W.callWith_K (h₀ := X.base) I.ok.mod.kin kp (thn ((ha W tk).run pos pins _ σ H (fun vs H1 => ∃ rs e, ∃ (P1 : Post X.K ca B σ H env H1 e), CondG X.K ca W B σ H1 e (statOut fn rs e) (fun r e H' => ∀ v, RRep X.K ca B σ H H' e v r → Q v H') ∧ RReps X.K ca B σ H1 e vs rs) I1 ⟨B, env, S, (CondG.bind h).imp fun rs e H1 P1 k vs R => ⟨rs, e, P1, k, R⟩⟩) fun us s2 ⟨vs, H2, I2, rr, rs, e1, P1, k1, R1⟩ => ⟨I2.kIn, fin us s2 vs rs e1 H2 I2 rr P1 R1 k1⟩) hs hp⟩
end
end Pw

set_option maxHeartbeats 4000000
/-! PwU: what the head tells: defs at any place, any Bool of the written part. -/
namespace Pw
open PySem PySem.Spec PyProof.Rows L2

/-- a def: where it stands, its name, qualified name, parameters, body, scope, defaults -/
structure DefG where
  at_ : PySem.W.Frag → Addr
  name : Str
  qual : Str
  params : Arguments
  body : List Stmt
  scope : Scope
  dfl : List He.Dv := []
def fnG (K : PySem.W.Frag) (a : Addr) : He.FnW := match K.lookup a with
  | some ⟨_, _, .func fd, _⟩ => some (fd.name, fd.qualname, fd.params, fd.body, fd.scope, fd.globals, fd.closure, fd.builtins)
  | _ => none
def DefG.val (d : DefG) : He.FnW := some (d.name, d.qual, d.params, .stmts d.body, d.scope, mainGlobals, [], builtinsNs)
def DefG.dvs (K : PySem.W.Frag) (d : DefG) : List V := d.dfl.map (He.Dv.v K)
def DefG.ok (K : PySem.W.Frag) (d : DefG) : Bool := PySem.W.keepIn K (.ref (d.at_ K)) && (match K.lookup (d.at_ K) with
  | some ⟨_, _, .func fd, _⟩ => PySem.W.codeIn K fd.code d.qual && (He.dflB K fd.defaults (d.dvs K) && He.kwdB K fd.kwdefaults [])
  | _ => false)
theorem DefG.funD {K : PySem.W.Frag} {d : DefG} (e : fnG K (d.at_ K) = d.val) (c : d.ok K = true) : ∃ fd, FunD K d.name d.qual d.params d.body d.scope (d.dvs K) [] (d.at_ K) fd := by
  obtain ⟨kp, c2⟩ := He.ba c
  unfold fnG at e
  cases q : K.lookup (d.at_ K) with
  | none => rw [q] at c2; cases c2
  | some o =>
    obtain ⟨oc, od, dt, osl⟩ := o
    rw [q] at c2 e
    cases dt with
    | func fd =>
      obtain ⟨n1, n2, n3, n4, n5, n6, n7, n8, n9, n10, n11, n12, n13, n14, n15⟩ := fd
      have e2 : (some (n1, n2, n3, n4, n5, n6, n7, n15) : He.FnW) = some (d.name, d.qual, d.params, .stmts d.body, d.scope, mainGlobals, [], builtinsNs) := e
      simp only [Option.some.injEq, Prod.mk.injEq] at e2
      obtain ⟨h1, h2, h3, h4, h5, h6, h7, h8⟩ := e2
      subst h1 h2 h3 h4 h5 h6 h7 h8
      have c3 : (PySem.W.codeIn K n13 d.qual && (He.dflB K n8 (d.dvs K) && He.kwdB K n9 [])) = true := c2
      obtain ⟨k1, k2⟩ := He.ba c3
      obtain ⟨k3, k4⟩ := He.ba k2
      exact ⟨_, ⟨oc, od, n8, n9, n10, n11, n12, n13, n14, osl, rfl, q, k1, He.dflB_ok k3, He.kwdB_ok k4⟩, kp⟩
    | _ => cases c2
/-- the getter of a property, the def of a static method, of a class method -/
def rAd (ty : String) (c m : Str) (K : PySem.W.Frag) : Addr := match PySem.W.recIn K (He.ma K (He.ga K c) m) ty with
  | some (.ref g :: _) => g
  | _ => 0
def gAd (x : Str) (K : PySem.W.Frag) : Addr := He.ga K x
def mAd (c m : Str) (K : PySem.W.Frag) : Addr := He.ma K (He.ga K c) m
abbrev AlP : Type := Bool × List He.FnW
def asP (g : Addr → Option Obj) (n : Nat) : List Addr := cStatics :: He.asD g n
def obsP (n : Nat) (ex : PySem.W.Frag → Bool) (fn : List DefG) (g : Addr → Option Obj) : AlP :=
  (ex (He.frG g (asP g n)) && fn.all fun d => d.ok (He.frG g (asP g n)), fn.map fun d => fnG (He.frG g (asP g n)) (d.at_ (He.frG g (asP g n))))
structure SaysP (ex : PySem.W.Frag → Bool) (fn : List DefG) (K : PySem.W.Frag) : Prop where
  ex : ex K = true
  fn : ∀ (i : Nat) (d : DefG), fn[i]? = some d → ∃ fd, FunD K d.name d.qual d.params d.body d.scope (d.dvs K) [] (d.at_ K) fd
theorem saysP_of {ex : PySem.W.Frag → Bool} {fn : List DefG} {K : PySem.W.Frag} (e : ((ex K && fn.all fun d => d.ok K, fn.map fun d => fnG K (d.at_ K)) : AlP) = (true, fn.map DefG.val)) : SaysP ex fn K := by
  have e1 : (ex K && fn.all fun d => d.ok K) = true := congrArg (fun z : AlP => z.1) e
  have e2 : (fn.map fun d => fnG K (d.at_ K)) = fn.map DefG.val := congrArg (fun z : AlP => z.2) e
  obtain ⟨h1, h2⟩ := He.ba e1
  refine ⟨h1, fun i d hd => DefG.funD ?_ (List.all_eq_true.mp h2 d (List.mem_of_getElem? hd))⟩
  have e3 := congrArg (fun l => l[i]?) e2
  simp only [List.getElem?_map, hd, Option.map_some, Option.some.injEq] at e3
  exact e3
def hookP (n : Nat) (ex : PySem.W.Frag → Bool) (fn : List DefG) : PySem.W.Hook where
  α := AlP
  obs := fun s => obsP n ex fn s.heap.get?
  val := fun _ => (true, fn.map DefG.val)
  says := fun _ h => ∃ K : PySem.W.Frag, K.In h ∧ SaysP ex fn K
  of := fun _ _ e => ⟨_, He.frG_in, saysP_of e⟩
  keeps := fun _ _ _ ⟨K, hK, c⟩ k => ⟨K, PySem.W.Frag.In.keeps hK k, c⟩
theorem obsP_eq {n : Nat} {ex : PySem.W.Frag → Bool} {fn : List DefG} {g : Addr → Option Obj} {s : Shared} (h : ∀ a, g a = s.heap.get? a) : obsP n ex fn g = (hookP n ex fn).obs s := by
  have e : g = s.heap.get? := funext h
  rw [e] <;> rfl
end Pw

set_option maxHeartbeats 4000000
/-! PwV: what the printed proofs of the defs use. -/
namespace Pw
open PySem PySem.Spec PyProof.Rows L2

abbrev At (P : Program) (w : World) (K : PySem.W.Frag) (mg : Str → Option Value) (base : Heap) (F : Cx → Prop) : Prop := ∀ X : Cx, X.prog = P → X.w = w → X.K = K → X.mg = mg → X.base = base → F X
structure Sit (X : Cx) (k : Nat) : Prop where
  nd : X.N.Nodup
  hr : Room k X.A
  calm : X.calm = true
def visB (sc : Scope) (x : Str) : Bool := match sc.names.lookup x with
  | some .local => true
  | some .cell => true
  | some .free => true
  | _ => false
theorem vis_of {sc : Scope} {x : Str} (h : visB sc x = true) : Vis sc x := by
  unfold visB at h
  unfold Vis
  split at h <;> simp_all
def locB (sc : Scope) (x : Str) : Bool := match sc.names.lookup x with
  | some .local => true
  | some .cell => true
  | _ => false
theorem loc_of {sc : Scope} {x : Str} (h : locB sc x = true) : L2.Loc sc x := by
  unfold locB at h
  unfold L2.Loc
  split at h <;> simp_all
section
variable {X : Cx} {ca : Ca} {k : Nat}
theorem u64 (S : Sit X k) : X.A.units + 64 < cLine := S.hr.units
theorem u65 (S : Sit X k) : X.A.units + 65 < cLine := by have := S.hr.un; omega
theorem Sit.blk {X : Cx} {k : Nat} (S : Sit X k) (s : Shared) (H : Hp) (sc : Scope) (ce : Env) (fp : List Addr) : Sit (X.blk s H sc ce fp) k := ⟨S.nd, S.hr, S.calm⟩
/-- what is never reached -/
def mNo : ME := fun _ => .stuck
def mNoS : MS := fun _ => .stuck
theorem ve_no {e : Expr} : VE X ca e mNo := fun W tk => ⟨fun pins s σ H Q I ⟨B, env, S, h⟩ => h.elim⟩
theorem vs_no {st : Stmt} : VS X ca st mNoS := fun W tk => ⟨fun pins s σ H Q I ⟨B, env, S, h⟩ => h.elim⟩
/-- a constant of the module -/
theorem ve_globI {x : Str} {i : Int} {pos : Pos} (hg : Gl X x) (hm : ∃ t, X.mg x = some (.int i t)) (hd : (x == ("__debug__" : Str)) = false) : VE X ca (.Name x pos) (mC (.int i)) := fun W tk => by
  obtain ⟨t, hm⟩ := hm
  exact peImp (pe_glob hg hm (v := .int i) ⟨t, rfl⟩ hd) fun σ H Q ⟨B, env, S, h⟩ => h.now (.refl S) _ (.int i)
theorem ve_globS {x i : Str} {pos : Pos} (hg : Gl X x) (hm : ∃ t, X.mg x = some (.str i t)) (hd : (x == ("__debug__" : Str)) = false) : VE X ca (.Name x pos) (mC (.str i)) := fun W tk => by
  obtain ⟨t, hm⟩ := hm
  exact peImp (pe_glob hg hm (v := .str i) ⟨t, rfl⟩ hd) fun σ H Q ⟨B, env, S, h⟩ => h.now (.refl S) _ (.str i)
/-! ### chains -/
def mChain2 (o o' : RV → RV → En → Out RV) (a b c : ME) : ME := fun e => (a e).bind fun x e1 => (b e1).bind fun y e2 => (o (norm x) (norm y) e2).bind fun r e3 => (boolOut r e3).bind fun t e4 => if t = true then (c e4).bind fun z e5 => o' (norm y) (norm z) e5 else .ok (.val (.bl false)) e4
end
section
variable {P : Program} {w : World} {K : PySem.W.Frag} {mg : Str → Option Value} {base : Heap} {ca : Ca}
theorem call_at {x : Str} {n k : Nat} {fn : Fn} {dfs : List D} {f : Addr} {fd : FuncData} {ps : List Str} {dvs : List V} {ds : List Value} (F : FnOk P w K mg base (L2.CX P w) k f fd ps (spF K ca n fn)) (hm : mg x = some (.ref f)) (hk : PySem.W.keepIn K (.ref f) = true) (hb : L2.Binds K fd ps ds) (hv : Vals dvs ds) (hd : DfRep K ca dvs dfs) :
    At P w K mg base fun X => Call1 X ca k x n fn dfs := by
  rintro X rfl rfl rfl rfl rfl
  exact ⟨f, fd, ps, dvs, ds, F, hm, hk, hb, hv, hd⟩
/-- a def whose one parameter is a star -/
theorem star_ok {x qual : Str} {params : Arguments} {body : List Stmt} {scope : Scope} {f : Addr} {fd : FuncData} {N : List Str} {pv : Str} {k : Nat} {m : MS}
    (F : FunD K x qual params body scope [] [] f fd) (S : FnScope N ([] ++ [pv]) scope)
    (hbd : ∀ (kV doc pm : Value) (an : Option Addr) (cdv ct : Value) (us rest : List Value), us.length = ([] : List Str).length → bindArgs (PySem.W.fnOf x qual params body scope .none kV doc pm an cdv ct) ⟨us ++ rest, []⟩ = (newTuple rest >>= fun t => pure (([] : List Str).zip us ++ [(pv, t)])))
    (hb : ∀ (cdv : Value) (A : Around) (outer : List Env) (s : Shared) (H : Hp) (E : XK), Room k (A.deeper (envOfC qual scope s.heap.objs.size f cdv)) → VSs (cxOf (L2.CX P w) P w K mg base N qual scope f cdv A outer s H E) ca body m) :
    FnR P w K mg base (L2.CX P w) (k + 1) f (spStar K ca (runF N.length m)) := by
  obtain ⟨oc, od, dV, kV, doc, pm, an, cdv, ct, osl, rfl, lk, hcd, hD, _⟩ := F.ex
  obtain rfl : dV = .none := by rcases hD with ⟨_, z⟩ | ⟨z, _⟩
                                · exact z
                                · exact absurd rfl z
  have hnl : ([] ++ [pv] : List Str).length ≤ N.length := by have := congrArg List.length S.pre; rw [List.length_take] at this; omega
  refine StX.fn_star (sp := spF K ca 1 (runF N.length m)) lk hcd S StX.cxUp (hbd kV doc pm an cdv ct) fun A outer s H vs Q E hr h => ?_
  obtain ⟨hl, B, env, Sr, po, hc⟩ := h
  have hn : vs.length ≤ N.length := by rw [hl]; exact hnl
  exact ⟨_, hb cdv A outer s H E hr (WEx E) (takes_of rfl rfl rfl rfl), body_end Sr po hn hc⟩
end
end Pw

set_option maxHeartbeats 4000000
/-! PwW: the contracts out of the head's Bools. -/
namespace Pw
open PySem PySem.Spec PyProof.Rows L2

/-- the own classes stand under their names -/
def caOf (cs : List Str) (K : PySem.W.Frag) (ts : List (Addr × Str) := []) (hs : Str → Int := fun _ => 0) : Ca := ⟨fun c => if cs.contains c = true then some (He.ga K c) else none, ts, hs⟩
abbrev CaN (K : PySem.W.Frag) (ca : Ca) : Prop := ∀ c C, ca c = some C → C = He.ga K c
theorem caOf_n {cs : List Str} {K : PySem.W.Frag} {ts : List (Addr × Str)} {hs : Str → Int} : CaN K (caOf cs K ts hs) := fun c C h => by
  unfold caOf at h
  dsimp only at h
  split at h
  · cases h; rfl
  · cases h
abbrev mG (K : PySem.W.Frag) (c m : Str) : Addr := He.ma K (He.ga K c) m
def propB (K : PySem.W.Frag) (c f : Str) : Bool := He.eqO (PySem.W.findIn K (.ref (He.ga K c)) f) (some (some (.ref (mG K c f)))) && (He.eqO (PySem.W.specialIn K (.ref (mG K c f)) "__get__") (some (some (.builtin "property.__get__"))) &&
  (decide (PySem.W.takesIn K (.ref (mG K c f)) = some true) && (match PySem.W.recIn K (mG K c f) "property" with
    | some (.ref _ :: _) => true
    | _ => false)))
theorem prop_ok {K : PySem.W.Frag} {c f : Str} (h : propB K c f = true) : PropOf K (He.ga K c) f (mG K c f) (rAd "property" c f K) := by
  obtain ⟨h1, h⟩ := He.ba h
  obtain ⟨h2, h⟩ := He.ba h
  obtain ⟨h3, h4⟩ := He.ba h
  refine ⟨He.eqO_ok h1, He.eqO_ok h2, of_decide_eq_true h3, ?_⟩
  unfold rAd
  cases q : PySem.W.recIn K (mG K c f) "property" with
  | none => rw [q] at h4; cases h4
  | some l =>
    rw [q] at h4
    cases l with
    | nil => cases h4
    | cons v r => cases v with
      | ref g => exact ⟨r, rfl⟩
      | _ => cases h4
def statB (K : PySem.W.Frag) (c m : Str) : Bool := decide (PySem.W.typeIn K (.ref (He.ga K c)) = some (.type "type")) && (PySem.W.readsIn K (He.ga K c) (.type "type") && (He.eqO (PySem.W.specialIn K (.ref (He.ga K c)) "__getattribute__") (some (some (.builtin "type.__getattribute__"))) &&
  ((match PySem.W.findCls K (.ref (He.ga K c)) (.type "type") m with
    | some (.get (.builtin i) (.ref p) .none (.ref C)) => decide (i = "staticmethod.__get__" ∧ p = mG K c m ∧ C = He.ga K c)
    | _ => false) && (match PySem.W.recIn K (mG K c m) "staticmethod" with
    | some (.ref g :: _) => PySem.W.keepIn K (.ref g)
    | _ => false))))
theorem stat_ok {X : Cx} {ca : Ca} {k : Nat} {c m : Str} {fn : Fn} (h : statB X.K c m = true) (hm : X.mg c = some (.ref (He.ga X.K c))) (F : FnR X.prog X.w X.K X.mg X.base (L2.CX X.prog X.w) k (rAd "staticmethod" c m X.K) (spStar X.K ca fn)) : StatOk X ca k c m fn := by
  obtain ⟨h1, h⟩ := He.ba h
  obtain ⟨h2, h⟩ := He.ba h
  obtain ⟨h3, h⟩ := He.ba h
  obtain ⟨h4, h5⟩ := He.ba h
  have e4 : PySem.W.findCls X.K (.ref (He.ga X.K c)) (.type "type") m = some (.get (.builtin "staticmethod.__get__") (.ref (mG X.K c m)) .none (.ref (He.ga X.K c))) := by
    revert h4
    split
    · rename_i i p C q
      intro h4
      obtain ⟨rfl, rfl, rfl⟩ := of_decide_eq_true h4
      exact q
    · intro h4; cases h4
  have e5 : ∃ rest, PySem.W.recIn X.K (mG X.K c m) "staticmethod" = some (.ref (rAd "staticmethod" c m X.K) :: rest) ∧ PySem.W.keepIn X.K (.ref (rAd "staticmethod" c m X.K)) = true := by
    unfold rAd
    revert h5
    cases q : PySem.W.recIn X.K (mG X.K c m) "staticmethod" with
    | none => intro h5; cases h5
    | some l => cases l with
      | nil => intro h5; cases h5
      | cons v r => cases v with
        | ref g => exact fun h5 => ⟨r, rfl, h5⟩
        | _ => intro h5; cases h5
  obtain ⟨rest, e5, e6⟩ := e5
  exact ⟨_, _, _, _, _, hm, of_decide_eq_true h1, h2, He.eqO_ok h3, e4, e5, e6, F⟩
/-- what a type stands for -/
def tyv (K : PySem.W.Frag) : Ty → Value
  | .inl n => .type n
  | .inr c => .ref (He.ga K c)
theorem tyv_of {K : PySem.W.Frag} {ca : Ca} (hc : CaN K ca) {t : Ty} {u : Value} (h : tyVal ca t u) : u = tyv K t := by
  cases t with
  | inl n => exact h
  | inr c => obtain ⟨C, e, rfl⟩ := h; rw [hc c C e]; rfl
def tabB (K : PySem.W.Frag) (tab : IsTab) : Bool := tab.all fun p => decide (PySem.W.kitOne K (tyv K p.1.1) (tyv K p.1.2) = some p.2)
theorem tab_ok {K : PySem.W.Frag} {ca : Ca} {tab : IsTab} (hc : CaN K ca) (h : tabB K tab = true) : TabOk K ca tab := ⟨fun p hp u v hu hv => by
  have := List.all_eq_true.mp h p hp
  rw [tyv_of hc hu, tyv_of hc hv]
  exact of_decide_eq_true this⟩
def ownB (K : PySem.W.Frag) (c : Str) : Bool := (He.Fa.cls c).ok K && (He.eqO (PySem.W.findIn K (.ref (He.ga K c)) "__class__") (some (some (.builtin "object.__class__"))) && (He.eqO (PySem.W.specialIn K (.builtin "object.__class__") "__get__") (some (some (.builtin "getset_descriptor.__get__"))) &&
  (decide (PySem.W.takesIn K (.builtin "object.__class__") = some true) && decide (PySem.W.mroIn K (He.ga K c) (.type "object") = some true))))
theorem own_ok {K : PySem.W.Frag} {c : Str} (h : ownB K c = true) : OwnTy K (He.ga K c) := by
  obtain ⟨h1, h⟩ := He.ba h
  obtain ⟨h2, h⟩ := He.ba h
  obtain ⟨h3, h⟩ := He.ba h
  obtain ⟨h4, h5⟩ := He.ba h
  exact ⟨He.cls_ok h1, He.eqO_ok h2, He.eqO_ok h3, of_decide_eq_true h4, of_decide_eq_true h5⟩
def ownTB (K : PySem.W.Frag) (tab : IsTab) : Bool := tab.all fun p => match p.1.1 with
  | .inr c => ownB K c
  | _ => true
theorem owns_ok {K : PySem.W.Frag} {ca : Ca} {tab : IsTab} (hca : CaN K ca) (h : ownTB K tab = true) : OwnT K ca tab := fun c C e ⟨p, hp, hc⟩ => by
  have := List.all_eq_true.mp h p hp
  rw [hc] at this
  rw [hca c C e]
  exact own_ok this
section
variable {X : Cx} {ca : Ca} {k : Nat} {c : Str} {fn : Fn}
theorem fld_ok {f : Str} (hc : CaN X.K ca) (h1 : (He.Fa.cls c).ok X.K = true) (h2 : (He.Fa.noat c f).ok X.K = true) : FldOk X ca c f := ⟨fun C e => by rw [hc c C e]; exact ⟨He.cls_ok h1, He.noat_ok h2⟩⟩
theorem propO {f : Str} {fd : FuncData} {ps : List Str} (e : ca c = some (He.ga X.K c)) (h1 : (He.Fa.cls c).ok X.K = true) (h2 : propB X.K c f = true) (F : FnOk X.prog X.w X.K X.mg X.base (L2.CX X.prog X.w) k (rAd "property" c f X.K) fd ps (spF X.K ca 1 fn)) (hb : L2.Binds X.K fd ps []) : PropOk X ca k c f fn :=
  ⟨_, _, _, _, _, e, He.cls_ok h1, prop_ok h2, F, hb⟩
theorem dunO {m : Str} {n : Nat} {fd : FuncData} {ps : List Str} (e : ca c = some (He.ga X.K c)) (h1 : PySem.W.selfFirst X.K (He.ga X.K c) = true) (h2 : (He.Fa.meth c m).ok X.K = true) (F : FnOk X.prog X.w X.K X.mg X.base (L2.CX X.prog X.w) k (mG X.K c m) fd ps (spF X.K ca n fn)) (hb : L2.Binds X.K fd ps []) : DunOk X ca k c m n fn :=
  ⟨_, _, _, _, e, h1, (He.meth_ok h2).at_, (He.meth_ok h2).fn, F, hb⟩
theorem metO {m : Str} {i : MtI} {fd : FuncData} {ps : List Str} {dvs : List V} {ds : List Value} (e : ca c = some (He.ga X.K c)) (h1 : (He.Fa.cls c).ok X.K = true) (h2 : (He.Fa.meth c m).ok X.K = true) (F : FnOk X.prog X.w X.K X.mg X.base (L2.CX X.prog X.w) k (mG X.K c m) fd ps (spF X.K ca i.n i.fn)) (hb : L2.Binds X.K fd ps ds) (hv : Vals dvs ds) (hd : DfRep X.K ca dvs i.dfs) : MetOk X ca k c m i :=
  ⟨_, _, _, _, _, _, e, He.cls_ok h1, He.meth_ok h2, F, hb, hv, hd⟩
theorem makO {i : MtI} {fd : FuncData} {ps : List Str} {dvs : List V} {ds : List Value} (e : ca c = some (He.ga X.K c)) (hm : X.mg c = some (.ref (He.ga X.K c))) (h2 : (He.Fa.mkr c).ok X.K = true) (F : FnOk X.prog X.w X.K X.mg X.base (L2.CX X.prog X.w) k (mG X.K c "__init__") fd ps (spF X.K ca i.n i.fn)) (hb : L2.Binds X.K fd ps ds) (hv : Vals dvs ds) (hd : DfRep X.K ca dvs i.dfs) : MakeOk X ca k c c i :=
  ⟨_, _, _, _, _, _, e, hm, He.mkr_ok h2, F, hb, hv, hd⟩
/-- an operator with a number on the right -/
def binIntB (K : PySem.W.Frag) (c m r : Str) : Bool := (match PySem.W.findIn K (.ref (He.ga K c)) r with
    | some none => true
    | some (some (.ref _)) => true
    | _ => false) && (decide (PySem.W.subIn K (.type "int") (.ref (He.ga K c)) = some false) && ((PySem.W.findIn K (.type "int") m).isSome && (PySem.W.findIn K (.type "int") r).isSome))
theorem binInt {op : Operator} (hc : CaN X.K ca) (D : DunOk X ca k c (PySem.dunder op.info.2) 2 fn) (hr : Room k X.A) (h : binIntB X.K c (PySem.dunder op.info.2) (dunderR op.info.2) = true) : BinTo X ca (binaryOp op) (.inr c) (.inl "int") ⟨false, false, fn⟩ := by
  obtain ⟨h1, h⟩ := He.ba h
  obtain ⟨h2, h⟩ := He.ba h
  obtain ⟨h3, h4⟩ := He.ba h
  refine binTo_int D hr (fun C e => ?_) ⟨_, (Option.isSome_iff_exists.mp h3).choose_spec⟩ ⟨_, (Option.isSome_iff_exists.mp h4).choose_spec⟩
  rw [hc c C e]
  refine ⟨?_, of_decide_eq_true h2⟩
  revert h1
  split
  · rename_i q; exact fun _ => ⟨_, q, .inl rfl⟩
  · rename_i g q; exact fun _ => ⟨_, q, .inr ⟨g, rfl⟩⟩
  · intro z; cases z
theorem binRev {op : Operator} {id name : String} {fI : Int → Int → Sem Fin} (hc : CaN X.K ca) (D : DunOk X ca k c (dunderR op.info.2) 2 fn) (hr : Room k X.A) (h1 : (He.Fa.meth c (PySem.dunder op.info.2)).ok X.K = true) (h2 : decide (PySem.W.subIn X.K (.ref (He.ga X.K c)) (.type "int") = some false) = true)
    (hfill : fillsNumberSlot (.type "int") op.info.2 = pure true) (slot : PySem.Slot "int" (PySem.dunder op.info.2) id) (entry : entryFor table id = some (Builtin.Int.intBinary name fI)) (args : ∀ u v, argsOk id ⟨[u, v], []⟩) : BinTo X ca (binaryOp op) (.inl "int") (.inr c) ⟨true, false, fn⟩ :=
  binTo_rev D hr (fun C e => by rw [hc c C e]; exact ⟨⟨_, (He.meth_ok h1).at_⟩, of_decide_eq_true h2⟩) hfill slot entry args
def neB (K : PySem.W.Frag) (c : Str) (tys : List String := ["int"]) : Bool := He.eqO (PySem.W.findIn K (.ref (He.ga K c)) "__ne__") (some (some (.builtin "object.__ne__"))) && (decide (PySem.W.subIn K (.ref (He.ga K c)) (.type "object") = some true) && tys.all fun n => PySem.W.notFirst K (He.ga K c) (.type n))
theorem neO {ty : Ty} {tys : List String} (hc : CaN X.K ca) (D : DunOk X ca k c "__eq__" 2 fn) (hr : Room (k + 1) X.A) (ht : (∃ n ∈ tys, ty = .inl n) ∨ ty = .inr c) (h : neB X.K c tys = true) : BinTo X ca (compareOp .NotEq) (.inr c) ty ⟨false, true, fn⟩ := by
  obtain ⟨h1, h⟩ := He.ba h
  obtain ⟨h2, h3⟩ := He.ba h
  exact ne_to D hr (ht.imp (fun ⟨n, hn, e⟩ => ⟨n, e, fun C e => by rw [hc c C e]; exact List.all_eq_true.mp h3 n hn⟩) id) fun C e => by rw [hc c C e]; exact ⟨He.eqO_ok h1, of_decide_eq_true h2⟩
theorem eqTo {ty : Ty} {tys : List String} (hc : CaN X.K ca) (D : DunOk X ca k c "__eq__" 2 fn) (hr : Room (k + 1) X.A) (ht : (∃ n ∈ tys, ty = .inl n) ∨ ty = .inr c) (h : neB X.K c tys = true) : BinTo X ca (compareOp .Eq) (.inr c) ty ⟨false, false, fn⟩ := by
  obtain ⟨h1, h⟩ := He.ba h
  obtain ⟨h2, h3⟩ := He.ba h
  exact eq_to D hr (ht.imp (fun ⟨n, hn, e⟩ => ⟨n, e, fun C e => by rw [hc c C e]; exact List.all_eq_true.mp h3 n hn⟩) id)
theorem nm_own (hc : ca c = some (He.ga X.K c)) (hm : X.mg c = some (.ref (He.ga X.K c))) : NmTy X ca c (.inr c) := ⟨.ref (He.ga X.K c), _, .own _, ⟨_, hc, rfl⟩, rfl, .inl hm⟩
theorem nm_ty {n : String} {x : Str} (hm : X.mg x = none) (hb : bootBuiltins x = some (.type n)) (hn : x ≠ "__name__") : NmTy X ca x (.inl n) := ⟨.ty n, _, .ty n, rfl, rfl, .inr ⟨hm, hb, hn⟩⟩
end
/-! ### the same, at any context -/
section
variable {P : Program} {w : World} {K : PySem.W.Frag} {mg : Str → Option Value} {base : Heap} {ca : Ca} {k : Nat} {c : Str} {fn : Fn}
theorem At.and {F G : Cx → Prop} (a : At P w K mg base F) (b : At P w K mg base G) : At P w K mg base fun X => F X ∧ G X := fun X h1 h2 h3 h4 h5 => ⟨a X h1 h2 h3 h4 h5, b X h1 h2 h3 h4 h5⟩
theorem At.imp {F G : Cx → Prop} (a : At P w K mg base F) (i : ∀ X, X.K = K → F X → G X) : At P w K mg base G := fun X h1 h2 h3 h4 h5 => i X h3 (a X h1 h2 h3 h4 h5)
theorem fldAt {fl : List Str} {f : Str} (hc : CaN K ca) (h : (fl.all fun c => (He.Fa.cls c).ok K && (He.Fa.noat c f).ok K) = true) : At P w K mg base fun X => AtOk X ca 0 ⟨fl, []⟩ f := by
  rintro X rfl rfl rfl rfl rfl
  refine ⟨fun c hm => ?_, fun c fn z => by cases z⟩
  obtain ⟨h1, h2⟩ := He.ba (List.all_eq_true.mp h c hm)
  exact fld_ok hc h1 h2
theorem propAt {f : Str} {fd : FuncData} {ps : List Str} (e : ca c = some (He.ga K c)) (h1 : (He.Fa.cls c).ok K = true) (h2 : propB K c f = true) (F : FnOk P w K mg base (L2.CX P w) k (rAd "property" c f K) fd ps (spF K ca 1 fn)) (hb : L2.Binds K fd ps []) : At P w K mg base fun X => AtOk X ca k ⟨[], [(c, fn)]⟩ f := by
  rintro X rfl rfl rfl rfl rfl
  refine ⟨fun c hm => (List.not_mem_nil hm).elim, fun c' fn' z => ?_⟩
  rw [List.lookup_cons] at z
  split at z
  · rename_i q
    cases z
    rw [beq_iff_eq.mp q]
    exact propO e h1 h2 F hb
  · cases z
theorem dunAt {m : Str} {n : Nat} {fd : FuncData} {ps : List Str} (e : ca c = some (He.ga K c)) (h1 : PySem.W.selfFirst K (He.ga K c) = true) (h2 : (He.Fa.meth c m).ok K = true) (F : FnOk P w K mg base (L2.CX P w) k (mAd c m K) fd ps (spF K ca n fn)) (hb : L2.Binds K fd ps []) : At P w K mg base fun X => DunOk X ca k c m n fn := by
  rintro X rfl rfl rfl rfl rfl
  exact dunO e h1 h2 F hb
theorem metAt {m : Str} {i : MtI} {fd : FuncData} {ps : List Str} {dvs : List V} {ds : List Value} (e : ca c = some (He.ga K c)) (h1 : (He.Fa.cls c).ok K = true) (h2 : (He.Fa.meth c m).ok K = true) (F : FnOk P w K mg base (L2.CX P w) k (mAd c m K) fd ps (spF K ca i.n i.fn)) (hb : L2.Binds K fd ps ds) (hv : Vals dvs ds) (hd : DfRep K ca dvs i.dfs) : At P w K mg base fun X => ∀ c' i', [(c, i)].lookup c' = some i' → MetOk X ca k c' m i' := by
  rintro X rfl rfl rfl rfl rfl c' i' z
  rw [List.lookup_cons] at z
  split at z
  · rename_i q
    cases z
    rw [beq_iff_eq.mp q]
    exact metO e h1 h2 F hb hv hd
  · cases z
theorem makAt {i : MtI} {fd : FuncData} {ps : List Str} {dvs : List V} {ds : List Value} (e : ca c = some (He.ga K c)) (hm : mg c = some (.ref (He.ga K c))) (h2 : (He.Fa.mkr c).ok K = true) (F : FnOk P w K mg base (L2.CX P w) k (mAd c "__init__" K) fd ps (spF K ca i.n i.fn)) (hb : L2.Binds K fd ps ds) (hv : Vals dvs ds) (hd : DfRep K ca dvs i.dfs) : At P w K mg base fun X => MakeOk X ca k c c i := by
  rintro X rfl rfl rfl rfl rfl
  exact makO e hm h2 F hb hv hd
theorem statAt {m : Str} (h : statB K c m = true) (hm : mg c = some (.ref (He.ga K c))) (F : FnR P w K mg base (L2.CX P w) k (rAd "staticmethod" c m K) (spStar K ca fn)) : At P w K mg base fun X => StatOk X ca k c m fn := by
  rintro X rfl rfl rfl rfl rfl
  exact stat_ok h hm F
theorem nmOwnAt (e : ca c = some (He.ga K c)) (hm : mg c = some (.ref (He.ga K c))) : At P w K mg base fun X => NmTy X ca c (.inr c) := by
  rintro X rfl rfl rfl rfl rfl
  exact nm_own e hm
theorem nmTyAt {n : String} {x : Str} (hm : mg x = none) (hb : bootBuiltins x = some (.type n)) (hn : x ≠ "__name__") : At P w K mg base fun X => NmTy X ca x (.inl n) := by
  rintro X rfl rfl rfl rfl rfl
  exact nm_ty hm hb hn
theorem ops_two {X : Cx} {f : Value → Value → Sem Value} {a b : (Ty × Ty) × OpE} (h1 : BinTo X ca f a.1.1 a.1.2 a.2) (h2 : BinTo X ca f b.1.1 b.1.2 b.2) : OpsOk X ca f [a, b] := ⟨fun p hp => by
  simp only [List.mem_cons, List.not_mem_nil, or_false] at hp
  rcases hp with rfl | rfl
  · exact h1
  · exact h2⟩
theorem ops_three {X : Cx} {f : Value → Value → Sem Value} {a b d : (Ty × Ty) × OpE} (h1 : BinTo X ca f a.1.1 a.1.2 a.2) (h2 : BinTo X ca f b.1.1 b.1.2 b.2) (h3 : BinTo X ca f d.1.1 d.1.2 d.2) : OpsOk X ca f [a, b, d] := ⟨fun p hp => by
  simp only [List.mem_cons, List.not_mem_nil, or_false] at hp
  rcases hp with rfl | rfl | rfl
  · exact h1
  · exact h2
  · exact h3⟩
theorem opAt2 {op : Operator} {kk : Nat} (hk : k ≤ kk) (hc : CaN K ca) (D : At P w K mg base fun X => DunOk X ca k c (PySem.dunder op.info.2) 2 fn) (h : binIntB K c (PySem.dunder op.info.2) (dunderR op.info.2) = true) :
    At P w K mg base fun X => Room kk X.A → OpsOk X ca (binaryOp op) [((.inr c, .inr c), ⟨false, false, fn⟩), ((.inr c, .inl "int"), ⟨false, false, fn⟩)] := by
  rintro X rfl rfl rfl rfl rfl hr
  have d := D X rfl rfl rfl rfl rfl
  exact ops_two (binTo_same d (hr.mono hk)) (binInt hc d (hr.mono hk) h)
theorem opAt3 {op : Operator} {kk k2 : Nat} {fr : Fn} {id name : String} {fI : Int → Int → Sem Fin} (hk : k ≤ kk) (hk2 : k2 ≤ kk) (hc : CaN K ca) (D : At P w K mg base fun X => DunOk X ca k c (PySem.dunder op.info.2) 2 fn) (h : binIntB K c (PySem.dunder op.info.2) (dunderR op.info.2) = true)
    (D2 : At P w K mg base fun X => DunOk X ca k2 c (dunderR op.info.2) 2 fr) (h1 : (He.Fa.meth c (PySem.dunder op.info.2)).ok K = true) (h2 : decide (PySem.W.subIn K (.ref (He.ga K c)) (.type "int") = some false) = true)
    (hfill : fillsNumberSlot (.type "int") op.info.2 = pure true) (slot : PySem.Slot "int" (PySem.dunder op.info.2) id) (entry : entryFor table id = some (Builtin.Int.intBinary name fI)) (args : ∀ u v, argsOk id ⟨[u, v], []⟩) :
    At P w K mg base fun X => Room kk X.A → OpsOk X ca (binaryOp op) [((.inr c, .inr c), ⟨false, false, fn⟩), ((.inr c, .inl "int"), ⟨false, false, fn⟩), ((.inl "int", .inr c), ⟨true, false, fr⟩)] := by
  rintro X rfl rfl rfl rfl rfl hr
  have d := D X rfl rfl rfl rfl rfl
  have d2 := D2 X rfl rfl rfl rfl rfl
  exact ops_three (binTo_same d (hr.mono hk)) (binInt hc d (hr.mono hk) h) (binRev hc d2 (hr.mono hk2) h1 h2 hfill slot entry args)
/-- the table of == (of != with neg) of a class against itself and the types tys -/
def eqTab (c : Str) (neg : Bool) (fn : Fn) (tys : List String) : OpTab := ((.inr c, .inr c), ⟨false, neg, fn⟩) :: tys.map fun n => ((.inr c, .inl n), ⟨false, neg, fn⟩)
theorem neAt {kk : Nat} {tys : List String} (hk : k + 1 ≤ kk) (hc : CaN K ca) (D : At P w K mg base fun X => DunOk X ca k c "__eq__" 2 fn) (h : neB K c tys = true) : At P w K mg base fun X => Room kk X.A → OpsOk X ca (compareOp .NotEq) (eqTab c true fn tys) := by
  rintro X rfl rfl rfl rfl rfl hr
  have d := D X rfl rfl rfl rfl rfl
  refine ⟨fun p hp => ?_⟩
  rcases List.mem_cons.mp hp with rfl | hp
  · exact neO hc d (hr.mono hk) (.inr rfl) h
  · obtain ⟨n, hn, rfl⟩ := List.mem_map.mp hp
    exact neO hc d (hr.mono hk) (.inl ⟨n, hn, rfl⟩) h
theorem eqAt {kk : Nat} {tys : List String} (hk : k + 1 ≤ kk) (hc : CaN K ca) (D : At P w K mg base fun X => DunOk X ca k c "__eq__" 2 fn) (h : neB K c tys = true) : At P w K mg base fun X => Room kk X.A → OpsOk X ca (compareOp .Eq) (eqTab c false fn tys) := by
  rintro X rfl rfl rfl rfl rfl hr
  have d := D X rfl rfl rfl rfl rfl
  refine ⟨fun p hp => ?_⟩
  rcases List.mem_cons.mp hp with rfl | hp
  · exact eqTo hc d (hr.mono hk) (.inr rfl) h
  · obtain ⟨n, hn, rfl⟩ := List.mem_map.mp hp
    exact eqTo hc d (hr.mono hk) (.inl ⟨n, hn, rfl⟩) h
theorem uns_one {X : Cx} {f : Value → Sem Value} {u : UnE} (h : UnTo X ca f c u) : UnsOk X ca f [(c, u)] := ⟨fun c' p z => by
  rw [List.lookup_cons] at z
  split at z
  · rename_i q
    cases z
    rw [beq_iff_eq.mp q]
    exact h
  · cases z⟩
theorem negAt {kk : Nat} (hk : k ≤ kk) (D : At P w K mg base fun X => DunOk X ca k c "__neg__" 1 fn) : At P w K mg base fun X => Room kk X.A → UnsOk X ca (unaryOp .USub) [(c, ⟨chkAny, fn⟩)] := by
  rintro X rfl rfl rfl rfl rfl hr
  exact uns_one (neg_to (D X rfl rfl rfl rfl rfl) (hr.mono hk))
theorem absAt {kk : Nat} (hk : k + 1 ≤ kk) (D : At P w K mg base fun X => DunOk X ca k c "__abs__" 1 fn) : At P w K mg base fun X => Room kk X.A → UnsOk X ca (fun v => call (.builtin "abs") [v]) [(c, ⟨chkAny, fn⟩)] := by
  rintro X rfl rfl rfl rfl rfl hr
  exact uns_one (abs_to (D X rfl rfl rfl rfl rfl) (hr.mono hk))
end
/-! ### for the plain law -/
theorem fs_val (d : D) : freeSlot (some (.val d)) = true := rfl
theorem fs_none : freeSlot (some .none) = true := rfl
theorem fs_own (pm lk : Bool) (c : Ct) : freeSlot (some (.own pm lk c)) = (!pm && !lk) := rfl
theorem forL_next {f : D → MS} {d : D} {ds : List D} {e e1 : En} (h : f d e = .next e1) : forL f (d :: ds) e = forL f ds e1 := by
  show (match f d e with | .next e1 => forL f ds e1 | .cont e1 => forL f ds e1 | .brk e1 => .next e1 | .ret r e1 => .ret r e1 | .exn x e1 => .exn x e1 | .stuck => .stuck) = _
  rw [h]
/-- a for whose turns keep I -/
theorem forL_inv {f : D → MS} {I : En → Prop} : ∀ {ds : List D} {e : En}, I e → (∀ d ∈ ds, ∀ e, I e → ∃ e1, f d e = .next e1 ∧ I e1) → ∃ e1, forL f ds e = .next e1 ∧ I e1
  | [], e, h, _ => ⟨e, rfl, h⟩
  | d :: ds, e, h, st => by
    obtain ⟨e1, q, h1⟩ := st d (by simp) e h
    obtain ⟨e2, q2, h2⟩ := forL_inv (f := f) (ds := ds) h1 fun d hd => st d (by simp [hd])
    exact ⟨e2, by rw [forL_next q, q2], h2⟩
/-- one turn of a for -/
def turnF (t : Tg) (b : MS) : D → MS := fun d e => (tgOut t d e).seq b
theorem turnF_at (t : Tg) (b : MS) (d : D) (e : En) : turnF t b d e = (tgOut t d e).seq b := rfl
theorem mFor_eq (t : Tg) (mi : En → Out Wk) (b : MS) (e : En) : mFor t mi b e = (mi e).toS fun w e1 => (forL (turnF t b) w.ds (lockE w.lk e1)).mapE (unlockE w.lk) := rfl
theorem tgOut_nm (i : Nat) (d : D) (e : En) : tgOut (.nm i) d e = putSlot i d e := by
  unfold tgOut putSlot
  simp only [Tg.set]
  split <;> rename_i h <;> split at h <;> simp_all
theorem tgOut_tp2 (i j : Nat) (x y : D) (e : En) : tgOut (.tp [.nm i, .nm j]) (.tup [x, y]) e = (putSlot i x e).seq (putSlot j y) := by
  by_cases h : freeSlot e[i]? = true
  · by_cases h2 : freeSlot (e.set i (.val x))[j]? = true
    · simp [tgOut, putSlot, Tg.set, Tg.sets, h, h2]
    · simp [tgOut, putSlot, Tg.set, Tg.sets, h, h2]
  · simp [tgOut, putSlot, Tg.set, Tg.sets, h]
theorem tgOut_tp3 (i j k : Nat) (x y z : D) (e : En) : tgOut (.tp [.nm i, .nm j, .nm k]) (.tup [x, y, z]) e = (putSlot i x e).seq fun e1 => (putSlot j y e1).seq (putSlot k z) := by
  by_cases h : freeSlot e[i]? = true
  · by_cases h2 : freeSlot (e.set i (.val x))[j]? = true
    · by_cases h3 : freeSlot ((e.set i (.val x)).set j (.val y))[k]? = true
      · simp [tgOut, putSlot, Tg.set, Tg.sets, h, h2, h3]
      · simp [tgOut, putSlot, Tg.set, Tg.sets, h, h2, h3]
    · simp [tgOut, putSlot, Tg.set, Tg.sets, h, h2]
  · simp [tgOut, putSlot, Tg.set, Tg.sets, h]
theorem tgSet_nm (i : Nat) (d : D) (e : En) : Tg.set (.nm i) d e = if freeSlot e[i]? = true then some (e.set i (.val d)) else none := by simp only [Tg.set]
theorem tgSet_tp2 (i j : Nat) (x y : D) (e : En) : Tg.set (.tp [.nm i, .nm j]) (.tup [x, y]) e = (Tg.set (.nm i) x e).bind fun e1 => Tg.set (.nm j) y e1 := by
  simp only [Tg.set, Tg.sets]
  split <;> simp
/-! ### levels, defaults -/
section
variable {P : Program} {w : World} {K : PySem.W.Frag} {mg : Str → Option Value} {base : Heap} {ca : Ca}
theorem fn_none {CX : CXT} {k n : Nat} {f : Addr} {fd : FuncData} {ps : List Str} (hn : ps.length = n := by rfl) : FnOk P w K mg base CX k f fd ps (spF K ca n fun _ => .stuck) :=
  ⟨fun vs H Q E h => by rw [h.1, hn], fun A outer s H args us vs Q E hr he hb hv ⟨_, _, _, _, _, z⟩ => z.elim⟩
theorem Call1.mono {X : Cx} {k k2 : Nat} {x : Str} {n : Nat} {fn : Fn} {dfs : List D} (h : Call1 X ca k x n fn dfs) (hk : k ≤ k2) : Call1 X ca k2 x n fn dfs := by
  obtain ⟨f, fd, ps, dvs, ds, F, r⟩ := h.ex
  exact ⟨f, fd, ps, dvs, ds, F.mono hk, r⟩
theorem PropOk.mono {X : Cx} {k k2 : Nat} {c f : Str} {fn : Fn} (h : PropOk X ca k c f fn) (hk : k ≤ k2) : PropOk X ca k2 c f fn := by
  obtain ⟨C, p, g, fd, ps, a, b, d, F, r⟩ := h.ok
  exact ⟨C, p, g, fd, ps, a, b, d, F.mono hk, r⟩
theorem AtOk.mono {X : Cx} {k k2 : Nat} {I : AtI} {f : Str} (h : AtOk X ca k I f) (hk : k ≤ k2) : AtOk X ca k2 I f := ⟨h.fld, fun c fn z => (h.prop c fn z).mono hk⟩
theorem MakeOk.mono {X : Cx} {k k2 : Nat} {x c : Str} {i : MtI} (h : MakeOk X ca k x c i) (hk : k ≤ k2) : MakeOk X ca k2 x c i := by
  obtain ⟨C, f, fd, ps, dvs, ds, a, b, d, F, r⟩ := h.ok
  exact ⟨C, f, fd, ps, dvs, ds, a, b, d, F.mono hk, r⟩
theorem MetOk.mono {X : Cx} {k k2 : Nat} {c m : Str} {i : MtI} (h : MetOk X ca k c m i) (hk : k ≤ k2) : MetOk X ca k2 c m i := by
  obtain ⟨C, f, fd, ps, dvs, ds, a, b, d, F, r⟩ := h.ok
  exact ⟨C, f, fd, ps, dvs, ds, a, b, d, F.mono hk, r⟩
end
end Pw

set_option maxHeartbeats 4000000
/-! PwX: the end of a law. -/
namespace Pw
open PySem PySem.Spec PyProof.Rows L2
theorem sp_end {K : PySem.W.Frag} {ca : Ca} {fn : Fn} {H : Hp} {a : Addr} {ns : List Int} (hv : fn [.val (.scr ns)] = .ok (.val (.bl true)) [.val (.scr ns)]) (hS : SqL K H a (ns.map V.int)) (ht : LamX.Tabs ca.tabs H) :
    spF K ca 1 fn [.ref a] H (fun v _ => v = .bl true) fun _ _ _ => False := by
  have nh : ∀ z, ¬ hid [.val (.scr ns)] ([V.ref a].map some) z := fun z ⟨i, ⟨pm, lk, c, h⟩, _⟩ => by
    cases i with
    | zero => simp at h
    | succ i => simp at h
  have nN : ∀ z, ¬ Nof (fun _ => False) [.val (.scr ns)] ([V.ref a].map some) z := fun z h => h.elim id (nh z)
  refine ⟨rfl, fun _ => False, [.val (.scr ns)], ⟨rfl, fun _ z => z.elim, fun a h => (nh a h).elim, fun i j b h => (nh b ⟨i, h⟩).elim, fun i s h => ?_, ht⟩, fun i pm lk c h => ?_, ?_⟩
  · cases i with
    | zero =>
      simp at h
      subst h
      exact ⟨.ref a, rfl, .scr (hS.imp (fun z => ⟨nN a, z⟩) id)⟩
    | succ i => simp at h
  · cases i with
    | zero => simp at h
    | succ i => simp at h
  · rw [hv]
    intro H' P v R
    cases (show Rep K ca _ H' v (.bl true) from R)
    rfl
theorem end_walk {l : PySem.W.OpenLaw} {k : Nat} {q : Program} {loose : List Str} {XP : (Str → Option Value) → Heap → Prop} {d : DefRec} {n0 : Nat} {ex : PySem.W.Frag → Bool} {fns : List DefG} {ca : World → PySem.W.Frag → Ca} {x : Str} {fn : Fn}
    (hn : l.most = some 63) (hdf : d.params.defaults = []) (hr : Room k callerA) (hd : d.name = ("law" : Str)) (hct : ∀ w K, (ca w K).tabs = [])
    (hl : ∀ K, SaysP ex fns K → (He.Fa.glo "law").ok K = true)
    (asm : ∀ (w : World) (K : PySem.W.Frag) (h : Heap) (mg : Str → Option Value), K.In h → h.Ns mainGlobals mg → SaysP ex fns K →
      ∃ fd : FuncData, (∀ (s : Shared) (v : Value), BindsTo s fd ⟨[v], []⟩ [(x, v)]) ∧ ∀ base : Heap, FnOk l.prog w K mg base (L2.CX l.prog w) k (gAd "law" K) fd [x] (spF K (ca w K) 1 fn))
    (val : ∀ ns : List Int, ns.length ≤ 63 → (∀ z ∈ ns, Builtin.Int.intBits z ≤ 1048576) → fn [.val (.scr ns)] = .ok (.val (.bl true)) [.val (.scr ns)]) :
    PySem.W.WalkO q loose XP (hookP n0 ex fns).says l.row.toRowW d [] (fun f vs => PySem.call f vs) := by
  refine Att.attach_callB hn hdf fun w s₀ s₁ mg mb fa o pm cd doc a vs ns G Y ho hdd hcd hmg hobj hints hlen hbits hg => ?_
  obtain ⟨K, KX, c⟩ := Y
  obtain ⟨fd, hb, hF⟩ := asm w K _ mg KX G.T.g c
  have e1 : mg ("law" : Str) = some (.ref fa) := by rw [← hd]; exact hmg
  have e2 := He.glo_ok KX G.T.g (hl K c)
  rw [e1] at e2
  cases e2
  refine law_call KX G.T.g G.T.b G.T.builtins G.T.nolimit hg hobj hints (Nat.le_trans hlen (by decide)) hr (fun base _ _ => hF base) hb (fun H hO hS => sp_end (val ns hlen hbits) hS (by rw [hct]; exact fun p hp => absurd hp List.not_mem_nil)) fun H e s' z => ?_
  obtain ⟨_, _, _, _, _, _, _, _, _, _, _, _, z⟩ := z
  exact z
end Pw

set_option maxHeartbeats 4000000
/-! PwY: own exceptions whose __init__ begins with super().__init__(..). -/
namespace Pw
open PySem PySem.Spec PyProof.Rows L2 LamX NdefX

/-- what the written part says of such a class and its __init__ -/
structure SupK (P : Program) (K : PySem.W.Frag) (C cc cda : Addr) (q : Str) : Prop where
  T : OexC K C
  code : PySem.W.codeIn K (.ref cda) q = true
  file : ∃ ccl cdd vs ccs file tf, K.lookup cda = some ⟨ccl, cdd, .fields vs, ccs⟩ ∧ vs[2]? = some (.str file tf) ∧ ((P.main.file : Str) == file) = true
  cell : ∃ cl cld csl, K.lookup cc = some ⟨cl, cld, .cell (some (.ref C)), csl⟩
  sub : PySem.W.mroIn K C (.ref C) = some true
  ini : PySem.W.ks_superIn K C C "__init__" = some (some (.builtin "ValueError.__init__"))
  isB : PySem.W.subIn K (.ref C) (.type "ValueError") = some true
  opq : PySem.W.nsIn K cStatics "thirdparty.any" = some none
  top : (P.main.scope.names.lookup ("super" : Str)).isSome = false
abbrev mw (a : Addr) : Obj := PySem.W.kxs_mw "ValueError.__init__" a
section
variable {X : Cx} {pins : List (Addr × Obj)} {σ : L2.St} {H : Hp} {s : Shared} {a C : Addr}
/-- the bound built-in is called -/
theorem mw_call {A : Around} {E : Value → Shared → Prop} {u : Addr} {us : List Value} {Q : Value → Shared → Prop} (T : OexC X.K C) (I : Inv X pins σ H s) (hu : s.heap.get? u = some (mw a)) (e : H a = some (exo a C none)) (hl : us.length ≤ sizeLine) (h : ∀ s', Inv X pins σ H s' → Q .none s') :
    wpAny (model X.prog X.w) A (call (.ref u) us) Q E s := by
  obtain ⟨nm, q, N, bs, bm, sn, sub, ab, col, dd, k0, k1, k2, k3, k5, hC, hbm⟩ := T.cls
  obtain ⟨t1, ho⟩ := exo_at I.hok e
  have hCs := I.kIn _ _ hC
  obtain ⟨hp, g, d, t, os⟩ := s
  refine wpAny_call (codeAny_of_tree ?_)
  show wpAny _ A.in1 (callAny (.ref u) ⟨us, []⟩) _ _ _
  simp only [callAny]
  refine wpAny_bind (wpAny_load hu ?_)
  simp only [mw, PySem.W.kxs_mw, show (Value.type "method-wrapper" == Value.type "method" || Value.type "method-wrapper" == Value.type "builtin_function_or_method" || Value.type "method-wrapper" == Value.type "method-wrapper") = true by decide, if_true]
  refine PySem.W.KFB.if_so (by decide) ?_
  refine wpAny_bind (PySem.W.check_bound_init PySem.F.excBase_ValueError.toExcCallFacts hCs ho rfl ?_)
  refine wpAny_bind (wpAny_pure (wpAny_pure ?_))
  refine ⟨plainId_quiet PySem.F.excBase_ValueError.init.plain _, codeAny_builtin PySem.F.excBase_ValueError.initEntry ?_⟩
  refine PySem.W.exc_init_tree (cls := .ref C) (t0 := t1) (dv := none) (c2 := .none) (c3 := .none) (b4 := .bool false) ho hl fun h' k hx _ => ?_
  have J := I.write (t' := t) (x := a) (e := a) (o := exo a C none) (by rw [e]; exact True.intro) (.inl rfl) k ⟨_, hx⟩ (exo_ok hx)
  have eu : upd H a (exo a C none) = H := by
    funext b
    by_cases hb : b = a
    · rw [hb, upd_same, e]
    · rw [upd_ne hb]
  rw [eu] at J
  exact h _ J
end
section
variable {P : Program} {w : World} {K : PySem.W.Frag} {mg : Str → Option Value} {base : Heap} {CX : CXT}
/-- super().__init__(..), the first statement of __init__ -/
theorem sup_stmt {N : List Str} {name q : Str} {params : Arguments} {body : List Stmt} {scope : Scope} {C cc cda f a : Addr} {A : Around} {outer : List Env} {s0 s : Shared} {H0 H : Hp} {E : XK} {σ : L2.St} {pins : List (Addr × Obj)} {p0 p1 p2 p4 p5 : Pos} {e : Expr} {ta : TA} {Q : Flow → Shared → Prop} {ar : Arg} {fd : FuncData} {oc : Value} {od : Option Addr} {osl : Array (Option Value)}
    (F : SupK P K C cc cda q) (hms : mg "super" = none) (hf : K.lookup f = some ⟨oc, od, .func fd, osl⟩) (hp : (fd.params.posonlyargs ++ fd.params.args).head? = some ar)
    (hks : scope.names.lookup ("super" : Str) = some .globalImplicit) (hkc : scope.names.lookup ("__class__" : Str) = some .free) (hka : scope.names.lookup ar.arg = some .local) (hN : N[0]? = some ar.arg)
    (I : Inv (ncx CX P w K mg base N ⟨name, q, params, body, scope, [("__class__", cc)], cda⟩ f A outer s0 H0 E) pins σ H s) (h0 : σ[0]? = some (some (.ref a))) (ea : H a = some (exo a C none))
    (ha : PA (ncx CX P w K mg base N ⟨name, q, params, body, scope, [("__class__", cc)], cda⟩ f A outer s0 H0 E) [e] ta) (ht : ta σ H fun vs H1 => vs.length ≤ 1000 ∧ H1 = H)
    (he : starEach [e] (ncx CX P w K mg base N ⟨name, q, params, body, scope, [("__class__", cc)], cda⟩ f A outer s0 H0 E).env = [(false, eval e (ncx CX P w K mg base N ⟨name, q, params, body, scope, [("__class__", cc)], cda⟩ f A outer s0 H0 E).env)] := by rfl)
    (h : ∀ s', Inv (ncx CX P w K mg base N ⟨name, q, params, body, scope, [("__class__", cc)], cda⟩ f A outer s0 H0 E) pins σ H s' → Q .next s')
    (hi : interactive (envF ⟨name, q, params, body, scope, [("__class__", cc)], cda⟩ f s0.heap.objs.size) = false) (hsw : swapsWith (.Call (.Attribute (.Call (.Name "super" p0) [] [] p1) "__init__" p2) [e] [] p4) none p5.line (envF ⟨name, q, params, body, scope, [("__class__", cc)], cda⟩ f s0.heap.objs.size) = pure false)
    {pl : Sem Bool} (hev : eval (.Call (.Attribute (.Call (.Name "super" p0) [] [] p1) "__init__" p2) [e] [] p4) (envF ⟨name, q, params, body, scope, [("__class__", cc)], cda⟩ f s0.heap.objs.size) = (do
      let ov ← attributeBase (.Call (.Name "super" p0) [] [] p1) "__init__" (envF ⟨name, q, params, body, scope, [("__class__", cc)], cda⟩ f s0.heap.objs.size) (eval (.Call (.Name "super" p0) [] [] p1) (envF ⟨name, q, params, body, scope, [("__class__", cc)], cda⟩ f s0.heap.objs.size))
      standAt p2.atName
      let (g, first) ← holding [ov] (getMethod ov "__init__" pl)
      callWith p4 g first (backTo p4 (starEach [e] (envF ⟨name, q, params, body, scope, [("__class__", cc)], cda⟩ f s0.heap.objs.size))) [])) :
    PySem.wpAt (model P w) (A.deeper (envF ⟨name, q, params, body, scope, [("__class__", cc)], cda⟩ f s0.heap.objs.size)) (.func body (envF ⟨name, q, params, body, scope, [("__class__", cc)], cda⟩ f s0.heap.objs.size))
      (exec (.Expr (.Call (.Attribute (.Call (.Name "super" p0) [] [] p1) "__init__" p2) [e] [] p4) p5) (envF ⟨name, q, params, body, scope, [("__class__", cc)], cda⟩ f s0.heap.objs.size)) Q
      (ncx CX P w K mg base N ⟨name, q, params, body, scope, [("__class__", cc)], cda⟩ f A outer s0 H0 E).xe s := by
  obtain ⟨ccl, cdd, vs, ccs, file, tf, hcda, hvs, hfile⟩ := F.file
  obtain ⟨cl, cld, csl, hcc⟩ := F.cell
  have X := I.kIn
  obtain ⟨nm, qn, Nn, bs, bm, sn2, sub, ab, col, dd, k0, k1, k2, k3, k5, hC, hbm⟩ := F.T.cls
  have hcl : PySem.W.clsIn K C = some { name := nm, bases := bs, mro := .ref C :: bm, ns := Nn, qualname := qn, hasDict := true, slotNames := sn2, subclasses := sub, abstract := ab, collection := col, hasDel := false } := by unfold PySem.W.clsIn; rw [hC] <;> rfl
  obtain ⟨t1, ho⟩ := exo_at I.hok ea
  obtain ⟨mb, hb1, hb2⟩ := I.mod.blt
  obtain ⟨m, hns, hl⟩ := I.loc
  obtain ⟨u0, r0, q0⟩ := hl 0 ar.arg (.ref a) hN h0 (.inl hka)
  have hself : m ar.arg = some (.ref a) := by
    obtain rfl : u0 = Value.ref a := r0
    rcases q0 with ⟨_, z⟩ | ⟨z, _⟩
    · exact z
    · have e1 : scope.names.lookup ar.arg = some .cell ∨ scope.names.lookup ar.arg = some .free := z
      rw [hka] at e1
      rcases e1 with e1 | e1 <;> cases e1
  refine PySem.ks_wpAt_Expr_any ?_ hi hsw
  refine PySem.ks_wpAt_MethodCall (pl := pl) ?_ hev
  refine PySem.ks_wpAt_super_base (env := envF ⟨name, q, params, body, scope, [("__class__", cc)], cda⟩ f s0.heap.objs.size) hks hkc (by decide) rfl (X _ _ hf) rfl hp rfl (X _ _ hcda) rfl hvs hfile F.top ?_
  refine PySem.W.ks_loadName_global I.ok.kind hks (Calls.loadGlobal_builtin (I.mod.glob.keeps I.bk) hms (hb1.keeps I.bk) ((hb2 _ (by decide)).trans PyProof.Rows.Boot.«super») ⟨rfl, ?_⟩)
  refine wpAny_loadName_free I.ok.kind hkc rfl ⟨_, X _ _ hcc, rfl⟩ ?_
  refine wpAny_loadName_local I.ok.kind hka hns hself ?_
  obtain ⟨hh, g, d, t, os⟩ := s
  refine PySem.ks_wpAny_isType_cls (X _ _ hC) rfl ⟨rfl, ?_⟩
  refine PySem.ks_wpAny_call_super (X _ _ hC) rfl ho rfl (fun c z => by cases z) (PySem.W.looks_mroIn X F.sub) fun h1 hso k1 => ?_
  have I1 := I.kept (t' := t) k1
  have X1 := I1.kIn
  have ho1 := k1 _ _ ho
  have Ix : PySem.W.InstAt h1 a { cls := .ref C, dict := none, data := .fields #[.ref t1, .none, .none, .none, .bool false, .none] } C none := ⟨ho1, rfl, rfl, trivial⟩
  refine PySem.W.kxs_getMethod PySem.W.kxs_ValueError hso (PySem.W.looks_opaque X1 F.opq) (l₀ := .ref C :: bm) (show PySem.W.Looks (model P w) h1 (mroOf (.ref C)) (.ref C :: bm) from (PySem.W.looks_clsIn X1 hcl).andThen .now) rfl X1 ?_ (Ix.type.andThen (PySem.W.looks_subIn X1 F.isB)) ?_ (by decide) ?_
  · have z := F.ini
    unfold PySem.W.ks_superIn at z
    rw [hcl] at z
    exact z
  · exact PySem.W.ks_ne X1 Ix hcl
  · have k2 : ∀ b o, h1.get? b = some o → (h1.push (mw a)).get? b = some o := fun b o e => Heap.get?_push_of_some _ e
    have I2 := I1.kept (t' := t + 1) k2
    have hu : (h1.push (mw a)).get? h1.objs.size = some (mw a) := Heap.get?_push_at rfl rfl
    have nu : H h1.objs.size = none := I1.hok.fresh (Nat.le_refl _)
    obtain ⟨m2, ⟨oL, _, _, hL, _⟩, _⟩ := I1.loc
    have nL : h1.objs.size ≠ s0.heap.objs.size := Nat.ne_of_gt (Heap.lt_size hL)
    have nf : h1.objs.size ∉ (ncx CX P w K mg base N ⟨name, q, params, body, scope, [("__class__", cc)], cda⟩ f A outer s0 H0 E).fs := I1.nofs (Nat.le_refl _)
    have I3 := I2.pins_of (pins' := (h1.objs.size, mw a) :: pins) fun p hp => by
      rcases List.mem_cons.mp hp with rfl | hp
      · exact ⟨hu, nu, nL, nf, fun v z => by cases z⟩
      · exact I2.pin p (List.mem_append_right _ hp)
    have hx := thn (ha.run p4 ((h1.objs.size, mw a) :: pins) _ σ H (fun vs H1 => vs.length ≤ 1000 ∧ H1 = H) I3 ht) fun us s1 ⟨vs2, H2, J, rv, hlen, eH⟩ =>
      (show PySem.W.KxsAt "ValueError.__init__" h1.objs.size a s1.heap ∧ wpAny (model P w) (ncx CX P w K mg base N ⟨name, q, params, body, scope, [("__class__", cc)], cda⟩ f A outer s0 H0 E).A (call (.ref h1.objs.size) us) (fun _ => Q .next) (ncx CX P w K mg base N ⟨name, q, params, body, scope, [("__class__", cc)], cda⟩ f A outer s0 H0 E).xe s1 from by
        subst eH
        have hus : us.length ≤ sizeLine := by rw [← rv.length, sizeLine_eq]; omega
        exact ⟨(J.pin (h1.objs.size, mw a) (List.mem_append_right _ (List.mem_cons_self ..))).1, mw_call F.T J (J.pin (h1.objs.size, mw a) (List.mem_append_right _ (List.mem_cons_self ..))).1 ea hus fun s' J2 => h s' (J2.pins_of fun p hp => J2.pin p (List.mem_append_right _ (List.mem_cons_of_mem _ hp)))⟩)
    show wpAny _ _ (callWith p4 (.ref h1.objs.size) [] (backTo p4 (starEach [e] (envF ⟨name, q, params, body, scope, [("__class__", cc)], cda⟩ f s0.heap.objs.size))) []) _ _ _
    have he' : starEach [e] (envF ⟨name, q, params, body, scope, [("__class__", cc)], cda⟩ f s0.heap.objs.size) = [(false, eval e (envF ⟨name, q, params, body, scope, [("__class__", cc)], cda⟩ f s0.heap.objs.size))] := he
    rw [show starEach [e] (ncx CX P w K mg base N ⟨name, q, params, body, scope, [("__class__", cc)], cda⟩ f A outer s0 H0 E).env = _ from he'] at hx
    rw [he']
    refine PySem.W.kxs_callWith (i := "ValueError.__init__") (x := a) rfl ?_
    exact Calls.evalArgs_plain hx
/-- such an __init__, by what stands behind its first statement -/
theorem init_ok {N ps : List Str} {name q : Str} {params : Arguments} {rest : List Stmt} {scope : Scope} {C cc cda f : Addr} {k : Nat} {sp : Sp} {oc kV doc pm ct : Value} {od an : Option Addr} {osl : Array (Option Value)} {p0 p1 p2 p4 p5 : Pos} {e : Expr} {ar : Arg}
    (F : SupK P K C cc cda q) (hms : mg "super" = none)
    (hf : K.lookup f = some ⟨oc, od, .func (PySem.W.fnX name q params (.Expr (.Call (.Attribute (.Call (.Name "super" p0) [] [] p1) "__init__" p2) [e] [] p4) p5 :: rest) scope [("__class__", cc)] .none kV doc pm an (.ref cda) ct), osl⟩)
    (hp : (params.posonlyargs ++ params.args).head? = some ar) (S : NScope N ps ["__class__"] scope) (hps : ps[0]? = some ar.arg) (hks : scope.names.lookup ("super" : Str) = some .globalImplicit)
    (len : ∀ vs H Q E, sp vs H Q E → vs.length = ps.length) (hself : ∀ vs H Q E, sp vs H Q E → ∃ a r, vs = .ref a :: r ∧ H a = some (exo a C none))
    (he : ∀ env : Env, starEach [e] env = [(false, eval e env)])
    (ha : ∀ (A : Around) (outer : List Env) (s : Shared) (H : Hp) (E : XK), ∃ ta, PA (ncx CX P w K mg base N ⟨name, q, params, (.Expr (.Call (.Attribute (.Call (.Name "super" p0) [] [] p1) "__init__" p2) [e] [] p4) p5 :: rest), scope, [("__class__", cc)], cda⟩ f A outer s H E) [e] ta ∧ ∀ σ H, ta σ H fun vs H1 => vs.length ≤ 1000 ∧ H1 = H)
    (hi : ∀ L, interactive (PySem.W.envX q scope L f (.ref cda) [("__class__", cc)]) = false) (hsw : ∀ L, swapsWith (.Call (.Attribute (.Call (.Name "super" p0) [] [] p1) "__init__" p2) [e] [] p4) none p5.line (PySem.W.envX q scope L f (.ref cda) [("__class__", cc)]) = pure false)
    (hev : ∀ L, ∃ pl : Sem Bool, eval (.Call (.Attribute (.Call (.Name "super" p0) [] [] p1) "__init__" p2) [e] [] p4) (PySem.W.envX q scope L f (.ref cda) [("__class__", cc)]) = (do
      let ov ← attributeBase (.Call (.Name "super" p0) [] [] p1) "__init__" (PySem.W.envX q scope L f (.ref cda) [("__class__", cc)]) (eval (.Call (.Name "super" p0) [] [] p1) (PySem.W.envX q scope L f (.ref cda) [("__class__", cc)]))
      standAt p2.atName
      let (g, first) ← holding [ov] (getMethod ov "__init__" pl)
      callWith p4 g first (backTo p4 (starEach [e] (PySem.W.envX q scope L f (.ref cda) [("__class__", cc)]))) []))
    (hbody : ∀ (A : Around) (outer : List Env) (s : Shared) (H : Hp) (vs : List V) (Q : VK) (E : XK), Room k (A.deeper (envF ⟨name, q, params, (.Expr (.Call (.Attribute (.Call (.Name "super" p0) [] [] p1) "__init__" p2) [e] [] p4) p5 :: rest), scope, [("__class__", cc)], cda⟩ f s.heap.objs.size)) → sp vs H Q E →
      ∃ t, PSs (ncx CX P w K mg base N ⟨name, q, params, (.Expr (.Call (.Attribute (.Call (.Name "super" p0) [] [] p1) "__init__" p2) [e] [] p4) p5 :: rest), scope, [("__class__", cc)], cda⟩ f A outer s H E) rest t ∧ t { nx := fun _ H' => Q .non H', rt := Q } (startF N vs [none]) H) :
    FnOk P w K mg base CX (k + 1) f (PySem.W.fnX name q params (.Expr (.Call (.Attribute (.Call (.Name "super" p0) [] [] p1) "__init__" p2) [e] [] p4) p5 :: rest) scope [("__class__", cc)] .none kV doc pm an (.ref cda) ct) ps sp := by
  refine ⟨len, fun A outer s H args us vs Q E hr e0 hb r hsp => ?_⟩
  have KX : K.In s.heap := e0.mod.kin.keeps fun b o e => (e0.bs b o e).1
  have hl := len _ _ _ _ hsp
  have lim : s.heap.NoLimit := e0.mod.nolimit.keeps fun b o e => (e0.bs b o e).1
  obtain ⟨a, r0, rfl, ea⟩ := hself _ _ _ _ hsp
  obtain ⟨cl, cld, csl, hcc⟩ := F.cell
  have lk : ∀ {y : Str} {c : Addr}, ([("__class__", cc)] : List (Str × Addr)).lookup y = some c → y = "__class__" ∧ c = cc := fun {y c} z => by
    rw [List.lookup_cons] at z
    split at z
    · rename_i w; cases z; exact ⟨beq_iff_eq.mp w, rfl⟩
    · cases z
  have Cs : CellsAt [("__class__", cc)] ["__class__"] [none] s.heap H := by
    refine ⟨rfl, fun y c z => ?_, fun x y c z1 z2 => by rw [(lk z1).1, (lk z2).1], fun i y z => ?_⟩
    · rw [(lk z).2]
      obtain ⟨q1, q2⟩ := e0.bs cc _ (e0.mod.kin _ _ hcc)
      exact ⟨q2, _, _, q1, rfl⟩
    · cases i with
      | zero =>
        cases z
        exact ⟨cc, rfl, fun v z => by cases z⟩
      | succ i => cases z
  refine PySem.ks_codeAny_call_defAt (binds := ps.zip us) hr.depth (KX _ _ hf) rfl lim (PySem.W.codeRec_of KX F.code) rfl hb S.nocell (fun ⟨n, _⟩ hy => S.par n (List.of_mem_zip hy).1) (fun h₁ hns kp => ?_) S.co S.gen S.kind
  have I : Inv (ncx CX P w K mg base N ⟨name, q, params, (.Expr (.Call (.Attribute (.Call (.Name "super" p0) [] [] p1) "__init__" p2) [e] [] p4) p5 :: rest), scope, [("__class__", cc)], cda⟩ f A outer s H E) [] (startF N (.ref a :: r0) [none]) H { s with heap := h₁, toks := s.toks + (ps.zip us).length } := inv_startN S hr.hd e0 hl r Cs hns kp
  have hN : N[0]? = some ar.arg := by
    have hlp : 0 < ps.length := (List.getElem?_eq_some_iff.mp hps).1
    have z : (N.take (ps.length + 1))[0]? = (ps ++ (["__class__"] : List Str))[0]? := congrArg (fun l => l[0]?) S.pre
    rw [List.getElem?_take_of_lt (by omega), List.getElem?_append_left hlp, hps] at z
    exact z
  have hka : scope.names.lookup ar.arg = some .local := S.par _ (List.mem_of_getElem? hps)
  obtain ⟨ta, pa, hta⟩ := ha A outer s H E
  obtain ⟨t, ht, hq⟩ := hbody A outer s H _ Q E (hr.deeper _) hsp
  obtain ⟨pl, hpl⟩ := hev s.heap.objs.size
  refine PySem.ks_wpAt_execs_cons (sup_stmt F hms hf hp hks (S.frk _ (by simp)) hka hN I rfl ea pa (hta _ _) (he _) (fun s' I' => ?_) (hi _) (hsw _) hpl)
  refine PySem.wpAt_of_wpAny (wpAny_mono (ht.run [] s' (startF N (.ref a :: r0) [none]) H _ I' hq) (fun fl s' hs => ?_) fun e s' hs => hs)
  have fin : ∀ {σ' : L2.St} {H' : Hp} {v : V} {u : Value}, Inv (ncx CX P w K mg base N ⟨name, q, params, (.Expr (.Call (.Attribute (.Call (.Name "super" p0) [] [] p1) "__init__" p2) [e] [] p4) p5 :: rest), scope, [("__class__", cc)], cda⟩ f A outer s H E) [] σ' H' s' → L2.RelV v u → Q v H' → CE outer P w H s Q u s' :=
    fun {σ' H' v u} J rv q => ⟨v, H', J.os, J.bare, J.base, J.hok, rv, q⟩
  cases fl with
  | ret u =>
    obtain ⟨v, σ', H', J, rv, q⟩ := hs
    exact fin J rv q
  | next =>
    obtain ⟨σ', H', J, q⟩ := hs
    exact fin (v := V.non) (u := Value.none) J rfl q
  | brk =>
    obtain ⟨_, _, _, q⟩ := hs
    exact False.elim q
  | cont =>
    obtain ⟨_, _, _, q⟩ := hs
    exact False.elim q
end
end Pw

set_option maxHeartbeats 4000000
/-! PxA: raise of own exceptions. -/
namespace Pw
open PySem PySem.Spec PyProof.Rows L2

/-- the fields that an __init__ stores, the last one first: a parameter, a text -/
abbrev FL := List (Str × (Nat ⊕ Str))
def FL.v (L : FL) (vs : List V) : List (Str × V) := L.map fun p => (p.1, match p.2 with
  | .inl i => vs.getD i .non
  | .inr z => .str z)
def FL.d (L : FL) (ds : List D) : List (Str × D) := L.map fun p => (p.1, match p.2 with
  | .inl i => ds.getD i .non
  | .inr z => .str z)
theorem FL.rep {K : PySem.W.Frag} {ca : Ca} {N : Addr → Prop} {H : Hp} {vs : List V} {ds : List D} (r : Reps K ca N H vs ds) : ∀ (L : FL), FReps K ca N H (L.v vs) (L.d ds)
  | [] => .nil
  | (f, .inl i) :: L => by
    refine .cons ?_ (FL.rep r L)
    show Rep K ca N H (vs.getD i .non) (ds.getD i .non)
    cases q : ds[i]? with
    | none =>
      have : vs[i]? = none := by
        rw [List.getElem?_eq_none_iff] at q ⊢
        rw [r.len]; exact q
      simp [List.getD, q, this]
      exact .non
    | some d =>
      obtain ⟨y, h1, h2⟩ := r.get q
      simpa [List.getD, q, h1] using h2
  | (f, .inr z) :: L => .cons (.str z) (FL.rep r L)
/-- what such an __init__ promises -/
def spX (C : Addr) (n : Nat) (L : FL) : Sp := fun vs H Q _ => ∃ a ws, vs = .ref a :: ws ∧ ws.length = n ∧ H a = some (exo a C none) ∧
  ∀ d H2, H d = none → d ≠ a → H2 a = some (exo a C (some d)) → H2 d = some (exd d (L.v ws)) → (∀ b, b ≠ a → b ≠ d → H2 b = H b) → Q .non H2
structure RaiseOk (X : Cx) (ca : Ca) (k : Nat) (x c : Str) (n : Nat) (L : FL) : Prop where
  ok : ∃ (C fI : Addr) (fd : FuncData) (ps : List Str), ca c = some C ∧ X.mg x = some (.ref C) ∧ OexC X.K C ∧ PySem.W.findIn X.K (.ref C) "__init__" = some (some (.ref fI)) ∧ PySem.W.typeIn X.K (.ref fI) = some (.type "function") ∧
    FnOk X.prog X.w X.K X.mg X.base (L2.CX X.prog X.w) k fI fd ps (spX C n L) ∧ L2.Binds X.K fd ps []
def mRaise (c : Str) (n : Nat) (L : FL) (m : MA) : MS := fun e => (m e).toS fun rs e1 => (shareAll rs e1).toS fun ds e2 => if ds.length = n then .exn ⟨c, L.d ds⟩ e2 else .stuck
section
variable {X : Cx} {ca : Ca} {k : Nat} {pins : List (Addr × Obj)} {σ : L2.St} {H1 : Hp}
/-- C(..), the values at hand -/
theorem exc_run {s1 : Shared} {C fI : Addr} {fd : FuncData} {ps : List Str} {n : Nat} {L : FL} {us : List Value} {vs : List V} {Q : XK} (T : OexC X.K C) (iC : PySem.W.findIn X.K (.ref C) "__init__" = some (some (.ref fI))) (tI : PySem.W.typeIn X.K (.ref fI) = some (.type "function"))
    (F1 : FnOk X.prog X.w X.K X.mg X.base (L2.CX X.prog X.w) k fI fd ps (spX C n L)) (hr : Room (k + 1) X.A) (hb : L2.Binds X.K fd ps []) (I1 : Inv X pins σ H1 s1) (r1 : Vals vs us) (hn : vs.length = n) (hz : n ≤ 1000)
    (q : ∀ d H', H1 d = none → (∀ b, b ≠ d → H' b = H1 b) → H' d = some (.xd (L.v vs)) → Q (.ref C) (some d) H') : wpAny (model X.prog X.w) X.A (call (.ref C) us) (MkP X pins σ Q) X.xe s1 := by
  obtain ⟨nm, qn, N, bs, bm, sn, sub, ab, col, dd, k0, k1, k2, k3, k5, hC, hbm⟩ := T.cls
  obtain ⟨hp, g, dr, tk, os⟩ := s1
  have hsz : hp.objs.size ≤ hp.objs.size + 1 := Nat.le_succ _
  have hfr : H1 (hp.objs.size + 1) = none := I1.hok.fresh hsz
  generalize ea : hp.objs.size + 1 = a at *
  have kk : ∀ b o, hp.get? b = some o → ((hp.push (PySem.W.kdv_tup us)).push (PySem.HandSPX.excO C hp.objs.size)).get? b = some o := fun b o e => Heap.get?_push_of_some _ (Heap.get?_push_of_some _ e)
  have hget : ((hp.push (PySem.W.kdv_tup us)).push (PySem.HandSPX.excO C hp.objs.size)).get? a = some (PySem.HandSPX.excO C hp.objs.size) := by subst ea; heap_get
  have I2 : Inv X pins σ (upd H1 a (exo a C none)) ⟨(hp.push (PySem.W.kdv_tup us)).push (PySem.HandSPX.excO C hp.objs.size), g, dr, tk, os⟩ :=
    I1.laid (t' := tk) (a := a) (o := exo a C none) (h' := (hp.push (PySem.W.kdv_tup us)).push (PySem.HandSPX.excO C hp.objs.size)) kk hsz (exo_ok hget)
  have r2 : Vals (V.ref a :: vs) (Value.ref a :: us) := .cons rfl r1
  have hq : spX C n L (.ref a :: vs) (upd H1 a (exo a C none)) (fun v H2 => v = .non ∧ ∃ (d : Addr) (fs : List (Str × V)), H2 a = some (exo a C (some d)) ∧ H2 d = some (exd d fs) ∧ H1 d = none ∧ Q (.ref C) (some d) (upd (del H2 a) d (.xd fs))) (fun _ _ _ => False) := by
    refine ⟨a, vs, rfl, hn, upd_same, fun d H2 hd nd e1 e2 e3 => ⟨rfl, d, L.v vs, e1, e2, ?_, ?_⟩⟩
    · rw [upd_ne nd] at hd; exact hd
    · have hd1 : H1 d = none := by rw [upd_ne nd] at hd; exact hd
      refine q d _ hd1 (fun b nb => ?_) upd_same
      rw [upd_ne nb]
      by_cases ba : b = a
      · subst ba; rw [del_same, hfr]
      · rw [del_ne ba, e3 b ba nb, upd_ne ba]
  have hl : (Value.ref a :: us ++ []).length = ps.length := by
    rw [List.append_nil]
    have e := r2.length
    rw [F1.len _ _ _ _ hq] at e
    exact e.symm
  have hus : us.length ≤ sizeLine := by
    rw [← Paired.length r1, sizeLine_eq]
    omega
  have hlook := PySem.W.looks_findIn (M := model X.prog X.w) I1.kIn iC
  have hrun := F1.run _ X.stack _ _ ⟨Value.ref a :: us, []⟩ (Value.ref a :: us ++ []) _ _ (fun _ _ _ => False) (hr.make C us []) (I2.env0.make C us []) (hb _ (Value.ref a :: us) I2.kIn hl) (by rw [List.append_nil]; exact r2) hq
  subst ea
  refine wpAny_call (PySem.HandSPX.call_own PySem.F.excBase_ValueError (fun Y => PySem.HandSPX.refsVE_contains Y bm hbm) (I1.kIn _ _ hC) hlook (fun self => PySem.W.bind_fn I1.kIn self tI) hus (codeAny_mono hrun fun r s' hq' => ?_))
  cases r with
  | error er => exact (pass_none (X := X)) pins σ _ _ er s' I2 hq'
  | ok fl =>
    cases fl with
    | ret u =>
      obtain ⟨v, H2, os2, bare2, un2, hok2, rv, ev, d, fs, e1, e2, hd1, q2⟩ := hq'
      subst ev
      obtain ⟨h2, g2, d2, t2, os'⟩ := s'
      exact ⟨rv, mk_end (raises_own T.exC T.tyC) I1 hsz kk un2 hok2 os2 bare2 e1 e2 hd1 q2⟩
    | next => exact False.elim hq'
    | brk => exact False.elim hq'
    | cont => exact False.elim hq'
variable {x c : Str} {n : Nat} {L : FL} {es : List Expr} {ma : MA} {p pos rpos : Pos}
theorem vs_raise (hc : X.calm = true) (hk : RaiseOk X ca k x c n L) (hz : n ≤ 1000) (hr : Room (k + 1) X.A) (hg : Gl X x) (ha : VA X ca es ma)
    (h0 : (es = [] ∧ ma = mNil) ∨ ∃ e r, es = e :: r ∧ starEach (e :: r) X.env = (false, eval e X.env) :: starEach r X.env ∧ (backTo pos (starEach r X.env)).any (·.1) = false) (hdb : (x == ("__debug__" : Str)) = false) :
    VS X ca (.Raise (some (.Call (.Name x p) es [] pos)) none rpos) (mRaise c n L ma) := fun W tk => by
  obtain ⟨C, fI, fd, ps, hC, hm, T, iC, tI, F, hb⟩ := hk.ok
  have fin : ∀ {pins : List (Addr × Obj)} {σ : L2.St} {B : Addr → Prop} {H H1 : Hp} {env e1 : En} {D : Ends} {s1 : Shared} {us : List Value} {vs : List V} {rs : List RV}, Inv X pins σ H1 s1 → Vals vs us → SRel X.K ca B σ H env → Post X.K ca B σ H env H1 e1 → RReps X.K ca B σ H1 e1 vs rs →
      SCond X.K ca W B σ H env D ((shareAll rs e1).toS fun ds e2 => if ds.length = n then .exn ⟨c, L.d ds⟩ e2 else .stuck) →
      wpAny (model X.prog X.w) X.A (call (.ref C) us) (MkP X pins σ fun cls d H' => W cls d σ H') X.xe s1 := fun {pins σ B H H1 env e1 D s1 us vs rs} I r S P Rs k1 => by
    have k2 := SCond.later (P.keep.toS P.rel S) k1
    obtain ⟨ds, e2, P2, rd, k3⟩ := shareAll_ok (k2.ofE P.rel) P.rel Rs
    by_cases hl : ds.length = n
    case neg => rw [if_neg hl] at k3; exact k3.elim
    rw [if_pos hl] at k3
    refine exc_run T iC tI F hr hb I r (by rw [rd.len]; exact hl) hz fun d H' hd hs hx => ?_
    have ex : Ext H1 H' := fun b o e => by rw [hs b (fun z => by subst z; rw [hd] at e; cases e)]; exact e
    have P3 : Post X.K ca B σ H1 e2 H' e2 := .ext P2.rel ex
    refine k3 (.ref C) (some d) σ H' P3.rel ((P2.keep.trans P3.keep).toS P3.rel P.rel) ?_
    have fr := FL.rep (rd.sub ex.sub) L
    exact ⟨C, d, L.v vs, rfl, hC, rfl, hx, fun f => ⟨fun y hy => fr.look hy, fun hy => fr.look_none hy⟩⟩
  have pm : PMk X (.Call (.Name x p) es [] pos) (fun σ H Q => ∃ B env D, Q = (fun cls d H' => W cls d σ H') ∧ SRel X.K ca B σ H env ∧ SCond X.K ca W B σ H env D (mRaise c n L ma env)) := by
    rintro pins s σ H Q I ⟨B, env, D, rfl, S, h⟩
    refine wpAny_Call_Name_kw (ld_glob I hg hm ?_ hdb)
    rcases h0 with ⟨rfl, rfl⟩ | ⟨e, r, rfl, hs, hp⟩
    · exact PySem.W.callWith_K0 I.kIn T.kC (fin I (vs := []) (us := []) .nil S (.refl S) .nil ((h.ofE S).now (.refl S)))
    · refine PySem.W.callWith_K (h₀ := X.base) I.ok.mod.kin T.kC (thn ((ha W tk).run pos pins s σ H (fun vs H1 => ∃ rs e1, Post X.K ca B σ H env H1 e1 ∧ SCond X.K ca W B σ H env D ((shareAll rs e1).toS fun ds e2 => if ds.length = n then .exn ⟨c, L.d ds⟩ e2 else .stuck) ∧ RReps X.K ca B σ H1 e1 vs rs) I ⟨B, env, S, (h.ofE S).imp fun rs e1 H1 P k vs R => ⟨rs, e1, P, k, R⟩⟩) fun us s1 ⟨vs, H1, I1, r1, rs, e1, P, k1, R1⟩ => ⟨I1.kIn, fin I1 r1 S P R1 k1⟩) hs hp
  exact psImp (ps_raise hc tk pm) fun D σ H ⟨B, env, S, h⟩ => ⟨B, env, D, rfl, S, h⟩
end
end Pw

set_option maxHeartbeats 4000000
/-! PxB: own exception classes out of the head's Bools. -/
namespace Pw
open PySem PySem.Spec PyProof.Rows L2 LamX NdefX

/-- what the written part says of an own exception class over ValueError -/
def excCB (K : PySem.W.Frag) (C : Addr) : Bool := (match K.lookup C with
    | some ⟨.type "type", _, .cls cd, sl⟩ => (match cd.mro, sl.toList with
      | .ref C' :: bm, [_, _, _, _, some (.builtin n), _] => decide (C' = C) && (decide (n = "ValueError.__new__") && (!cd.hasDel && (cd.hasDict && PySem.HandSPX.refsVE bm)))
      | _, _ => false)
    | _ => false) && (He.eqO (PySem.W.findIn K (.ref C) "__setattr__") (some (some (.builtin "object.__setattr__"))) && (decide (PySem.W.subIn K (.ref C) (.type "BaseException") = some true) &&
  (decide (PySem.W.typeIn K (.ref C) = some (.type "type")) && PySem.W.keepIn K (.ref C))))
theorem excC_ok {K : PySem.W.Frag} {C : Addr} (h : excCB K C = true) : OexC K C := by
  obtain ⟨h1, h⟩ := He.ba h
  obtain ⟨h2, h⟩ := He.ba h
  obtain ⟨h3, h⟩ := He.ba h
  obtain ⟨h4, h5⟩ := He.ba h
  refine ⟨?_, He.eqO_ok h2, of_decide_eq_true h3, of_decide_eq_true h4, h5⟩
  revert h1
  split
  · rename_i dd cd sl ho
    split
    · rename_i C' bm k0 k1 k2 k3 n k5 hm hs
      intro h1
      obtain ⟨e1, h1⟩ := He.ba h1
      obtain ⟨e2, h1⟩ := He.ba h1
      obtain ⟨e3, h1⟩ := He.ba h1
      obtain ⟨e4, e5⟩ := He.ba h1
      have e1 := of_decide_eq_true e1
      have e2 := of_decide_eq_true e2
      obtain ⟨nm, bs, mro, ns, qn, hd, sn, sub, ab, col, del⟩ := cd
      dsimp only at hm e3 e4
      subst hm e1 e2 e4
      have e3 : del = false := by simpa using e3
      subst e3
      have hsl : sl = #[k0, k1, k2, k3, some (.builtin "ValueError.__new__"), k5] := by
        obtain ⟨l⟩ := sl
        simp only at hs
        rw [hs]
      subst hsl
      exact ⟨nm, qn, ns, bs, bm, sn, sub, ab, col, dd, k0, k1, k2, k3, k5, ho, e5⟩
    · intro z; cases z
  · intro z; cases z
/-- an __init__ that says super(): its class, its text -/
structure SupG where
  cls : Str
  qual : Str
  params : Arguments
  body : List Stmt
  scope : Scope
def SupG.val (d : SupG) : He.FnW := some ("__init__", d.qual, d.params, .stmts d.body, d.scope, mainGlobals, [], builtinsNs)
def fnS (K : PySem.W.Frag) (a : Addr) : He.FnW := match K.lookup a with
  | some ⟨_, _, .func fd, _⟩ => some (fd.name, fd.qualname, fd.params, fd.body, fd.scope, fd.globals, [], fd.builtins)
  | _ => none
def SupG.ok (K : PySem.W.Frag) (file : Str) (d : SupG) : Bool := match K.lookup (mG K d.cls "__init__") with
  | some ⟨_, _, .func fd, _⟩ => (match fd.closure, fd.defaults, fd.code with
    | [(n, cc)], .none, .ref cda => decide (n = ("__class__" : Str)) && ((match K.lookup cc with
      | some ⟨_, _, .cell (some (.ref C)), _⟩ => decide (C = He.ga K d.cls)
      | _ => false) && (PySem.W.codeIn K (.ref cda) d.qual && (match K.lookup cda with
      | some ⟨_, _, .fields vs, _⟩ => (match (vs[2]? : Option Value) with
        | some (Value.str f _) => decide (f = file)
        | _ => false)
      | _ => false)))
    | _, _, _ => false)
  | _ => false
structure SupD (K : PySem.W.Frag) (file : Str) (d : SupG) : Prop where
  ex : ∃ (oc : Value) (od : Option Addr) (osl : Array (Option Value)) (kV doc pm ct : Value) (an : Option Addr) (cc cda : Addr) (cl : Value) (cld : Option Addr) (csl : Array (Option Value)) (ccl : Value) (cdd : Option Addr) (vs : Array Value) (ccs : Array (Option Value)) (tf : Tok),
    K.lookup (mG K d.cls "__init__") = some ⟨oc, od, .func (PySem.W.fnX "__init__" d.qual d.params d.body d.scope [("__class__", cc)] .none kV doc pm an (.ref cda) ct), osl⟩ ∧ PySem.W.codeIn K (.ref cda) d.qual = true ∧
    K.lookup cc = some ⟨cl, cld, .cell (some (.ref (He.ga K d.cls))), csl⟩ ∧ K.lookup cda = some ⟨ccl, cdd, .fields vs, ccs⟩ ∧ vs[2]? = some (.str file tf)
theorem SupG.supD {K : PySem.W.Frag} {file : Str} {d : SupG} (e : fnS K (mG K d.cls "__init__") = d.val) (c : d.ok K file = true) : SupD K file d := by
  unfold fnS at e
  unfold SupG.ok at c
  cases q : K.lookup (mG K d.cls "__init__") with
  | none => rw [q] at c; cases c
  | some o =>
    obtain ⟨oc, od, dt, osl⟩ := o
    rw [q] at c e
    cases dt with
    | func fd =>
      obtain ⟨n1, n2, n3, n4, n5, n6, n7, n8, n9, n10, n11, n12, n13, n14, n15⟩ := fd
      have e2 : (some (n1, n2, n3, n4, n5, n6, [], n15) : He.FnW) = some (("__init__" : Str), d.qual, d.params, FuncBody.stmts d.body, d.scope, mainGlobals, [], builtinsNs) := e
      simp only [Option.some.injEq, Prod.mk.injEq] at e2
      obtain ⟨h1, h2, h3, h4, h5, h6, _, h8⟩ := e2
      subst h1 h2 h3 h4 h5 h6 h8
      revert c
      dsimp only
      split
      · rename_i n cc cda
        intro c
        obtain ⟨c1, c⟩ := He.ba c
        obtain ⟨c2, c⟩ := He.ba c
        obtain ⟨c3, c4⟩ := He.ba c
        have c1 := of_decide_eq_true c1
        subst c1
        revert c2
        split
        · rename_i cl cld C csl hcc
          intro c2
          have c2 := of_decide_eq_true c2
          subst c2
          revert c4
          split
          · rename_i ccl cdd vs ccs hcda
            split
            · rename_i f tf hvs
              intro c4
              have c4 := of_decide_eq_true c4
              subst c4
              exact ⟨oc, od, osl, _, _, _, _, _, cc, cda, cl, cld, csl, ccl, cdd, vs, ccs, tf, q, c3, hcc, hcda, hvs⟩
            · intro z; cases z
          · intro z; cases z
        · intro z; cases z
      · intro z; cases z
    | _ => cases c
/-- the class's own facts -/
def supB (K : PySem.W.Frag) (c : Str) : Bool := excCB K (He.ga K c) && (decide (PySem.W.mroIn K (He.ga K c) (.ref (He.ga K c)) = some true) && (decide (PySem.W.ks_superIn K (He.ga K c) (He.ga K c) "__init__" = some (some (.builtin "ValueError.__init__"))) &&
  (decide (PySem.W.subIn K (.ref (He.ga K c)) (.type "ValueError") = some true) && (decide (PySem.W.nsIn K cStatics "thirdparty.any" = some none) && (He.Fa.meth c "__init__").ok K))))
theorem sup_ok {P : Program} {K : PySem.W.Frag} {file : Str} {d : SupG} (D : SupD K file d) (h : supB K d.cls = true) (hf : P.main.file = file) (ht : (P.main.scope.names.lookup ("super" : Str)).isSome = false) :
    ∃ oc od osl kV doc pm ct an cc cda, K.lookup (mG K d.cls "__init__") = some ⟨oc, od, .func (PySem.W.fnX "__init__" d.qual d.params d.body d.scope [("__class__", cc)] .none kV doc pm an (.ref cda) ct), osl⟩ ∧ SupK P K (He.ga K d.cls) cc cda d.qual := by
  obtain ⟨oc, od, osl, kV, doc, pm, ct, an, cc, cda, cl, cld, csl, ccl, cdd, vs, ccs, tf, h0, h1, h2, h3, h4⟩ := D.ex
  obtain ⟨g1, h⟩ := He.ba h
  obtain ⟨g2, h⟩ := He.ba h
  obtain ⟨g3, h⟩ := He.ba h
  obtain ⟨g4, h⟩ := He.ba h
  obtain ⟨g5, g6⟩ := He.ba h
  exact ⟨oc, od, osl, kV, doc, pm, ct, an, cc, cda, h0, excC_ok g1, h1, ⟨ccl, cdd, vs, ccs, file, tf, h3, h4, by rw [hf]; exact beq_self_eq_true _⟩, ⟨cl, cld, csl, h2⟩, of_decide_eq_true g2, of_decide_eq_true g3, of_decide_eq_true g4, of_decide_eq_true g5, ht⟩
end Pw

set_option maxHeartbeats 4000000
/-! PxC: what raises; the head's hook with such classes. -/
namespace Pw
open PySem PySem.Spec PyProof.Rows L2 LamX NdefX

section
variable {K : PySem.W.Frag} {C a : Addr} {N : List Str} {H : Hp} {Q : VK}
abbrev SpQ (C : Addr) (a : Addr) (H : Hp) (fs : List (Str × V)) (Q : VK) : Prop := ∀ d H2, H d = none → d ≠ a → H2 a = some (exo a C (some d)) → H2 d = some (exd d fs) → (∀ b, b ≠ a → b ≠ d → H2 b = H b) → Q .non H2
abbrev EndQ (Q : VK) : Ends := { nx := fun _ H' => Q .non H', rt := Q }
theorem read1 {f z : Str} (T : OexC K C) (hf : PySem.W.findIn K (.ref C) f = some none) (ea : H a = some (exo a C none)) (q : SpQ C a H [(f, .str z)] Q) :
    tSeq (tOst K f (tVar 0) (tC (.str z))) tNext (EndQ Q) (startF N [.ref a] [none]) H :=
  ⟨.ref a, rfl, a, C, rfl, T, hf, .inl ⟨ea, fun dx hn ne => q dx _ hn ne upd_same ((upd_ne ne).trans upd_same) fun b h1 h2 => (upd_ne h1).trans (upd_ne h2)⟩⟩
theorem read2 {f g z : Str} {v : V} (T : OexC K C) (hf : PySem.W.findIn K (.ref C) f = some none) (hg : PySem.W.findIn K (.ref C) g = some none) (ea : H a = some (exo a C none)) (q : SpQ C a H [(g, .str z), (f, v)] Q) :
    tSeq (tOst K f (tVar 0) (tVar 1)) (tSeq (tOst K g (tVar 0) (tC (.str z))) tNext) (EndQ Q) (startF N [.ref a, v] [none]) H :=
  ⟨v, rfl, .ref a, rfl, a, C, rfl, T, hf, .inl ⟨ea, fun dx hn ne => ⟨.ref a, rfl, a, C, rfl, T, hg, .inr ⟨dx, [(f, v)], upd_same, (upd_ne ne).trans upd_same, by simp, q dx _ hn ne ((upd_ne (Ne.symm ne)).trans upd_same) upd_same fun b h1 h2 => (upd_ne h2).trans ((upd_ne h1).trans (upd_ne h2))⟩⟩⟩⟩
theorem read3 {f f2 g z : Str} {v u : V} (T : OexC K C) (hf : PySem.W.findIn K (.ref C) f = some none) (hf2 : PySem.W.findIn K (.ref C) f2 = some none) (hg : PySem.W.findIn K (.ref C) g = some none) (ea : H a = some (exo a C none)) (q : SpQ C a H [(g, .str z), (f2, u), (f, v)] Q) :
    tSeq (tOst K f (tVar 0) (tVar 1)) (tSeq (tOst K f2 (tVar 0) (tVar 2)) (tSeq (tOst K g (tVar 0) (tC (.str z))) tNext)) (EndQ Q) (startF N [.ref a, v, u] [none]) H :=
  ⟨v, rfl, .ref a, rfl, a, C, rfl, T, hf, .inl ⟨ea, fun dx hn ne => ⟨u, rfl, .ref a, rfl, a, C, rfl, T, hf2, .inr ⟨dx, [(f, v)], upd_same, (upd_ne ne).trans upd_same, by simp,
    .ref a, rfl, a, C, rfl, T, hg, .inr ⟨dx, [(f2, u), (f, v)], (upd_ne (Ne.symm ne)).trans upd_same, upd_same, by simp, q dx _ hn ne ((upd_ne (Ne.symm ne)).trans ((upd_ne (Ne.symm ne)).trans upd_same)) upd_same fun b h1 h2 => (upd_ne h2).trans ((upd_ne h2).trans ((upd_ne h1).trans (upd_ne h2)))⟩⟩⟩⟩⟩
end
section
variable {P : Program} {w : World} {K : PySem.W.Frag} {mg : Str → Option Value} {base : Heap} {ca : Ca}
abbrev supS (p0 p1 p2 p3 p4 p5 : Pos) (z0 : Str) (j : Nat) : Stmt := .Expr (.Call (.Attribute (.Call (.Name "super" p0) [] [] p1) "__init__" p2) [.Constant (.str z0) j p3] [] p4) p5
theorem raiseAt {N ps : List Str} {d : SupG} {n : Nat} {L : FL} {file z0 : Str} {j : Nat} {p0 p1 p2 p3 p4 p5 : Pos} {rest : List Stmt} {ar : Arg} {t : TS} (D : SupD K file d) (hB : supB K d.cls = true) (hfl : P.main.file = file) (ht : (P.main.scope.names.lookup ("super" : Str)).isSome = false)
    (hms : mg "super" = none) (hm : mg d.cls = some (.ref (He.ga K d.cls))) (hca : ca d.cls = some (He.ga K d.cls)) (hbd : d.body = supS p0 p1 p2 p3 p4 p5 z0 j :: rest) (S : NScope N ps ["__class__"] d.scope) (hlen : ps.length = n + 1)
    (hp : (d.params.posonlyargs ++ d.params.args).head? = some ar) (hps : ps[0]? = some ar.arg) (hks : d.scope.names.lookup ("super" : Str) = some .globalImplicit)
    (hi : ∀ env : Env, env.scope = d.scope → interactive env = false) (hsw : ∀ env : Env, env.scope = d.scope → swapsWith (.Call (.Attribute (.Call (.Name "super" p0) [] [] p1) "__init__" p2) [.Constant (.str z0) j p3] [] p4) none p5.line env = pure false)
    (hev : ∀ env : Env, ∃ pl : Sem Bool, eval (.Call (.Attribute (.Call (.Name "super" p0) [] [] p1) "__init__" p2) [.Constant (.str z0) j p3] [] p4) env = (do
      let ov ← attributeBase (.Call (.Name "super" p0) [] [] p1) "__init__" env (eval (.Call (.Name "super" p0) [] [] p1) env)
      standAt p2.atName
      let (g, first) ← holding [ov] (getMethod ov "__init__" pl)
      callWith p4 g first (backTo p4 (starEach [.Constant (.str z0) j p3] env)) []))
    (hbind : ∀ (q : Str) (body : List Stmt) (cl : List (Str × Addr)) (kV doc pm : Value) (an : Option Addr) (cdv ct : Value) (us : List Value), us.length = ps.length → bindArgs (PySem.W.fnX "__init__" q d.params body d.scope cl .none kV doc pm an cdv ct) ⟨us, []⟩ = pure (ps.zip us))
    (hrest : ∀ (cc cda f : Addr) (A : Around) (outer : List Env) (s : Shared) (H : Hp) (E : XK), PSs (ncx (L2.CX P w) P w K mg base N ⟨"__init__", d.qual, d.params, d.body, d.scope, [("__class__", cc)], cda⟩ f A outer s H E) rest t)
    (hread : OexC K (He.ga K d.cls) → ∀ (a : Addr) (ws : List V) (H : Hp) (Q : VK), ws.length = n → H a = some (exo a (He.ga K d.cls) none) → SpQ (He.ga K d.cls) a H (L.v ws) Q → t (EndQ Q) (startF N (.ref a :: ws) [none]) H) :
    At P w K mg base fun X => RaiseOk X ca 2 d.cls d.cls n L := by
  rintro X rfl rfl rfl rfl rfl
  obtain ⟨oc, od, osl, kV, doc, pm, ct, an, cc, cda, lk, F⟩ := sup_ok (P := X.prog) D hB hfl ht
  obtain ⟨_, hB'⟩ := He.ba hB
  obtain ⟨_, hB'⟩ := He.ba hB'
  obtain ⟨_, hB'⟩ := He.ba hB'
  obtain ⟨_, hB'⟩ := He.ba hB'
  obtain ⟨_, hmt⟩ := He.ba hB'
  have M := He.meth_ok hmt
  obtain ⟨dc, dq, dp, db, ds⟩ := d
  dsimp only at *
  subst hbd
  have tI : PySem.W.typeIn X.K (.ref (mG X.K dc "__init__")) = some (.type "function") := by
    have z := M.fn
    unfold PySem.W.isFn at z
    exact eq_of_beq z
  refine ⟨_, _, _, ps, hca, hm, F.T, M.at_, tI, init_ok (k := 1) F hms lk hp S hps hks (fun vs H Q E h => ?_) (fun vs H Q E h => ?_) (fun env => rfl) (fun A outer s H E => ⟨_, pa_cons pe_str pa_nil, fun σ H => ⟨by simp, rfl⟩⟩) (fun L => hi _ rfl) (fun L => hsw _ rfl) (fun L => hev _) (fun A outer s H vs Q E hr h => ?_), ?_⟩
  · obtain ⟨a, ws, rfl, h1, _⟩ := h
    rw [List.length_cons, h1, hlen]
  · obtain ⟨a, ws, rfl, _, h2, _⟩ := h
    exact ⟨a, ws, rfl, h2⟩
  · obtain ⟨a, ws, rfl, h1, h2, h3⟩ := h
    exact ⟨t, hrest _ _ _ A outer s H E, hread F.T a ws H Q h1 h2 h3⟩
  · exact .all fun us hl => hbind _ _ _ _ _ _ _ _ _ us hl
end
/-! ### the hook -/
abbrev AlQ : Type := Bool × List He.FnW × List He.FnW
def asQ (g : Addr → Option Obj) (n : Nat) : List Addr := asP g n ++ (asP g n).flatMap fun a => match g a with
  | some ⟨_, _, .func fd, _⟩ => fd.closure.map (·.2)
  | _ => []
def obsQ (n : Nat) (file : Str) (ex : PySem.W.Frag → Bool) (fn : List DefG) (sp : List SupG) (g : Addr → Option Obj) : AlQ :=
  ((ex (He.frG g (asQ g n)) && fn.all fun d => d.ok (He.frG g (asQ g n))) && sp.all fun d => d.ok (He.frG g (asQ g n)) file, fn.map fun d => fnG (He.frG g (asQ g n)) (d.at_ (He.frG g (asQ g n))), sp.map fun d => fnS (He.frG g (asQ g n)) (mG (He.frG g (asQ g n)) d.cls "__init__"))
structure SaysQ (file : Str) (ex : PySem.W.Frag → Bool) (fn : List DefG) (sp : List SupG) (K : PySem.W.Frag) : Prop extends SaysP ex fn K where
  sp : ∀ (i : Nat) (d : SupG), sp[i]? = some d → SupD K file d
theorem saysQ_of {file : Str} {ex : PySem.W.Frag → Bool} {fn : List DefG} {sp : List SupG} {K : PySem.W.Frag} (e : (((ex K && fn.all fun d => d.ok K) && sp.all fun d => d.ok K file, fn.map fun d => fnG K (d.at_ K), sp.map fun d => fnS K (mG K d.cls "__init__")) : AlQ) = (true, fn.map DefG.val, sp.map SupG.val)) : SaysQ file ex fn sp K := by
  have e1 : ((ex K && fn.all fun d => d.ok K) && sp.all fun d => d.ok K file) = true := congrArg (fun z : AlQ => z.1) e
  have e2 : (fn.map fun d => fnG K (d.at_ K)) = fn.map DefG.val := congrArg (fun z : AlQ => z.2.1) e
  have e3 : (sp.map fun d => fnS K (mG K d.cls "__init__")) = sp.map SupG.val := congrArg (fun z : AlQ => z.2.2) e
  obtain ⟨h1, h2⟩ := He.ba e1
  have sp0 : SaysP ex fn K := saysP_of (by rw [h1, e2])
  refine ⟨sp0, fun i d hd => SupG.supD ?_ (List.all_eq_true.mp h2 d (List.mem_of_getElem? hd))⟩
  have e4 := congrArg (fun l => l[i]?) e3
  simp only [List.getElem?_map, hd, Option.map_some, Option.some.injEq] at e4
  exact e4
def hookQ (n : Nat) (file : Str) (ex : PySem.W.Frag → Bool) (fn : List DefG) (sp : List SupG) : PySem.W.Hook where
  α := AlQ
  obs := fun s => obsQ n file ex fn sp s.heap.get?
  val := fun _ => (true, fn.map DefG.val, sp.map SupG.val)
  says := fun _ h => ∃ K : PySem.W.Frag, K.In h ∧ SaysQ file ex fn sp K
  of := fun _ _ e => ⟨_, He.frG_in, saysQ_of e⟩
  keeps := fun _ _ _ ⟨K, hK, c⟩ k => ⟨K, PySem.W.Frag.In.keeps hK k, c⟩
theorem obsQ_eq {n : Nat} {file : Str} {ex : PySem.W.Frag → Bool} {fn : List DefG} {sp : List SupG} {g : Addr → Option Obj} {s : Shared} (h : ∀ a, g a = s.heap.get? a) : obsQ n file ex fn sp g = (hookQ n file ex fn sp).obs s := by
  have e : g = s.heap.get? := funext h
  rw [e] <;> rfl
end Pw

set_option maxHeartbeats 4000000
/-! PxD: try .. except (X, Y, Z) as e, all that is raised caught. -/
namespace Pw
open PySem PySem.Spec PyProof.Rows L2

theorem flying_up {B h h' : Heap} {l : List Env} {e : Addr} {Z : Obj → Prop} (k : ∀ b o, h.get? b = some o → h'.get? b = some o) (f : HandSPX.FlyingZ B l e Z h) : HandSPX.FlyingZ B l e Z h' := by
  obtain ⟨f1, f2, f3, oe, vs, T, oT, ts, g1, g2, g3, g4, g5, g6, g7, g8, g9⟩ := f
  exact ⟨fun b o q => k b o (f1 b o q), f2, f3.of_keeps fun b o q _ => ⟨o, k b o q, rfl⟩, oe, vs, T, oT, ts, k _ _ g1, g2, g3, g4, g5, g6, k _ _ g7, g8, g9⟩
def behind (i : Nat) (D : Ends) : Ends := { nx := fun σ' H' => D.nx (σ'.set i none) H', rt := D.rt, bk := fun σ' H' => D.bk (σ'.set i none) H', ct := fun σ' H' => D.ct (σ'.set i none) H' }
def wAs3 (K : PySem.W.Frag) (cs : List Value) (i : Nat) (ts : Addr → Value → Option Addr → TS) (D : Ends) : WX := fun cls d σ H => PySem.W.exmAny K cls cs = some true ∧ ∀ a, H a = none → i < σ.length → ts a cls d (behind i D) (σ.set i (some (.ref a))) H
section
variable {X : Cx} {n x1 x2 x3 : Str} {c1 c2 c3 : Value} {i kt : Nat} {body suite : List Stmt} {b0 : Stmt} {q1 q2 q3 tp pos pos' : Pos} {tb : WX → TS} {ts : Addr → Value → Option Addr → TS}
theorem ps_try_as3 (hs : X.stack = X.env :: X.outer) (hf : X.env.frame = some X.env.locals) (hN : X.N.Nodup) (hi : X.N[i]? = some n) (hln : X.env.kindOf n = some .local) (hc1 : Names X x1 c1) (hc2 : Names X x2 c2) (hc3 : Names X x3 c3)
    (hb : ∀ (W : WX) (pn : List (Addr × Obj)) (xe : Value → Shared → Prop), Takes (X.tr pn xe) W → PassesOwn (model X.prog X.w) X.A X.env xe → PSs (X.tr pn xe) body (tb W))
    (hsu : ∀ (a : Addr) (oe : Obj) (cls : Value) (d : Option Addr) (pn : List (Addr × Obj)), Zc cls d oe → (∃ vs, oe.data = .fields vs) → PSs (X.suite a ((a, oe) :: pn)) (b0 :: suite) (ts a cls d)) :
    PS X (.Try body [.ExceptHandler (some (.Tuple [.Name x1 q1, .Name x2 q2, .Name x3 q3] kt tp)) (some n) (b0 :: suite) pos'] [] [] pos) (fun D σ H => tb (wAs3 X.K [c1, c2, c3] i ts D) D σ H) := by
  refine ⟨fun pins s σ H D I h => ?_⟩
  have ok := I.ok
  have hfr : X.A.frames = some (X.env :: X.outer) := by rw [ok.frames, hs]
  refine wpAny_Try_except ?_
  refine wpAny_mono ((hb (wAs3 X.K [c1, c2, c3] i ts D) (X.pn ++ pins) (fun e s₁ => wpAny (model X.prog X.w) X.A (noteFrame e X.env) (fun _ s₂ => wpAny (model X.prog X.w) X.A (setFlight e none) (fun _ s₃ =>
    wpAny (model X.prog X.w) X.A (handleBy e X.env [.ExceptHandler (some (.Tuple [.Name x1 q1, .Name x2 q2, .Name x3 q3] kt tp)) (some n) (b0 :: suite) pos']) (SP X pins D) X.xe s₃) X.xe s₂) X.xe s₁) (fun u s' xx => ?_) PassesOwn.looking).run [] s σ H D (I.toTry _) h) (fun f s1 hsp => ?_) (fun e s1 he => he)
  · obtain ⟨a, B, sI, pins', σ', H', cls, d, rfl, J', nb, up, sky, na, os, ag, hx, hyes⟩ := xx
    have J : Inv X pins σ' H' sI := J'.ofTry ok
    have sky' : Sky B (X.env :: X.outer) a (Zc cls d) X.env.locals s'.heap := by rw [← hs]; exact sky
    show wpAny (model X.prog X.w) X.A (noteFrame (.ref a) X.env) _ _ _
    refine Sky.land Zc.steady hfr hf sky' fun h3 fl3 up3 => ?_
    have J3 : Inv X pins σ' H' { s' with heap := h3 } := J.landed nb fl3.1 (up.trans up3) os ag
    obtain ⟨oe3, vs3, he3, hz3, hd3⟩ := fl3.there
    have nfr : a ∉ frs (X.env :: X.outer) := fun hm => by
      obtain ⟨_, o', e', hnf⟩ := fl3.2.2.1.mem hm
      rw [he3] at e'
      cases e'
      exact hnf _ hd3
    have nL : a ≠ X.env.locals := fun z => nfr (List.mem_filterMap.mpr ⟨X.env, List.mem_cons_self, by rw [hf, z]⟩)
    have nF : a ∉ X.fs := fun hm => by
      obtain ⟨e, he, q⟩ := List.mem_filterMap.mp hm
      exact nfr (List.mem_filterMap.mpr ⟨e, List.mem_cons_of_mem _ he, q⟩)
    have S3 := J3.suite he3 hd3 na nL nF
    refine wpAny_handleBy_cons (codeAny_handlers_test ?_) (by intro q; cases q)
    have test : ∀ {x : Str} {c : Value} {np : Pos} {Q : Value → Shared → Prop} {E : Value → Shared → Prop}, Names X x c → Q c { s' with heap := h3 } → wpAny (model X.prog X.w) (X.A.mark (some (.ref a))) (eval (.Name x np) X.env) Q E { s' with heap := h3 } := fun {x c np Q E} hc q => by
      obtain ⟨hg, hdbg, hm | ⟨hm, hv, hnn⟩⟩ := hc
      · exact ld_glob (X := X.suite a ((a, oe3) :: (X.pn ++ pins))) S3 hg hm q hdbg
      · exact ld_blt (X := X.suite a ((a, oe3) :: (X.pn ++ pins))) S3 hg hm hv q hnn hdbg
    refine wpAny_Tuple_spliced ?_
    refine Calls.spliced_cons (test hc1 (Calls.spliced_cons (test hc2 (Calls.spliced_cons (test hc3 (Calls.spliced_nil ⟨by simp [sizeLine_eq], ?_⟩))))))
    have kk : ∀ b o, h3.get? b = some o → (h3.push { cls := .type "tuple", data := .seq [c1, c2, c3].toArray }).get? b = some o := fun b o e => Heap.get?_push_of_some _ e
    have LT : PySem.W.Looks (model X.prog X.w) (h3.push { cls := .type "tuple", data := .seq [c1, c2, c3].toArray }) (typeOf (.ref a)) cls := fun A Q E s k q => wpAny_typeOf_ref (k _ _ (kk _ _ he3)) (by rw [hz3.1]; exact q)
    have LM := PySem.W.exm_tup3 (M := model X.prog X.w) (J3.kept (t' := s'.toks) kk).kIn LT (Heap.get?_push_size h3 rfl) hx
    refine LM.here ?_
    refine codeAny_handlers_suite_as ?_
    have fl5 := flying_up kk fl3
    refine HandSPX.lands_againZ fl5 fun h4 fl4 up4 => ?_
    have J4 : Inv X pins σ' H' { s' with heap := h4 } := J.landed nb fl4.1 (((up.trans up3).trans (Heap.UpToSlots.of_keeps kk)).trans up4) os ag
    obtain ⟨oe4, vs4, he4, hz4, hd4⟩ := fl4.there
    have S4 := J4.suite he4 hd4 na nL nF
    refine store_ok (X := X.suite a ((a, oe4) :: (X.pn ++ pins))) (v := .ref a) S4 hN hi (.inl hln) rfl (fun s5 S5 => ?_) (.inr hln)
    refine wpAny_mono ((hsu a oe4 cls d (X.pn ++ pins) hz4 ⟨_, hd4⟩).run [] s5 _ H' _ S5 (hyes a na (by rw [J.len]; exact (List.getElem?_eq_some_iff.mp hi).1))) (fun f s6 hsp => ?_) (fun _ _ z => False.elim z)
    have fin : ∀ {σ6 : St} {H6 : Hp} {Q : Shared → Prop}, Inv (X.suite a ((a, oe4) :: (X.pn ++ pins))) [] σ6 H6 s6 → (∀ s7, Inv X pins (σ6.set i none) H6 s7 → Q s7) →
        wpAny (model X.prog X.w) X.A (do bindName X.env n .none; unbindBehindTheSuite X.env n pos') (fun _ s7 => Q s7) X.xe s6 := fun {σ6 H6 Q} S6 hq => gone_ok (S6.unsuite ok) hN hi hln hq
    cases f with
    | next =>
      obtain ⟨σ6, H6, S6, q6⟩ := hsp
      exact fin S6 fun s7 J7 => ⟨_, _, J7, q6⟩
    | brk =>
      obtain ⟨σ6, H6, S6, q6⟩ := hsp
      exact fin S6 fun s7 J7 => ⟨_, _, J7, q6⟩
    | cont =>
      obtain ⟨σ6, H6, S6, q6⟩ := hsp
      exact fin S6 fun s7 J7 => ⟨_, _, J7, q6⟩
    | ret u =>
      obtain ⟨v6, σ6, H6, S6, r6, q6⟩ := hsp
      exact fin S6 fun s7 J7 => ⟨_, _, _, J7, r6, q6⟩
  · cases f with
    | next =>
      obtain ⟨σ', H', J', q⟩ := hsp
      exact wpAny_execs_nil ⟨σ', H', J'.ofTry ok, q⟩
    | brk =>
      obtain ⟨σ', H', J', q⟩ := hsp
      exact ⟨σ', H', J'.ofTry ok, q⟩
    | cont =>
      obtain ⟨σ', H', J', q⟩ := hsp
      exact ⟨σ', H', J'.ofTry ok, q⟩
    | ret u =>
      obtain ⟨v, σ', H', J', r, q⟩ := hsp
      exact ⟨v, σ', H', J'.ofTry ok, r, q⟩
end
end Pw

set_option maxHeartbeats 4000000
/-! PxE: defs that are called with the caught exception, its fields read there. -/
namespace Pw
open PySem PySem.Spec PyProof.Rows L2 L2H

/-- a def's promise while p's object is out of reach of what is tracked -/
structure FnP (P : Program) (w : World) (K : PySem.W.Frag) (mg : Str → Option Value) (base : Heap) (CX : CXT) (k : Nat) (f : Addr) (fd : FuncData) (ps : List Str) (sp : Addr × Obj → Sp) : Prop where
  len : ∀ p vs H Q E, sp p vs H Q E → vs.length = ps.length
  run : ∀ (A : Around) (outer : List Env) (s : Shared) (H : Hp) (args : Args) (us : List Value) (vs : List V) (Q : VK) (E : XK) (p : Addr × Obj), RoomH k A → PinOk outer H s p → Env0 P w K mg base A outer s H → BindsTo s fd args (ps.zip us) → Vals vs us → sp p vs H Q E →
    codeAny (model P w) A (.call (.ref f) args) (CR CX outer P w H s Q E) s
section
variable {CX : CXT} {P : Program} {w : World} {K : PySem.W.Frag} {mg : Str → Option Value} {base : Heap} {k : Nat} {f : Addr}
theorem fnP_of {name qual : Str} {params : Arguments} {body : List Stmt} {scope : Scope} {dvs : List V} {kws : List (Str × V)} {fd : FuncData} {N ps : List Str} {sp : Addr × Obj → Sp} (F : FunD K name qual params body scope dvs kws f fd) (S : FnScope N ps scope) (len : ∀ p vs H Q E, sp p vs H Q E → vs.length = ps.length)
    (hbody : ∀ (cdv : Value) (A : Around) (outer : List Env) (s : Shared) (H : Hp) (vs : List V) (Q : VK) (E : XK) (p : Addr × Obj), RoomH k (A.deeper (envOfC qual scope s.heap.objs.size f cdv)) → sp p vs H Q E →
      ∃ t, PSs (cxH CX P w K mg base N qual scope f cdv A outer s H E p) body t ∧ t { nx := fun _ H' => Q .non H', rt := Q } (L2.start N vs) H) : FnP P w K mg base CX (k + 1) f fd ps sp := by
  obtain ⟨oc, od, dV, kV, doc, pm, an, cdv, ct, osl, rfl, lk, hcd, _, _⟩ := F.ex
  refine ⟨len, fun A outer s H args us vs Q E p hr hpin e0 hb r hsp => ?_⟩
  have hl := len _ _ _ _ _ hsp
  have KX := e0.mod.kin.keeps fun b o e => (e0.bs b o e).1
  have hkind : ∀ y ∈ ps.zip us, scope.names.lookup y.1 = some .local ∨ (scope.names.lookup y.1 = some .cell ∧ ((cellsFrom (s.heap.objs.size + 1) scope.names []).lookup y.1).isSome = true) := fun ⟨n, v⟩ hy =>
    (S.par n (List.of_mem_zip hy).1).imp id fun q => ⟨q, PySem.W.cellsFrom_some _ _ _ (.inl q)⟩
  refine codeAny_call_function hr.depth (KX _ _ lk) rfl S.co S.gen rfl (PySem.W.codeRec_of KX hcd) (hb _ _ _ _ (wpAny_newFunctionEnv_cells S.kind hkind fun env he s1 x => ?_))
  subst he
  refine ⟨(e0.mod.nolimit.keeps fun b o e => (e0.bs b o e).1).keeps x.toInCall.keep, codeAny_func ?_⟩
  obtain ⟨t, ht, hq⟩ := hbody cdv A outer s H vs Q E p (hr.deeper _) hsp
  refine wpAny_mono (ht.run [] s1 (L2.start N vs) H _ (inv_startH S hpin e0 hl r x) hq) (fun fl s' hs => ?_) fun e s' hs => hs
  cases fl with
  | ret u => obtain ⟨v, σ', H', J, rv, q⟩ := hs; exact ⟨v, H', J.os, J.bare, J.base, J.hok, rv, q⟩
  | next => obtain ⟨σ', H', J, q⟩ := hs; exact ⟨V.non, H', J.os, J.bare, J.base, J.hok, rfl, q⟩
  | brk => obtain ⟨_, _, _, q⟩ := hs; exact False.elim q
  | cont => obtain ⟨_, _, _, q⟩ := hs; exact False.elim q
end
section
variable {X : Cx} {k : Nat} {f : Addr} {fd : FuncData} {ps : List Str} {sp : Addr × Obj → Sp} {x : Str} {q pos : Pos} {e : Expr} {t : TE}
/-- x(e), e the exception p of the context -/
theorem pe_callP {p : Addr × Obj} (F : FnP X.prog X.w X.K X.mg X.base (L2.CX X.prog X.w) k f fd ps sp) (hr : RoomH k X.A) (hp : p ∈ X.pn) (hg : Gl X x) (hm : X.mg x = some (.ref f)) (hk : PySem.W.keepIn X.K (.ref f) = true) (hb : L2.Binds X.K fd ps [])
    (ha : PE X e t) (hdb : (x == ("__debug__" : Str)) = false) (he : starEach [e] X.env = [(false, eval e X.env)] := by rfl) :
    PE X (.Call (.Name x q) [e] [] pos) (fun σ H Q => t σ H fun v H1 => sp p [v] H1 Q fun _ _ _ => False) := by
  refine ⟨fun pins s σ H Q I h => ?_⟩
  refine wpAny_Call_Name_kw (ld_glob I hg hm ?_ hdb)
  refine PySem.W.callWith_K (h₀ := X.base) I.ok.mod.kin hk (thn ((pa_cons ha pa_nil he).run pos pins s σ H (fun vs H1 => ∃ v, vs = [v] ∧ sp p [v] H1 Q fun _ _ _ => False) I ?_) fun us s1 ⟨vs, H1, I1, r, v, ev, q⟩ => ⟨I1.kIn, ?_⟩) he rfl
  · revert h
    exact fun h => (show tCons t tNil σ H _ from by
      show t σ H fun x H1 => tNil σ H1 fun xs H2 => _
      exact (by simpa [tNil] using h))
  · subst ev
    have hl : us.length = ps.length := by rw [← r.length]; exact F.len _ _ _ _ _ q
    have b := hb s1 us I1.kIn (by rw [List.append_nil]; exact hl)
    rw [List.append_nil] at b
    have P1 := I1.pin p (List.mem_append_left _ hp)
    have hpin : PinOk X.stack H1 s1 p := ⟨P1.1, P1.2.1, fun hm => (List.mem_cons.mp (I1.stkSub p.1 hm)).elim P1.2.2.1 P1.2.2.2.1, P1.2.2.2.2⟩
    refine wpAny_call (codeAny_mono (F.run X.A X.stack s1 H1 ⟨us, []⟩ us [v] Q _ p hr hpin I1.env0 b r q) fun r s' hq => ?_)
    cases r with
    | error e => exact (pass_none (X := X)) pins σ H1 s1 e s' I1 hq
    | ok fl =>
      cases fl with
      | ret u => exact I1.after hq
      | next => exact False.elim hq
      | brk => exact False.elim hq
      | cont => exact False.elim hq
/-- a field of the exception (a, oe) of the context -/
def tXp (a : Addr) (d : Addr) (n : Str) (te : TE) : TE := fun σ H Q => te σ H fun x H1 => x = .ref a ∧ ∃ (fs : List (Str × V)) (v : V), H1 d = some (.xd fs) ∧ fs.lookup n = some v ∧ Q v H1
theorem pe_xp {a C d : Addr} {oe : Obj} {te : TE} {n : Str} (T : XfC X.K C) (hno : PySem.W.findIn X.K (.ref C) n = some none) (hp : (a, oe) ∈ X.pn) (hz : Zc (.ref C) (some d) oe) (hf : ∃ vs, oe.data = .fields vs) (he : PE X e te) (hb : attributeBase e n X.env (eval e X.env) = eval e X.env) :
    PE X (.Attribute e n pos) (tXp a d n te) := by
  refine ⟨fun pins s σ H Q I h => attr_of hb (thn (he.run pins s σ H _ I h) fun u s1 hh => ?_)⟩
  obtain ⟨x, H1, I1, rx, ex, fs, v, ea, l, q⟩ := hh
  subst ex
  obtain rfl : u = Value.ref a := rx
  obtain ⟨ha, _⟩ := I1.pin (a, oe) (List.mem_append_left _ hp)
  obtain ⟨vs, hd⟩ := hf
  obtain ⟨mA, hns, hr⟩ := (show ObjOk X.prog X.w H1 s1.heap d (.xd fs) from I1.hok d _ ea)
  obtain ⟨od, ho, hl⟩ := lookIn_ns hns
  obtain ⟨u, hu, ru⟩ := RelO.some_of (v := v) (o := mA n) (by rw [← l]; exact hr n)
  have J : PySem.W.InstAt s1.heap a oe C (some od) := ⟨ha, hz.1, by unfold PySem.W.notCls; rw [hd] <;> rfl, by rw [hz.2]; exact ho⟩
  exact HandSPX.exc_get I1.kIn J T.ga T.gg T.exC (PySem.W.findObj_own T.hdC hno rfl (by rw [hl, hu])) (handed_of ru) ⟨v, H1, I1.tok _, ru, q⟩
end
end Pw

set_option maxHeartbeats 4000000
/-! PxF: _law_fields. -/
namespace Pw
open PySem PySem.Spec PyProof.Rows L2 L2H

/-- z is one of zs -/
def hit (z : Str) (zs : List Str) : Bool := inV (.str z) (zs.map V.str)
/-- the names of the fields that are told of an error by its code -/
def fldG (z : Str) : List Str :=
  if hit z ["InvalidSize", "InvalidNode", "InvalidCount"] = true then ["given"] else if hit z ["TooLarge", "CapacityExceeded"] = true then ["bound"]
  else if hit z ["InvalidName", "DuplicateName", "UnknownName", "UnknownRelation"] = true then ["name"] else if hit z ["InvalidRelation", "InvalidRow", "NotKept", "ParseError"] = true then ["at"]
  else if decide (V.str z = V.str "Revealed") = true then ["name", "group"] else if decide (V.str z = V.str "InvalidDeed") = true then ["first"] else []
/-- no class of it has these names -/
structure XcF (K : PySem.W.Frag) (C : Addr) : Prop where
  xf : XfC K C
  no : ∀ f ∈ (["code", "given", "bound", "name", "at", "group", "first"] : List Str), PySem.W.findIn K (.ref C) f = some none
def tStrs : List Str → TA
  | [] => tNil
  | z :: zs => tCons (tC (.str z)) (tStrs zs)
theorem strs_read : ∀ (zs : List Str) {σ : L2.St} {H : Hp} {Q : List V → Hp → Prop}, Q (zs.map V.str) H → tStrs zs σ H Q
  | [], _, _, _, q => q
  | z :: zs, σ, H, Q, q => strs_read zs (σ := σ) (Q := fun xs H2 => Q (.str z :: xs) H2) q
section
variable {K : PySem.W.Frag} {a d : Addr} {fs : List (Str × V)} {z : Str} {σ : L2.St} {H : Hp}
theorem flat_strs : ∀ zs : List Str, (zs.map V.str).all flatV = true
  | [] => rfl
  | _ :: zs => flat_strs zs
/-- e.code in (..) -/
theorem t_in {zs : List Str} {Q : Bool → Hp → Prop} (h0 : σ[0]? = some (some (.ref a))) (hd : H d = some (.xd fs)) (hl : fs.lookup ("code" : Str) = some (V.str z)) (hz : zs.length ≤ sizeLine) (q : ∀ H', Ext H H' → Q (hit z zs) H') :
    tTest (tOp (rIn K false) (tXp a d "code" (tVar 0)) (tTup (tStrs zs))) σ H Q :=
  ⟨.ref a, h0, rfl, fs, .str z, hd, hl, strs_read zs ⟨by simpa using hz, fun p hp => ⟨p, zs.map V.str, rfl, .inr (SqT.of upd_same), rfl, flat_strs zs, _, rfl, q _ (Ext.new hp)⟩⟩⟩
theorem t_eqz {y : Str} {Q : Bool → Hp → Prop} (h0 : σ[0]? = some (some (.ref a))) (hd : H d = some (.xd fs)) (hl : fs.lookup ("code" : Str) = some (V.str z)) (q : Q (decide (V.str z = V.str y)) H) :
    tTest (tOp rEq (tXp a d "code" (tVar 0)) (tC (.str y))) σ H Q :=
  ⟨.ref a, h0, rfl, fs, .str z, hd, hl, rfl, _, rfl, q⟩
/-- (e.f, ..) -/
def tFlds (a d : Addr) : List Str → TA
  | [] => tNil
  | f :: r => tCons (tXp a d f (tVar 0)) (tFlds a d r)
theorem flds_read (h0 : σ[0]? = some (some (.ref a))) (hd : H d = some (.xd fs)) : ∀ {gs : List Str} {ws : List V} {Q : List V → Hp → Prop}, Paired (fun f v => fs.lookup f = some v) gs ws → Q ws H → tFlds a d gs σ H Q
  | _, _, Q, .nil, q => q
  | _, _, Q, .cons (b := v) h r, q => ⟨.ref a, h0, rfl, fs, v, hd, h, flds_read h0 hd (Q := fun xs H2 => Q (v :: xs) H2) r q⟩
theorem tup_read {gs : List Str} {ws : List V} {Q : VK} (h0 : σ[0]? = some (some (.ref a))) (hd : H d = some (.xd fs)) (r : Paired (fun f v => fs.lookup f = some v) gs ws) (hz : ws.length ≤ sizeLine) (q : ∀ p H', Ext H H' → H p = none → H' p = some (.tup ws) → Q (.ref p) H') : tTup (tFlds a d gs) σ H Q :=
  flds_read h0 hd r ⟨hz, fun p hp => q p _ (Ext.new hp) hp upd_same⟩
end
/-- what _law_fields promises of the exception p -/
def spFd (K : PySem.W.Frag) : Addr × Obj → Sp := fun p vs H Q _ => ∃ C d fs z ws, vs = [.ref p.1] ∧ XcF K C ∧ Zc (.ref C) (some d) p.2 ∧ (∃ us, p.2.data = .fields us) ∧ H d = some (.xd fs) ∧ fs.lookup ("code" : Str) = some (V.str z) ∧
  Paired (fun f v => fs.lookup f = some v) (fldG z) ws ∧ ∀ r H', Ext H H' → H r = none → H' r = some (.tup ws) → Q (.ref r) H'
def tFd (K : PySem.W.Frag) (a d : Addr) : TS :=
  tSeq (tIfS (tTest (tOp (rIn K false) (tXp a d "code" (tVar 0)) (tTup (tStrs ["InvalidSize", "InvalidNode", "InvalidCount"])))) (tSeq (tRet (tTup (tFlds a d ["given"]))) tNext) tNext)
  (tSeq (tIfS (tTest (tOp (rIn K false) (tXp a d "code" (tVar 0)) (tTup (tStrs ["TooLarge", "CapacityExceeded"])))) (tSeq (tRet (tTup (tFlds a d ["bound"]))) tNext) tNext)
  (tSeq (tIfS (tTest (tOp (rIn K false) (tXp a d "code" (tVar 0)) (tTup (tStrs ["InvalidName", "DuplicateName", "UnknownName", "UnknownRelation"])))) (tSeq (tRet (tTup (tFlds a d ["name"]))) tNext) tNext)
  (tSeq (tIfS (tTest (tOp (rIn K false) (tXp a d "code" (tVar 0)) (tTup (tStrs ["InvalidRelation", "InvalidRow", "NotKept", "ParseError"])))) (tSeq (tRet (tTup (tFlds a d ["at"]))) tNext) tNext)
  (tSeq (tIfS (tTest (tOp rEq (tXp a d "code" (tVar 0)) (tC (.str "Revealed")))) (tSeq (tRet (tTup (tFlds a d ["name", "group"]))) tNext) tNext)
  (tSeq (tRet (tIf (tTest (tOp rEq (tXp a d "code" (tVar 0)) (tC (.str "InvalidDeed")))) (tTup (tFlds a d ["first"])) (tTup (tFlds a d [])))) tNext)))))
theorem fd_read {K : PySem.W.Frag} {a d : Addr} {fs : List (Str × V)} {z : Str} {ws : List V} {Q : VK} {H : Hp} (hd : H d = some (.xd fs)) (hl : fs.lookup ("code" : Str) = some (V.str z)) (hw : Paired (fun f v => fs.lookup f = some v) (fldG z) ws)
    (q : ∀ r H', Ext H H' → H r = none → H' r = some (.tup ws) → Q (.ref r) H') : tFd K a d (EndQ Q) [some (.ref a)] H := by
  have e : ∀ {H1 : Hp}, Ext H H1 → H1 d = some (.xd fs) := fun x => x d _ hd
  have hz : ws.length ≤ sizeLine := by
    have h1 : ws.length = (fldG z).length := (pr_len hw).symm
    have h2 : (fldG z).length ≤ 2 := by unfold fldG; (repeat' split) <;> decide
    rw [sizeLine_eq]; omega
  have fin : ∀ {H1 : Hp} {gs : List Str}, Ext H H1 → fldG z = gs → tTup (tFlds a d gs) [some (.ref a)] H1 Q := fun {H1 gs} x eg => by
    subst eg
    exact tup_read rfl (e x) hw hz fun p H' x2 hp hq => q p H' (x.trans x2) (x.back hp) hq
  have lim : ∀ n : Nat, n ≤ 10 → n ≤ sizeLine := fun n h => by rw [sizeLine_eq]; omega
  refine t_in rfl hd hl (lim _ (by decide)) fun H1 x1 => ?_
  by_cases c1 : hit z ["InvalidSize", "InvalidNode", "InvalidCount"] = true
  · rw [if_pos c1]; exact fin x1 (by unfold fldG; rw [if_pos c1])
  rw [if_neg c1]
  refine t_in rfl (e x1) hl (lim _ (by decide)) fun H2 x2 => ?_
  have y2 := x1.trans x2
  by_cases c2 : hit z ["TooLarge", "CapacityExceeded"] = true
  · rw [if_pos c2]; exact fin y2 (by unfold fldG; rw [if_neg c1, if_pos c2])
  rw [if_neg c2]
  refine t_in rfl (e y2) hl (lim _ (by decide)) fun H3 x3 => ?_
  have y3 := y2.trans x3
  by_cases c3 : hit z ["InvalidName", "DuplicateName", "UnknownName", "UnknownRelation"] = true
  · rw [if_pos c3]; exact fin y3 (by unfold fldG; rw [if_neg c1, if_neg c2, if_pos c3])
  rw [if_neg c3]
  refine t_in rfl (e y3) hl (lim _ (by decide)) fun H4 x4 => ?_
  have y4 := y3.trans x4
  by_cases c4 : hit z ["InvalidRelation", "InvalidRow", "NotKept", "ParseError"] = true
  · rw [if_pos c4]; exact fin y4 (by unfold fldG; rw [if_neg c1, if_neg c2, if_neg c3, if_pos c4])
  rw [if_neg c4]
  refine t_eqz rfl (e y4) hl ?_
  by_cases c5 : decide (V.str z = V.str "Revealed") = true
  · rw [if_pos c5]; exact fin y4 (by unfold fldG; rw [if_neg c1, if_neg c2, if_neg c3, if_neg c4, if_pos c5])
  rw [if_neg c5]
  refine t_eqz rfl (e y4) hl ?_
  by_cases c6 : decide (V.str z = V.str "InvalidDeed") = true
  · rw [if_pos c6]; exact fin y4 (by unfold fldG; rw [if_neg c1, if_neg c2, if_neg c3, if_neg c4, if_neg c5, if_pos c6])
  · rw [if_neg c6]; exact fin y4 (by unfold fldG; rw [if_neg c1, if_neg c2, if_neg c3, if_neg c4, if_neg c5, if_neg c6])
end Pw

set_option maxHeartbeats 4000000
/-! PxG: _law_told. -/
namespace Pw
open PySem PySem.Spec PyProof.Rows L2 L2H LamX

/-- a field of the exception (a, oe) of the context, its class told later -/
def tXq (K : PySem.W.Frag) (cls : Value) (d : Option Addr) (a : Addr) (n : Str) (te : TE) : TE := fun σ H Q => te σ H fun x H1 => x = .ref a ∧ ∃ (C dd : Addr) (fs : List (Str × V)) (v : V), cls = .ref C ∧ d = some dd ∧ XfC K C ∧ PySem.W.findIn K (.ref C) n = some none ∧ H1 dd = some (.xd fs) ∧ fs.lookup n = some v ∧ Q v H1
theorem pe_xq {X : Cx} {a : Addr} {cls : Value} {d : Option Addr} {oe : Obj} {te : TE} {n : Str} {e : Expr} {pos : Pos} (hp : (a, oe) ∈ X.pn) (hz : Zc cls d oe) (hf : ∃ vs, oe.data = .fields vs) (he : PE X e te) (hb : attributeBase e n X.env (eval e X.env) = eval e X.env) :
    PE X (.Attribute e n pos) (tXq X.K cls d a n te) := by
  refine ⟨fun pins s σ H Q I h => attr_of hb (thn (he.run pins s σ H _ I h) fun u s1 hh => ?_)⟩
  obtain ⟨x, H1, I1, rx, ex, C, dd, fs, v, ec, ed, T, hno, ea, l, q⟩ := hh
  subst ex ec ed
  obtain rfl : u = Value.ref a := rx
  obtain ⟨ha, _⟩ := I1.pin (a, oe) (List.mem_append_left _ hp)
  obtain ⟨vs, hd⟩ := hf
  obtain ⟨mA, hns, hr⟩ := (show ObjOk X.prog X.w H1 s1.heap dd (.xd fs) from I1.hok dd _ ea)
  obtain ⟨od, ho, hl⟩ := lookIn_ns hns
  obtain ⟨u, hu, ru⟩ := RelO.some_of (v := v) (o := mA n) (by rw [← l]; exact hr n)
  have J : PySem.W.InstAt s1.heap a oe C (some od) := ⟨ha, hz.1, by unfold PySem.W.notCls; rw [hd] <;> rfl, by rw [hz.2]; exact ho⟩
  exact HandSPX.exc_get I1.kIn J T.ga T.gg T.exC (PySem.W.findObj_own T.hdC hno rfl (by rw [hl, hu])) (handed_of ru) ⟨v, H1, I1.tok _, ru, q⟩
theorem roomH_mark {k : Nat} {A : Around} {v : Option Value} (r : RoomH k A) : RoomH k (A.mark v) := ⟨r.dp, r.un⟩
/-- what is wished of what the lambda raises -/
def wTold (K : PySem.W.Frag) (cs : List Value) (Q : VK) : XK := fun cls d H' => ∃ C dd fs z ws, cls = .ref C ∧ d = some dd ∧ PySem.W.exmAny K cls cs = some true ∧ XcF K C ∧ H' dd = some (.xd fs) ∧ fs.lookup ("code" : Str) = some (V.str z) ∧
  Paired (fun f v => fs.lookup f = some v) (fldG z) ws ∧ ∀ p H'', Ext H' H'' → H' p = none → H'' p = some (.tup (.str "no" :: .str z :: ws)) → Q (.ref p) H''
def TTld (K : PySem.W.Frag) (cs : List Value) : (XK → Hp → VK → Prop) → Hp → VK → Prop := fun tl H Q => tl (wTold K cs Q) H fun v H' => [V.str "told", v].length ≤ sizeLine ∧ ∀ p, H' p = none → Q (.ref p) (upd H' p (.tup [.str "told", v]))
/-- the def that calls the lambda that it got -/
def Gives (X : Cx) (k : Nat) (Ng : List Str) (x : Str) (sg : Scope) (g : Addr) (cdg : Value) (bg : List Stmt) (a : Str) (q : Str) (TT : (XK → Hp → VK → Prop) → Hp → VK → Prop) : Prop :=
  ∀ (f c' : Addr) (s : Shared) (H : Hp) (Q : VK) (tl : XK → Hp → VK → Prop), Room k (X.A.deeper (envOfC x sg s.heap.objs.size g cdg)) →
    (∀ (W : WX) (pn : List (Addr × Obj)) (xe : Value → Shared → Prop) (E : XK) (p1 p2 : Pos), Takes ((cxOf C8.CX0 X.prog X.w X.K X.mg X.base Ng x sg g cdg X.A X.stack s H C8.E0).tr pn xe) W → (∀ cls d σ' H', E cls d H' → W cls d σ' H') →
      PE ((cxOf C8.CX0 X.prog X.w X.K X.mg X.base Ng x sg g cdg X.A X.stack s H C8.E0).tr pn xe) (.Call (.Name a p1) [] [] p2) (fun σZ HZ Q => σZ[0]? = some (some (.ref f)) ∧ HZ c' = some (CodeO c' q) ∧ tl E HZ Q)) →
    H c' = some (CodeO c' q) → TT tl H Q →
    ∃ t, PSs (cxOf C8.CX0 X.prog X.w X.K X.mg X.base Ng x sg g cdg X.A X.stack s H C8.E0).nox bg t ∧ t { nx := fun _ H' => Q .non H', rt := Q } (L2.start Ng [.ref f]) H
abbrev toldB (p1 p2 p3 p4 p5 p6 p7 p8 p9 p10 p11 p12 p13 p14 p15 p16 p17 p18 p19 p20 : Pos) (k1 k2 k3 j1 j2 : Nat) : List Stmt :=
  [.Try [.Return (some (.Tuple [.Constant (.str "told") j1 p1, .Call (.Name "_law_deed" p2) [] [] p3] k1 p4)) p5]
    [.ExceptHandler (some (.Tuple [.Name "CountError" p6, .Name "Missing" p7, .Name "NothingLeft" p8] k2 p9)) (some "_law_e")
      [.Return (some (.BinOp (.Tuple [.Constant (.str "no") j2 p10, .Attribute (.Name "_law_e" p11) "code" p12] k3 p13) .Add (.Call (.Name "_law_fields" p14) [.Name "_law_e" p15] [] p16) p17)) p18] p19] [] [] p20]
section
variable {X : Cx}
theorem told_gives {x q : Str} {sg : Scope} {g gf c1 c2 c3 : Addr} {cdg : Value} {k kf : Nat} {fdf : FuncData} {psf : List Str} {p1 p2 p3 p4 p5 p6 p7 p8 p9 p10 p11 p12 p13 p14 p15 p16 p17 p18 p19 p20 : Pos} {k1 k2 k3 j1 j2 : Nat}
    (F : FnP X.prog X.w X.K X.mg X.base (L2.CX X.prog X.w) kf gf fdf psf (spFd X.K)) (hk : kf ≤ k) (hmf : X.mg "_law_fields" = some (.ref gf)) (hkf : PySem.W.keepIn X.K (.ref gf) = true) (hbf : L2.Binds X.K fdf psf [])
    (g1 : sg.names.lookup ("CountError" : Str) = some .globalImplicit) (g2 : sg.names.lookup ("Missing" : Str) = some .globalImplicit) (g3 : sg.names.lookup ("NothingLeft" : Str) = some .globalImplicit) (g4 : sg.names.lookup ("_law_fields" : Str) = some .globalImplicit)
    (g5 : sg.names.lookup ("_law_e" : Str) = some .local) (m1 : X.mg "CountError" = some (.ref c1)) (m2 : X.mg "Missing" = some (.ref c2)) (m3 : X.mg "NothingLeft" = some (.ref c3)) :
    Gives X k ["_law_deed", "_law_e"] x sg g cdg (toldB p1 p2 p3 p4 p5 p6 p7 p8 p9 p10 p11 p12 p13 p14 p15 p16 p17 p18 p19 p20 k1 k2 k3 j1 j2) "_law_deed" q (TTld X.K [.ref c1, .ref c2, .ref c3]) := by
  intro f c' s H Q tl hr act hc h
  refine ⟨_, pss_one (ps_try_as3 (X := (cxOf C8.CX0 X.prog X.w X.K X.mg X.base ["_law_deed", "_law_e"] x sg g cdg X.A X.stack s H C8.E0).nox) (i := 1) (c1 := .ref c1) (c2 := .ref c2) (c3 := .ref c3)
      (tb := fun W D σ H => ∃ Ech : XK, (∀ cls d σ' H', Ech cls d H' → W cls d σ' H') ∧ σ[0]? = some (some (.ref f)) ∧ H c' = some (CodeO c' q) ∧ tl Ech H fun v H' => [V.str "told", v].length ≤ sizeLine ∧ ∀ p, H' p = none → D.rt (.ref p) (upd H' p (.tup [.str "told", v])))
      (ts := fun a cls d => fun D σ H => σ[1]? = some (some (.ref a)) ∧ wTold X.K [.ref c1, .ref c2, .ref c3] D.rt cls d H)
      rfl rfl (show (["_law_deed", "_law_e"] : List Str).Nodup by decide) rfl g5 ⟨g1, by decide, .inl m1⟩ ⟨g2, by decide, .inl m2⟩ ⟨g3, by decide, .inl m3⟩ (fun W pn xe tk _ => ?_) (fun a oe cls d pn hz hf => ?_)), ?_⟩
  · refine ⟨fun pins s' σ H' D I h' => ?_⟩
    obtain ⟨Ech, hW, h1, h2, h3⟩ := h'
    have hp := act W pn xe Ech p2 p3 tk hW
    have hq := pss_one (ps_ret (pos := p5) (pe_tup (x1 := k1) (pos := p4) (pa_cons (pe_str (x := "told") (j := j1) (pos := p1)) (pa_cons hp pa_nil))))
    exact hq.run pins s' σ H' D I ⟨h1, h2, h3⟩
  · have hpn : (a, oe) ∈ ((cxOf C8.CX0 X.prog X.w X.K X.mg X.base ["_law_deed", "_law_e"] x sg g cdg X.A X.stack s H C8.E0).nox.suite a ((a, oe) :: pn)).pn := List.mem_cons_self ..
    have v1 : ∀ {p : Pos}, PE ((cxOf C8.CX0 X.prog X.w X.K X.mg X.base ["_law_deed", "_law_e"] x sg g cdg X.A X.stack s H C8.E0).nox.suite a ((a, oe) :: pn)) (.Name "_law_e" p) (tVar 1) := pe_var (i := 1) rfl (.inl g5)
    have e1 := pe_tup (x1 := k3) (pos := p13) (pa_cons (pe_str (x := "no") (j := j2) (pos := p10)) (pa_cons (pe_xq (X := ((cxOf C8.CX0 X.prog X.w X.K X.mg X.base ["_law_deed", "_law_e"] x sg g cdg X.A X.stack s H C8.E0).nox.suite a ((a, oe) :: pn))) (n := "code") (pos := p12) hpn hz hf (v1 (p := p11)) rfl) pa_nil))
    have e2 := pe_callP (X := ((cxOf C8.CX0 X.prog X.w X.K X.mg X.base ["_law_deed", "_law_e"] x sg g cdg X.A X.stack s H C8.E0).nox.suite a ((a, oe) :: pn))) (p := (a, oe)) (q := p14) (pos := p16) F (roomH_mark (roomH_of (hr.mono hk))) hpn g4 hmf hkf hbf (v1 (p := p15)) (by decide)
    refine pssImp (pss_one (ps_ret (pos := p18) (pe_op (pos := p17) op_catT e1 e2))) fun D σ H1 ⟨h1, C, dd, fs, z, ws, ec, ed, hx, XC, hd, hl, hw, hq⟩ => ?_
    subst ec ed
    refine ⟨.ref a, h1, rfl, C, dd, fs, .str z, rfl, rfl, XC.xf, XC.no _ (by simp), hd, hl, by rw [sizeLine_eq]; simp, fun r hr1 => ?_⟩
    have x1 : Ext H1 (upd H1 r (.tup [.str "no", .str z])) := Ext.new hr1
    refine ⟨.ref a, h1, C, dd, fs, z, ws, rfl, XC, hz, hf, x1 _ _ hd, hl, hw, fun r2 H2 x2 hr2 h2 => ?_⟩
    have hr1' := x2 r _ upd_same
    have hz2 : ws.length ≤ 2 := by
      rw [← pr_len hw]
      unfold fldG; (repeat' split) <;> decide
    refine ⟨r, r2, [.str "no", .str z], ws, rfl, rfl, SqT.of hr1', SqT.of h2, by simp, by rw [sizeLine_eq]; simp; omega, fun en => ?_, fun ne p hp => ?_⟩
    · subst en
      exact hq r H2 (x1.trans x2) hr1 hr1'
    · exact hq p _ ((x1.trans x2).trans (Ext.new hp)) ((x1.trans x2).back hp) upd_same
  · exact ⟨wTold X.K [.ref c1, .ref c2, .ref c3] Q, fun cls d σ' H' hw => ⟨by obtain ⟨_, _, _, _, _, _, _, hx, _⟩ := hw; exact hx, fun a ha hl => ⟨by rw [List.getElem?_set_self hl], hw⟩⟩, rfl, hc, h⟩
end
end Pw

set_option maxHeartbeats 4000000
/-! PxH: a lambda made, with at most one default (a whole number), and what calls it. -/
namespace Pw
open PySem PySem.Spec PyProof.Rows L2 L2H LamX

abbrev lamFd (qual : Str) (params : Arguments) (body : Expr) (scope : Scope) (cl : List (Str × Addr)) (dV doc pm cdv ctv : Value) : FuncData := PySem.W.kdv_fn "<lambda>" qual params (.expr body) scope cl dV doc pm cdv ctv
/-- no parameter; or one with a whole number as default -/
inductive LamD (params : Arguments) (body : Expr) (scope : Scope) : Prop where
  | none (h1 : params.defaults = []) (h2 : params.kw_defaults = []) (h3 : ∀ q cl doc pm cv ctv, bindArgs (lamFd q params body scope cl .none doc pm cv ctv) ⟨[], []⟩ = pure [])
  | one (z : Str) (n : Int) (j : Nat) (p : Pos) (h1 : params.defaults = [.Constant (.int n) j p]) (h2 : params.kw_defaults = []) (hz : scope.names.lookup z = some .local)
    (h3 : ∀ q cl dV doc pm cv ctv, ∃ k, bindArgs (lamFd q params body scope cl dV doc pm cv ctv) ⟨[], []⟩ = seqItems? dV >>= k ∧ ∀ u, k (some #[u]) = pure [(z, u)])
/-- its own names are cells of nobody, and the def that makes it does not use them -/
structure LamS1 (N : List Str) (sc scope : Scope) : Prop where
  kind : scope.kind = .function
  co : scope.isCoroutine = false
  gen : scope.isGenerator = false
  own : ∀ y ∈ scope.names, y.2 ≠ .cell ∧ (y.2 = .local → y.1 ∉ N)
  free : ∀ y ∈ scope.names, y.2 = .free → sc.names.lookup y.1 = some .cell ∨ sc.names.lookup y.1 = some .free
def lamSB1 (N : List Str) (sc scope : Scope) : Bool :=
  decide (scope.kind = .function) && !scope.isCoroutine && !scope.isGenerator && scope.names.all fun y => !decide (y.2 = .cell) && (!decide (y.2 = .local) || !decide (y.1 ∈ N)) && (!decide (y.2 = .free) || decide (sc.names.lookup y.1 = some .cell) || decide (sc.names.lookup y.1 = some .free))
theorem lamS1_by {N : List Str} {sc scope : Scope} (h : lamSB1 N sc scope = true) : LamS1 N sc scope := by
  unfold lamSB1 at h
  simp only [Bool.and_eq_true, Bool.or_eq_true, Bool.not_eq_true', decide_eq_true_eq, decide_eq_false_iff_not, List.all_eq_true] at h
  obtain ⟨⟨⟨h1, h2⟩, h3⟩, h4⟩ := h
  refine ⟨h1, h2, h3, fun y hy => ⟨(h4 y hy).1.1, fun e => (h4 y hy).1.2.resolve_left fun z => z e⟩, fun y hy e => ?_⟩
  rcases (h4 y hy).2 with (z | z) | z
  · exact absurd e z
  · exact .inl z
  · exact .inr z
theorem LamS1.has {X : Cx} {N : List Str} {scope : Scope} (L : LamS1 N X.env.scope scope) (ok : X.Ok) : ∀ y ∈ scope.names, y.2 = .free → ∃ c, X.env.cells.lookup y.1 = some c := fun y hy e => by
  rcases L.free y hy e with k | k
  · exact ok.has _ (.inl k)
  · exact ok.has _ (.inr k)
section
variable {X : Cx} {pins : List (Addr × Obj)} {σ : L2.St} {H : Hp} {s : Shared}
/-- what stands at f: a lambda; R: what it needs of the heap to be called -/
structure LamAt (X : Cx) (params : Arguments) (body : Expr) (scope : Scope) (H : Hp) (h : Heap) (f c' : Addr) (fd : FuncData) (Ls : List Addr) : Prop where
  eq : ∃ dV doc pm ctv, fd = lamFd (X.env.qual ++ "<lambda>") params body scope (cloFrom X.env.cells scope.names []) dV doc pm (.ref c') ctv
  at_ : h.get? f = some { cls := .type "function", data := .func fd }
  fr : ∀ b ∈ f :: Ls, H b = none ∧ b ∉ frs X.stack ∧ ∃ o, h.get? b = some o
  bind : ∀ s1 : Shared, (∀ b ∈ Ls, ∀ o, h.get? b = some o → s1.heap.get? b = some o) → ∃ binds, BindsTo s1 fd ⟨[], []⟩ binds ∧ ∀ y ∈ binds, scope.names.lookup y.1 = some .local
/-- the tail of the making; nothing that was tracked is gone -/
theorem lam_tail {T : List (Addr × Str)} {c P : Addr} {params : Arguments} {body : Expr} {scope : Scope} {pos : Pos} {fl : Nat} {dV : Value} {Ls : List Addr} {E : Value → Shared → Prop} {Q : Value → Shared → Prop} (I : Inv X pins σ H s) (TB : TabB X.base X.mg c P) (hcode : X.env.code = .ref c)
    (hm : (P, X.env.qual ++ "<lambda>") ∈ T) (hu : ∀ p ∈ T, p.1 = P → p.2 = X.env.qual ++ "<lambda>") (hT : Tabs T H) (hfree : ∀ y ∈ scope.names, y.2 = .free → ∃ c, X.env.cells.lookup y.1 = some c)
    (hL : ∀ b ∈ Ls, H b = none ∧ b ∉ frs X.stack ∧ ∃ o, s.heap.get? b = some o)
    (hB : ∀ (doc pm ctv : Value) (c' : Addr) (s1 : Shared), (∀ b ∈ Ls, ∀ o, s.heap.get? b = some o → s1.heap.get? b = some o) → ∃ binds, BindsTo s1 (lamFd (X.env.qual ++ "<lambda>") params body scope (cloFrom X.env.cells scope.names []) dV doc pm (.ref c') ctv) ⟨[], []⟩ binds ∧ ∀ y ∈ binds, scope.names.lookup y.1 = some .local)
    (h : ∀ (f c' : Addr) (fd : FuncData) (H1 : Hp) (s' : Shared), Inv X pins σ H1 s' → ExtN H H1 → (∀ b, H1 b = none → H b = none) → Tabs T H1 →
      LamAt X params body scope H1 s'.heap f c' fd Ls → H1 c' = some (CodeO c' (X.env.qual ++ "<lambda>")) → Q (.ref f) s') :
    wpAny (model X.prog X.w) X.A (makeTail "<lambda>" (X.env.qual ++ "<lambda>") params (.expr body) scope X.env dV .none none pos fl) Q E s := by
  obtain ⟨ps, hP, ht, ha⟩ := hT _ hm
  have bP := TB.bm.keeps I.bk
  have hP' : s.heap.get? P = some { cls := .none, data := .fields ps } := I.hok P _ hP
  have nofr : ∀ f, s.heap.objs.size ≤ f → f ∉ frs X.stack := fun f hf z => (List.mem_cons.mp (I.stkSub _ z)).elim (fun e => by
    have h1 := I.lt
    rw [← e] at h1
    exact absurd (Nat.lt_of_lt_of_le h1 hf) (Nat.lt_irrefl _)) fun e => I.nofs hf e
  cases hc : codeAmong pos ps.toList with
  | some cv =>
    obtain ⟨c', rfl, hco⟩ := ha pos cv hc
    refine PySem.W.kdv_makeTailHit (mg := X.mg) (c := c) (P := P) (ps := ps) (closure_ok hfree) I.ok.glob (I.mod.glob.keeps I.bk) hcode (TB.code.keeps I.bk) hP' ht hc bP fun ctv doc h' tk hx hsz => ?_
    have kp : ∀ b o, s.heap.get? b = some o → (h'.push (PySem.W.kdv_obj "<lambda>" (X.env.qual ++ "<lambda>") params (.expr body) scope (cloFrom X.env.cells scope.names []) dV doc ((X.mg "__name__").getD .none) c' ctv)).get? b = some o := fun b o e => Heap.get?_push_of_some _ (hx b o e)
    refine h h'.objs.size c' _ H _ (I.kept (t' := tk) kp) (ExtN.refl H) (fun _ z => z) hT ⟨⟨dV, doc, _, ctv, rfl⟩, Heap.get?_push_size _ rfl, fun b hb => ?_, fun s1 h1 => hB _ _ _ _ s1 fun b hb o e => h1 b hb o (kp b o e)⟩ hco
    rcases List.mem_cons.mp hb with rfl | hb
    · exact ⟨I.hok.fresh hsz, nofr _ hsz, _, Heap.get?_push_size _ rfl⟩
    · obtain ⟨h1, h2, o, h3⟩ := hL b hb
      exact ⟨h1, h2, o, kp b o h3⟩
  | none =>
    refine PySem.W.kdv_makeTail (mg := X.mg) (c := c) (P := P) (ps := ps) (closure_ok hfree) I.ok.glob (I.mod.glob.keeps I.bk) hcode (TB.code.keeps I.bk) hP' ht hc TB.gP bP fun c' ctv doc h' tk hx hge hlt hrec htb => ?_
    obtain ⟨c2, oc, vs, t, e2, hoc, hd, hv⟩ := hrec
    cases e2
    have hsz : s.heap.objs.size ≤ h'.objs.size := Nat.le_trans hge (Nat.le_of_lt hlt)
    have nC : H c' = none := I.hok.fresh hge
    have nPc : P ≠ c' := ne_of_none hP nC
    generalize hps : ps ++ #[rawInt pos.line, rawInt pos.col, .ref c'] = ps2 at *
    have kp : ∀ b o, b ≠ P → s.heap.get? b = some o → (h'.push (PySem.W.kdv_obj "<lambda>" (X.env.qual ++ "<lambda>") params (.expr body) scope (cloFrom X.env.cells scope.names []) dV doc ((X.mg "__name__").getD .none) c' ctv)).get? b = some o := fun b o hb e => Heap.get?_push_of_some _ (hx b o hb e)
    have I1 := inv_table (t' := tk) (more := #[rawInt pos.line, rawInt pos.col, .ref c']) I hP kp (by rw [hps]; exact Heap.get?_push_of_some _ htb) hge ⟨oc, vs, t, Heap.get?_push_of_some _ hoc, hd, hv⟩
    rw [hps] at I1
    have look : ∀ b o, H b = some o → (∀ qs, o ≠ .tbl qs) → upd (upd H P (.tbl ps2)) c' (CodeO c' (X.env.qual ++ "<lambda>")) b = some o := fun b o e n => by
      rw [upd_ne (ne_of_none e nC), upd_ne (fun z => by rw [z, hP] at e; cases e; exact n ps rfl)]
      exact e
    have nP : ∀ b, H b = none → b ≠ P := fun b e z => by rw [z, hP] at e; cases e
    refine h h'.objs.size c' _ _ _ I1 look (fun b z => ?_) (fun p hp => ?_) ⟨⟨dV, doc, _, ctv, rfl⟩, Heap.get?_push_size _ rfl, fun b hb => ?_, fun s1 h1 => hB _ _ _ _ s1 fun b hb o e => h1 b hb o (kp b o (nP b (hL b hb).1) e)⟩ upd_same
    · by_cases b1 : b = c'
      · rw [b1]; exact nC
      · rw [upd_ne b1] at z
        by_cases b2 : b = P
        · rw [b2, upd_same] at z; cases z
        · rw [upd_ne b2] at z; exact z
    · by_cases hb : p.1 = P
      · rw [hu p hp hb, hb]
        refine ⟨ps2, by rw [upd_ne nPc, upd_same], by rw [← hps]; simpa using PySem.TriplesOk_snoc _ _ _ _ ht, fun p' cv hcv => ?_⟩
        rw [← hps] at hcv
        rcases among_app (c := .ref c') (pos := pos) ps.toList ht (by simpa using hcv) with z | z
        · obtain ⟨c0, e1, e2⟩ := ha p' cv z
          exact ⟨c0, e1, look _ _ e2 codeO_ne⟩
        · exact ⟨c', z, upd_same⟩
      · obtain ⟨qs, a1, a2, a3⟩ := hT p hp
        refine ⟨qs, by rw [upd_ne (ne_of_none a1 nC), upd_ne hb]; exact a1, a2, fun p' cv hcv => ?_⟩
        obtain ⟨c0, e1, e2⟩ := a3 p' cv hcv
        exact ⟨c0, e1, look _ _ e2 codeO_ne⟩
    · rcases List.mem_cons.mp hb with rfl | hb
      · refine ⟨?_, nofr _ hsz, _, Heap.get?_push_size _ rfl⟩
        rw [upd_ne (Nat.ne_of_gt hlt), upd_ne (Nat.ne_of_gt (Nat.lt_of_lt_of_le (Heap.lt_size hP') hsz))]
        exact I.hok.fresh hsz
      · obtain ⟨h1, h2, o, h3⟩ := hL b hb
        have b2 : b ≠ c' := fun z => by
          rw [z] at h3
          exact Nat.lt_irrefl _ (Nat.lt_of_lt_of_le (Heap.lt_size h3) hge)
        exact ⟨by rw [upd_ne b2, upd_ne (nP b h1)]; exact h1, h2, o, kp b o (nP b h1) h3⟩
theorem lam_mk {T : List (Addr × Str)} {c P : Addr} {params : Arguments} {body : Expr} {scope : Scope} {pos : Pos} {E : Value → Shared → Prop} {Q : Value → Shared → Prop} (I : Inv X pins σ H s) (TB : TabB X.base X.mg c P) (hcode : X.env.code = .ref c)
    (hm : (P, X.env.qual ++ "<lambda>") ∈ T) (hu : ∀ p ∈ T, p.1 = P → p.2 = X.env.qual ++ "<lambda>") (hT : Tabs T H) (hd : LamD params body scope) (hfree : ∀ y ∈ scope.names, y.2 = .free → ∃ c, X.env.cells.lookup y.1 = some c)
    (h : ∀ (f c' : Addr) (fd : FuncData) (Ls : List Addr) (H1 : Hp) (s' : Shared), Inv X pins σ H1 s' → ExtN H H1 → (∀ b, H1 b = none → H b = none) → Tabs T H1 →
      LamAt X params body scope H1 s'.heap f c' fd Ls → H1 c' = some (CodeO c' (X.env.qual ++ "<lambda>")) → Q (.ref f) s') :
    wpAny (model X.prog X.w) X.A (eval (.Lambda params body scope pos) X.env) Q E s := by
  rw [arm_eval_Lambda, defaultsOf_eq]
  show wpAny _ _ (do let dv ← evalAll (evalEach params.defaults X.env); let kdv ← holding dv (evalAllOpt (evalEachOpt params.kw_defaults X.env)); makeFunction "<lambda>" (X.env.qual ++ "<lambda>") params (.expr body) scope X.env dv kdv [] pos pos.line) _ _ _
  have nofr : ∀ {s : Shared} (I : Inv X pins σ H s) f, s.heap.objs.size ≤ f → f ∉ frs X.stack := fun I f hf z => (List.mem_cons.mp (I.stkSub _ z)).elim (fun e => by
    have h1 := I.lt
    rw [← e] at h1
    exact absurd (Nat.lt_of_lt_of_le h1 hf) (Nat.lt_irrefl _)) fun e => I.nofs hf e
  cases hd with
  | none h1 h2 h3 =>
    rw [h1, h2]
    refine wpAny_bind (evalAll_nil (wpAny_bind (wpAny_holding (wpAny_pure ?_))))
    rw [makeFunction_eq]
    simp only [List.zip_nil_right, List.filterMap_nil, List.isEmpty_nil, if_true, pure_bind]
    exact lam_tail (Ls := []) I TB hcode hm hu hT hfree (fun b hb => absurd hb List.not_mem_nil) (fun doc pm ctv c' s1 _ => ⟨[], .of_eq (h3 _ _ _ _ _ _), fun y hy => absurd hy List.not_mem_nil⟩) fun f c' fd H1 s' => h f c' fd [] H1 s'
  | one z n j p h1 h2 hz h3 =>
    rw [h1, h2]
    refine wpAny_bind (evalAll_cons (wpAny_Constant_int (evalAll_nil (wpAny_bind (wpAny_holding (wpAny_pure ?_))))))
    rw [makeFunction_eq]
    simp only [List.zip_nil_right, List.filterMap_nil, List.isEmpty_nil, List.isEmpty_cons, Bool.false_eq_true, if_false, if_true, pure_bind]
    refine wpAny_bind (wpAny_newTextTuple ?_)
    have I1 : ∀ o : Obj, Inv X pins σ H { s with heap := s.heap.push o, toks := s.toks + 1 } := fun o => I.kept (t' := s.toks + 1) fun b u e => Heap.get?_push_of_some o e
    refine lam_tail (Ls := [s.heap.objs.size]) (I1 _) TB hcode hm hu hT hfree (fun b hb => ?_) (fun doc pm ctv c' s1 hk => ?_) fun f c' fd H1 s' => h f c' fd _ H1 s'
    · rw [List.mem_singleton] at hb
      subst hb
      exact ⟨I.hok.fresh (Nat.le_refl _), nofr I _ (Nat.le_refl _), _, Heap.get?_push_size _ rfl⟩
    · obtain ⟨k, e1, e2⟩ := h3 (X.env.qual ++ "<lambda>") (cloFrom X.env.cells scope.names []) (.ref s.heap.objs.size) doc pm (.ref c') ctv
      exact ⟨_, .of_defaults rfl (hk _ (List.mem_singleton.mpr rfl) _ (Heap.get?_push_size _ rfl)) rfl e1 (e2 _), fun y hy => by rw [List.mem_singleton] at hy; rw [hy]; exact hz⟩
/-- what a lambda captures are the cells of the def that makes it -/
theorem LamS1.cell {N : List Str} {scope : Scope} (L : LamS1 N X.env.scope scope) (ok : X.Ok) {y : Str} {c : Addr} (e : (cloFrom X.env.cells scope.names []).lookup y = some c) : X.env.cells.lookup y = some c := by
  rcases cloFrom_mem (PySem.mem_of_lookup e) with z | ⟨h1, h2⟩
  · exact nomatch z
  obtain ⟨d, hd⟩ := L.has ok _ h1 rfl
  have hd : X.env.cells.lookup y = some d := hd
  rw [hd] at h2 ⊢
  rw [h2]; rfl
theorem LamS1.captured {N : List Str} {scope : Scope} (L : LamS1 N X.env.scope scope) {y : Str} (e : scope.names.lookup y = some .free) : ∃ c, (cloFrom X.env.cells scope.names []).lookup y = some c :=
  mem_lookup (cloFrom_has (cells := X.env.cells) (acc := []) (n := y) (PySem.mem_of_lookup e))
theorem LamS1.noCell {N : List Str} {scope : Scope} (L : LamS1 N X.env.scope scope) {y : Str} (e : scope.names.lookup y = some .cell) : False := (L.own _ (PySem.mem_of_lookup e)).1 rfl
/-- the lambda's frame is laid in the state (s1, HZ), some calls away from where it was made -/
theorem lam_begin {HZ : Hp} {s1 : Shared} {m : Str → Option Value} {A : Around} {outer : List Env} {E : XK} {scope : Scope} {f c' : Addr} {h₁ : Heap} {tk : Nat} (I : Inv X pins σ H s) (L : LamS1 X.N X.env.scope scope) (e0 : Env0 X.prog X.w X.K X.mg X.base A outer s1 HZ) (hd : A.handled = none)
    (un : Un (frs X.stack) [] H HZ s.heap s1.heap) (hns : h₁.Ns s1.heap.objs.size m) (kp : ∀ b o, s1.heap.get? b = some o → h₁.get? b = some o) :
    Inv (lamCx X A outer s1 HZ E scope f c') [] σ HZ { s1 with heap := h₁, toks := tk } := by
  have stays : ∀ {c : Addr} {v : Option Value}, H c = none → s.heap.IsCell c v → h₁.IsCell c v := fun n ⟨o, ho, hd⟩ => by
    obtain ⟨sl, q⟩ := un.any ho n List.not_mem_nil
    exact ⟨_, kp _ _ q, hd⟩
  have none_ : ∀ {p : Prop} {b : Addr}, b ∈ (lamCx X A outer s1 HZ E scope f c').ex → p := fun z => absurd z List.not_mem_nil
  exact
  { ok :=
    { mod := e0.mod, kind := L.kind, glob := rfl, blt := rfl, above := Nat.le_refl _, hd := fun _ => hd, frames := Around.frames_deeper e0.frames, stk := .inr ⟨rfl, rfl⟩, bs := e0.bs, bsz := e0.bsz, funs := e0.funs, frf := e0.frf
      inj := fun x y c p q => I.ok.inj x y c (L.cell I.ok p) (L.cell I.ok q)
      has := fun x q => q.elim (fun z => (L.noCell z).elim) fun z => L.captured z
      cab := fun x c z => Bool.noConfusion (show false = true from z)
      exf := fun b z => none_ z
      noex := fun b o _ z => none_ z
      exfs := fun b z => none_ z }
    os := rfl, bare := e0.bare, base := Un.kept kp, free := e0.hok.fresh (Nat.le_refl _), hok := e0.hok.kept kp, len := I.len
    cell := fun x c e => (I.cell x c (L.cell I.ok e)).imp fun v z => stays (I.freeC x c (L.cell I.ok e)) z
    freeC := fun x c e => by
      obtain ⟨v, o, ho, _⟩ := I.cell x c (L.cell I.ok e)
      exact un.free c o ho (I.freeC x c (L.cell I.ok e)) List.not_mem_nil
    pin := fun q hq => absurd (show q ∈ ([] : List (Addr × Obj)) from hq) List.not_mem_nil
    loc := ⟨_, hns, fun i y v e1 e2 e3 => by
      have e3 : Vis scope y := e3
      rcases e3 with z | z | z
      · exact absurd (List.mem_of_getElem? e1) ((L.own _ (PySem.mem_of_lookup z)).2 rfl)
      · exact (L.noCell z).elim
      obtain ⟨m0, _, hl⟩ := I.loc
      have fr := L.free _ (PySem.mem_of_lookup z) rfl
      obtain ⟨u, r, q⟩ := hl i y v e1 e2 (.inr fr)
      obtain ⟨c, hc⟩ := L.captured z
      refine ⟨u, r, .inr ⟨.inr z, c, hc, ?_⟩⟩
      rcases q with ⟨k, _⟩ | ⟨_, d, hd, hq⟩
      · have k : X.env.scope.names.lookup y = some .local := k
        rcases fr with w | w <;> (rw [show X.env.scope.names.lookup y = _ from w] at k; cases k)
      · rw [L.cell I.ok hc] at hd
        cases hd
        exact stays (I.freeC y c (L.cell I.ok hc)) hq⟩ }
/-- it is called by the name that got it, in a def entered at s -/
theorem pe_lamCall {CXg : CXT} {Eg : XK} {Ng : List Str} {qg : Str} {sg : Scope} {g f c' : Addr} {cdg : Value} {fd : FuncData} {Ls : List Addr} {params : Arguments} {body : Expr} {scope : Scope} {k i : Nat} {a : Str} {pn : List (Addr × Obj)} {xe : Value → Shared → Prop} {W : WX} {E : XK} {tb : TE} {p1 p2 : Pos}
    (I : Inv X pins σ H s) (L : LamS1 X.N X.env.scope scope) (F : LamAt X params body scope H s.heap f c' fd Ls)
    (tk : Takes ((cxOf CXg X.prog X.w X.K X.mg X.base Ng qg sg g cdg X.A X.stack s H Eg).tr pn xe) W) (hW : ∀ cls d σ' H', E cls d H' → W cls d σ' H') (hr : Room (k + 1) (X.A.deeper (envOfC qg sg s.heap.objs.size g cdg)))
    (hbody : ∀ (A : Around) (outer : List Env) (s : Shared) (H : Hp), Room k (A.deeper (lamEnv X scope s.heap.objs.size f c')) → PE (lamCx X A outer s H E scope f c') body tb)
    (hN : Ng[i]? = some a) (hv : Vis sg a) (hd : (a == ("__debug__" : Str)) = false) (hcd : (a == ("__classdict__" : Str)) = false) :
    PE ((cxOf CXg X.prog X.w X.K X.mg X.base Ng qg sg g cdg X.A X.stack s H Eg).tr pn xe) (.Call (.Name a p1) [] [] p2)
      (fun σZ HZ Q => σZ[i]? = some (some (.ref f)) ∧ HZ c' = some (CodeO c' (X.env.qual ++ "<lambda>")) ∧ tb σ HZ Q) := ⟨fun pinsZ sZ σZ HZ Q IZ ⟨hs, hc, ht⟩ => by
  obtain ⟨⟨dV, doc, pm, ctv, rfl⟩, at_, fr, bind⟩ := F
  refine wpAny_Call_Name_kw (thn ((pe_var (pos := p1) (i := i) hN hv hd hcd).run pinsZ sZ σZ HZ (fun v H1 => v = .ref f ∧ H1 = HZ) IZ ⟨.ref f, hs, rfl, rfl⟩) ?_)
  rintro u s1 ⟨v, H1, I1, r1, rfl, rfl⟩
  obtain rfl : u = Value.ref f := r1
  have un : Un (frs X.stack) [] H H1 s.heap s1.heap := I1.base
  have keep : ∀ b, (b = f ∨ b ∈ Ls) → ∀ o, s.heap.get? b = some o → s1.heap.get? b = some o := fun b hb o e => by
    obtain ⟨n1, n2, _⟩ := fr b (List.mem_cons.mpr hb)
    exact un.keep b o e n1 n2 List.not_mem_nil
  have of1 := keep f (.inl rfl) _ at_
  refine PySem.W.callWith_F0 ⟨_, _, _, _, of1⟩ ?_
  obtain ⟨binds, hb, hl⟩ := bind s1 fun b hb o e => keep b (.inr hb) o e
  obtain ⟨⟨oc, vs, t, hoc, hdc, hvc⟩, _, _⟩ := I1.hok c' _ hc
  have rc : codeAny (model X.prog X.w) (X.A.deeper (envOfC qg sg s.heap.objs.size g cdg)) (.call (.ref f) ⟨[], []⟩) (CR (L2.CX X.prog X.w) (envOfC qg sg s.heap.objs.size g cdg :: X.stack) X.prog X.w H1 s1 Q E) s1 := by
    refine PySem.W.kla_callFunE hr.depth of1 rfl L.co L.gen rfl ⟨c', oc, vs, t, rfl, hoc, hdc, hvc⟩ (hb _ _ _ _ ?_)
    refine wpAny_newFunctionEnv (fun y hy => (L.own y hy).1) hl (fun h₁ hns hsb => ⟨I1.nolimit.fresh _ hsb, ?_⟩) L.kind
    show codeAny _ _ (.expr body (lamEnv X scope s1.heap.objs.size f c')) _ _
    have J := lam_begin (A := X.A.deeper (envOfC qg sg s.heap.objs.size g cdg)) (outer := envOfC qg sg s.heap.objs.size g cdg :: X.stack) (E := E) (f := f) (c' := c') (tk := s1.toks + binds.length) I L I1.env0 hr.hd un hns fun b o e => hsb.extBut b o (Nat.ne_of_lt (Heap.lt_size e)) (Heap.get?_push_of_some _ e)
    refine PySem.W.kla_codeExpr (wpAny_mono ((hbody _ _ s1 H1 (hr.deeper _)).run [] _ _ H1 Q J ht) (fun v s' hq => ?_) fun e s' hq => hq)
    obtain ⟨w', H', J', rv, q⟩ := hq
    exact ⟨w', H', J'.os, J'.bare, J'.base, J'.hok, rv, q⟩
  refine wpAny_call (codeAny_mono rc fun r s' hq => ?_)
  match r with
  | .error e => exact passes_call tk hW pinsZ σZ H1 s1 e s' I1 hq
  | .ok (.ret u) => exact I1.after hq
  | .ok .next => exact False.elim hq
  | .ok .brk => exact False.elim hq
  | .ok .cont => exact False.elim hq⟩
end
end Pw

set_option maxHeartbeats 4000000
/-! PxI: _law_told(lambda: e). -/
namespace Pw
open PySem PySem.Spec PyProof.Rows L2 L2H LamX

def pickD (fs : List (Str × D)) : List Str → Option (List D)
  | [] => some []
  | f :: r => match fs.lookup f, pickD fs r with
    | some d, some ds => some (d :: ds)
    | _, _ => none
/-- what is told of an error: its code, its fields by the code -/
def toldX (x : Ex) : Option (List D) := match x.fs.lookup ("code" : Str) with
  | some (.str z) => (pickD x.fs (fldG z)).map (.str z :: ·)
  | _ => none
def mTold (cs : List Str) (mb : ME) : ME := fun e => match mb e with
  | .ok r e1 => (share r e1).bind fun d e2 => .ok (.val (.tup [.str "told", d])) e2
  | .exn x e1 => if cs.contains x.cls = true then match toldX x with
    | some ds => .ok (.val (.tup (.str "no" :: ds))) e1
    | none => .stuck
    else .stuck
  | .stuck => .stuck
theorem pick_rep {K : PySem.W.Frag} {ca : Ca} {N : Addr → Prop} {H : Hp} {fs : List (Str × D)} {fvs : List (Str × V)} (hl : ∀ f y, fs.lookup f = some y → ∃ v, fvs.lookup f = some v ∧ Rep K ca N H v y) : ∀ {gs : List Str} {ds : List D}, pickD fs gs = some ds → ∃ ws, Paired (fun f v => fvs.lookup f = some v) gs ws ∧ Reps K ca N H ws ds
  | [], ds, h => by cases h; exact ⟨[], .nil, .nil⟩
  | g :: gs, ds, h => by
    unfold pickD at h
    split at h
    · rename_i d r e1 e2
      cases h
      obtain ⟨v, h1, h2⟩ := hl g d e1
      obtain ⟨ws, h3, h4⟩ := pick_rep hl e2
      exact ⟨v :: ws, .cons h1 h3, .cons h2 h4⟩
    · cases h
/-- tables may grow, all else stays -/
theorem SRel.extN {K : PySem.W.Frag} {ca : Ca} {B : Addr → Prop} {σ : L2.St} {H H1 : Hp} {env : En} (S : SRel K ca B σ H env) (e : ExtN H H1) (dm : ∀ b, H1 b = none → H b = none) (t : Tabs ca.tabs H1) : SRel K ca B σ H1 env where
  len := S.len
  dom := fun a b z => S.dom a b (dm a z)
  sep := S.sep
  inj := S.inj
  tabs := t
  slot := fun i s h => by
    have r := S.slot i s h
    have sb : Sub (Nof B env σ) (Nof B env σ) H H1 := fun a o q nt n => ⟨n, e a o q nt⟩
    cases s with
    | none => trivial
    | val d => obtain ⟨x, e1, r⟩ := r; exact ⟨x, e1, r.sub sb⟩
    | own pm lk c =>
      obtain ⟨p, e1, r⟩ := r
      obtain ⟨o, ho, hd⟩ := r.dat
      exact ⟨p, e1, r.sub sb ((e p o ho hd.nt).trans ho.symm)⟩
theorem keep_extN {σ : L2.St} {H H1 : Hp} {env : En} (e : ExtN H H1) (dm : ∀ b, H1 b = none → H b = none) : Keep σ H env H1 env :=
  ⟨fun _ _ _ c h => ⟨c, h⟩, fun _ _ c h => ⟨c, h⟩, fun _ _ _ h => h, fun _ s h n => ⟨s, h, n⟩, fun a o h nt _ => e a o h nt, dm⟩
/-- which classes' errors are told, and that all is known of them -/
def ToldC (K : PySem.W.Frag) (ca : Ca) (vs : List Value) (cs : List Str) : Prop := ∀ c ∈ cs, ∀ C, ca c = some C → PySem.W.exmAny K (.ref C) vs = some true ∧ XcF K C
structure LamOk (X : Cx) (ca : Ca) (k : Nat) (x : Str) (cs : List Str) : Prop where
  ok : ∃ (g : Addr) (pg : Arguments) (bg : List Stmt) (sg : Scope) (dV kV doc pm cdv ct oc : Value) (an od : Option Addr) (osl : Array (Option Value)) (Ng : List Str) (a : Str) (vs : List Value), X.mg x = some (.ref g) ∧ PySem.W.keepIn X.K (.ref g) = true ∧
    X.K.lookup g = some ⟨oc, od, .func (PySem.W.fnOf x x pg bg sg dV kV doc pm an cdv ct), osl⟩ ∧ PySem.W.codeIn X.K cdv x = true ∧ L2.Binds X.K (PySem.W.fnOf x x pg bg sg dV kV doc pm an cdv ct) [a] [] ∧ FnScope Ng [a] sg ∧ Ng[0]? = some a ∧ Vis sg a ∧ (a == ("__debug__" : Str)) = false ∧ (a == ("__classdict__" : Str)) = false ∧
    ToldC X.K ca vs cs ∧ ∀ Y : Cx, Y.prog = X.prog → Y.w = X.w → Y.K = X.K → Y.mg = X.mg → Y.base = X.base → ∀ q, Gives Y k Ng x sg g cdv bg a q (TTld X.K vs)
section
variable {X : Cx} {ca : Ca} {k : Nat} {x : Str} {cs : List Str} {c P : Addr} {params : Arguments} {body : Expr} {scope : Scope} {mb : ME} {p lpos pos : Pos}
theorem ve_told (hk : LamOk X ca k x cs) (hr : Room (k + 2) X.A) (hg : Gl X x) (hdb : (x == ("__debug__" : Str)) = false) (TB : TabB X.base X.mg c P) (hcode : X.env.code = .ref c) (hmT : (P, X.env.qual ++ "<lambda>") ∈ ca.tabs) (hu : ∀ p ∈ ca.tabs, p.1 = P → p.2 = X.env.qual ++ "<lambda>")
    (L : LamS1 X.N X.env.scope scope) (hdef : LamD params body scope)
    (hb : ∀ (A : Around) (outer : List Env) (s : Shared) (H : Hp) (E : XK) (f c' : Addr), Room k (A.deeper (lamEnv X scope s.heap.objs.size f c')) → VE (lamCx X A outer s H E scope f c') ca body mb) :
    VE X ca (.Call (.Name x p) [.Lambda params body scope lpos] [] pos) (mTold cs mb) := fun W tk => ⟨fun pins s σ H Q I ⟨B, env, S, h⟩ => by
  obtain ⟨g, pg, bg, sg, dV, kV, doc, pm, cdv, ct, oc, an, od, osl, Ng, a, vs, hm, hkp, lk, hcg, hbd, Sg, hNg, hva, hd1, hd2, hT, hG⟩ := hk.ok
  refine wpAny_Call_Name_kw (ld_glob I hg hm ?_ hdb)
  refine PySem.W.callWith_K (h₀ := X.base) I.ok.mod.kin hkp ?_ (by rfl) (by rfl)
  show wpAny _ _ (spliced ((false, eval (.Lambda params body scope lpos) X.env) :: backTo pos (starEach [] X.env))) _ _ s
  refine Calls.spliced_cons (lam_mk I TB hcode hmT hu S.tabs hdef (L.has I.ok) fun f c' fd Ls H1 s' I1 eN dm T1 hf hco => ?_)
  refine Calls.spliced_nil ⟨I1.kIn, ?_⟩
  have S1 := S.extN eN dm T1
  have k1 := keep_extN (σ := σ) (env := env) eN dm
  have P1 : Post X.K ca B σ H env H1 env := ⟨S1, k1⟩
  have rc : codeAny (model X.prog X.w) X.A (.call (.ref g) ⟨[.ref f], []⟩) (CR C8.CX0 X.stack X.prog X.w H1 s' Q C8.E0) s' := by
    refine run_ofS (N := Ng) (ps := [a]) (us := [.ref f]) (vs := [.ref f]) (k := k + 1) lk hcg Sg hr I1.env0 (hbd s' [.ref f] I1.kIn rfl) (.cons rfl .nil) rfl fun hr' => ?_
    have g1 := hG X rfl rfl rfl rfl rfl (X.env.qual ++ "<lambda>") f c' s' H1 Q (fun E H' Q' => tM X.K ca (WEx E) mb σ H' Q') (hr'.mono (Nat.le_succ k))
      (fun W pn xe E p1 p2 tk hW => pe_lamCall (i := 0) I1 L hf tk hW hr' (fun A outer s H hr2 => hb A outer s H E f c' hr2 (WEx E) (takes_of rfl rfl rfl rfl)) hNg hva hd1 hd2) hco ?_
    · obtain ⟨t', ht', hq'⟩ := g1
      exact ⟨t', ht'.nox, hq'⟩
    refine ⟨B, env, S1, ?_⟩
    have h' : CondG X.K ca W B σ H env (mTold cs mb env) fun r e H' => ∀ v, RRep X.K ca B σ H H' e v r → Q v H' := h
    unfold mTold at h'
    cases q : mb env with
    | stuck => rw [q] at h'; exact h'.elim
    | ok r e1 =>
      rw [q] at h'
      intro H2 P2 v R
      refine ⟨by rw [sizeLine_eq]; simp, fun p hp => ?_⟩
      have P3 := P1.trans P2
      obtain ⟨d, e2, P4, rd, k4⟩ := share_ok (CondG.from P3 (CondG.bind' h')) P3.rel R
      have x5 : Ext H2 (upd H2 p (.tup [.str "told", v])) := Ext.new hp
      have P5 := P3.trans (P4.trans (Post.ext P4.rel x5))
      refine k4 _ P5 (.ref p) (.tup (.inl ⟨fun z => P4.rel.ndom z hp, .inl upd_same⟩) (.cons (.str _) (.cons (rd.sub x5.sub) .nil)))
    | exn y e1 =>
      rw [q] at h'
      intro cl d H2 P2 xr
      dsimp only at h'
      by_cases hc : cs.contains y.cls = true
      case neg => rw [if_neg hc] at h'; exact h'.elim
      rw [if_pos hc] at h'
      cases q2 : toldX y with
      | none => rw [q2] at h'; exact h'.elim
      | some ds =>
      rw [q2] at h'
      obtain ⟨C, dd, fvs, rfl, hC, rfl, hx, hf2⟩ := xr
      obtain ⟨hxm, XC⟩ := hT y.cls (List.elem_iff.mp hc) C hC
      unfold toldX at q2
      cases q3 : y.fs.lookup ("code" : Str) with
      | none => rw [q3] at q2; cases q2
      | some dz =>
      rw [q3] at q2
      cases dz with
      | str z =>
        obtain ⟨ds2, e2, rfl⟩ := Option.map_eq_some_iff.mp q2
        obtain ⟨vz, h1, h2⟩ := (hf2 "code").1 _ q3
        obtain ⟨ws, hw, rw'⟩ := pick_rep (fun f y hy => (hf2 f).1 y hy) e2
        have ez : vz = V.str z := by
          have := vr_str (VRep.of h2)
          exact this
        subst ez
        refine ⟨C, dd, fvs, z, ws, rfl, rfl, hxm, XC, hx, h1, hw, fun p H3 x3 hp h3 => ?_⟩
        have P3 := P1.trans P2
        have P5 := P3.trans (Post.ext P3.rel x3)
        exact h' _ P5 (.ref p) (.tup (.inl ⟨fun zz => P3.rel.ndom zz hp, .inl h3⟩) (.cons (.str _) (.cons (.str _) (rw'.sub x3.sub))))
      | _ => cases q2
  refine wpAny_call (codeAny_mono rc fun r s2 hq => ?_)
  cases r with
  | error e => exact (show False from hq).elim
  | ok fl =>
    cases fl with
    | ret u => exact I1.after hq
    | next => exact False.elim hq
    | brk => exact False.elim hq
    | cont => exact False.elim hq⟩
end
end Pw

set_option maxHeartbeats 4000000
/-! PxJ: the head with tables of code objects; what _law_told promises, out of the head; the end. -/
namespace Pw
open PySem PySem.Spec PyProof.Rows L2 L2H LamX

/-! ### a def's code object and its table -/
def cdAt (K : PySem.W.Frag) (f : Addr) : Addr := match K.lookup f with
  | some ⟨_, _, .func fd, _⟩ => (match fd.code with
    | .ref c => c
    | _ => 0)
  | _ => 0
def tbAt (K : PySem.W.Frag) (f : Addr) : Addr := He.tabOf K (cdAt K f)
theorem cdAt_eq {K : PySem.W.Frag} {f : Addr} {oc : Value} {od : Option Addr} {osl : Array (Option Value)} {fd : FuncData} {q : Str} (lk : K.lookup f = some ⟨oc, od, .func fd, osl⟩) (h : PySem.W.codeIn K fd.code q = true) : fd.code = .ref (cdAt K f) := by
  obtain ⟨c, e⟩ := He.codeIn_ref h
  unfold cdAt
  rw [lk]
  show fd.code = .ref (match fd.code with | .ref c => c | _ => 0)
  rw [e]
section
variable {P : Program} {w : World} {K : PySem.W.Frag} {mg : Str → Option Value} {base : Heap} {ca : Ca}
/-- a def by the meaning of its body, its code object told -/
theorem fn_okT {x qual : Str} {params : Arguments} {body : List Stmt} {scope : Scope} {dvs : List V} {kws : List (Str × V)} {f : Addr} {fd : FuncData} {N ps : List Str} {k : Nat} {m : MS}
    (F : FunD K x qual params body scope dvs kws f fd) (S : FnScope N ps scope)
    (hb : ∀ (A : Around) (outer : List Env) (s : Shared) (H : Hp) (E : XK), Room k (A.deeper (envOfC qual scope s.heap.objs.size f (.ref (cdAt K f)))) → VSs (cxOf (L2.CX P w) P w K mg base N qual scope f (.ref (cdAt K f)) A outer s H E) ca body m) :
    FnOk P w K mg base (L2.CX P w) (k + 1) f fd ps (spF K ca ps.length (runF N.length m)) := by
  have hnl : ps.length ≤ N.length := by have := congrArg List.length S.pre; rw [List.length_take] at this; omega
  obtain ⟨oc, od, dV, kV, doc, pm, an, cdv, ct, osl, rfl, lk, hcd, _, _⟩ := F.ex
  obtain rfl : cdv = .ref (cdAt K f) := cdAt_eq lk hcd
  refine fn_of lk hcd S (fun vs H Q E h => h.1) fun A outer s H vs Q E hr h => ?_
  obtain ⟨hl, B, env, Sr, po, hc⟩ := h
  have hn : vs.length ≤ N.length := by rw [hl]; exact hnl
  exact ⟨_, hb A outer s H E hr (WEx E) (takes_of rfl rfl rfl rfl), body_end Sr po hn hc⟩
end
/-! ### the hook -/
abbrev TabG : Type := (PySem.W.Frag → Addr) × Str
def csOf (tf : List TabG) (K : PySem.W.Frag) : List (Addr × Addr) := tf.map fun p => (cdAt K (p.1 K), tbAt K (p.1 K))
def tsOf (tf : List TabG) (K : PySem.W.Frag) : List (Addr × Str) := tf.map fun p => (tbAt K (p.1 K), p.2)
def tabsG (g : Addr → Option Obj) (tf : List TabG) (K : PySem.W.Frag) : Bool := tf.all fun p => PySem.W.codeHdIn K (cdAt K (p.1 K)) (tbAt K (p.1 K)) && (match g (tbAt K (p.1 K)) with
  | some o => He.emptyTab o
  | none => false)
def obsT (n : Nat) (file : Str) (ex : PySem.W.Frag → Bool) (fn : List DefG) (sp : List SupG) (tf : List TabG) (g : Addr → Option Obj) : AlQ :=
  (((ex (He.frT g (asQ g n)) && fn.all fun d => d.ok (He.frT g (asQ g n))) && sp.all fun d => d.ok (He.frT g (asQ g n)) file) && tabsG g tf (He.frT g (asQ g n)), fn.map fun d => fnG (He.frT g (asQ g n)) (d.at_ (He.frT g (asQ g n))), sp.map fun d => fnS (He.frT g (asQ g n)) (mG (He.frT g (asQ g n)) d.cls "__init__"))
structure SaysT (file : Str) (ex : PySem.W.Frag → Bool) (fn : List DefG) (sp : List SupG) (tf : List TabG) (h : Heap) (K : PySem.W.Frag) : Prop extends SaysQ file ex fn sp K where
  hd : ∀ p ∈ tf, PySem.W.codeHdIn K (cdAt K (p.1 K)) (tbAt K (p.1 K)) = true
  out : ∀ p ∈ tf, K.lookup (tbAt K (p.1 K)) = none
  empty : ∀ p ∈ tf, h.get? (tbAt K (p.1 K)) = some { cls := .none, data := .fields #[] }
theorem saysT_of {n : Nat} {file : Str} {ex : PySem.W.Frag → Bool} {fn : List DefG} {sp : List SupG} {tf : List TabG} {h : Heap} (e : obsT n file ex fn sp tf h.get? = (true, fn.map DefG.val, sp.map SupG.val)) : SaysT file ex fn sp tf h (He.frT h.get? (asQ h.get? n)) := by
  generalize hK : He.frT h.get? (asQ h.get? n) = K at *
  unfold obsT at e
  rw [hK] at e
  have e1 : (((ex K && fn.all fun d => d.ok K) && sp.all fun d => d.ok K file) && tabsG h.get? tf K) = true := congrArg (fun z : AlQ => z.1) e
  obtain ⟨h1, h2⟩ := He.ba e1
  have e3 : (fn.map fun d => fnG K (d.at_ K)) = fn.map DefG.val := congrArg (fun z : AlQ => z.2.1) e
  have e4 : (sp.map fun d => fnS K (mG K d.cls "__init__")) = sp.map SupG.val := congrArg (fun z : AlQ => z.2.2) e
  have key : ∀ p ∈ tf, PySem.W.codeHdIn K (cdAt K (p.1 K)) (tbAt K (p.1 K)) = true ∧ ∃ o, h.get? (tbAt K (p.1 K)) = some o ∧ He.emptyTab o = true := fun p hp => by
    obtain ⟨h3, h4⟩ := He.ba (List.all_eq_true.mp h2 p hp)
    refine ⟨h3, ?_⟩
    cases q : h.get? (tbAt K (p.1 K)) with
    | none => rw [q] at h4; cases h4
    | some o => rw [q] at h4; exact ⟨o, rfl, h4⟩
  refine ⟨saysQ_of (by rw [h1, e3, e4]), fun p hp => (key p hp).1, fun p hp => ?_, fun p hp => ?_⟩
  · obtain ⟨_, o, q, z⟩ := key p hp
    rw [← hK] at q ⊢
    exact He.frT_none q z
  · obtain ⟨_, o, q, z⟩ := key p hp
    rw [q, He.emptyTab_eq z]
def hookT (n : Nat) (file : Str) (ex : PySem.W.Frag → Bool) (fn : List DefG) (sp : List SupG) (tf : List TabG) : PySem.W.Hook where
  α := AlQ
  obs := fun s => obsT n file ex fn sp tf s.heap.get?
  val := fun _ => (true, fn.map DefG.val, sp.map SupG.val)
  says := fun _ h => ∃ K : PySem.W.Frag, K.In h ∧ SaysT file ex fn sp tf h K
  of := fun _ _ e => ⟨_, He.frT_in, saysT_of e⟩
  keeps := fun _ _ _ ⟨K, hK, c⟩ k => ⟨K, PySem.W.Frag.In.keeps hK k, ⟨c.toSaysQ, c.hd, c.out, fun p hp => k _ _ (c.empty p hp)⟩⟩
theorem obsT_eq {n : Nat} {file : Str} {ex : PySem.W.Frag → Bool} {fn : List DefG} {sp : List SupG} {tf : List TabG} {g : Addr → Option Obj} {s : Shared} (h : ∀ a, g a = s.heap.get? a) : obsT n file ex fn sp tf g = (hookT n file ex fn sp tf).obs s := by
  have e : g = s.heap.get? := funext h
  rw [e] <;> rfl
/-! ### the end -/
theorem end_walkT {l : PySem.W.OpenLaw} {k : Nat} {q : Program} {loose : List Str} {XP : (Str → Option Value) → Heap → Prop} {d : DefRec} {n0 : Nat} {file : Str} {ex : PySem.W.Frag → Bool} {fns : List DefG} {sps : List SupG} {tf : List TabG} {ca : World → PySem.W.Frag → Ca} {x : Str} {fn : Fn}
    (hn : l.most = some 63) (hdf : d.params.defaults = []) (hr : Room k callerA) (hd : d.name = ("law" : Str)) (hct : ∀ w K, (ca w K).tabs = tsOf tf K)
    (hl : ∀ K, SaysP ex fns K → (He.Fa.glo "law").ok K = true)
    (asm : ∀ (w : World) (K : PySem.W.Frag) (h : Heap) (mg : Str → Option Value), K.In h → h.Ns mainGlobals mg → SaysQ file ex fns sps K →
      ∃ fd : FuncData, (∀ (s : Shared) (v : Value), BindsTo s fd ⟨[v], []⟩ [(x, v)]) ∧ ∀ base : Heap, (∀ p ∈ csOf tf K, TabB base mg p.1 p.2) → FnOk l.prog w K mg base (L2.CX l.prog w) k (gAd "law" K) fd [x] (spF K (ca w K) 1 fn))
    (val : ∀ ns : List Int, ns.length ≤ 63 → (∀ z ∈ ns, Builtin.Int.intBits z ≤ 1048576) → fn [.val (.scr ns)] = .ok (.val (.bl true)) [.val (.scr ns)]) :
    PySem.W.WalkO q loose XP (hookT n0 file ex fns sps tf).says l.row.toRowW d [] (fun f vs => PySem.call f vs) := by
  refine Att.attach_callB hn hdf fun w s₀ s₁ mg mb fa o pm cd doc a vs ns G Y ho hdd hcd hmg hobj hints hlen hbits hg => ?_
  obtain ⟨K, KX, c⟩ := Y
  obtain ⟨fd, hb, hF⟩ := asm w K _ mg KX G.T.g c.toSaysQ
  have e1 : mg ("law" : Str) = some (.ref fa) := by rw [← hd]; exact hmg
  have e2 := He.glo_ok KX G.T.g (hl K c.toSaysP)
  rw [e1] at e2
  cases e2
  refine law_callTs (cs := csOf tf K) KX G.T.g G.T.b G.T.builtins G.T.nolimit hg (fun p hp => ?_) (fun p hp => ?_) (fun p hp => ?_) G.T.bmain hobj hints (Nat.le_trans hlen (by decide)) hr (fun base _ _ hT => hF base hT) hb (fun H hH hS => sp_end (val ns hlen hbits) hS ?_) fun H e s' z => ?_
  · obtain ⟨r, hp2, rfl⟩ := List.mem_map.mp hp
    exact c.empty r hp2
  · obtain ⟨r, hp2, rfl⟩ := List.mem_map.mp hp
    exact c.out r hp2
  · obtain ⟨r, hp2, rfl⟩ := List.mem_map.mp hp
    exact PySem.W.codeHd_of_K KX (c.hd r hp2)
  · rw [hct]
    intro p hp
    obtain ⟨r, hr, rfl⟩ := List.mem_map.mp hp
    exact TabS.nil (hH _ (List.mem_map.mpr ⟨r, hr, rfl⟩))
  · obtain ⟨_, _, _, _, _, _, _, _, _, _, _, _, z⟩ := z
    exact z
/-! ### _law_told -/
def xcFB (K : PySem.W.Frag) (C : Addr) : Bool := xfB K C && (["code", "given", "bound", "name", "at", "group", "first"] : List Str).all fun f => He.eqO (PySem.W.findIn K (.ref C) f) (some none)
theorem xcF_ok {K : PySem.W.Frag} {C : Addr} (h : xcFB K C = true) : XcF K C := by
  obtain ⟨h1, h2⟩ := He.ba h
  exact ⟨xfB_ok h1, fun f hf => He.eqO_ok (List.all_eq_true.mp h2 f hf)⟩
def tVs (K : PySem.W.Frag) : List Value := [.ref (He.ga K "CountError"), .ref (He.ga K "Missing"), .ref (He.ga K "NothingLeft")]
def toldCB (K : PySem.W.Frag) (cs : List Str) : Bool := cs.all fun c => decide (PySem.W.exmAny K (.ref (He.ga K c)) (tVs K) = some true) && xcFB K (He.ga K c)
theorem toldC_ok {K : PySem.W.Frag} {ca : Ca} {cs : List Str} (hca : CaN K ca) (h : toldCB K cs = true) : ToldC K ca (tVs K) cs := fun c hc C e => by
  obtain rfl := hca c C e
  obtain ⟨h1, h2⟩ := He.ba (List.all_eq_true.mp h c hc)
  exact ⟨of_decide_eq_true h1, xcF_ok h2⟩
section
variable {P : Program} {w : World} {K : PySem.W.Frag} {mg : Str → Option Value} {base : Heap} {ca : Ca}
abbrev FldsB (K : PySem.W.Frag) (bF : List Stmt) (sF : Scope) : Prop := ∀ (X : Cx) (a C d : Addr) (oe : Obj), X.K = K → X.N = (["_law_e"] : List Str) → X.env.scope = sF → XcF K C → (a, oe) ∈ X.pn → Zc (.ref C) (some d) oe → (∃ vs, oe.data = .fields vs) → PSs X bF (tFd K a d)
theorem flds_ok {pF : Arguments} {bF : List Stmt} {sF : Scope} {fd : FuncData} {f : Addr} (F : FunD K "_law_fields" "_law_fields" pF bF sF [] [] f fd) (S : FnScope ["_law_e"] ["_law_e"] sF) (hB : FldsB K bF sF) :
    FnP P w K mg base (L2.CX P w) 1 f fd ["_law_e"] (spFd K) := by
  refine fnP_of F S (fun p vs H Q E ⟨_, _, _, _, _, e, _⟩ => by rw [e]; rfl) fun cdv A outer s H vs Q E p hr h => ?_
  obtain ⟨C, d, fs, z, ws, rfl, T, hz, hf, hd, hl, hw, q⟩ := h
  exact ⟨_, hB _ p.1 C d p.2 rfl rfl rfl T List.mem_cons_self hz hf, fd_read hd hl hw q⟩
theorem lamOkAt {cs : List Str} {k : Nat} {pF pT : Arguments} {bF bT : List Stmt} {sF sT : Scope} {fF fT : Addr} {fdF fdT : FuncData} {p1 p2 p3 p4 p5 p6 p7 p8 p9 p10 p11 p12 p13 p14 p15 p16 p17 p18 p19 p20 : Pos} {k1 k2 k3 j1 j2 : Nat}
    (hca : CaN K ca) (hk : 1 ≤ k) (FF : FunD K "_law_fields" "_law_fields" pF bF sF [] [] fF fdF) (SF : FnScope ["_law_e"] ["_law_e"] sF) (hB : FldsB K bF sF) (bnF : L2.Binds K fdF ["_law_e"] []) (mF : mg "_law_fields" = some (.ref fF))
    (FT : FunD K "_law_told" "_law_told" pT bT sT [] [] fT fdT) (hb : bT = toldB p1 p2 p3 p4 p5 p6 p7 p8 p9 p10 p11 p12 p13 p14 p15 p16 p17 p18 p19 p20 k1 k2 k3 j1 j2) (ST : FnScope ["_law_deed", "_law_e"] ["_law_deed"] sT) (bnT : L2.Binds K fdT ["_law_deed"] []) (mT : mg "_law_told" = some (.ref fT))
    (g1 : sT.names.lookup ("CountError" : Str) = some .globalImplicit) (g2 : sT.names.lookup ("Missing" : Str) = some .globalImplicit) (g3 : sT.names.lookup ("NothingLeft" : Str) = some .globalImplicit) (g4 : sT.names.lookup ("_law_fields" : Str) = some .globalImplicit)
    (g5 : sT.names.lookup ("_law_e" : Str) = some .local) (g6 : sT.names.lookup ("_law_deed" : Str) = some .local) (m1 : mg "CountError" = some (.ref (He.ga K "CountError"))) (m2 : mg "Missing" = some (.ref (He.ga K "Missing"))) (m3 : mg "NothingLeft" = some (.ref (He.ga K "NothingLeft"))) (hT : toldCB K cs = true) :
    At P w K mg base fun X => LamOk X ca k "_law_told" cs := by
  rintro X rfl rfl rfl rfl rfl
  obtain ⟨oc, od, dV, kV, doc, pm, an, cdv, ct, osl, rfl, lk, hcd, _, _⟩ := FT.ex
  subst hb
  have hF : FnP X.prog X.w X.K X.mg X.base (L2.CX X.prog X.w) 1 fF fdF ["_law_e"] (spFd X.K) := flds_ok FF SF hB
  refine ⟨⟨fT, pT, _, sT, dV, kV, doc, pm, cdv, ct, oc, an, od, osl, ["_law_deed", "_law_e"], "_law_deed", tVs X.K, mT, FT.kp, lk, hcd, bnT, ST, rfl, .inl g6, by decide, by decide, toldC_ok hca hT, fun Y e1 e2 e3 e4 e5 q => ?_⟩⟩
  rw [← e1, ← e2, ← e3, ← e4, ← e5] at hF
  rw [← e4] at m1 m2 m3 mF
  have kp := FF.kp
  rw [← e3] at kp bnF m1 m2 m3 ⊢
  exact told_gives hF hk mF kp bnF g1 g2 g3 g4 g5 m1 m2 m3
end
/-- the text of _law_fields reads as told -/
theorem fields_reads {X : Cx} {a C d : Addr} {oe : Obj} {q : Nat → Pos} {j : Nat → Nat} (T : XcF X.K C) (hN : X.N = (["_law_e"] : List Str)) (hv : X.env.scope.names.lookup ("_law_e" : Str) = some .local) (hp : (a, oe) ∈ X.pn) (hz : Zc (.ref C) (some d) oe) (hf : ∃ vs, oe.data = .fields vs) {n : Str} (hn : n ∈ (["code", "given", "bound", "name", "at", "group", "first"] : List Str)) {p1 p2 : Pos} :
    PE X (.Attribute (.Name "_law_e" p1) n p2) (tXp a d n (tVar 0)) :=
  pe_xp T.xf (T.no n hn) hp hz hf (pe_var (i := 0) (by rw [hN]; rfl) (.inl hv)) rfl
end Pw

set_option maxHeartbeats 4000000
/-! PxK: f-strings; str and repr of own instances. -/
namespace Pw
open PySem PySem.Spec PyProof.Rows L2

def fmtOut (r : RV) (e : En) : Out RV := match view r e with
  | some (.str y) => if y.length ≤ sizeLine then .ok (.val (.str y)) e else .stuck
  | some (.int i) => if i.natAbs.log2 < 1920 then .ok (.val (.str (toString i))) e else .stuck
  | _ => .stuck
def mFmt (m : ME) : ME := fun e => (m e).bind fmtOut
def mJs : List ME → Str → ME
  | [], acc => fun e => .ok (.val (.str acc)) e
  | m :: ms, acc => fun e => (m e).bind fun r e1 => match r with
    | .val (.str y) => if (acc ++ y).length ≤ sizeLine then mJs ms (acc ++ y) e1 else .stuck
    | _ => .stuck
section
variable {X : Cx} {ca : Ca}
theorem ve_fmt {e : Expr} {m : ME} {pos : Pos} (he : VE X ca e m) : VE X ca (.FormattedValue e (-1) none pos) (mFmt m) := fun W tk =>
  peImp (pe_fmt (he W tk)) fun σ H Q ⟨B, env, S, h⟩ => ⟨B, env, S, (CondG.bind' h).imp fun r e1 H1 P k v R => by
    unfold fmtOut at k
    cases q : view r e1 with
    | none => rw [q] at k; exact k.elim
    | some d =>
      rw [q] at k
      have V := R.view P.rel q
      cases d with
      | str y =>
        dsimp only at k
        by_cases c : y.length ≤ sizeLine
        · rw [if_pos c] at k
          exact .inl ⟨y, vr_str V, c, k H1 P _ (.str y)⟩
        · rw [if_neg c] at k; exact k.elim
      | int i =>
        dsimp only at k
        by_cases c : i.natAbs.log2 < 1920
        · rw [if_pos c] at k
          exact .inr ⟨i, vr_int V, c, k H1 P _ (.str _)⟩
        · rw [if_neg c] at k; exact k.elim
      | _ => exact k.elim⟩
inductive VJ (X : Cx) (ca : Ca) : List Expr → List ME → Prop where
  | nil : VJ X ca [] []
  | cons {e : Expr} {m : ME} {es : List Expr} {ms : List ME} (h : VE X ca e m) (r : VJ X ca es ms) : VJ X ca (e :: es) (m :: ms)
theorem vj_run {es : List Expr} {ms : List ME} (h : VJ X ca es ms) {W : WX} (tk : Takes X W) : PJ X es (ms.map (tM X.K ca W)) := by
  induction h with
  | nil => exact .nil
  | cons h r ih => exact .cons (h W tk) ih
theorem js_read {W : WX} {B : Addr → Prop} {σ : L2.St} : ∀ (ms : List ME) (acc : Str) {H : Hp} {env : En} {Q : VK}, SRel X.K ca B σ H env → CondG X.K ca W B σ H env (mJs ms acc env) (fun r e H' => ∀ v, RRep X.K ca B σ H H' e v r → Q v H') →
    tJs (ms.map (tM X.K ca W)) acc σ H fun out H1 => Q (.str out) H1
  | [], acc, H, env, Q, S, h => h.now (.refl S) _ (.str acc)
  | m :: ms, acc, H, env, Q, S, h => ⟨B, env, S, (CondG.bind' (show CondG X.K ca W B σ H env ((m env).bind _) _ from h)).imp fun r e1 H1 P k v R => by
    cases r with
    | val d =>
      cases d with
      | str y =>
        dsimp only at k
        by_cases c : (acc ++ y).length ≤ sizeLine
        · rw [if_pos c] at k
          have ev : v = .str y := vr_str (VRep.of R)
          exact ⟨y, ev, c, js_read ms (acc ++ y) P.rel ((CondG.from P k).imp fun r e H' P' kk v R => kk v (R.back fun a z => P.keep.dom a z))⟩
        · rw [if_neg c] at k; exact k.elim
      | _ => exact k.elim
    | _ => exact k.elim⟩
theorem ve_fstr {v1 v2 : Expr} {rest : List Expr} {ms : List ME} {pos : Pos} (h : VJ X ca (v1 :: v2 :: rest) ms) : VE X ca (.JoinedStr (v1 :: v2 :: rest) pos) (mJs ms Str.empty) := fun W tk =>
  peImp (pe_joined (vj_run h tk)) fun σ H Q ⟨B, env, S, h⟩ => js_read ms Str.empty S h
theorem ve_fstr1 {e : Expr} {m : ME} {pos : Pos} (h : VE X ca e m) : VE X ca (.JoinedStr [e] pos) m := fun W tk => pe_joined1 (h W tk)
end
/-! ### str(o), repr(o) -/
def chkStr : D → Bool
  | .str _ => true
  | _ => false
theorem chkStr_v {K : PySem.W.Frag} {ca : Ca} {fn : Fn} {Q : VK} {v : V} {H' : Hp} (h : chkQ K ca ⟨chkStr, fn⟩ Q v H') : (∃ y, v = .str y) ∧ Q v H' := by
  obtain ⟨⟨d, N, R, c⟩, q⟩ := h
  refine ⟨?_, q⟩
  cases d with
  | str y => exact ⟨y, vr_str R⟩
  | _ => cases c
section
variable {X : Cx} {ca : Ca} {k : Nat} {c : Str} {fn : Fn}
theorem run_in2 {f : Addr} {fd : FuncData} {ps : List Str} {n : Nat} {pins : List (Addr × Obj)} {s : Shared} {σ : L2.St} {H : Hp} {us : List Value} {vs : List V} {Q : VK} {E' : Value → Shared → Prop} (F : FnOk X.prog X.w X.K X.mg X.base (L2.CX X.prog X.w) k f fd ps (spF X.K ca n fn)) (hr : Room (k + 2) X.A) (hb : L2.Binds X.K fd ps []) (I : Inv X pins σ H s) (r : Vals vs us)
    (h : spF X.K ca n fn vs H Q (fun _ _ _ => False)) : wpAny (model X.prog X.w) X.A.in1.in1 (call (.ref f) us) (EP X pins σ Q) E' s := by
  have b := hb s us I.kIn (by rw [List.append_nil, ← r.length]; exact F.len _ _ _ _ h)
  rw [List.append_nil] at b
  refine wpAny_call (codeAny_mono (F.run X.A.in1.in1 X.stack s H ⟨us, []⟩ us vs Q _ hr.in1.in1 I.env0.in1.in1 b r h) fun z s' hq => ?_)
  match z with
  | .error e => obtain ⟨_, _, _, _, _, _, _, _, _, _, _, _, z⟩ := hq; exact z.elim
  | .ok (.ret u) => exact I.after hq
  | .ok .next => exact hq.elim
  | .ok .brk => exact hq.elim
  | .ok .cont => exact hq.elim
theorem str_to (D : DunOk X ca k c "__str__" 1 fn) (hr : Room (k + 2) X.A) : UnTo X ca (fun v => call (.type "str") [v]) c ⟨chkStr, fn⟩ := fun pins s σ H x v Q I rx tx h => by
  obtain ⟨C, f, fd, ps, hc, sf, hs, hf, F, hb⟩ := D.ok
  obtain ⟨a, C1, dx, fs, rfl, hc1, ha⟩ := tx
  rw [hc] at hc1
  cases hc1
  cases rx
  obtain ⟨oa, da, J, _⟩ := ins_at I ha
  have hu : X.A.in1.in1.units < cLine := by have := hr.in1.in1.un; omega
  refine PySem.W.kso_call hu I.kIn J hs hf (thn (run_in2 (us := [.ref a]) (vs := [.ref a]) F hr hb I (.cons rfl .nil) h) fun w s' ⟨v, H', I', rv, q⟩ => ?_)
  obtain ⟨⟨y, rfl⟩, q⟩ := chkStr_v q
  obtain ⟨t, rfl⟩ := (show ∃ t, w = Value.str y t from rv)
  exact ⟨.str y, H', I', ⟨t, rfl⟩, q⟩
theorem repr_to (D : DunOk X ca k c "__repr__" 1 fn) (hr : Room (k + 1) X.A) : UnTo X ca (fun v => call (.builtin "repr") [v]) c ⟨chkStr, fn⟩ := fun pins s σ H x v Q I rx tx h => by
  obtain ⟨C, f, fd, ps, hc, sf, hs, hf, F, hb⟩ := D.ok
  obtain ⟨a, C1, dx, fs, rfl, hc1, ha⟩ := tx
  rw [hc] at hc1
  cases hc1
  cases rx
  obtain ⟨oa, da, J, _⟩ := ins_at I ha
  obtain ⟨m, hF⟩ := I.fr
  have hu : X.A.in1.units < cLine := by have := hr.in1.un; omega
  refine PySem.W.repr_K hu hF I.ok.mod.kin J hs hf (thn (run_in1 (us := [.ref a]) (vs := [.ref a]) F hr hb I (.cons rfl .nil) h) fun w s' ⟨v, H', I', rv, q⟩ => ?_)
  obtain ⟨⟨y, rfl⟩, q⟩ := chkStr_v q
  obtain ⟨t, rfl⟩ := (show ∃ t, w = Value.str y t from rv)
  exact ⟨.str y, H', I', ⟨t, rfl⟩, q⟩
def reprD : List D → Po := fun _ => .stuck
theorem cv_repr : CallV ca X (.builtin "repr") reprD := fun W tk pins s σ H xs us Q N ds I r nd p h => (show False from h).elim
end
section
variable {P : Program} {w : World} {K : PySem.W.Frag} {mg : Str → Option Value} {base : Heap} {ca : Ca} {k : Nat} {c : Str} {fn : Fn}
theorem strAt {kk : Nat} (hk : k + 2 ≤ kk) (D : At P w K mg base fun X => DunOk X ca k c "__str__" 1 fn) : At P w K mg base fun X => Room kk X.A → UnsOk X ca (fun v => call (.type "str") [v]) [(c, ⟨chkStr, fn⟩)] := fun X h1 h2 h3 h4 h5 hr => uns_one (str_to (D X h1 h2 h3 h4 h5) (hr.mono hk))
theorem reprAt {kk : Nat} (hk : k + 1 ≤ kk) (D : At P w K mg base fun X => DunOk X ca k c "__repr__" 1 fn) : At P w K mg base fun X => Room kk X.A → UnsOk X ca (fun v => call (.builtin "repr") [v]) [(c, ⟨chkStr, fn⟩)] := fun X h1 h2 h3 h4 h5 hr => uns_one (repr_to (D X h1 h2 h3 h4 h5) (hr.mono hk))
end
end Pw

set_option maxHeartbeats 4000000
/-! PxL: a <= b <= c of whole numbers. -/
namespace Pw
open PySem PySem.Spec PyProof.Rows L2

abbrev rCI (p : Int → Int → Bool) : R2 := fun x y H Q => ∃ i j, x = .int i ∧ y = .int j ∧ Q (.bl (p i j)) H
def mChainI (p p' : Int → Int → Bool) (ma mb mc : ME) : ME := fun e => (ma e).bind fun x e1 => (mb e1).bind fun y e2 => match x, y with
  | .val (.int i), .val (.int j) => if p i j = true then (mc e2).bind fun z e3 => match z with
      | .val (.int l) => .ok (.val (.bl (p' j l))) e3
      | _ => .stuck
    else .ok (.val (.bl false)) e2
  | _, _ => .stuck
section
variable {X : Cx} {ca : Ca} {a b c : Expr} {ma mb mc : ME} {op op' : CmpOp} {p p' : Int → Int → Bool} {pos : Pos}
theorem ve_chainI (ho : OpR X (compareOp op) (rCI p)) (ho' : OpR X (compareOp op') (rCI p')) (ha : VE X ca a ma) (hb : VE X ca b mb) (hc : VE X ca c mc) (hm : lastMarks [op, op'] [b, c] = false) : VE X ca (.Compare a [op, op'] [b, c] pos) (mChainI p p' ma mb mc) := fun W tk =>
  peImp (pe_chain ho ho' (ha W tk) (hb W tk) (hc W tk) hm) fun σ H Q ⟨B, env, S, h⟩ => ⟨B, env, S, (CondG.bind' (show CondG X.K ca W B σ H env ((ma env).bind _) _ from h)).imp fun x e1 H1 P1 k1 v R1 => ⟨B, e1, P1.rel, (CondG.bind' (CondG.from P1 k1)).imp fun y e2 H2 P2 k2 u R2 => by
    cases x with
    | val dx =>
      cases y with
      | val dy =>
        cases dx with
        | int i =>
          cases dy with
          | int j =>
            have ev : v = .int i := vr_int (VRep.of R1)
            have eu : u = .int j := vr_int (VRep.of R2)
            refine ⟨i, j, ev, eu, p i j, rfl, ?_⟩
            dsimp only at k2
            cases q : p i j with
            | true =>
              rw [if_pos q] at k2
              rw [if_pos rfl]
              refine ⟨B, e2, P2.rel, (CondG.bind' (CondG.from P2 k2)).imp fun z e3 H3 P3 k3 w R3 => ?_⟩
              cases z with
              | val dz =>
                cases dz with
                | int l => exact ⟨j, l, eu, vr_int (VRep.of R3), k3 H3 P3 _ (.bl _)⟩
                | _ => exact k3.elim
              | _ => exact k3.elim
            | false =>
              rw [if_neg (by rw [q]; decide)] at k2
              rw [if_neg (by decide)]
              exact k2 H2 P2 _ (.bl false)
          | _ => exact k2.elim
        | _ => exact k2.elim
      | _ => cases dx <;> exact k2.elim
    | _ => exact k2.elim⟩⟩
theorem ci_le : OpR X (compareOp .LtE) (rCI fun i j => decide (i ≤ j)) := op_le
theorem ci_lt : OpR X (compareOp .Lt) (rCI fun i j => decide (i < j)) := op_lt
end
end Pw

set_option maxHeartbeats 4000000
/-! PyB: dicts of one slot: d[k], k in d, d[k] = v, len(d), list(d), {}. -/
namespace Pw
open PySem PySem.Spec PyProof.Rows L2

def isFlatK : D → Bool
  | .int _ => true
  | .str _ => true
  | _ => false
def isTupK (d : D) : Bool := match d with
  | .tup ds => okK 6 (.tup ds)
  | _ => false
noncomputable def dGet (kvs : List (D × D)) (k : D) : Option D := (kvs.find? fun p => decide (p.1 = k)).map (·.2)
noncomputable def dPut (kvs : List (D × D)) (k v : D) : List (D × D) := if (dGet kvs k).isSome = true then kvs.map (fun p => if p.1 = k then (p.1, v) else p) else kvs ++ [(k, v)]
def allFlat (kvs : List (D × D)) : Bool := kvs.all fun p => isFlatK p.1
def allTup (kvs : List (D × D)) : Bool := kvs.all fun p => isTupK p.1
def keyFor (kvs : List (D × D)) (k : D) : Bool := (isFlatK k && allFlat kvs) || (isTupK k && allTup kvs)
theorem kD_inj {a b : Key} (e : kD a = kD b) : a = b := by
  cases a <;> cases b <;> cases e <;> rfl
theorem flat_kD {k : D} (h : isFlatK k = true) : ∃ a, k = kD a := by
  cases k <;> try cases h
  · exact ⟨.inl _, rfl⟩
  · exact ⟨.inr _, rfl⟩
theorem isTupK_of {k : D} (h : isTupK k = true) : okK 6 k = true ∧ ∃ ds, k = .tup ds := by
  cases k <;> try cases h
  exact ⟨h, _, rfl⟩
section
variable {K : PySem.W.Frag} {ca : Ca} {N : Addr → Prop} {H : Hp}
theorem krep_get : ∀ {ks : List (Key × V)} {kvs : List (D × D)} (a : Key), KReps K ca N H ks kvs → (∀ d, dGet kvs (kD a) = some d → ∃ v, valV ks a = some v ∧ Rep K ca N H v d) ∧ (dGet kvs (kD a) = none → valV ks a = none)
  | _, _, a, .nil => ⟨fun d h => (by cases h), fun _ => rfl⟩
  | _, _, a, .cons (k := k) (v := v) (d := d) (vs := vs) (ds := ds) r t => by
    have ih := krep_get a t
    by_cases c : k = a
    · subst c
      have e1 : dGet ((kD k, d) :: ds) (kD k) = some d := by simp [dGet, List.find?_cons]
      have e2 : valV ((k, v) :: vs) k = some v := valV_pos rfl
      rw [e1, e2]
      exact ⟨fun d' z => (by cases z; exact ⟨v, rfl, r⟩), fun z => by cases z⟩
    · have c' : ¬ kD k = kD a := fun z => c (kD_inj z)
      have e1 : dGet ((kD k, d) :: ds) (kD a) = dGet ds (kD a) := by simp [dGet, List.find?_cons, c']
      have e2 : valV ((k, v) :: vs) a = valV vs a := valV_neg c
      rw [e1, e2]
      exact ih
theorem krep_some {ks : List (Key × V)} {kvs : List (D × D)} (a : Key) (r : KReps K ca N H ks kvs) : (valV ks a).isSome = (dGet kvs (kD a)).isSome := by
  obtain ⟨h1, h2⟩ := krep_get a r
  cases q : dGet kvs (kD a) with
  | none => rw [h2 q]; rfl
  | some d => obtain ⟨v, e, _⟩ := h1 d q; rw [e]; rfl
theorem krep_map {a : Key} {v : V} {d : D} (r : Rep K ca N H v d) : ∀ {ks : List (Key × V)} {kvs : List (D × D)}, KReps K ca N H ks kvs → KReps K ca N H (ks.map fun kv => if kv.1 = a then (kv.1, v) else kv) (kvs.map fun p => if p.1 = kD a then (p.1, d) else p)
  | _, _, .nil => .nil
  | _, _, .cons (k := k) q t => by
    by_cases c : k = a
    · subst c
      simp only [List.map_cons, if_true]
      exact .cons r (krep_map r t)
    · have c' : ¬ kD k = kD a := fun z => c (kD_inj z)
      simp only [List.map_cons, if_neg c, if_neg c']
      exact .cons q (krep_map r t)
theorem krep_app : ∀ {ks ks2 : List (Key × V)} {kvs kvs2 : List (D × D)}, KReps K ca N H ks kvs → KReps K ca N H ks2 kvs2 → KReps K ca N H (ks ++ ks2) (kvs ++ kvs2)
  | _, _, _, _, .nil, s => s
  | _, _, _, _, .cons r t, s => .cons r (krep_app t s)
theorem krep_put {ks : List (Key × V)} {kvs : List (D × D)} {a : Key} {v : V} {d : D} (R : KReps K ca N H ks kvs) (r : Rep K ca N H v d) : KReps K ca N H (putK ks a v) (dPut kvs (kD a) d) := by
  have e := krep_some a R
  unfold dPut putK
  rw [valV_any, e]
  split
  · exact krep_map r R
  · exact krep_app R (.cons r .nil)
theorem krep_flat : ∀ {ks : List (Key × V)} {kvs : List (D × D)}, KReps K ca N H ks kvs → allFlat kvs = true
  | _, _, .nil => rfl
  | _, _, .cons (k := k) r t => by
    have := krep_flat t
    unfold allFlat at this ⊢
    rw [List.all_cons, this]
    cases k <;> rfl
theorem krep_tup {ks : List (Key × V)} {kvs : List (D × D)} (r : KReps K ca N H ks kvs) (h : allTup kvs = true) : ks = [] ∧ kvs = [] := by
  cases r with
  | nil => exact ⟨rfl, rfl⟩
  | cons r t => rename_i k v d vs ds; cases k <;> cases h
theorem grep_key {k : D} {b : Addr} (ok : okK 6 k = true) (r : Rep K ca N H (.ref b) k) : isTupK k = true := by
  rcases okK_cases ok with ⟨i, rfl⟩ | ⟨s, rfl, _⟩ | ⟨m, ds, _, rfl, _⟩
  · cases r
  · cases r
  · exact ok
theorem grep_tup : ∀ {xs : List GE} {kvs : List (D × D)}, GReps K ca N H xs kvs → allTup kvs = true
  | _, _, .nil => rfl
  | _, _, .cons ok rk _ _ t => by
    have := grep_tup t
    unfold allTup at this ⊢
    rw [List.all_cons, this, grep_key ok rk]
    rfl
theorem grep_flat {xs : List GE} {kvs : List (D × D)} (r : GReps K ca N H xs kvs) (h : allFlat kvs = true) : xs = [] ∧ kvs = [] := by
  cases r with
  | nil => exact ⟨rfl, rfl⟩
  | cons ok rk _ _ t =>
    have := grep_key ok rk
    rename_i k b u v d xs ds
    unfold allFlat at h
    rw [List.all_cons, Bool.and_eq_true] at h
    obtain ⟨_, ds, rfl⟩ := isTupK_of this
    exact absurd h.1 Bool.false_ne_true
theorem grep_get : ∀ {xs : List GE} {kvs : List (D × D)} (k : D), GReps K ca N H xs kvs → (∀ d, dGet kvs k = some d → ∃ p v, atKey xs k = some p ∧ RelV v p.2 ∧ Rep K ca N H v d) ∧ (dGet kvs k = none → atKey xs k = none)
  | _, _, a, .nil => ⟨fun d h => (by cases h), fun _ => rfl⟩
  | _, _, a, .cons (k := k) (b := b) (u := u) (v := v) (d := d) (xs := xs) (ds := ds) ok rk ru r t => by
    have ih := grep_get a t
    by_cases c : k = a
    · subst c
      have e1 : dGet ((k, d) :: ds) k = some d := by simp [dGet, List.find?_cons]
      have e2 : atKey ((k, b, u) :: xs) k = some (b, u) := by simp [atKey, List.find?_cons]
      rw [e1, e2]
      exact ⟨fun d' z => (by cases z; exact ⟨_, v, rfl, ru, r⟩), fun z => by cases z⟩
    · have e1 : dGet ((k, d) :: ds) a = dGet ds a := by simp [dGet, List.find?_cons, c]
      have e2 : atKey ((k, b, u) :: xs) a = atKey xs a := by simp [atKey, List.find?_cons, c]
      rw [e1, e2]
      exact ih
theorem grep_some {xs : List GE} {kvs : List (D × D)} (k : D) (r : GReps K ca N H xs kvs) : (atKey xs k).isSome = (dGet kvs k).isSome := by
  obtain ⟨h1, h2⟩ := grep_get k r
  cases q : dGet kvs k with
  | none => rw [h2 q]; rfl
  | some d => obtain ⟨p, v, e, _⟩ := h1 d q; rw [e]; rfl
theorem grep_map {k : D} {u : Value} {v : V} {d : D} (ru : RelV v u) (r : Rep K ca N H v d) : ∀ {xs : List GE} {kvs : List (D × D)}, GReps K ca N H xs kvs → GReps K ca N H (xs.map (putAt k u)) (kvs.map fun p => if p.1 = k then (p.1, d) else p)
  | _, _, .nil => .nil
  | _, _, .cons (k := j) ok rk ru' q t => by
    by_cases c : j = k
    · subst c
      simp only [List.map_cons, if_true, putAt]
      exact .cons ok rk ru r (grep_map ru r t)
    · simp only [List.map_cons, if_neg c, putAt]
      exact .cons ok rk ru' q (grep_map ru r t)
theorem grep_app : ∀ {xs xs2 : List GE} {kvs kvs2 : List (D × D)}, GReps K ca N H xs kvs → GReps K ca N H xs2 kvs2 → GReps K ca N H (xs ++ xs2) (kvs ++ kvs2)
  | _, _, _, _, .nil, s => s
  | _, _, _, _, .cons ok rk ru r t, s => .cons ok rk ru r (grep_app t s)
theorem grep_put {xs : List GE} {kvs : List (D × D)} {k : D} {b : Addr} {u : Value} {v : V} {d : D} (R : GReps K ca N H xs kvs) (ok : okK 6 k = true) (rk : Rep K ca N H (.ref b) k) (ru : RelV v u) (r : Rep K ca N H v d) : GReps K ca N H (storedH xs k b u) (dPut kvs k d) := by
  have e := grep_some k R
  unfold dPut storedH
  rw [e]
  split
  · exact grep_map ru r R
  · exact grep_app R (.cons ok rk ru r .nil)
/-- a key that stands at a value -/
def NK (K : PySem.W.Frag) (H : Hp) (k : D) (v : V) : Prop := okK 6 k = true ∧ (∃ ds, k = .tup ds) ∧ ∃ p, k.toP = some p ∧ Dp K H v p
theorem nk_of {k : D} {v : V} (h : isTupK k = true) (r : VRep K ca N H v k) : NK K H k v := by
  obtain ⟨ok, ht⟩ := isTupK_of h
  obtain ⟨p, hp⟩ := okK_toP ok
  exact ⟨ok, ht, p, hp, r.dp hp⟩
def NKs (K : PySem.W.Frag) (H : Hp) (xs : List GE) : Prop := ∀ x ∈ xs, NK K H x.1 (.ref x.2.1)
theorem nks_of : ∀ {xs : List GE} {kvs : List (D × D)}, GReps K ca N H xs kvs → NKs K H xs
  | _, _, .nil => fun x hx => nomatch hx
  | _, _, .cons ok rk _ _ t => fun x hx => by
    rcases List.mem_cons.mp hx with rfl | hx
    · exact nk_of (grep_key ok rk) (.of rk)
    · exact nks_of t x hx
end
section
variable {X : Cx} {ca : Ca} {pins : List (Addr × Obj)} {σ : St} {H : Hp} {s : Shared} {N : Addr → Prop}
theorem NK.nest {k : D} {b : Addr} (I : Inv X pins σ H s) (h : NK X.K H k (.ref b)) : NestK s.heap k b := by
  obtain ⟨ok, ht, p, hp, hd⟩ := h
  obtain ⟨as, r⟩ := Dp.reads I p (.ref b) (.ref b) hd rfl
  exact ⟨ok, ht, p, as, hp, r⟩
theorem dg_raw {hs : Str → Int} {a : Addr} {xs : List GE} (hw : hs = hashStr X.w) (I : Inv X pins σ H s) (e : H a = some (dgO hs a xs)) (nk : NKs X.K H xs) : xs.length ≤ sizeLine ∧ (a == sysModules) = false ∧ s.heap.DictOfH (nestKind X.prog X.w) a xs := by
  obtain ⟨⟨z, y, o, es, ep, h1, h2, h3, h4, h5⟩, _, _⟩ := (show ObjOk X.prog X.w H s.heap a (dgO hs a xs) from I.hok a _ e)
  subst hw
  exact ⟨z, y, o, es, ep, h1, h2, h3, h4, fun x hx => (nk x hx).nest I, h5⟩
theorem pairs_nil {P : Program} {w : World} {es : List DictEntry} (h : Pairs (mixKind P w) es []) : es = [] := by
  cases h; rfl
theorem dk0_raw {a : Addr} (I : Inv X pins σ H s) (e : H a = some (.dK [])) : (a == sysModules) = false ∧ s.heap.DictOfH (nestKind X.prog X.w) a [] := by
  obtain ⟨z, y, vs, rel, dd⟩ := dk_of I.hok e
  cases rel
  obtain ⟨o, es, ep, h1, h2, h3, h4, h5, h6⟩ := dd
  exact ⟨y, o, es, ep, h1, h2, h3, pairs_nil h5, fun x hx => (List.not_mem_nil hx).elim, List.nodup_nil⟩
theorem dg0_raw {hs : Str → Int} {a : Addr} (I : Inv X pins σ H s) (e : H a = some (dgO hs a [])) : (a == sysModules) = false ∧ s.heap.DictOf (mixKind X.prog X.w) a [] := by
  obtain ⟨⟨z, y, o, es, ep, h1, h2, h3, h4, h5⟩, _, _⟩ := (show ObjOk X.prog X.w H s.heap a (dgO hs a []) from I.hok a _ e)
  have h4' : es.toList = [] := h4
  refine ⟨y, o, es, ep, h1, h2, h3, fun e he => ?_, by rw [h4']; exact .nil, List.nodup_nil⟩
  rw [← Array.mem_toList_iff, h4'] at he
  exact (List.not_mem_nil he).elim
/-- the dict as the machine sees it -/
theorem dct_raw {y : V} {kvs : List (D × D)} {k : D} (hw : ca.hs = hashStr X.w) (I : Inv X pins σ H s) (R : VRep X.K ca N H y (.dct kvs)) (ok : keyFor kvs k = true) : ∃ a, y = .ref a ∧ kvs.length ≤ sizeLine ∧ (a == sysModules) = false ∧ Mut (H a) ∧ ((∃ j ks vs, k = kD j ∧ KReps X.K ca N H ks kvs ∧ KV ks vs ∧ s.heap.DictOf (mixKind X.prog X.w) a vs) ∨
    (isTupK k = true ∧ ∃ xs, GReps X.K ca N H xs kvs ∧ s.heap.DictOfH (nestKind X.prog X.w) a xs)) := by
  obtain ⟨a, rfl, q⟩ := vr_dct R
  have hm : Mut (H a) := by
    rcases q with ⟨ks, h, _⟩ | ⟨xs, h, _⟩ <;> rw [h] <;> exact True.intro
  refine ⟨a, rfl, ?_⟩
  rcases Bool.or_eq_true _ _ ▸ ok with ok | ok
  · obtain ⟨k1, k2⟩ := Bool.and_eq_true_iff.mp ok
    obtain ⟨j, rfl⟩ := flat_kD k1
    rcases q with ⟨ks, h, r⟩ | ⟨xs, h, r⟩
    · obtain ⟨z, y, vs, rel, dd⟩ := dk_of I.hok h
      have hl : ks.length = kvs.length := krep_len r
      exact ⟨by omega, y, hm, .inl ⟨j, ks, vs, rfl, r, rel, dd⟩⟩
    · obtain ⟨rfl, rfl⟩ := grep_flat r k2
      obtain ⟨y, dd⟩ := dg0_raw I h
      exact ⟨Nat.zero_le _, y, hm, .inl ⟨j, [], [], rfl, .nil, .nil, dd⟩⟩
  · obtain ⟨k1, k2⟩ := Bool.and_eq_true_iff.mp ok
    rcases q with ⟨ks, h, r⟩ | ⟨xs, h, r⟩
    · obtain ⟨rfl, rfl⟩ := krep_tup r k2
      obtain ⟨y, dd⟩ := dk0_raw I h
      exact ⟨Nat.zero_le _, y, hm, .inr ⟨k1, [], .nil, dd⟩⟩
    · obtain ⟨z, y, dd⟩ := dg_raw hw I h (nks_of r)
      exact ⟨by rw [← r.len]; exact z, y, hm, .inr ⟨k1, xs, r, dd⟩⟩
end
end Pw

set_option maxHeartbeats 4000000
/-! PyC: d[k], k in d, len(d), list(d), {}, d[k] = v. -/
namespace Pw
open PySem PySem.Spec PyProof.Rows L2

def isDctD : D → Bool
  | .dct _ => true
  | _ => false
noncomputable def dgetD (x y : D) : Po := match x with
  | .dct kvs => if keyFor kvs y = true then (match dGet kvs y with
    | some d => .val d
    | none => .stuck) else .stuck
  | _ => .stuck
noncomputable def idxA (x y : D) : Po := if isDctD x = true then dgetD x y else idxD x y
noncomputable def dinD (x y : D) : Po := match y with
  | .dct kvs => if keyFor kvs x = true then .val (.bl (dGet kvs x).isSome) else .stuck
  | _ => .stuck
noncomputable def dnotInD (x y : D) : Po := match y with
  | .dct kvs => if keyFor kvs x = true then .val (.bl (!(dGet kvs x).isSome)) else .stuck
  | _ => .stuck
noncomputable def inA (x y : D) : Po := if isDctD y = true then dinD x y else inD x y
noncomputable def notInA (x y : D) : Po := if isDctD y = true then dnotInD x y else notInD x y
def isDcts : List D → Bool
  | [.dct _] => true
  | _ => false
def dlenD : List D → Po
  | [.dct kvs] => .val (.int kvs.length)
  | _ => .stuck
def lenA (ds : List D) : Po := if isDcts ds = true then dlenD ds else lenD ds
def dlistD : List D → Po
  | [.dct kvs] => .fresh (.lst (kvs.map (·.1)))
  | _ => .stuck
section
variable {X : Cx} {ca : Ca} {a b : Expr}
theorem vr_key {N : Addr → Prop} {H : Hp} {v : V} {j : Key} (h : VRep X.K ca N H v (kD j)) : v = kV j := by
  cases j with
  | inl i => exact vr_int h
  | inr s => exact vr_str h
theorem nk_ref {N : Addr → Prop} {H : Hp} {v : V} {k : D} (h : isTupK k = true) (r : VRep X.K ca N H v k) : ∃ b, v = .ref b ∧ NK X.K H k (.ref b) := by
  have nk := nk_of h r
  obtain ⟨_, ds, rfl⟩ := isTupK_of h
  obtain ⟨b, _, rfl, _⟩ := vr_tup r
  exact ⟨b, rfl, nk⟩
theorem room1 {A : Around} (h : A.units + 65 < cLine) : (nestKind X.prog X.w).room A.in1 := by
  show A.units + 1 + 64 < cLine
  omega
theorem ov_dget (hu : X.A.units + 65 < cLine) (hw : ca.hs = hashStr X.w) (hs : PlainIx b) : OpV ca X (subscriptTail a b) dgetD := fun W tk pins s σ H x y v u Q N dx dy I rx ry nd hx hy q => by
  unfold dgetD at q
  cases dx <;> try exact q.elim
  rename_i kvs
  dsimp only at q
  by_cases c : keyFor kvs dy = true
  · rw [if_pos c] at q
    cases g : dGet kvs dy with
    | none => rw [g] at q; exact q.elim
    | some d =>
      rw [g] at q
      obtain ⟨p, rfl, _, hsys, _, ⟨j, ks, vs, rfl, kr, kv, dd⟩ | ⟨ht, xs, gr, dd⟩⟩ := dct_raw hw I hx c
      · cases rx
        rw [vr_key hy] at ry
        obtain ⟨z, h1, h2⟩ := (krep_get j kr).1 d g
        obtain ⟨w', hw', rw'⟩ := RelO.some_of (v := z) (o := valueAt vs j) (by rw [← h1]; exact kv.val j)
        exact tail_any dd.typeIs PySem.F.slot_dict_getitem.lookup (wpAny_getItem_of (kV_is ry) dd.mapOf hw' ⟨z, H, I.tok _, rw', q z H (fun _ _ e => e) h2⟩) (hs _ _)
      · cases rx
        obtain ⟨b', rfl, nk⟩ := nk_ref ht hy
        cases ry
        obtain ⟨pr, z, h1, h2, h3⟩ := (grep_get dy gr).1 d g
        exact tail_any dd.typeIs PySem.F.slot_dict_getitem.lookup (wpAny_getItem_heap (room1 hu) (nk.nest I) dd h1 ⟨z, H, I.tok _, h2, q z H (fun _ _ e => e) h3⟩) (hs _ _)
  · rw [if_neg c] at q; exact q.elim
theorem ov_ixA (hu : X.A.units + 65 < cLine) (hw : ca.hs = hashStr X.w) (hs : PlainIx b) : OpV ca X (subscriptTail a b) idxA := OpV.or (b := fun x _ => isDctD x) (ov_dget hu hw hs) (ov_ix hs)
theorem ov_din (hu : X.A.units + 65 < cLine) (hw : ca.hs = hashStr X.w) : OpV ca X (compareOp .In) dinD := fun W tk pins s σ H x y v u Q N dx dy I rx ry nd hx hy q => by
  unfold dinD at q
  cases dy <;> try exact q.elim
  rename_i kvs
  dsimp only at q
  by_cases c : keyFor kvs dx = true
  · rw [if_pos c] at q
    obtain ⟨p, rfl, _, hsys, _, ⟨j, ks, vs, rfl, kr, kv, dd⟩ | ⟨ht, xs, gr, dd⟩⟩ := dct_raw hw I hy c
    · cases ry
      rw [vr_key hx] at rx
      refine wpAny_in_of (kV_is rx) hsys dd.mapOf ?_
      rw [← (kv.val j).isSome_eq, krep_some j kr]
      exact ⟨.bl _, H, I.tok _, rfl, q _ H (fun _ _ e => e) (.bl _)⟩
    · cases ry
      obtain ⟨b', rfl, nk⟩ := nk_ref ht hx
      cases rx
      refine wpAny_in_heap (room1 hu) (nk.nest I) hsys dd ?_
      rw [grep_some dx gr]
      exact ⟨.bl _, H, I.tok _, rfl, q _ H (fun _ _ e => e) (.bl _)⟩
  · rw [if_neg c] at q; exact q.elim
theorem ov_dnotIn (hu : X.A.units + 65 < cLine) (hw : ca.hs = hashStr X.w) : OpV ca X (compareOp .NotIn) dnotInD := fun W tk pins s σ H x y v u Q N dx dy I rx ry nd hx hy q => by
  unfold dnotInD at q
  cases dy <;> try exact q.elim
  rename_i kvs
  dsimp only at q
  by_cases c : keyFor kvs dx = true
  · rw [if_pos c] at q
    obtain ⟨p, rfl, _, hsys, _, ⟨j, ks, vs, rfl, kr, kv, dd⟩ | ⟨ht, xs, gr, dd⟩⟩ := dct_raw hw I hy c
    · cases ry
      rw [vr_key hx] at rx
      refine wpAny_notIn_of (kV_is rx) hsys dd.mapOf ?_
      rw [← (kv.val j).isSome_eq, krep_some j kr]
      exact ⟨.bl _, H, I.tok _, rfl, q _ H (fun _ _ e => e) (.bl _)⟩
    · cases ry
      obtain ⟨b', rfl, nk⟩ := nk_ref ht hx
      cases rx
      refine wpAny_notIn_heap (room1 hu) (nk.nest I) hsys dd ?_
      rw [grep_some dx gr]
      exact ⟨.bl _, H, I.tok _, rfl, q _ H (fun _ _ e => e) (.bl _)⟩
  · rw [if_neg c] at q; exact q.elim
theorem ov_inA (hu : X.A.units + 65 < cLine) (hw : ca.hs = hashStr X.w) : OpV ca X (compareOp .In) inA := OpV.or (b := fun _ y => isDctD y) (ov_din hu hw) (ov_in hu)
theorem ov_notInA (hu : X.A.units + 65 < cLine) (hw : ca.hs = hashStr X.w) : OpV ca X (compareOp .NotIn) notInA := OpV.or (b := fun _ y => isDctD y) (ov_dnotIn hu hw) (ov_notIn hu)
/-- the dict at a, of either kind -/
theorem dct_raw0 {N : Addr → Prop} {pins : List (Addr × Obj)} {σ : St} {H : Hp} {s : Shared} {y : V} {kvs : List (D × D)} (hw : ca.hs = hashStr X.w) (I : Inv X pins σ H s) (R : VRep X.K ca N H y (.dct kvs)) : ∃ a, y = .ref a ∧ kvs.length ≤ sizeLine ∧ (a == sysModules) = false ∧ ((∃ ks vs, H a = some (.dK ks) ∧ KReps X.K ca N H ks kvs ∧ KV ks vs ∧ s.heap.DictOf (mixKind X.prog X.w) a vs) ∨
    ∃ xs, GReps X.K ca N H xs kvs ∧ s.heap.DictOfH (nestKind X.prog X.w) a xs) := by
  obtain ⟨a, rfl, q⟩ := vr_dct R
  refine ⟨a, rfl, ?_⟩
  rcases q with ⟨ks, h, r⟩ | ⟨xs, h, r⟩
  · obtain ⟨z, y, vs, rel, dd⟩ := dk_of I.hok h
    exact ⟨by rw [← krep_len r]; exact z, y, .inl ⟨ks, vs, h, r, rel, dd⟩⟩
  · obtain ⟨z, y, dd⟩ := dg_raw hw I h (nks_of r)
    exact ⟨by rw [← r.len]; exact z, y, .inr ⟨xs, r, dd⟩⟩
theorem cv_dlen (hw : ca.hs = hashStr X.w) : CallV ca X (.builtin "len") dlenD := fun W tk pins s σ H xs us Q N ds I r nd h q => by
  unfold dlenD at q
  split at q
  · rename_i kvs
    obtain ⟨x, rfl, hx⟩ := vrs1 h
    obtain ⟨u, rfl, rx⟩ := vals1 r
    obtain ⟨a, rfl, z, hsys, ⟨ks, vs, hk, kr, kv, dd⟩ | ⟨xs, gr, dd⟩⟩ := dct_raw0 hw I hx
    · cases rx
      have l1 := krep_len kr
      have l2 := kv.length
      refine call_len_dict hsys dd (by rw [sizeLine_eq] at z; omega) ?_
      rw [← l2, l1]
      exact ⟨.int _, H, I.tok _, ⟨_, rfl⟩, q _ H (fun _ _ e => e) (.int _)⟩
    · cases rx
      have l1 := gr.len
      refine call_len_dictH hsys dd (by rw [sizeLine_eq] at z; omega) ?_
      rw [l1]
      exact ⟨.int _, H, I.tok _, ⟨_, rfl⟩, q _ H (fun _ _ e => e) (.int _)⟩
  · exact q.elim
theorem cv_lenA (hw : ca.hs = hashStr X.w) : CallV ca X (.builtin "len") lenA := CallV.or (b := isDcts) (cv_dlen hw) cv_len
theorem grep_keys {N : Addr → Prop} {H : Hp} : ∀ {xs : List GE} {kvs : List (D × D)}, GReps X.K ca N H xs kvs → Reps X.K ca N H (xs.map fun x => V.ref x.2.1) (kvs.map (·.1))
  | _, _, .nil => .nil
  | _, _, .cons _ rk _ _ t => .cons rk (grep_keys t)
theorem cv_dlist (hc : X.calm = true) (hw : ca.hs = hashStr X.w) : CallV ca X (.type "list") dlistD := fun W tk pins s σ H xs us Q N ds I r nd h q => by
  unfold dlistD at q
  split at q
  · rename_i kvs
    obtain ⟨x, rfl, hx⟩ := vrs1 h
    obtain ⟨a, rfl, z, hsys, ⟨ks, vs, hk, kr, kv, dd⟩ | ⟨xs, gr, dd⟩⟩ := dct_raw0 hw I hx
    · exact call_list_dK hc pins s σ H _ us Q I r ⟨a, ks, rfl, hk, fun p hp => q p _ (Ext.new hp) hp (upd_lst hp (krep_keys kr) nd)⟩
    · obtain ⟨u, rfl, rx⟩ := vals1 r
      cases rx
      obtain ⟨o, es, ep, ho, hx', hdt, he, _, hn⟩ := dd
      have l1 : es.size = xs.length := size_of_entries he
      have l2 := gr.len
      refine PySem.W.kdl_call (kdl_raw hsys hx' hdt) (I.ok.hd hc) ho (by omega) fun h' tk acc' c' kp e it => ?_
      have ea : acc'.toList = xs.map fun x => Value.ref x.2.1 := by
        have hl : acc'.toList.length = xs.length := by rw [Array.length_toList, it.1]; exact l1
        apply List.ext_getElem?
        intro j
        rw [List.getElem?_map]
        cases hj : acc'.toList[j]? with
        | none =>
          have h1 := List.getElem?_eq_none_iff.mp hj
          rw [List.getElem?_eq_none (by omega)]
          all_goals rfl
        | some v =>
          obtain ⟨en, hen, hv⟩ := it.2 j v (by rw [← Array.getElem?_toList]; exact hj)
          have qe := entry_at he j
          rw [hen] at qe
          cases hb : xs[j]? with
          | none =>
            rw [hb] at qe
            exact nomatch (show some en = none from qe)
          | some b =>
            rw [hb] at qe
            have e2 : en = entryOfKey (nestKind X.prog X.w) b := Option.some.inj qe
            rw [hv, e2]
            all_goals rfl
      have eb : acc'.toList = (xs.map fun x => x.2.1).map Value.ref := by rw [ea, List.map_map]; all_goals rfl
      have rv : Vals ((xs.map fun x => x.2.1).map V.ref) acc'.toList := by rw [eb]; exact vals_refs _
      have hz : ((xs.map fun x => x.2.1).map V.ref).length ≤ sizeLine := by rw [List.length_map, List.length_map]; omega
      have hp : H s.heap.objs.size = none := I.hok.fresh (Nat.le_refl _)
      have em : (xs.map fun x => V.ref x.2.1) = (xs.map fun x => x.2.1).map V.ref := by rw [List.map_map]; rfl
      refine ⟨.ref s.heap.objs.size, _, I.laid (t' := tk) (o := .lst ((xs.map fun x => x.2.1).map V.ref)) kp (Nat.le_refl _) ?_, rfl, q _ _ (Ext.new hp) hp (upd_lst hp (by rw [← em]; exact grep_keys gr) nd)⟩
      exact ⟨hz, acc'.toList, c', rv, by rw [Array.toArray_toList]; exact e⟩
  · exact q.elim
end
end Pw

set_option maxHeartbeats 4000000
/-! PyD: d[k] = v and xs[i] = v of one slot's own object; {}; list(x). -/
namespace Pw
open PySem PySem.Spec PyProof.Rows L2

noncomputable def subOutA (ro ri : RV) (d : D) (e : En) : SO := match ro with
  | .bor i => match e[i]? with
    | some (.own pm false (.lst xs)) => match norm ri with
      | .val (.int k) => match ixN xs.length k with
        | some j => .next (e.set i (.own pm false (.lst (xs.set j d))))
        | none => .stuck
      | _ => .stuck
    | some (.own pm false (.dct kvs)) => match norm ri with
      | .val k => if keyFor kvs k = true ∧ kvs.length < sizeLine then .next (e.set i (.own pm false (.dct (dPut kvs k d)))) else .stuck
      | _ => .stuck
    | _ => .stuck
  | _ => .stuck
noncomputable def mSetSubA (mo mi m : ME) : MS := fun e => (m e).toS fun r e1 => (share r e1).toS fun d e2 => (mo e2).toS fun ro e3 => (mi e3).toS fun ri e4 => subOutA ro ri d e4
def mNewD : ME := fun e => .ok (.fresh (.dct [])) e
/-- the dict's new object -/
def NewDct (K : PySem.W.Frag) (ca : Ca) (N : Addr → Prop) (H : Hp) (i v : V) (kvs : List (D × D)) (k : D) (u : Value) (a : Addr) (ho : HO) : Prop :=
  (∃ j ks, k = kD j ∧ KReps K ca N H ks kvs ∧ ho = .dK (putK ks j v)) ∨ ∃ b xs, i = .ref b ∧ GReps K ca N H xs kvs ∧ isTupK k = true ∧ ho = dgO ca.hs a (storedH xs k b u)
def rSetDct (K : PySem.W.Frag) (ca : Ca) : TSet := fun o i v H Q => ∃ N kvs k, VRep K ca N H o (.dct kvs) ∧ Rep K ca N H i k ∧ keyFor kvs k = true ∧ kvs.length < sizeLine ∧ ∀ a u ho, o = .ref a → RelV v u → NewDct K ca N H i v kvs k u a ho → Q (upd H a ho)
theorem stored_len {xs : List GE} {k : D} {b : Addr} {u : Value} : (storedH xs k b u).length ≤ xs.length + 1 := by
  unfold storedH
  split
  · rw [List.length_map]; omega
  · rw [List.length_append]; simp
section
variable {X : Cx} {ca : Ca}
theorem set_dct (hu : X.A.units + 65 < cLine) (hw : ca.hs = hashStr X.w) : PSet X (rSetDct X.K ca) := by
  intro pins s σ H o i v ov iv u Q I ro ri rv h
  obtain ⟨N, kvs, k, ho, hi, c, hz, q⟩ := h
  obtain ⟨a, rfl, _, hsys, mu, ⟨j, ks, vs, rfl, kr, kv, dd⟩ | ⟨ht, xs, gr, dd⟩⟩ := dct_raw hw I ho c
  · cases ro
    rw [vr_key (.of hi)] at ri
    have l1 := krep_len kr
    have l2 := kv.length
    have hl : (putK ks j v).length ≤ sizeLine := by have := length_putK ks j v; omega
    refine wpAny_setItem_pairs (hsz := by omega) (kV_is ri) dd fun h' dd' hs => ?_
    have he : ∃ q, h'.get? a = some q := let ⟨q, _, _, hq, _⟩ := dd'; ⟨q, hq⟩
    exact ⟨_, d_write I mu hs he (dk_new hl hsys (kv.put j rv) dd'), q a u _ rfl rv (.inl ⟨j, ks, rfl, kr, rfl⟩)⟩
  · cases ro
    obtain ⟨b', rfl, nk⟩ := nk_ref ht (.of hi)
    cases ri
    have l1 := gr.len
    have hl : (storedH xs k b' u).length ≤ sizeLine := by have := @stored_len xs k b' u; omega
    refine wpAny_setItem_heap (hsz := by omega) (room1 hu) (nk.nest I) dd fun h' dd' hs => ?_
    obtain ⟨o, es, ep, h1, h2, h3, h4, h5, h6⟩ := dd'
    have h4' : es.toList = (storedH xs k b' u).map (gEnt ca.hs) := by rw [h4, hw]; rfl
    have new : ObjOk X.prog X.w (upd H a (dgO ca.hs a (storedH xs k b' u))) h' a (dgO ca.hs a (storedH xs k b' u)) := by
      refine ⟨⟨hl, hsys, o, es, ep, h1, h2, h3, h4', h6⟩, ⟨o, h1⟩, fun g1 g2 p st => ?_⟩
      obtain ⟨z, y, o1, es1, ep1, e1, e2⟩ := p
      exact ⟨z, y, o1, es1, ep1, st _ e1, e2⟩
    exact ⟨_, d_write I mu hs ⟨o, h1⟩ new, q a u _ rfl rv (.inr ⟨b', xs, rfl, gr, ht, rfl⟩)⟩
theorem newDct_rep {N N' : Addr → Prop} {H : Hp} {i v : V} {kvs : List (D × D)} {k d : D} {u : Value} {a : Addr} {ho : HO} (h : NewDct X.K ca N H i v kvs k u a ho) (ri : Rep X.K ca N H i k) (rv : Rep X.K ca N H v d) (ru : RelV v u) (sb : Sub N N' H (upd H a ho)) : CRep X.K ca N' (upd H a ho) a (.dct (dPut kvs k d)) := by
  rcases h with ⟨j, ks, rfl, kr, rfl⟩ | ⟨b, xs, rfl, gr, ht, rfl⟩
  · exact .dct upd_same (KReps.sub sb (krep_put kr rv))
  · exact .dcg upd_same (GReps.sub sb (grep_put gr (isTupK_of ht).1 ri ru rv))
theorem set_both (hu : X.A.units + 65 < cLine) (hw : ca.hs = hashStr X.w) : PSet X (fun o i v H Q => rSetL o i v H Q ∨ rSetDct X.K ca o i v H Q) := by
  intro pins s σ H o i v ov iv u Q I ro ri rv h
  rcases h with h | h
  · exact set_list pins s σ H o i v ov iv u Q I ro ri rv h
  · exact set_dct hu hw pins s σ H o i v ov iv u Q I ro ri rv h
variable {a : Expr} {ma mo mi : ME} {pos pos' : Pos}
theorem vs_setSubA {o i : Expr} (hu : X.A.units + 65 < cLine) (hwh : ca.hs = hashStr X.w) (he : VE X ca a ma) (ho : VE X ca o mo) (hi : VE X ca i mi)
    (hav : ∀ v, assign (.Subscript o i pos') X.env v = (do
      let ov ← holding [v] (eval o X.env)
      let iv ← holding [v, ov] (eval i X.env)
      standAt pos'
      holding [v, ov, iv] (setItem ov iv v)
      release [v, ov, iv] []))
    (hs : swapsWithSole [.Subscript o i pos'] a pos.line X.env = pure false) (hw : swappedStores [.Subscript o i pos'] a X.env = pure none)
    (h1 : (assignEach [.Subscript o i pos'] X.env).map (·.2) = [assign (.Subscript o i pos') X.env]) : VS X ca (.Assign [.Subscript o i pos'] a pos) (mSetSubA mo mi ma) := fun W tk =>
  psImp (ps_asg (he W tk) (pg_sub (ho W tk) (hi W tk) (set_both hu hwh) hav) hs hw h1) fun D σ H ⟨B, env, S, h⟩ => ⟨B, env, S, (h.ofE S).imp fun r e H1 P k v R => by
    have k0 := P.keep.toS P.rel S
    obtain ⟨d, e1, P1, rd, h2⟩ := share_ok ((SCond.later k0 k).ofE P.rel) P.rel R
    have kk := P1.keep.toS P1.rel P.rel
    have h3 := SCond.later kk h2
    refine ⟨B, e1, P1.rel, (h3.ofE P1.rel).imp fun ro e3 H3 P3 k3 vo Ro => ?_⟩
    have k3' := SCond.later (P3.keep.toS P3.rel P1.rel) k3
    refine ⟨B, e3, P3.rel, (k3'.ofE P3.rel).imp fun ri e4 H4 P4 k4 vi Ri => ?_⟩
    have k4' := SCond.later (P4.keep.toS P4.rel P3.rel) k4
    have rd4 := (rd.sub P3.keep.sub).sub P4.keep.sub
    unfold subOutA at k4'
    split at k4'
    · rename_i i
      split at k4'
      · rename_i pm xs hi
        split at k4'
        · rename_i kz heq
          have Ri' := Ri.norm
          rw [heq] at Ri'
          cases (show Rep X.K ca _ H4 vi (.int kz) from Ri')
          split at k4'
          · rename_i j hj
            obtain ⟨ho', s0, hs0, _⟩ := Ro
            obtain ⟨p, e1', c⟩ := P4.rel.slot _ _ hi
            rw [ho'] at e1'
            cases e1'
            cases c with
            | @lst vs _ hp rp =>
              refine .inl ⟨p, vs, kz, j, rfl, rfl, hp, by rw [rp.len]; exact hj, ?_⟩
              have np : ∀ b, ¬ Nof B e4 σ b → b ≠ p := fun b nb z => nb (by subst z; exact .inr ⟨i, ⟨_, _, _, hi⟩, ho'⟩)
              have sb : Sub (Nof B e4 σ) (Nof B e4 σ) H4 (upd H4 p (.lst (vs.set j v))) := fun b o ea _ nb => ⟨nb, by rw [upd_ne (np b nb)]; exact ea⟩
              have PP := mutOwn (o := .lst (vs.set j v)) P4.rel hi ho' (.lst upd_same ((rp.set rd4 j).sub sb))
              exact k4' σ _ PP.rel (PP.keep.toS PP.rel P4.rel)
          · exact k4'.elim
        · exact k4'.elim
      · rename_i pm kvs hi
        split at k4'
        · rename_i kz heq
          have Ri' := Ri.norm
          rw [heq] at Ri'
          have Ri'' : Rep X.K ca (Nof B e4 σ) H4 vi kz := Ri'
          by_cases cc : keyFor kvs kz = true ∧ kvs.length < sizeLine
          · rw [if_pos cc] at k4'
            obtain ⟨ho', s0, hs0, _⟩ := Ro
            obtain ⟨p, e1', c⟩ := P4.rel.slot _ _ hi
            rw [ho'] at e1'
            cases e1'
            refine .inr ⟨_, kvs, kz, .ct c rfl, Ri'', cc.1, cc.2, fun a u hob ea ru nd => ?_⟩
            cases ea
            have np : ∀ b, ¬ Nof B e4 σ b → b ≠ p := fun b nb z => nb (by subst z; exact .inr ⟨i, ⟨_, _, _, hi⟩, ho'⟩)
            have sb : Sub (Nof B e4 σ) (Nof B e4 σ) H4 (upd H4 p hob) := fun b o ea _ nb => ⟨nb, by rw [upd_ne (np b nb)]; exact ea⟩
            have PP := mutOwn (o := hob) P4.rel hi ho' (newDct_rep nd Ri'' rd4 ru sb)
            exact k4' σ _ PP.rel (PP.keep.toS PP.rel P4.rel)
          · rw [if_neg cc] at k4'; exact k4'.elim
        · exact k4'.elim
      · exact k4'.elim
    · exact k4'.elim⟩
theorem ve_newD : VE X ca (.Dict [] [] pos) mNewD := fun W tk =>
  peImp pe_dnewK fun σ H Q ⟨B, env, S, h⟩ => fun p hp => h.now (.ext S (Ext.new hp)) _ ⟨p, rfl, hp, S.fresh hp, .dct upd_same .nil, S.hide (Ext.new hp) hp (by rw [upd_same]; exact fun z => nomatch z)⟩
theorem cv_list : CallV ca X (.type "list") listD := CallV.of call_list_of fun N H xs ds Q kx nd h q => by
  unfold listD at q
  split at q
  · obtain ⟨x, rfl, hx⟩ := vrs1 h
    obtain ⟨a, vs, rfl, h, r⟩ := vr_lst hx
    exact ⟨a, vs, rfl, .inl (.inl (.inl h)), fun l hl => q l _ (Ext.new hl) hl (upd_lst hl r nd)⟩
  · obtain ⟨x, rfl, hx⟩ := vrs1 h
    obtain ⟨a, vs, rfl, h, r⟩ := vr_tup hx
    exact ⟨a, vs, rfl, .inr h.sq, fun l hl => q l _ (Ext.new hl) hl (upd_lst hl r nd)⟩
  · exact q.elim
end
def listA (ds : List D) : Po := if isDcts ds = true then dlistD ds else listD ds
theorem cv_listA {X : Cx} {ca : Ca} (hc : X.calm = true) (hw : ca.hs = hashStr X.w) : CallV ca X (.type "list") listA := CallV.or (b := isDcts) (cv_dlist hc hw) cv_list
end Pw

set_option maxHeartbeats 4000000
/-! PyE: sorted(xs) of data. -/
namespace Pw
open PySem PySem.Spec PyProof.Rows L2

def encD (d : D) : PyData := d.toP.getD .none
def isTupNE : PyData → Bool
  | .tuple (_ :: _) => true
  | _ => false
def isOther : PyData → Bool
  | .tuple _ => false
  | .none => false
  | _ => true
def sortOk (ds : List D) : Bool := decide (ds.length ≤ sizeLine) && ((ds.all fun d => d.toP.isSome && decide ((encD d).depth ≤ 60)) && ((ds.all fun d => ds.all fun e => PySem.W.alike (encD d) (encD e)) && ((ds.all fun d => isTupNE (encD d)) || ds.all fun d => isOther (encD d))))
def leK (a b : D) : Bool := PySem.W.dataLe false encD a b
def sortK (ds : List D) : List D := ds.mergeSort leK
def sortedD : List D → Po
  | [.lst ds] => if sortOk ds = true then .fresh (.lst (sortK ds)) else .stuck
  | _ => .stuck
section
variable {X : Cx} {ca : Ca}
theorem each_of {K : PySem.W.Frag} {N : Addr → Prop} {H : Hp} : ∀ {vs : List V} {us : List Value} {ds : List D}, Reps K ca N H vs ds → Vals vs us → PySem.W.EachIs (fun u d => ∃ v, RelV v u ∧ Rep K ca N H v d) us ds
  | _, _, _, .nil, .nil => .nil
  | _, _, _, .cons r t, .cons rv tv => .cons ⟨_, rv, r⟩ (each_of t tv)
theorem of_each {K : PySem.W.Frag} {N : Addr → Prop} {H : Hp} : ∀ {us : List Value} {ds : List D}, PySem.W.EachIs (fun u d => ∃ v, RelV v u ∧ Rep K ca N H v d) us ds → ∃ vs, Vals vs us ∧ Reps K ca N H vs ds
  | _, _, .nil => ⟨[], .nil, .nil⟩
  | _, _, .cons ⟨v, rv, r⟩ t => by
    obtain ⟨vs, h1, h2⟩ := of_each t
    exact ⟨v :: vs, .cons rv h1, .cons r h2⟩
theorem each_reads {pins : List (Addr × Obj)} {σ : St} {H : Hp} {s : Shared} {N : Addr → Prop} (I : Inv X pins σ H s) : ∀ {us : List Value} {ds : List D}, PySem.W.EachIs (fun u d => ∃ v, RelV v u ∧ Rep X.K ca N H v d) us ds → (∀ d ∈ ds, d.toP.isSome = true) →
    PySem.W.EachIs (fun u d => ∃ as, Reads s.heap u (encD d) as) us ds
  | _, _, .nil, _ => .nil
  | _, _, .cons (b := d) ⟨v, rv, r⟩ t, h => .cons (by
      obtain ⟨p, hp⟩ := Option.isSome_iff_exists.mp (h d (by simp))
      obtain ⟨as, q⟩ := Dp.reads I p v _ (r.dp hp) rv
      exact ⟨as, by unfold encD; rw [hp]; exact q⟩) (each_reads I t fun e he => h e (by simp [he]))
theorem sortOk_of {ds : List D} (h : sortOk ds = true) : ds.length ≤ sizeLine ∧ (∀ d ∈ ds, d.toP.isSome = true) ∧ (∀ d ∈ ds, (encD d).depth ≤ 60) ∧ PySem.W.AllAlike (ds.map encD) ∧ PySem.W.Sortable (ds.map encD) := by
  obtain ⟨h1, h⟩ := Bool.and_eq_true_iff.mp h
  obtain ⟨h2, h⟩ := Bool.and_eq_true_iff.mp h
  obtain ⟨h3, h4⟩ := Bool.and_eq_true_iff.mp h
  refine ⟨of_decide_eq_true h1, fun d hd => (Bool.and_eq_true_iff.mp (List.all_eq_true.mp h2 d hd)).1, fun d hd => of_decide_eq_true (Bool.and_eq_true_iff.mp (List.all_eq_true.mp h2 d hd)).2, fun x hx y hy => ?_, ?_⟩
  · obtain ⟨d, hd, rfl⟩ := List.mem_map.mp hx
    obtain ⟨e, he, rfl⟩ := List.mem_map.mp hy
    exact List.all_eq_true.mp (List.all_eq_true.mp h3 d hd) e he
  · rcases Bool.or_eq_true _ _ ▸ h4 with h4 | h4
    · refine .inl fun x hx => ?_
      obtain ⟨d, hd, rfl⟩ := List.mem_map.mp hx
      have := List.all_eq_true.mp h4 d hd
      cases q : encD d with
      | tuple l => cases l with
        | nil => rw [q] at this; cases this
        | cons y r => exact ⟨_, _, rfl⟩
      | _ => rw [q] at this; cases this
    · refine .inr fun x hx => ?_
      obtain ⟨d, hd, rfl⟩ := List.mem_map.mp hx
      have := List.all_eq_true.mp h4 d hd
      exact ⟨fun z => (by rw [z] at this; cases this), fun xs z => (by rw [z] at this; cases this)⟩
theorem cv_sorted (hu : X.A.units + 65 < cLine) : CallV ca X (.builtin "sorted") sortedD := fun W tk pins s σ H xs us Q N ds I r nd h q => by
  unfold sortedD at q
  split at q
  · rename_i ds
    by_cases c : sortOk ds = true
    · rw [if_pos c] at q
      obtain ⟨c1, c2, c3, c4, c5⟩ := sortOk_of c
      obtain ⟨x, rfl, hx⟩ := vrs1 h
      obtain ⟨u, rfl, rx⟩ := vals1 r
      obtain ⟨a, vs, rfl, hl, rr⟩ := vr_lst hx
      cases rx
      obtain ⟨its, n, rv, ho, hz⟩ := I.lst hl
      have e := each_of rr rv
      refine PySem.W.sorted_data (enc := encD) (vs := its) (bs := ds) ⟨_, ho, rfl, n, rfl⟩ e (each_reads I e c2) c4 c5 c1 (fun b hb => by have := c3 b hb; omega) fun out hlen hout => ?_
      obtain ⟨zs, rz, rd⟩ := of_each hout
      obtain ⟨n', hat⟩ := sortedAll_at s.heap its out.toArray
      have hp : H (s.heap.objs.size + 1) = none := I.hok.fresh (Nat.le_succ _)
      have new : ObjOk X.prog X.w (upd H (s.heap.objs.size + 1) (.lst zs)) (sortedAll s.heap its out.toArray) (s.heap.objs.size + 1) (.lst zs) := ⟨by rw [rz.length, hlen]; exact c1, out, n', rz, hat⟩
      exact ⟨.ref (s.heap.objs.size + 1), _, I.laid (t' := s.toks) (fun b o ea => sortedAll_old ea) (Nat.le_succ _) new, rfl, q _ _ (Ext.new hp) hp (upd_lst hp rd nd)⟩
    · rw [if_neg c] at q; exact q.elim
  · exact q.elim
end
end Pw

set_option maxHeartbeats 4000000
/-! PyF: walks over texts; own __contains__, __len__; join; lists times n; constants and classmethods of classes. -/
namespace Pw
open PySem PySem.Spec PyProof.Rows L2

/-! ### a text or a sequence is walked -/
def signsD (s : Str) : List D := s.cps.toList.map fun c => .str ⟨#[c]⟩
def isStrR (r : RV) (e : En) : Bool := match view r e with
  | some (.str _) => true
  | _ => false
def wkStr (r : RV) (e : En) : Out Wk := match view r e with
  | some (.str s) => .ok ⟨signsD s, none⟩ e
  | _ => wkOf r e
def mWAny (m : ME) : En → Out Wk := fun e => (m e).bind wkStr
theorem its_ok {K : PySem.W.Frag} {ca : Ca} {s : Str} : ItOk K ca (Its s) (signsD s) fun _ _ => True := fun N H nd _ => by
  have hl : (signsD s).length = s.cps.size := by simp [signsD]
  refine ⟨fun i d h => ⟨?_, fun x H' q => ?_⟩, fun i h => ?_⟩
  · have := (List.getElem?_eq_some_iff.mp h).1
    show i < s.cps.size
    omega
  · obtain ⟨rfl, c, hc, rfl⟩ := q
    unfold signsD at h
    rw [List.getElem?_map, Array.getElem?_toList, hc] at h
    cases h
    exact ⟨fun _ _ e => e, .str _⟩
  · show s.cps.size ≤ i
    omega
section
variable {X : Cx} {ca : Ca} {tg iter : Expr} {ma : ME}
theorem vi_any (he : VE X ca iter ma) : VI X ca tg iter (mWAny ma) := fun W tk => ⟨fun pins s σ H R I ⟨B, env, S, h⟩ => by
  cases q : ma env with
  | stuck =>
    have h' : CondG X.K ca W B σ H env ((ma env).bind wkStr) _ := h
    rw [q] at h'; exact h'.elim
  | exn x e =>
    have h' : CondG X.K ca W B σ H env ((ma env).bind wkStr) _ := h
    rw [q] at h'
    exact (pi_list (tg := tg) (he W tk)).run pins s σ H R I ⟨B, env, S, by rw [q]; exact h'⟩
  | ok r e =>
    cases c : view r e with
    | none => 
      refine (vi_seq (tg := tg) he W tk).run pins s σ H R I ⟨B, env, S, ?_⟩
      have h' : CondG X.K ca W B σ H env ((ma env).bind wkStr) _ := h
      rw [q] at h'
      show CondG X.K ca W B σ H env ((ma env).bind wkOf) _
      rw [q]
      simp only [Out.bind_ok, wkStr, c] at h' ⊢
      exact h'
    | some d =>
      cases d with
      | str z =>
        refine (pi_str (tg := tg) (he W tk)).run pins s σ H R I ⟨B, env, S, (CondG.bind' h).eqn.imp fun r1 e1 H1 P ⟨q1, k⟩ v Rv => ?_⟩
        rw [q] at q1
        cases q1
        simp only [wkStr, c] at k
        refine ⟨z, vr_str (Rv.view P.rel c), ?_⟩
        exact k H1 P _ (fun _ _ => True) (fun _ h => nomatch h) its_ok fun _ _ _ _ => trivial
      | _ =>
        refine (vi_seq (tg := tg) he W tk).run pins s σ H R I ⟨B, env, S, ?_⟩
        have h' : CondG X.K ca W B σ H env ((ma env).bind wkStr) _ := h
        rw [q] at h'
        show CondG X.K ca W B σ H env ((ma env).bind wkOf) _
        rw [q]
        simp only [Out.bind_ok, wkStr, c] at h' ⊢
        exact h'⟩
end
/-! ### own __contains__, __len__ -/
def boolFn (fn : Fn) : Fn := fun e => match fn e with
  | .ok (.val (.bl b)) e1 => .ok (.val (.bl b)) e1
  | .exn x e1 => .exn x e1
  | _ => .stuck
def inTab (c : Str) (neg : Bool) (fn : Fn) (tys : List Ty) : OpTab := tys.map fun t => ((t, .inr c), ⟨true, neg, boolFn fn⟩)
def chkLen : D → Bool
  | .int n => decide (0 ≤ n ∧ n < 2 ^ 63)
  | _ => false
section
variable {X : Cx} {ca : Ca} {k : Nat} {c : Str} {fn : Fn}
theorem spF_bool {n : Nat} {vs : List V} {H : Hp} {Q : VK} {E : XK} (h : spF X.K ca n (boolFn fn) vs H Q E) : spF X.K ca n fn vs H (fun v H' => (∃ b, v = .bl b) ∧ Q v H') E := by
  obtain ⟨hl, B, env, S, po, q⟩ := h
  refine ⟨hl, B, env, S, po, ?_⟩
  unfold boolFn at q
  cases z : fn env with
  | stuck => rw [z] at q; exact q
  | exn x e => rw [z] at q; exact q
  | ok r e =>
    rw [z] at q
    cases r with
    | val d =>
      cases d with
      | bl b => exact fun H' P v R => ⟨⟨b, vr_bl (.of R)⟩, q H' P v R⟩
      | _ => exact q.elim
    | _ => exact q.elim
theorem in_to {tx : Ty} (D : DunOk X ca k c "__contains__" 2 fn) (hr : Room k X.A) : BinTo X ca (compareOp .In) tx (.inr c) ⟨true, false, boolFn fn⟩ := fun pins s σ H x y v u Q I rx ry tx ty h => by
  obtain ⟨C, f, fd, ps, hc, sf, hs, hf, F, hb⟩ := D.ok
  obtain ⟨a, C1, dx, fs, rfl, hc1, ha⟩ := ty
  rw [hc] at hc1
  cases hc1
  cases ry
  obtain ⟨oa, da, J, _⟩ := ins_at I ha
  obtain ⟨m, hF⟩ := I.fr
  refine PySem.W.in_K hF I.ok.mod.kin J hs hf (thn (run_fn (dvs := []) (ds := []) (us := [.ref a, v]) (vs := [.ref a, x]) F hr hb .nil (pass_none (X := X)) I (.cons rfl (.cons rx .nil)) (spF_bool h)) fun w s' ⟨z, H', I', rz, ⟨b, eb⟩, q⟩ => ?_)
  subst eb
  cases rz
  exact wpAny_truthy_bool ⟨.bl b, H', I', rfl, q⟩
theorem notIn_to {tx : Ty} (D : DunOk X ca k c "__contains__" 2 fn) (hr : Room k X.A) : BinTo X ca (compareOp .NotIn) tx (.inr c) ⟨true, true, boolFn fn⟩ := fun pins s σ H x y v u Q I rx ry tx ty h => by
  obtain ⟨C, f, fd, ps, hc, sf, hs, hf, F, hb⟩ := D.ok
  obtain ⟨a, C1, dx, fs, rfl, hc1, ha⟩ := ty
  rw [hc] at hc1
  cases hc1
  cases ry
  obtain ⟨oa, da, J, _⟩ := ins_at I ha
  obtain ⟨m, hF⟩ := I.fr
  refine PySem.W.notIn_K hF I.ok.mod.kin J hs hf (thn (run_fn (dvs := []) (ds := []) (us := [.ref a, v]) (vs := [.ref a, x]) F hr hb .nil (pass_none (X := X)) I (.cons rfl (.cons rx .nil)) (spF_bool h)) fun w s' ⟨z, H', I', rz, _, q⟩ => ?_)
  obtain ⟨b, eb, q⟩ := q
  subst eb
  cases rz
  exact wpAny_truthy_bool ⟨.bl (!b), H', I', rfl, q⟩
theorem len_to (D : DunOk X ca k c "__len__" 1 fn) (hr : Room (k + 1) X.A) : UnTo X ca (fun v => call (.builtin "len") [v]) c ⟨chkLen, fn⟩ := fun pins s σ H x v Q I rx tx h => by
  obtain ⟨C, f, fd, ps, hc, sf, hs, hf, F, hb⟩ := D.ok
  obtain ⟨a, C1, dx, fs, rfl, hc1, ha⟩ := tx
  rw [hc] at hc1
  cases hc1
  cases rx
  obtain ⟨oa, da, J, _⟩ := ins_at I ha
  obtain ⟨m, hF⟩ := I.fr
  refine PySem.W.len_K hF I.ok.mod.kin J hs hf (thn (run_in1 (us := [.ref a]) (vs := [.ref a]) F hr hb I (.cons rfl .nil) h) fun w s' ⟨v, H', I', rv, ⟨d, N, R, ck⟩, q⟩ => ?_)
  cases d with
  | int i =>
    rw [vr_int R] at rv q
    obtain ⟨t, rfl⟩ := rv
    exact ⟨of_decide_eq_true ck, .int i, H', I'.tok _, ⟨_, rfl⟩, q⟩
  | _ => cases ck
end
section
variable {P : Program} {w : World} {K : PySem.W.Frag} {mg : Str → Option Value} {base : Heap} {ca : Ca} {k : Nat} {c : Str} {fn : Fn}
theorem inAt {kk : Nat} {tys : List Ty} (hk : k ≤ kk) (D : At P w K mg base fun X => DunOk X ca k c "__contains__" 2 fn) : At P w K mg base fun X => Room kk X.A → OpsOk X ca (compareOp .In) (inTab c false fn tys) := fun X h1 h2 h3 h4 h5 hr => ⟨fun p hp => by
  obtain ⟨t, ht, rfl⟩ := List.mem_map.mp hp
  exact in_to (D X h1 h2 h3 h4 h5) (hr.mono hk)⟩
theorem notInAt {kk : Nat} {tys : List Ty} (hk : k ≤ kk) (D : At P w K mg base fun X => DunOk X ca k c "__contains__" 2 fn) : At P w K mg base fun X => Room kk X.A → OpsOk X ca (compareOp .NotIn) (inTab c true fn tys) := fun X h1 h2 h3 h4 h5 hr => ⟨fun p hp => by
  obtain ⟨t, ht, rfl⟩ := List.mem_map.mp hp
  exact notIn_to (D X h1 h2 h3 h4 h5) (hr.mono hk)⟩
theorem lenAt {kk : Nat} (hk : k + 1 ≤ kk) (D : At P w K mg base fun X => DunOk X ca k c "__len__" 1 fn) : At P w K mg base fun X => Room kk X.A → UnsOk X ca (fun v => call (.builtin "len") [v]) [(c, ⟨chkLen, fn⟩)] := fun X h1 h2 h3 h4 h5 hr => uns_one (len_to (D X h1 h2 h3 h4 h5) (hr.mono hk))
end
/-! ### join, xs * n -/
def strsD : List D → Option (List Str)
  | [] => some []
  | .str s :: ds => (strsD ds).map (s :: ·)
  | _ => none
def joinD (x : D) (ds : List D) : Po := match x, ds with
  | .str a, [.lst es] => match strsD es with
    | some ys => if (ys.map (·.length)).sum + ys.length * a.length ≤ 16777216 then .val (.str (Txt.join a ys)) else .stuck
    | none => .stuck
  | _, _ => .stuck
def isLstD : D → Bool
  | .lst _ => true
  | _ => false
def okRep (xs : List D) (k : Int) : Prop := -(2 ^ 63) ≤ k ∧ k < 2 ^ 63 ∧ xs.length * k.toNat ≤ sizeLine
instance : ∀ xs k, Decidable (okRep xs k) := fun xs k => inferInstanceAs (Decidable (_ ∧ _ ∧ _))
def repD (x y : D) : Po := match x, y with
  | .lst xs, .int k => if okRep xs k then .fresh (.lst (List.replicate k.toNat xs).flatten) else .stuck
  | _, _ => .stuck
def mulA (x y : D) : Po := if isLstD x = true then repD x y else mulD x y
section
variable {X : Cx} {ca : Ca}
theorem strs_rep {K : PySem.W.Frag} {N : Addr → Prop} {H : Hp} : ∀ {vs : List V} {ds : List D} {ys : List Str}, Reps K ca N H vs ds → strsD ds = some ys → vs = ys.map V.str
  | _, _, _, .nil, e => by cases e; rfl
  | _, d :: ds, ns, .cons r t, e => by
    cases d <;> try cases e
    rename_i i
    rw [strsD] at e
    cases q : strsD ds with
    | none => rw [q] at e; cases e
    | some ms =>
      rw [q] at e
      cases e
      cases r
      rw [strs_rep t q, List.map_cons]
theorem mv_join : MtV X ca "str.join" joinD := ⟨_, mt_join, fun N H x xs dx ds Q kx nd hx hs q => by
  unfold joinD at q
  split at q
  · rename_i a es
    obtain ⟨y, rfl, hy⟩ := vrs1 hs
    obtain ⟨p, vs, rfl, h, r⟩ := vr_lst hy
    split at q
    · rename_i ys e
      split at q
      · rename_i c
        exact ⟨a, p, ys, vr_str hx, rfl, .inl (.inl (.inl (by rw [← strs_rep r e]; exact h))), c, q _ H (fun _ _ e => e) (.str _)⟩
      · exact q.elim
    · exact q.elim
  · exact q.elim⟩
theorem reps_rep {K : PySem.W.Frag} {N : Addr → Prop} {H : Hp} {vs : List V} {ds : List D} (r : Reps K ca N H vs ds) : ∀ n : Nat, Reps K ca N H (List.replicate n vs).flatten (List.replicate n ds).flatten
  | 0 => .nil
  | n + 1 => by
    rw [List.replicate_succ, List.replicate_succ, List.flatten_cons, List.flatten_cons]
    exact r.app (reps_rep r n)
theorem ov_rep : OpV ca X (binaryOp .Mult) repD := OpV.of op_rep fun N H x y dx dy Q kx nd hx hy q => by
  unfold repD at q
  split at q
  · rename_i xs k
    by_cases c : okRep xs k
    · rw [if_pos c] at q
      obtain ⟨p, vs, rfl, h, r⟩ := vr_lst hx
      exact ⟨p, k, vs, rfl, vr_int hy, h, c.1, c.2.1, by rw [r.len]; exact c.2.2, fun l hl => q l _ (Ext.new hl) hl (upd_lst hl (reps_rep r _) nd)⟩
    · rw [if_neg c] at q; exact q.elim
  · exact q.elim
theorem ov_mulA : OpV ca X (binaryOp .Mult) mulA := OpV.or (b := fun x _ => isLstD x) ov_rep ov_mul
end
end Pw

set_option maxHeartbeats 4000000
/-! PyG: a, b = new, new; constants of classes. -/
namespace Pw
open PySem PySem.Spec PyProof.Rows L2

def mParF (i j : Nat) (ma mb : ME) : MS := fun e => (ma e).toS fun r1 e1 => match r1 with
  | .fresh c1 => (mb e1).toS fun r2 e2 => match r2 with
    | .fresh c2 => if freeSlot e2[i]? = true ∧ freeSlot e2[j]? = true then .next ((e2.set i (.own false false c1)).set j (.own false false c2)) else .stuck
    | _ => .stuck
  | _ => .stuck
section
variable {X : Cx} {ca : Ca} {a b : Expr} {ma mb : ME} {pos : Pos}
theorem vs_parF {i j : Nat} {x y : Str} {px py pt : Pos} {kt k2 pt2} (hc : X.calm = true) (hN : X.N.Nodup) (hi : X.N[i]? = some x) (hj : X.N[j]? = some y) (hij : i ≠ j)
    (hx : X.env.scope.names.lookup x = some .local) (hy : X.env.scope.names.lookup y = some .local) (ha : VE X ca a ma) (hb : VE X ca b mb)
    (hs1 : starEach [a, b] X.env = (false, eval a X.env) :: starEach [b] X.env) (hs2 : starEach [b] X.env = (false, eval b X.env) :: starEach [] X.env)
    (hw : swappedStores [.Tuple [.Name x px, .Name y py] kt pt] (.Tuple [a, b] k2 pt2) X.env = pure (some [x, y]))
    (hs : swapsWithSole [.Tuple [.Name x px, .Name y py] kt pt] (.Tuple [a, b] k2 pt2) pos.line X.env = pure false) : VS X ca (.Assign [.Tuple [.Name x px, .Name y py] kt pt] (.Tuple [a, b] k2 pt2) pos) (mParF i j ma mb) := fun W tk =>
  psImp (ps_par hc hN hi hj hij hx hy (pa_cons (ha W tk) (pa_cons (hb W tk) pa_nil hs2) hs1) hw hs) fun D σ H ⟨B, env, S, h⟩ => ⟨B, env, S, (h.ofE S).imp fun r1 e1 H1 P1 k1 v R1 => by
    cases r1 with
    | val d => exact k1.elim
    | bor d => exact k1.elim
    | fresh c1 =>
      obtain ⟨p, rfl, n0, np, cr, Sp⟩ := R1
      have k0 := P1.keep.toS P1.rel S
      refine ⟨fun a => B a ∨ a = p, e1, Sp, CondG.more (fun a z => .inl z) (SCond.ofE' P1.rel k0 k1) fun r2 e2 H2 P2 k2 u R2 => ?_⟩
      cases r2 with
      | val d => exact k2.elim
      | bor d => exact k2.elim
      | fresh c2 =>
        obtain ⟨p2, rfl, n2, np2, cr2, Sp2⟩ := R2
        have k2' : SCond X.K ca W B σ H env D (if freeSlot e2[i]? = true ∧ freeSlot e2[j]? = true then .next ((e2.set i (.own false false c1)).set j (.own false false c2)) else .stuck) := k2
        by_cases f : freeSlot e2[i]? = true ∧ freeSlot e2[j]? = true
        · rw [if_pos f] at k2'
          have kB : KeepS σ H1 e1 σ H2 e2 := P2.keep.toS P2.rel Sp
          have kk := k0.trans kB
          have hl1 : i < e2.length := free_lt f.1
          have hl2 : j < e2.length := free_lt f.2
          have hls1 : i < σ.length := by rw [← P2.rel.len]; exact hl1
          have hls2 : j < σ.length := by rw [← P2.rel.len]; exact hl2
          obtain ⟨o1, ho1⟩ := cr.dom
          have nt1 : NT o1 := by
            obtain ⟨o', h', d'⟩ := cr.dat
            rw [ho1] at h'; cases h'; exact d'.nt
          have npp : p2 ≠ p := fun z => by subst z; rw [n2] at ho1; cases ho1
          have hp2 : H2 p = some o1 := P2.keep.heap p o1 ho1 nt1 fun z => np (.inr z)
          obtain ⟨S2, _⟩ := set_own Sp2 f.2 np2 cr2
          have own2 : ∀ {k a}, OwnAt (e2.set j (.own false false c2)) (σ.set j (some (.ref p2))) k a → (k = j ∧ a = p2) ∨ (k ≠ j ∧ OwnAt e2 σ k a) := fun {k a} z => by
            by_cases n : k = j
            · subst n
              obtain ⟨_, z2⟩ := z
              rw [List.getElem?_set_self hls2] at z2
              cases z2
              exact .inl ⟨rfl, rfl⟩
            · exact .inr ⟨n, own_set2 z n⟩
          have np3 : ¬ Nof B (e2.set j (.own false false c2)) (σ.set j (some (.ref p2))) p := fun z => by
            rcases z with z | ⟨k, z⟩
            · exact np (.inl z)
            · rcases own2 z with ⟨_, z⟩ | ⟨_, z⟩
              · exact npp z.symm
              · exact np (.inr (P2.keep.hid ⟨k, z⟩))
          have sb : Sub (fun a => Nof B e1 σ a ∨ a = p) (fun a => Nof B (e2.set j (.own false false c2)) (σ.set j (some (.ref p2))) a ∨ a = p) H1 H2 := fun a o ea nt na => by
            refine ⟨fun z => ?_, P2.keep.heap a o ea nt fun z => na (.inl (.inr z))⟩
            rcases z with (z | ⟨k, z⟩) | z
            · exact na (.inl (.inl z))
            · rcases own2 z with ⟨_, z⟩ | ⟨_, z⟩
              · subst z; rw [n2] at ea; cases ea
              · exact na (.inl (.inr (P2.keep.hid ⟨k, z⟩)))
            · exact na (.inr z)
          have fi : freeSlot (e2.set j (.own false false c2))[i]? = true := by rw [List.getElem?_set_ne (Ne.symm hij)]; exact f.1
          obtain ⟨S3, _⟩ := set_own S2 fi np3 (cr.sub sb (hp2.trans ho1.symm))
          rw [List.set_comm _ _ (Ne.symm hij), List.set_comm _ _ (Ne.symm hij)] at S3
          have neq : ∀ {k : Nat} {pm lk : Bool} {c : Ct}, e2[k]? = some (.own pm lk c) → (pm = true ∨ lk = true) → k ≠ i ∧ k ≠ j := fun {k pm lk c} hk z => by
            constructor
            · intro q; subst q; rw [hk] at f; rcases z with z | z <;> subst z <;> simp [freeSlot] at f
            · intro q; subst q; rw [hk] at f; rcases z with z | z <;> subst z <;> simp [freeSlot] at f
          have hH2 : H p2 = none := P1.keep.dom p2 n2
          refine ⟨.ref p, .ref p2, rfl, ?_⟩
          have kf : KeepS σ H env ((σ.set i (some (.ref p))).set j (some (.ref p2))) H2 ((e2.set i (.own false false c1)).set j (.own false false c2)) := by
            refine ⟨by rw [List.length_set, List.length_set]; exact kk.len, fun k lk c hk => ?_, fun k pm c hk => ?_, fun a ha => ?_, kk.heap, kk.dom⟩
            · obtain ⟨⟨c', h1⟩, h2⟩ := kk.pm k lk c hk
              obtain ⟨m1, m2⟩ := neq h1 (.inl rfl)
              exact ⟨⟨c', by rw [List.getElem?_set_ne (Ne.symm m2), List.getElem?_set_ne (Ne.symm m1)]; exact h1⟩, by rw [List.getElem?_set_ne (Ne.symm m2), List.getElem?_set_ne (Ne.symm m1)]⟩
            · obtain ⟨h1, h2⟩ := kk.lkd k pm c hk
              obtain ⟨m1, m2⟩ := neq h1 (.inr rfl)
              exact ⟨by rw [List.getElem?_set_ne (Ne.symm m2), List.getElem?_set_ne (Ne.symm m1)]; exact h1, by rw [List.getElem?_set_ne (Ne.symm m2), List.getElem?_set_ne (Ne.symm m1)]⟩
            · obtain ⟨k, z⟩ := ha
              by_cases m2 : k = j
              · subst m2
                obtain ⟨_, z2⟩ := z
                rw [List.getElem?_set_self (by rw [List.length_set]; exact hls2)] at z2
                cases z2
                exact .inr hH2
              · have z := own_set2 z m2
                by_cases m1 : k = i
                · subst m1
                  obtain ⟨_, z2⟩ := z
                  rw [List.getElem?_set_self hls1] at z2
                  cases z2
                  exact .inr n0
                · exact kk.new a ⟨k, own_set2 z m1⟩
          exact k2' _ _ S3 kf
        · rw [if_neg f] at k2'; exact k2'.elim⟩
end
/-! ### C.f, a constant of a class -/
structure ConOk (X : Cx) (ca : Ca) (x f : Str) (d : D) : Prop where
  ok : ∃ (C : Addr) (mc : Value) (v : V) (u : Value), X.mg x = some (.ref C) ∧ ClX.CRead X.K C mc ∧ ClX.CVal X.K C mc f v u ∧ ∀ N H, Rep X.K ca N H v d
theorem ve_con {X : Cx} {ca : Ca} {x f : Str} {d : D} {p1 pos : Pos} (hk : ConOk X ca x f d) (hg : Gl X x) (hb : attributeBase (.Name x p1) f X.env (eval (.Name x p1) X.env) = eval (.Name x p1) X.env) (hd : (x == ("__debug__" : Str)) = false) : VE X ca (.Attribute (.Name x p1) f pos) (mC d) := fun W tk => by
  obtain ⟨C, mc, v, u, hm, r, c, hr⟩ := hk.ok
  exact peImp (ClX.pe_cval (pe_glob (v := .ref C) hg hm rfl hd) hb) fun σ H Q ⟨B, env, S, h⟩ => ⟨C, mc, v, u, rfl, r, c, h.now (.refl S) v (hr _ _)⟩
def readB (K : PySem.W.Frag) (C : Addr) : Bool := decide (PySem.W.typeIn K (.ref C) = some (.type "type")) && (PySem.W.readsIn K C (.type "type") && He.eqO (PySem.W.specialIn K (.ref C) "__getattribute__") (some (some (.builtin "type.__getattribute__"))))
def conD : Value → Option D
  | .int n _ => some (.int n)
  | .str s _ => some (.str s)
  | _ => none
def conB (K : PySem.W.Frag) (c f : Str) (d : Int ⊕ Str) : Bool := readB K (He.ga K c) && (match PySem.W.findCls K (.ref (He.ga K c)) (.type "type") f, d with
  | some (.val (.int m _)), .inl n => decide (m = n)
  | some (.val (.str m _)), .inr n => decide (m = n)
  | _, _ => false)
def conV : Int ⊕ Str → D
  | .inl n => .int n
  | .inr s => .str s
theorem conAt {P : Program} {w : World} {K : PySem.W.Frag} {mg : Str → Option Value} {base : Heap} {ca : Ca} {c f : Str} {d : Int ⊕ Str} (h : conB K c f d = true) (hm : mg c = some (.ref (He.ga K c))) : At P w K mg base fun X => ConOk X ca c f (conV d) := by
  rintro X rfl rfl rfl rfl rfl
  obtain ⟨h1, h2⟩ := He.ba h
  obtain ⟨_, h1⟩ := He.ba h1
  obtain ⟨h3, h4⟩ := He.ba h1
  have r : ClX.CRead X.K (He.ga X.K c) (.type "type") := ⟨h3, He.eqO_ok h4⟩
  revert h2
  split
  · rename_i m t n e
    intro h2
    exact ⟨_, _, .int m, _, hm, r, ⟨e, ⟨_, rfl⟩⟩, fun N H => by rw [of_decide_eq_true h2]; exact .int n⟩
  · rename_i m t n e
    intro h2
    exact ⟨_, _, .str m, _, hm, r, ⟨e, ⟨_, rfl⟩⟩, fun N H => by rw [of_decide_eq_true h2]; exact .str n⟩
  · intro z; cases z
/-! ### a constant of the module -/
structure GlC (X : Cx) (ca : Ca) (x : Str) (d : D) : Prop where
  ok : ∃ (v : V) (u : Value), X.mg x = some u ∧ RelV v u ∧ ∀ N H, Rep X.K ca N H v d
theorem ve_glc {X : Cx} {ca : Ca} {x : Str} {d : D} {pos : Pos} (hk : GlC X ca x d) (hg : Gl X x) (hd : (x == ("__debug__" : Str)) = false) : VE X ca (.Name x pos) (mC d) := fun W tk => by
  obtain ⟨v, u, hm, r, hr⟩ := hk.ok
  exact peImp (pe_glob (v := v) hg hm r hd) fun σ H Q ⟨B, env, S, h⟩ => h.now (.refl S) v (hr _ _)
theorem gstrAt {P : Program} {w : World} {K : PySem.W.Frag} {mg : Str → Option Value} {base : Heap} {ca : Ca} {x z : Str} (h : ∃ t, mg x = some (.str z t)) : At P w K mg base fun X => GlC X ca x (.str z) := by
  rintro X rfl rfl rfl rfl rfl
  obtain ⟨t, h⟩ := h
  exact ⟨.str z, _, h, ⟨_, rfl⟩, fun N H => .str z⟩
theorem gintAt {P : Program} {w : World} {K : PySem.W.Frag} {mg : Str → Option Value} {base : Heap} {ca : Ca} {x : Str} {i : Int} (h : ∃ t, mg x = some (.int i t)) : At P w K mg base fun X => GlC X ca x (.int i) := by
  rintro X rfl rfl rfl rfl rfl
  obtain ⟨t, h⟩ := h
  exact ⟨.int i, _, h, ⟨_, rfl⟩, fun N H => .int i⟩
end Pw

set_option maxHeartbeats 4000000
/-! Lw: the laws' own defs that many laws share: feed, draw, any, mixed. -/
namespace Lw
open Pw
section
open PySem PySem.Spec PyProof.Rows L2 LamX
abbrev N__law_feed : List Str := ["_law_script", "_law_cells", "_law_mark", "_law_cell"]
noncomputable def m__law_feed : MS := mSeq (mSet 1 (mLc [3] (.nm 3) (mWAny (mSlice (mVar 0) (mNoP) (mPart (mC (.int 63))))) (mYes) (mCallB intD (mCons (mVar 3) (mNil))))) (mSeq (mSet 2 (mOp2 (opOut addD) (mC (.int 5751)) (mOp2 (opOut mulA) (mC (.int 83)) (mCallB lenA (mCons (mVar 1) (mNil)))))) (mSeq (mFor (.nm 3) (mWAny (mVar 1)) (mSeq (mSet 2 (mOp2 (opOut modD) (mCallB intD (mCons (mOp2 (opOut addD) (mOp2 (opOut mulA) (mVar 2) (mC (.int 7919))) (mVar 3)) (mNil))) (mC (.int 2147483629)))) (mSkip))) (mSeq (mRet (mLst (mCons (mVar 1) (mCons (mC (.int 0)) (mCons (mC (.int 0)) (mCons (mVar 2) (mNil))))))) (mSkip))))
noncomputable def f__law_feed : Fn := runF N__law_feed.length (m__law_feed)
abbrev N__law_draw : List Str := ["_law_feed_here", "_law_many", "_law_drawn", "_law_cell", "_law_first", "_law_second"]
noncomputable def m__law_draw : MS := mSeq (mIfS (mTst (mOp2 (opOut ltD) (mOp idxA (mVar 0) (mC (.int 2))) (mC (.int 2)))) (mSeq (mSetSubA (mVar 0) (mC (.int 1)) (mOp2 (opOut addD) (mOp idxA (mVar 0) (mC (.int 1))) (mC (.int 1)))) (mSeq (mSet 3 (mOp2 (opOut addD) (mOp idxA (mVar 0) (mC (.int 3))) (mOp2 (opOut mulA) (mOp idxA (mVar 0) (mC (.int 1))) (mC (.int 5987))))) (mSeq (mIfS (mTst (mOp2 (opOut leD) (mOp idxA (mVar 0) (mC (.int 1))) (mCallB lenA (mCons (mOp idxA (mVar 0) (mC (.int 0))) (mNil))))) (mSeq (mSet 3 (mOp idxA (mOp idxA (mVar 0) (mC (.int 0))) (mOp2 (opOut subD) (mOp idxA (mVar 0) (mC (.int 1))) (mC (.int 1))))) (mSkip)) (mSkip)) (mSeq (mIfS (mOrT (mTst (mOp2 (opOut gtD) (mOp idxA (mVar 0) (mC (.int 1))) (mCallB lenA (mCons (mOp idxA (mVar 0) (mC (.int 0))) (mNil))))) (mTst (mOp2 (opOut ltD) (mVar 3) (mOp2 (opOut powD) (mC (.int 10)) (mC (.int 18)))))) (mSeq (mSet 4 (mOp2 (opOut modD) (mCallB intD (mCons (mOp2 (opOut addD) (mOp2 (opOut addD) (mOp2 (opOut mulA) (mVar 3) (mC (.int 48271))) (mOp2 (opOut mulA) (mOp idxA (mVar 0) (mC (.int 1))) (mC (.int 40692)))) (mOp idxA (mVar 0) (mC (.int 3)))) (mNil))) (mC (.int 2147483647)))) (mSeq (mSet 5 (mOp2 (opOut modD) (mCallB intD (mCons (mOp2 (opOut addD) (mOp2 (opOut mulA) (mVar 4) (mVar 4)) (mOp2 (opOut mulA) (mOp idxA (mVar 0) (mC (.int 1))) (mC (.int 16807)))) (mNil))) (mC (.int 998244353)))) (mSeq (mRet (mOp2 (opOut modD) (mOp2 (opOut fdivD) (mOp2 (opOut modD) (mCallB intD (mCons (mOp2 (opOut addD) (mOp2 (opOut mulA) (mVar 5) (mC (.int 69621))) (mVar 4)) (mNil))) (mC (.int 2147483629))) (mC (.int 11))) (mVar 1))) (mSkip)))) (mSkip)) (mSeq (mSetSubA (mVar 0) (mC (.int 2)) (mVar 3)) (mSkip)))))) (mSkip)) (mSeq (mSet 2 (mOp2 (opOut modD) (mCallB intD (mCons (mOp idxA (mVar 0) (mC (.int 2))) (mNil))) (mVar 1))) (mSeq (mSetSubA (mVar 0) (mC (.int 2)) (mOp2 (opOut fdivD) (mCallB intD (mCons (mOp idxA (mVar 0) (mC (.int 2))) (mNil))) (mVar 1))) (mSeq (mRet (mVar 2)) (mSkip))))
noncomputable def f__law_draw : Fn := runF N__law_draw.length (m__law_draw)
abbrev N__law_any : List Str := ["_law_feed_here", "_law_choices"]
noncomputable def m__law_any : MS := mSeq (mRet (mOp idxA (mVar 1) (mCall 2 [true] f__law_draw [] (mCons (mVar 0) (mCons (mCallB lenA (mCons (mVar 1) (mNil))) (mNil)))))) (mSkip)
noncomputable def f__law_any : Fn := runF N__law_any.length (m__law_any)
abbrev N__law_mixed : List Str := ["_law_feed_here", "_law_row", "_law_left", "_law_found"]
noncomputable def m__law_mixed : MS := mSeq (mParF 2 3 (mCallB listA (mCons (mVar 1) (mNil))) (mLst (mNil))) (mSeq (whileM (mTst (mOp2 (opOut neD) (mVar 2) (mLst (mNil)))) (mSeq (mExpr (mMut gAppend (mVar 3) (mCons (mMut gPopAt (mVar 2) (mCons (mCall 2 [true] f__law_draw [] (mCons (mVar 0) (mCons (mCallB lenA (mCons (mVar 2) (mNil))) (mNil)))) (mNil))) (mNil)))) (mSkip))) (mSeq (mRet (mVar 3)) (mSkip)))
noncomputable def f__law_mixed : Fn := runF N__law_mixed.length (m__law_mixed)
end
theorem nums_nil : nums [] = [] := rfl
theorem nums_v (d : D) (as : List Ag) : nums (.v d :: as) = nums as := rfl
theorem nums_o (i : Nat) (as : List Ag) : nums (.o i :: as) = i :: nums as := rfl
abbrev I (i : Int) : Sv := .val (.int i)
abbrev Fr (s : Sv) : Prop := freeSlot (some s) = true
theorem chkOut_ok {p : UnE} {d : D} {e : En} (h : p.chk d = true) : chkOut p (.ok (.val d) e) = .ok (.val d) e := by unfold chkOut; simp [h]
theorem chkOut_fr {p : UnE} {c : Ct} {e : En} (h : p.chk c.toD = true) : chkOut p (.ok (.fresh c) e) = .ok (.fresh c) e := by unfold chkOut; simp [h]
theorem tgOut_n (i j k : Nat) (x y z : D) (e : En) : tgOut (.tp [.nm i, .tp [.nm j, .nm k]]) (.tup [x, .tup [y, z]]) e = (putSlot i x e).seq fun e1 => (putSlot j y e1).seq (putSlot k z) := by
  by_cases h : freeSlot e[i]? = true
  · by_cases h2 : freeSlot (e.set i (.val x))[j]? = true
    · by_cases h3 : freeSlot ((e.set i (.val x)).set j (.val y))[k]? = true
      · simp [tgOut, putSlot, Tg.set, Tg.sets, h, h2, h3]
      · simp [tgOut, putSlot, Tg.set, Tg.sets, h, h2, h3]
    · simp [tgOut, putSlot, Tg.set, Tg.sets, h, h2]
  · simp [tgOut, putSlot, Tg.set, Tg.sets, h]
theorem eqD_int (a b : Int) : eqD (.int a) (.int b) = .val (.bl (decide (a = b))) := by
  unfold eqD
  simp only [D.toP]
  rw [if_pos (by rfl)]
  congr 2
theorem neD_int (a b : Int) : neD (.int a) (.int b) = .val (.bl (!decide (a = b))) := by
  have h := eqD_int a b
  unfold eqD at h
  unfold neD
  simp only [D.toP] at h ⊢
  rw [if_pos (by rfl)] at h ⊢
  cases h
  rfl
theorem eqD_bl (a b : Bool) : eqD (.bl a) (.bl b) = .val (.bl (a == b)) := by cases a <;> cases b <;> rfl
theorem neD_bl (a b : Bool) : neD (.bl a) (.bl b) = .val (.bl (a != b)) := by cases a <;> cases b <;> rfl
theorem idx_lst {ds : List D} {i : Int} {d : D} (h0 : 0 ≤ i) (h : ds[i.toNat]? = some d) : idxD (.lst ds) (.int i) = .val d := by
  have hl : i.toNat < ds.length := (List.getElem?_eq_some_iff.mp h).1
  show atD _ _ = _
  unfold atD L2.atI L2.ixN
  rw [if_pos h0, if_pos (by omega)]
  simp [h]
theorem idx_tup {ds : List D} {i : Int} {d : D} (h0 : 0 ≤ i) (h : ds[i.toNat]? = some d) : idxD (.tup ds) (.int i) = .val d := by
  have hl : i.toNat < ds.length := (List.getElem?_eq_some_iff.mp h).1
  show atD _ _ = _
  unfold atD L2.atI L2.ixN
  rw [if_pos h0, if_pos (by omega)]
  simp [h]
theorem sizeL : PySem.sizeLine = 16777216 := PySem.sizeLine_eq
theorem small {n : Nat} (h : n ≤ 1000) : n ≤ PySem.sizeLine := by rw [sizeL]; omega
theorem smallt {n : Nat} (h : n ≤ 1000) : n < PySem.sizeLine := by rw [sizeL]; omega
abbrev feedC (cells : List Int) (i v m : Int) : Ct := .lst [.lst (cells.map D.int), .int i, .int v, .int m]
theorem f0 (a b c d : D) : idxD (.lst [a, b, c, d]) (.int 0) = .val a := rfl
theorem f1 (a b c d : D) : idxD (.lst [a, b, c, d]) (.int 1) = .val b := rfl
theorem f2 (a b c d : D) : idxD (.lst [a, b, c, d]) (.int 2) = .val c := rfl
theorem f3 (a b c d : D) : idxD (.lst [a, b, c, d]) (.int 3) = .val d := rfl
theorem n1 : L2.ixN 4 1 = some 1 := rfl
theorem n2 : L2.ixN 4 2 = some 2 := rfl
theorem v_drawA (cells : List Int) (i v m many : Int) (hv : ¬ v < 2) (h0 : 0 < many) (h1 : okDiv many) :
    f__law_draw [.own true false (feedC cells i v m), I many] = .ok (.val (.int (v % many))) [.own true false (feedC cells i (v / many) m), I many] := by
  simp [f__law_draw, m__law_draw, Pw.runF, Pw.startE, Pw.mSeq, Pw.mSkip, Pw.mExpr, Pw.mRet, Pw.mRetN, Pw.mIfS, Pw.mSet, Pw.setSlot, Pw.mPar, Pw.mPar3, Pw.mAsgT, Pw.tgOut_nm, Pw.tgOut_tp2, Pw.tgOut_tp3, Pw.tgSet_nm, Pw.tgSet_tp2, Pw.mCons, Pw.mNil, Pw.mC, Pw.mVar, Pw.mOp2, Pw.mOp, Pw.mUn, Pw.mUn2, Pw.unBoth, Pw.unOwn, Pw.unOut, Pw.opOut, Pw.opBoth, Pw.opOwn, Pw.opFind, Pw.resOut, Pw.opArgs, Pw.tyD, Pw.isObjR, Pw.mTst, Pw.mTru, Pw.truOut, Pw.truD, Pw.boolOut, Pw.mIf, Pw.mAndT, Pw.mOrT, Pw.mNotT, Pw.mAndV, Pw.mOrV, Pw.mNotV, Pw.norm, Pw.view, Pw.views, Pw.callOut, Pw.mCallB, Pw.mCallO, Pw.call1Both, Pw.chkAny, Pw.share, Pw.shareAll, Pw.putSlot, Pw.fs_val, Pw.fs_none, Pw.fs_own, Pw.retOut, Pw.mergeP, Pw.isOwn, Pw.mCall, Pw.callD, Pw.callOn, Pw.prep, Pw.prep1, Pw.agOk, Pw.penv, Pw.agSlot, Pw.callEnd, Pw.back, Pw.retB, Pw.mMake, Pw.makeD, Pw.makeOn, Pw.makeEnd, Pw.mAttr, Pw.attrOut, Pw.noExn, Pw.mMethO, Pw.methO, Pw.mStatic, Pw.statOut, Pw.mIsi, Pw.isiOut, Pw.isD, Pw.mTup, Pw.mLst, Pw.mSetSub, Pw.subOut, Pw.mSetFld, Pw.fldOut, Pw.putD, Pw.Ct.toD, Pw.gtD, Pw.ltD, Pw.addD, Pw.subD, Pw.mulD, Pw.fdivD, Pw.modD, Pw.negD, Pw.absD, Pw.intD, Pw.lenD, Pw.mRaise, Pw.mJs, Pw.mFmt, Pw.fmtOut, Pw.idxA, Pw.isDctD, Pw.inA, Pw.notInA, Pw.lenA, Pw.isDcts, Pw.mulA, Pw.isLstD, Pw.listA, Pw.mChainI, Pw.mParF, Pw.mSetSubA, Pw.subOutA, Pw.mNewD, Pw.mWAny, Pw.wkStr, Pw.conV, Pw.dlenD, Pw.mMeth, Pw.methOut, Pw.isTy, Pw.mMut, Pw.mMut0, Pw.isLst, Pw.mutOut, Pw.gAppend, Pw.mLc, Pw.okOwn, Pw.lockE, Pw.unlockE, Pw.wipeE, Pw.restE, Pw.mYes, Pw.Out.bind_ok, nums_nil, nums_v, nums_o, f0, f1, f2, f3, n1, n2, hv, h0, h1]
theorem mk1 (x : Int) : okMul x 5987 := .inl (.inr (by decide))
theorem mk2 (x : Int) : okMul x 48271 := .inl (.inr (by decide))
theorem mk3 (x : Int) : okMul x 40692 := .inl (.inr (by decide))
theorem mk4 (x : Int) : okMul x 16807 := .inl (.inr (by decide))
theorem mk5 (x : Int) : okMul x 69621 := .inl (.inr (by decide))
theorem mk6 (x : Int) : okMul (x % 2147483647) (x % 2147483647) := by
  have h1 := Int.emod_nonneg x (by decide : (2147483647 : Int) ≠ 0)
  have h2 := Int.emod_lt_of_pos x (by decide : (0 : Int) < 2147483647)
  exact .inl (.inl ⟨by omega, by omega⟩)
theorem d11 : okDiv 11 := by decide
theorem p18 : okPow 10 18 := by decide
/-- what is drawn from a cell -/
def mixed (c i m many : Int) : Int := ((((c * 48271 + i * 40692 + m) % 2147483647) * ((c * 48271 + i * 40692 + m) % 2147483647) + i * 16807) % 998244353 * 69621 + (c * 48271 + i * 40692 + m) % 2147483647) % 2147483629 / 11 % many
theorem v_drawC1 (cells : List Int) (i v m many : Int) (hv : v < 2) (h0 : 0 < many) (hc : ¬ i + 1 ≤ (cells.length : Int)) :
    f__law_draw [.own true false (feedC cells i v m), I many] = .ok (.val (.int (mixed (m + (i + 1) * 5987) (i + 1) m many))) [.own true false (feedC cells (i + 1) v m), I many] := by
  have hc' : (cells.length : Int) < i + 1 := by omega
  simp [f__law_draw, m__law_draw, Pw.runF, Pw.startE, Pw.mSeq, Pw.mSkip, Pw.mExpr, Pw.mRet, Pw.mRetN, Pw.mIfS, Pw.mSet, Pw.setSlot, Pw.mPar, Pw.mPar3, Pw.mAsgT, Pw.tgOut_nm, Pw.tgOut_tp2, Pw.tgOut_tp3, Pw.tgSet_nm, Pw.tgSet_tp2, Pw.mCons, Pw.mNil, Pw.mC, Pw.mVar, Pw.mOp2, Pw.mOp, Pw.mUn, Pw.mUn2, Pw.unBoth, Pw.unOwn, Pw.unOut, Pw.opOut, Pw.opBoth, Pw.opOwn, Pw.opFind, Pw.resOut, Pw.opArgs, Pw.tyD, Pw.isObjR, Pw.mTst, Pw.mTru, Pw.truOut, Pw.truD, Pw.boolOut, Pw.mIf, Pw.mAndT, Pw.mOrT, Pw.mNotT, Pw.mAndV, Pw.mOrV, Pw.mNotV, Pw.norm, Pw.view, Pw.views, Pw.callOut, Pw.mCallB, Pw.mCallO, Pw.call1Both, Pw.chkAny, Pw.share, Pw.shareAll, Pw.putSlot, Pw.fs_val, Pw.fs_none, Pw.fs_own, Pw.retOut, Pw.mergeP, Pw.isOwn, Pw.mCall, Pw.callD, Pw.callOn, Pw.prep, Pw.prep1, Pw.agOk, Pw.penv, Pw.agSlot, Pw.callEnd, Pw.back, Pw.retB, Pw.mMake, Pw.makeD, Pw.makeOn, Pw.makeEnd, Pw.mAttr, Pw.attrOut, Pw.noExn, Pw.mMethO, Pw.methO, Pw.mStatic, Pw.statOut, Pw.mIsi, Pw.isiOut, Pw.isD, Pw.mTup, Pw.mLst, Pw.mSetSub, Pw.subOut, Pw.mSetFld, Pw.fldOut, Pw.putD, Pw.Ct.toD, Pw.gtD, Pw.ltD, Pw.addD, Pw.subD, Pw.mulD, Pw.fdivD, Pw.modD, Pw.negD, Pw.absD, Pw.intD, Pw.lenD, Pw.mRaise, Pw.mJs, Pw.mFmt, Pw.fmtOut, Pw.idxA, Pw.isDctD, Pw.inA, Pw.notInA, Pw.lenA, Pw.isDcts, Pw.mulA, Pw.isLstD, Pw.listA, Pw.mChainI, Pw.mParF, Pw.mSetSubA, Pw.subOutA, Pw.mNewD, Pw.mWAny, Pw.wkStr, Pw.conV, Pw.dlenD, Pw.mMeth, Pw.methOut, Pw.isTy, Pw.mMut, Pw.mMut0, Pw.isLst, Pw.mutOut, Pw.gAppend, Pw.mLc, Pw.okOwn, Pw.lockE, Pw.unlockE, Pw.wipeE, Pw.restE, Pw.mYes, Pw.Out.bind_ok, nums_nil, nums_v, nums_o, lenD, leD, f0, f1, f2, f3, n1, n2, hv, h0, hc, hc', mk1, mk2, mk3, mk4, mk5, mk6, d11, mixed]
theorem cell_at (cells : List Int) (i : Int) (hi : 0 ≤ i) (hc : i + 1 ≤ (cells.length : Int)) : ∃ c, cells[i.toNat]? = some c ∧ idxD (.lst (cells.map D.int)) (.int (i + 1 - 1)) = .val (.int c) := by
  have hl : i.toNat < cells.length := by omega
  refine ⟨cells[i.toNat], List.getElem?_eq_getElem hl, ?_⟩
  have e : i + 1 - 1 = i := by omega
  rw [e]
  exact idx_lst hi (by rw [List.getElem?_map, List.getElem?_eq_getElem hl]; rfl)
theorem v_drawC2 (cells : List Int) (i v m many c : Int) (hv : v < 2) (h0 : 0 < many) (hc : i + 1 ≤ (cells.length : Int)) (hx : idxD (.lst (cells.map D.int)) (.int (i + 1 - 1)) = .val (.int c)) (hs : c < 10 ^ 18) :
    f__law_draw [.own true false (feedC cells i v m), I many] = .ok (.val (.int (mixed c (i + 1) m many))) [.own true false (feedC cells (i + 1) v m), I many] := by
  have hc' : ¬ (cells.length : Int) < i + 1 := by omega
  have e18 : (10 : Int) ^ 18 = 1000000000000000000 := by decide
  rw [e18] at hs
  have e1 : i + 1 - 1 = i := by omega
  rw [e1] at hx
  simp [f__law_draw, m__law_draw, Pw.runF, Pw.startE, Pw.mSeq, Pw.mSkip, Pw.mExpr, Pw.mRet, Pw.mRetN, Pw.mIfS, Pw.mSet, Pw.setSlot, Pw.mPar, Pw.mPar3, Pw.mAsgT, Pw.tgOut_nm, Pw.tgOut_tp2, Pw.tgOut_tp3, Pw.tgSet_nm, Pw.tgSet_tp2, Pw.mCons, Pw.mNil, Pw.mC, Pw.mVar, Pw.mOp2, Pw.mOp, Pw.mUn, Pw.mUn2, Pw.unBoth, Pw.unOwn, Pw.unOut, Pw.opOut, Pw.opBoth, Pw.opOwn, Pw.opFind, Pw.resOut, Pw.opArgs, Pw.tyD, Pw.isObjR, Pw.mTst, Pw.mTru, Pw.truOut, Pw.truD, Pw.boolOut, Pw.mIf, Pw.mAndT, Pw.mOrT, Pw.mNotT, Pw.mAndV, Pw.mOrV, Pw.mNotV, Pw.norm, Pw.view, Pw.views, Pw.callOut, Pw.mCallB, Pw.mCallO, Pw.call1Both, Pw.chkAny, Pw.share, Pw.shareAll, Pw.putSlot, Pw.fs_val, Pw.fs_none, Pw.fs_own, Pw.retOut, Pw.mergeP, Pw.isOwn, Pw.mCall, Pw.callD, Pw.callOn, Pw.prep, Pw.prep1, Pw.agOk, Pw.penv, Pw.agSlot, Pw.callEnd, Pw.back, Pw.retB, Pw.mMake, Pw.makeD, Pw.makeOn, Pw.makeEnd, Pw.mAttr, Pw.attrOut, Pw.noExn, Pw.mMethO, Pw.methO, Pw.mStatic, Pw.statOut, Pw.mIsi, Pw.isiOut, Pw.isD, Pw.mTup, Pw.mLst, Pw.mSetSub, Pw.subOut, Pw.mSetFld, Pw.fldOut, Pw.putD, Pw.Ct.toD, Pw.gtD, Pw.ltD, Pw.addD, Pw.subD, Pw.mulD, Pw.fdivD, Pw.modD, Pw.negD, Pw.absD, Pw.intD, Pw.lenD, Pw.mRaise, Pw.mJs, Pw.mFmt, Pw.fmtOut, Pw.idxA, Pw.isDctD, Pw.inA, Pw.notInA, Pw.lenA, Pw.isDcts, Pw.mulA, Pw.isLstD, Pw.listA, Pw.mChainI, Pw.mParF, Pw.mSetSubA, Pw.subOutA, Pw.mNewD, Pw.mWAny, Pw.wkStr, Pw.conV, Pw.dlenD, Pw.mMeth, Pw.methOut, Pw.isTy, Pw.mMut, Pw.mMut0, Pw.isLst, Pw.mutOut, Pw.gAppend, Pw.mLc, Pw.okOwn, Pw.lockE, Pw.unlockE, Pw.wipeE, Pw.restE, Pw.mYes, Pw.Out.bind_ok, nums_nil, nums_v, nums_o, lenD, leD, powD, p18, f0, f1, f2, f3, n1, n2, hv, h0, hc, hc', mk1, mk2, mk3, mk4, mk5, mk6, d11, mixed, e1, hx, hs]
theorem v_drawB (cells : List Int) (i v m many c : Int) (hv : v < 2) (h0 : 0 < many) (h1 : okDiv many) (hc : i + 1 ≤ (cells.length : Int)) (hx : idxD (.lst (cells.map D.int)) (.int (i + 1 - 1)) = .val (.int c)) (hs : ¬ c < 10 ^ 18) :
    f__law_draw [.own true false (feedC cells i v m), I many] = .ok (.val (.int (c % many))) [.own true false (feedC cells (i + 1) (c / many) m), I many] := by
  have hc' : ¬ (cells.length : Int) < i + 1 := by omega
  have e18 : (10 : Int) ^ 18 = 1000000000000000000 := by decide
  rw [e18] at hs
  have e1 : i + 1 - 1 = i := by omega
  rw [e1] at hx
  simp [f__law_draw, m__law_draw, Pw.runF, Pw.startE, Pw.mSeq, Pw.mSkip, Pw.mExpr, Pw.mRet, Pw.mRetN, Pw.mIfS, Pw.mSet, Pw.setSlot, Pw.mPar, Pw.mPar3, Pw.mAsgT, Pw.tgOut_nm, Pw.tgOut_tp2, Pw.tgOut_tp3, Pw.tgSet_nm, Pw.tgSet_tp2, Pw.mCons, Pw.mNil, Pw.mC, Pw.mVar, Pw.mOp2, Pw.mOp, Pw.mUn, Pw.mUn2, Pw.unBoth, Pw.unOwn, Pw.unOut, Pw.opOut, Pw.opBoth, Pw.opOwn, Pw.opFind, Pw.resOut, Pw.opArgs, Pw.tyD, Pw.isObjR, Pw.mTst, Pw.mTru, Pw.truOut, Pw.truD, Pw.boolOut, Pw.mIf, Pw.mAndT, Pw.mOrT, Pw.mNotT, Pw.mAndV, Pw.mOrV, Pw.mNotV, Pw.norm, Pw.view, Pw.views, Pw.callOut, Pw.mCallB, Pw.mCallO, Pw.call1Both, Pw.chkAny, Pw.share, Pw.shareAll, Pw.putSlot, Pw.fs_val, Pw.fs_none, Pw.fs_own, Pw.retOut, Pw.mergeP, Pw.isOwn, Pw.mCall, Pw.callD, Pw.callOn, Pw.prep, Pw.prep1, Pw.agOk, Pw.penv, Pw.agSlot, Pw.callEnd, Pw.back, Pw.retB, Pw.mMake, Pw.makeD, Pw.makeOn, Pw.makeEnd, Pw.mAttr, Pw.attrOut, Pw.noExn, Pw.mMethO, Pw.methO, Pw.mStatic, Pw.statOut, Pw.mIsi, Pw.isiOut, Pw.isD, Pw.mTup, Pw.mLst, Pw.mSetSub, Pw.subOut, Pw.mSetFld, Pw.fldOut, Pw.putD, Pw.Ct.toD, Pw.gtD, Pw.ltD, Pw.addD, Pw.subD, Pw.mulD, Pw.fdivD, Pw.modD, Pw.negD, Pw.absD, Pw.intD, Pw.lenD, Pw.mRaise, Pw.mJs, Pw.mFmt, Pw.fmtOut, Pw.idxA, Pw.isDctD, Pw.inA, Pw.notInA, Pw.lenA, Pw.isDcts, Pw.mulA, Pw.isLstD, Pw.listA, Pw.mChainI, Pw.mParF, Pw.mSetSubA, Pw.subOutA, Pw.mNewD, Pw.mWAny, Pw.wkStr, Pw.conV, Pw.dlenD, Pw.mMeth, Pw.methOut, Pw.isTy, Pw.mMut, Pw.mMut0, Pw.isLst, Pw.mutOut, Pw.gAppend, Pw.mLc, Pw.okOwn, Pw.lockE, Pw.unlockE, Pw.wipeE, Pw.restE, Pw.mYes, Pw.Out.bind_ok, nums_nil, nums_v, nums_o, lenD, leD, powD, p18, f0, f1, f2, f3, n1, n2, hv, h0, h1, hc, hc', mk1, mk2, mk3, mk4, mk5, mk6, d11, e1, hx, hs]
/-- the feed's form -/
def Fd (c : Ct) : Prop := ∃ cells i v m, 0 ≤ i ∧ c = feedC cells i v m
theorem v_draw {fd : Ct} (hf : Fd fd) {many : Int} (h0 : 0 < many) (h1 : okDiv many) : ∃ r fd', 0 ≤ r ∧ r < many ∧ Fd fd' ∧ f__law_draw [.own true false fd, I many] = .ok (.val (.int r)) [.own true false fd', I many] := by
  obtain ⟨cells, i, v, m, hi, rfl⟩ := hf
  have nn : ∀ x : Int, 0 ≤ x % many ∧ x % many < many := fun x => ⟨Int.emod_nonneg x (by omega), Int.emod_lt_of_pos x h0⟩
  by_cases hv : v < 2
  · by_cases hc : i + 1 ≤ (cells.length : Int)
    · obtain ⟨c, _, hx⟩ := cell_at cells i hi hc
      by_cases hs : c < 10 ^ 18
      · exact ⟨_, _, (nn _).1, (nn _).2, ⟨cells, i + 1, v, m, by omega, rfl⟩, v_drawC2 cells i v m many c hv h0 hc hx hs⟩
      · exact ⟨_, _, (nn _).1, (nn _).2, ⟨cells, i + 1, c / many, m, by omega, rfl⟩, v_drawB cells i v m many c hv h0 h1 hc hx hs⟩
    · exact ⟨_, _, (nn _).1, (nn _).2, ⟨cells, i + 1, v, m, by omega, rfl⟩, v_drawC1 cells i v m many hv h0 hc⟩
  · exact ⟨_, _, (nn _).1, (nn _).2, ⟨cells, i, v / many, m, hi, rfl⟩, v_drawA cells i v m many hv h0 h1⟩
theorem okDiv_nat {n : Nat} (h0 : 0 < n) (h : n < 2 ^ 64) : okDiv (n : Int) := ⟨by omega, by
  have h1 : (n : Int).natAbs = n := by omega
  rw [h1]
  have := (Nat.log2_lt (by omega : n ≠ 0)).mpr h
  omega⟩
theorem v_any {fd : Ct} (hf : Fd fd) (ds : List D) (h0 : 0 < ds.length) (h1 : ds.length ≤ 1000) : ∃ d fd', d ∈ ds ∧ Fd fd' ∧ f__law_any [.own true false fd, .val (.lst ds)] = .ok (.val d) [.own true false fd', .val (.lst ds)] := by
  obtain ⟨r, fd', a0, a1, hf', e⟩ := v_draw hf (many := ds.length) (by omega) (okDiv_nat h0 (by omega))
  have hl : r.toNat < ds.length := by omega
  have hx := idx_lst (ds := ds) a0 (List.getElem?_eq_getElem hl)
  exact ⟨_, fd', List.getElem_mem hl, hf', by simp [f__law_any, m__law_any, Pw.runF, Pw.startE, Pw.mSeq, Pw.mSkip, Pw.mExpr, Pw.mRet, Pw.mRetN, Pw.mIfS, Pw.mSet, Pw.setSlot, Pw.mPar, Pw.mPar3, Pw.mAsgT, Pw.tgOut_nm, Pw.tgOut_tp2, Pw.tgOut_tp3, Pw.tgSet_nm, Pw.tgSet_tp2, Pw.mCons, Pw.mNil, Pw.mC, Pw.mVar, Pw.mOp2, Pw.mOp, Pw.mUn, Pw.mUn2, Pw.unBoth, Pw.unOwn, Pw.unOut, Pw.opOut, Pw.opBoth, Pw.opOwn, Pw.opFind, Pw.resOut, Pw.opArgs, Pw.tyD, Pw.isObjR, Pw.mTst, Pw.mTru, Pw.truOut, Pw.truD, Pw.boolOut, Pw.mIf, Pw.mAndT, Pw.mOrT, Pw.mNotT, Pw.mAndV, Pw.mOrV, Pw.mNotV, Pw.norm, Pw.view, Pw.views, Pw.callOut, Pw.mCallB, Pw.mCallO, Pw.call1Both, Pw.chkAny, Pw.share, Pw.shareAll, Pw.putSlot, Pw.fs_val, Pw.fs_none, Pw.fs_own, Pw.retOut, Pw.mergeP, Pw.isOwn, Pw.mCall, Pw.callD, Pw.callOn, Pw.prep, Pw.prep1, Pw.agOk, Pw.penv, Pw.agSlot, Pw.callEnd, Pw.back, Pw.retB, Pw.mMake, Pw.makeD, Pw.makeOn, Pw.makeEnd, Pw.mAttr, Pw.attrOut, Pw.noExn, Pw.mMethO, Pw.methO, Pw.mStatic, Pw.statOut, Pw.mIsi, Pw.isiOut, Pw.isD, Pw.mTup, Pw.mLst, Pw.mSetSub, Pw.subOut, Pw.mSetFld, Pw.fldOut, Pw.putD, Pw.Ct.toD, Pw.gtD, Pw.ltD, Pw.addD, Pw.subD, Pw.mulD, Pw.fdivD, Pw.modD, Pw.negD, Pw.absD, Pw.intD, Pw.lenD, Pw.mRaise, Pw.mJs, Pw.mFmt, Pw.fmtOut, Pw.idxA, Pw.isDctD, Pw.inA, Pw.notInA, Pw.lenA, Pw.isDcts, Pw.mulA, Pw.isLstD, Pw.listA, Pw.mChainI, Pw.mParF, Pw.mSetSubA, Pw.subOutA, Pw.mNewD, Pw.mWAny, Pw.wkStr, Pw.conV, Pw.dlenD, Pw.mMeth, Pw.methOut, Pw.isTy, Pw.mMut, Pw.mMut0, Pw.isLst, Pw.mutOut, Pw.gAppend, Pw.mLc, Pw.okOwn, Pw.lockE, Pw.unlockE, Pw.wipeE, Pw.restE, Pw.mYes, Pw.Out.bind_ok, nums_nil, nums_v, nums_o, lenD, e, hx]⟩
/-! ### the feed's making -/
theorem lc_int : ∀ (ns acc : List Int) (a b : Sv), acc.length + ns.length ≤ 63 → lcL (.nm 3) mYes (mCallB Pw.intD (mCons (mVar 3) mNil)) [3] (ns.map D.int) (acc.map D.int) [a, b, .none, .none] = some ((acc ++ ns).map D.int, [a, b, .none, .none])
  | [], acc, a, b, _ => by simp [lcL]
  | n :: ns, acc, a, b, h => by
    have ih := lc_int ns (acc ++ [n]) a b (by simp only [List.length_append, List.length_cons, List.length_nil] at h ⊢; omega)
    have hz : acc.length < PySem.sizeLine := Nat.lt_of_lt_of_le (by simp only [List.length_cons] at h; omega) (show 63 ≤ PySem.sizeLine by decide)
    simp only [List.map_append, List.map_cons, List.map_nil, List.append_assoc, List.cons_append, List.nil_append] at ih
    simp [lcL, Pw.runF, Pw.startE, Pw.mSeq, Pw.mSkip, Pw.mExpr, Pw.mRet, Pw.mRetN, Pw.mIfS, Pw.mSet, Pw.setSlot, Pw.mPar, Pw.mPar3, Pw.mAsgT, Pw.tgOut_nm, Pw.tgOut_tp2, Pw.tgOut_tp3, Pw.tgSet_nm, Pw.tgSet_tp2, Pw.mCons, Pw.mNil, Pw.mC, Pw.mVar, Pw.mOp2, Pw.mOp, Pw.mUn, Pw.mUn2, Pw.unBoth, Pw.unOwn, Pw.unOut, Pw.opOut, Pw.opBoth, Pw.opOwn, Pw.opFind, Pw.resOut, Pw.opArgs, Pw.tyD, Pw.isObjR, Pw.mTst, Pw.mTru, Pw.truOut, Pw.truD, Pw.boolOut, Pw.mIf, Pw.mAndT, Pw.mOrT, Pw.mNotT, Pw.mAndV, Pw.mOrV, Pw.mNotV, Pw.norm, Pw.view, Pw.views, Pw.callOut, Pw.mCallB, Pw.mCallO, Pw.call1Both, Pw.chkAny, Pw.share, Pw.shareAll, Pw.putSlot, Pw.fs_val, Pw.fs_none, Pw.fs_own, Pw.retOut, Pw.mergeP, Pw.isOwn, Pw.mCall, Pw.callD, Pw.callOn, Pw.prep, Pw.prep1, Pw.agOk, Pw.penv, Pw.agSlot, Pw.callEnd, Pw.back, Pw.retB, Pw.mMake, Pw.makeD, Pw.makeOn, Pw.makeEnd, Pw.mAttr, Pw.attrOut, Pw.noExn, Pw.mMethO, Pw.methO, Pw.mStatic, Pw.statOut, Pw.mIsi, Pw.isiOut, Pw.isD, Pw.mTup, Pw.mLst, Pw.mSetSub, Pw.subOut, Pw.mSetFld, Pw.fldOut, Pw.putD, Pw.Ct.toD, Pw.gtD, Pw.ltD, Pw.addD, Pw.subD, Pw.mulD, Pw.fdivD, Pw.modD, Pw.negD, Pw.absD, Pw.intD, Pw.lenD, Pw.mRaise, Pw.mJs, Pw.mFmt, Pw.fmtOut, Pw.idxA, Pw.isDctD, Pw.inA, Pw.notInA, Pw.lenA, Pw.isDcts, Pw.mulA, Pw.isLstD, Pw.listA, Pw.mChainI, Pw.mParF, Pw.mSetSubA, Pw.subOutA, Pw.mNewD, Pw.mWAny, Pw.wkStr, Pw.conV, Pw.dlenD, Pw.mMeth, Pw.methOut, Pw.isTy, Pw.mMut, Pw.mMut0, Pw.isLst, Pw.mutOut, Pw.gAppend, Pw.mLc, Pw.okOwn, Pw.lockE, Pw.unlockE, Pw.wipeE, Pw.restE, Pw.mYes, Pw.Out.bind_ok, nums_nil, nums_v, nums_o, hz, ih]
theorem mk8 (x : Int) : okMul x 7919 := .inl (.inr (by decide))
theorem mk9 (x : Int) : okMul 83 x := .inl (.inl (by decide))
theorem dMark : okDiv 2147483629 := by decide
theorem for_mark (c : Ct) : ∀ (ns : List Int) (m : Int) (a s : Sv), freeSlot (some s) = true → ∃ m' t, forL (turnF (.nm 3) (mSeq (mSet 2 (mOp2 (opOut modD) (mCallB Pw.intD (mCons (mOp2 (opOut addD) (mOp2 (opOut mulA) (mVar 2) (mC (.int 7919))) (mVar 3)) (mNil))) (mC (.int 2147483629)))) (mSkip))) (ns.map D.int) [a, .own false true c, I m, s] = .next [a, .own false true c, I m', t]
  | [], m, a, s, _ => ⟨m, s, rfl⟩
  | n :: ns, m, a, s, hs => by
    obtain ⟨m', t, ih⟩ := for_mark c ns ((m * 7919 + n) % 2147483629) a (I n) rfl
    refine ⟨m', t, ?_⟩
    rw [← ih, List.map_cons]
    refine forL_next ?_
    rw [turnF_at]
    simp [Pw.runF, Pw.startE, Pw.mSeq, Pw.mSkip, Pw.mExpr, Pw.mRet, Pw.mRetN, Pw.mIfS, Pw.mSet, Pw.setSlot, Pw.mPar, Pw.mPar3, Pw.mAsgT, Pw.tgOut_nm, Pw.tgOut_tp2, Pw.tgOut_tp3, Pw.tgSet_nm, Pw.tgSet_tp2, Pw.mCons, Pw.mNil, Pw.mC, Pw.mVar, Pw.mOp2, Pw.mOp, Pw.mUn, Pw.mUn2, Pw.unBoth, Pw.unOwn, Pw.unOut, Pw.opOut, Pw.opBoth, Pw.opOwn, Pw.opFind, Pw.resOut, Pw.opArgs, Pw.tyD, Pw.isObjR, Pw.mTst, Pw.mTru, Pw.truOut, Pw.truD, Pw.boolOut, Pw.mIf, Pw.mAndT, Pw.mOrT, Pw.mNotT, Pw.mAndV, Pw.mOrV, Pw.mNotV, Pw.norm, Pw.view, Pw.views, Pw.callOut, Pw.mCallB, Pw.mCallO, Pw.call1Both, Pw.chkAny, Pw.share, Pw.shareAll, Pw.putSlot, Pw.fs_val, Pw.fs_none, Pw.fs_own, Pw.retOut, Pw.mergeP, Pw.isOwn, Pw.mCall, Pw.callD, Pw.callOn, Pw.prep, Pw.prep1, Pw.agOk, Pw.penv, Pw.agSlot, Pw.callEnd, Pw.back, Pw.retB, Pw.mMake, Pw.makeD, Pw.makeOn, Pw.makeEnd, Pw.mAttr, Pw.attrOut, Pw.noExn, Pw.mMethO, Pw.methO, Pw.mStatic, Pw.statOut, Pw.mIsi, Pw.isiOut, Pw.isD, Pw.mTup, Pw.mLst, Pw.mSetSub, Pw.subOut, Pw.mSetFld, Pw.fldOut, Pw.putD, Pw.Ct.toD, Pw.gtD, Pw.ltD, Pw.addD, Pw.subD, Pw.mulD, Pw.fdivD, Pw.modD, Pw.negD, Pw.absD, Pw.intD, Pw.lenD, Pw.mRaise, Pw.mJs, Pw.mFmt, Pw.fmtOut, Pw.idxA, Pw.isDctD, Pw.inA, Pw.notInA, Pw.lenA, Pw.isDcts, Pw.mulA, Pw.isLstD, Pw.listA, Pw.mChainI, Pw.mParF, Pw.mSetSubA, Pw.subOutA, Pw.mNewD, Pw.mWAny, Pw.wkStr, Pw.conV, Pw.dlenD, Pw.mMeth, Pw.methOut, Pw.isTy, Pw.mMut, Pw.mMut0, Pw.isLst, Pw.mutOut, Pw.gAppend, Pw.mLc, Pw.okOwn, Pw.lockE, Pw.unlockE, Pw.wipeE, Pw.restE, Pw.mYes, Pw.Out.bind_ok, nums_nil, nums_v, nums_o, hs, mk8, dMark]
theorem v_feed (ns : List Int) (hn : ns.length ≤ 63) : ∃ fd, Fd fd ∧ f__law_feed [.val (.scr ns)] = .ok (.fresh fd) [.val (.scr ns)] := by
  generalize hc : cutL ns none (some 63) = cells
  have hl : cells.length ≤ 63 := by
    rw [← hc]
    unfold cutL
    rw [List.length_take, List.length_drop]
    omega
  have h1 := lc_int cells [] (.val (.scr ns)) .none (by simpa using hl)
  obtain ⟨m', t, h2⟩ := for_mark (.lst (cells.map D.int)) cells (5751 + 83 * (cells.length : Int)) (.val (.scr ns)) .none rfl
  have s4 : (4 : Nat) ≤ PySem.sizeLine := by decide
  refine ⟨feedC cells 0 0 m', ⟨cells, 0, 0, m', by omega, rfl⟩, ?_⟩
  simp only [List.nil_append, List.map_nil] at h1
  simp [f__law_feed, m__law_feed, Pw.runF, Pw.startE, Pw.mSeq, Pw.mSkip, Pw.mExpr, Pw.mRet, Pw.mRetN, Pw.mIfS, Pw.mSet, Pw.setSlot, Pw.mPar, Pw.mPar3, Pw.mAsgT, Pw.tgOut_nm, Pw.tgOut_tp2, Pw.tgOut_tp3, Pw.tgSet_nm, Pw.tgSet_tp2, Pw.mCons, Pw.mNil, Pw.mC, Pw.mVar, Pw.mOp2, Pw.mOp, Pw.mUn, Pw.mUn2, Pw.unBoth, Pw.unOwn, Pw.unOut, Pw.opOut, Pw.opBoth, Pw.opOwn, Pw.opFind, Pw.resOut, Pw.opArgs, Pw.tyD, Pw.isObjR, Pw.mTst, Pw.mTru, Pw.truOut, Pw.truD, Pw.boolOut, Pw.mIf, Pw.mAndT, Pw.mOrT, Pw.mNotT, Pw.mAndV, Pw.mOrV, Pw.mNotV, Pw.norm, Pw.view, Pw.views, Pw.callOut, Pw.mCallB, Pw.mCallO, Pw.call1Both, Pw.chkAny, Pw.share, Pw.shareAll, Pw.putSlot, Pw.fs_val, Pw.fs_none, Pw.fs_own, Pw.retOut, Pw.mergeP, Pw.isOwn, Pw.mCall, Pw.callD, Pw.callOn, Pw.prep, Pw.prep1, Pw.agOk, Pw.penv, Pw.agSlot, Pw.callEnd, Pw.back, Pw.retB, Pw.mMake, Pw.makeD, Pw.makeOn, Pw.makeEnd, Pw.mAttr, Pw.attrOut, Pw.noExn, Pw.mMethO, Pw.methO, Pw.mStatic, Pw.statOut, Pw.mIsi, Pw.isiOut, Pw.isD, Pw.mTup, Pw.mLst, Pw.mSetSub, Pw.subOut, Pw.mSetFld, Pw.fldOut, Pw.putD, Pw.Ct.toD, Pw.gtD, Pw.ltD, Pw.addD, Pw.subD, Pw.mulD, Pw.fdivD, Pw.modD, Pw.negD, Pw.absD, Pw.intD, Pw.lenD, Pw.mRaise, Pw.mJs, Pw.mFmt, Pw.fmtOut, Pw.idxA, Pw.isDctD, Pw.inA, Pw.notInA, Pw.lenA, Pw.isDcts, Pw.mulA, Pw.isLstD, Pw.listA, Pw.mChainI, Pw.mParF, Pw.mSetSubA, Pw.subOutA, Pw.mNewD, Pw.mWAny, Pw.wkStr, Pw.conV, Pw.dlenD, Pw.mMeth, Pw.methOut, Pw.isTy, Pw.mMut, Pw.mMut0, Pw.isLst, Pw.mutOut, Pw.gAppend, Pw.mLc, Pw.okOwn, Pw.lockE, Pw.unlockE, Pw.wipeE, Pw.restE, Pw.mYes, Pw.Out.bind_ok, nums_nil, nums_v, nums_o, lenD, wkOf, wkVal, mSlice, mPart, mNoP, sliceD, hc, h1, mk9, mFor_eq, SO.mapE, h2, s4, hl]
end Lw

set_option maxHeartbeats 4000000
/-! Lx: data compared with themselves; the laws' mixed and pairs. -/
namespace Lx
open Pw Lw
section
open PySem PySem.Spec PyProof.Rows L2 LamX
abbrev N__law_pairs : List Str := ["_law_feed_here", "_law_top", "_law_words", "_law_found", "_law_turn"]
noncomputable def m__law_pairs : MS := mSeq (mSet 2 (mLst (mCons (mC (.str "E")) (mCons (mC (.str "F")) (mCons (mC (.str "AB")) (mCons (mC (.str "BA")) (mCons (mC (.str "ZZZ")) (mCons (mC (.str "Q")) (mCons (mC (.str "EE")) (mCons (mC (.str "XYZ")) (mNil))))))))))) (mSeq (mSet 3 (mLst (mNil))) (mSeq (mFor (.nm 4) (mWRng1 (mCons (mOp2 (opOut addD) (mC (.int 1)) (mCall 2 [true] Lw.f__law_draw [] (mCons (mVar 0) (mCons (mVar 1) (mNil))))) (mNil))) (mSeq (mExpr (mMut gAppend (mVar 3) (mCons (mTup (mCons (mMut gPopAt (mVar 2) (mCons (mCall 2 [true] Lw.f__law_draw [] (mCons (mVar 0) (mCons (mCallB lenA (mCons (mVar 2) (mNil))) (mNil)))) (mNil))) (mCons (mOp2 (opOut addD) (mC (.int 1)) (mCall 2 [true] Lw.f__law_any [] (mCons (mVar 0) (mCons (mLst (mCons (mC (.int 0)) (mCons (mC (.int 1)) (mCons (mC (.int 1)) (mCons (mC (.int 2)) (mNil)))))) (mNil))))) (mNil)))) (mNil)))) (mSkip))) (mSeq (mRet (mVar 3)) (mSkip))))
noncomputable def f__law_pairs : Fn := runF N__law_pairs.length (m__law_pairs)
end
/-- data that can be laid and compared -/
def OkE (d : D) : Prop := ∃ p, d.toP = some p ∧ p.canLay0 = true ∧ p.depth ≤ 60
theorem okE_int (i : Int) : OkE (.int i) := ⟨_, by rw [D.toP], by simp [PySem.PyData.canLay0], by simp [PySem.PyData.depth]⟩
theorem okE_bl (i : Bool) : OkE (.bl i) := ⟨_, by rw [D.toP], by simp [PySem.PyData.canLay0], by simp [PySem.PyData.depth]⟩
theorem okE_str {s : PySem.Str} (h : PySem.PyData.strOk s = true) : OkE (.str s) := ⟨_, by rw [D.toP], by simpa [PySem.PyData.canLay0] using h, by simp [PySem.PyData.depth]⟩
/-- .. of depth at most n -/
def OkN (n : Nat) (d : D) : Prop := ∃ p, d.toP = some p ∧ p.canLay0 = true ∧ p.depth ≤ n
theorem okN_int (n : Nat) (i : Int) : OkN n (.int i) := ⟨_, by rw [D.toP], by simp [PySem.PyData.canLay0], by simp [PySem.PyData.depth]⟩
theorem okN_bl (n : Nat) (i : Bool) : OkN n (.bl i) := ⟨_, by rw [D.toP], by simp [PySem.PyData.canLay0], by simp [PySem.PyData.depth]⟩
theorem okN_str {n : Nat} {s : PySem.Str} (h : PySem.PyData.strOk s = true) : OkN n (.str s) := ⟨_, by rw [D.toP], by simpa [PySem.PyData.canLay0] using h, by simp [PySem.PyData.depth]⟩
theorem okN_all {n : Nat} : ∀ {ds : List D}, (∀ d ∈ ds, OkN n d) → ∃ ps, toPs ds = some ps ∧ PySem.PyData.canLayAll0 ps = true ∧ PySem.PyData.depthAll ps ≤ n ∧ ps.length = ds.length
  | [], _ => ⟨[], by rw [toPs], by simp [PySem.PyData.canLayAll0], by simp [PySem.PyData.depthAll], rfl⟩
  | d :: ds, h => by
    obtain ⟨p, h1, h2, h3⟩ := h d (by simp)
    obtain ⟨ps, a1, a2, a3, a4⟩ := okN_all (ds := ds) fun e he => h e (by simp [he])
    exact ⟨p :: ps, by rw [toPs, h1, a1], by simp [PySem.PyData.canLayAll0, h2, a2], by simp only [PySem.PyData.depthAll]; omega, by simp [a4]⟩
theorem okN_lst {n : Nat} {ds : List D} (h : ∀ d ∈ ds, OkN n d) : OkN (n + 1) (.lst ds) := by
  obtain ⟨ps, a1, a2, a3, _⟩ := okN_all h
  exact ⟨.list ps, by rw [D.toP, a1]; rfl, by simpa [PySem.PyData.canLay0] using a2, by simp only [PySem.PyData.depth]; omega⟩
theorem okN_tup {n : Nat} {ds : List D} (h : ∀ d ∈ ds, OkN n d) : OkN (n + 1) (.tup ds) := by
  obtain ⟨ps, a1, a2, a3, _⟩ := okN_all h
  exact ⟨.tuple ps, by rw [D.toP, a1]; rfl, by simpa [PySem.PyData.canLay0] using a2, by simp only [PySem.PyData.depth]; omega⟩
theorem OkN.mono {n m : Nat} {d : D} (h : OkN n d) (hm : n ≤ m) : OkN m d := by
  obtain ⟨p, a, b, c⟩ := h
  exact ⟨p, a, b, by omega⟩
theorem eqD_self {n : Nat} {d : D} (h : OkN n d) (hn : n ≤ 64) : eqD d d = .val (.bl true) := by
  obtain ⟨p, a, b, c⟩ := h
  have sh : PySem.SeqAt.shaped p = true := by simp only [PySem.SeqAt.shaped, b, Bool.true_and, decide_eq_true_eq]; omega
  have := PySem.SeqAt.eqv_refl p b
  unfold eqD
  rw [a]
  simp only
  rw [if_pos (by simp [eqOk, sh]), this]
theorem neD_self {n : Nat} {d : D} (h : OkN n d) (hn : n ≤ 64) : neD d d = .val (.bl false) := by
  obtain ⟨p, a, b, c⟩ := h
  have sh : PySem.SeqAt.shaped p = true := by simp only [PySem.SeqAt.shaped, b, Bool.true_and, decide_eq_true_eq]; omega
  have := PySem.SeqAt.eqv_refl p b
  unfold neD
  rw [a]
  simp only
  rw [if_pos (by simp [eqOk, sh]), this]
  rfl
theorem neD_nil {n : Nat} {ds : List D} (h : ∀ d ∈ ds, OkN n d) (hn : n ≤ 60) : neD (.lst ds) (.lst []) = .val (.bl (!ds.isEmpty)) := by
  obtain ⟨ps, a1, a2, a3, a4⟩ := okN_all h
  have e1 : (D.lst ds).toP = some (.list ps) := by rw [D.toP, a1]; rfl
  have e2 : (D.lst []).toP = some (.list []) := by rw [D.toP, toPs]; rfl
  have sh : PySem.SeqAt.shaped (.list ps) = true := Bool.and_eq_true_iff.mpr ⟨by simpa [PySem.PyData.canLay0] using a2, decide_eq_true (by simp only [PySem.PyData.depth]; omega)⟩
  have sh2 : PySem.SeqAt.shaped (.list []) = true := by simp [PySem.SeqAt.shaped, PySem.PyData.canLay0, PySem.PyData.canLayAll0, PySem.PyData.depth, PySem.PyData.depthAll]
  unfold neD
  rw [e1, e2]
  simp only
  rw [if_pos (by simp [eqOk, sh, sh2])]
  cases ds with
  | nil =>
    cases ps with
    | nil => simp [PySem.PyData.eqv, PySem.PyData.eqvAll]
    | cons p ps => simp at a4
  | cons d ds =>
    cases ps with
    | nil => simp at a4
    | cons p ps => simp [PySem.PyData.eqv, PySem.PyData.eqvAll]
theorem perm_erase {α : Type} : ∀ (l : List α) (k : Nat) (h : k < l.length), (l[k] :: l.eraseIdx k).Perm l
  | x :: l, 0, _ => .refl _
  | x :: l, k + 1, h => ((List.Perm.swap _ _ _).trans ((perm_erase l k (by simpa using h)).cons x))
theorem HT_sIx_none (n d : Nat) : HT.sIx n d none = d := HT.sIx_none n d
theorem HT_sIx_nat (n d k : Nat) : HT.sIx n d (some (k : Int)) = min k n := HT.sIx_nat n d k
/-! ### mixed -/
theorem seqIx {n k : Nat} (h : k < n) : PySem.seqIndex? (k : Int) n = some k := by
  have := PySem.StrLaws.seqIndex_nonneg (i := (k : Int)) (n := n) (by omega) (by omega)
  simpa using this
noncomputable abbrev mixC : MT := mTst (mOp2 (opOut neD) (mVar 2) (mLst (mNil)))
noncomputable abbrev mixB : MS := mSeq (mExpr (mMut gAppend (mVar 3) (mCons (mMut gPopAt (mVar 2) (mCons (mCall 2 [true] Lw.f__law_draw [] (mCons (mVar 0) (mCons (mCallB lenA (mCons (mVar 2) (mNil))) (mNil)))) (mNil))) (mNil)))) (mSkip)
theorem okP_nat {k : Nat} (h : k < 2 ^ 63) : okPop (k : Int) := ⟨by omega, by omega⟩
theorem turn_mixed {n k : Nat} {ds acc : List D} {fd fd1 : Ct} {row : Sv} {r : Int} {d : D} (hne : neD (.lst ds) (.lst []) = .val (.bl true)) (e1 : Lw.f__law_draw [.own true false fd, I (ds.length : Int)] = .ok (.val (.int r)) [.own true false fd1, I (ds.length : Int)])
    (op : okPop r) (ix : PySem.seqIndex? r ds.length = some k) (hx : ds[k]? = some d) (hz : acc.length < PySem.sizeLine) :
    whileF mixC mixB (n + 1) [.own true false fd, row, .own false false (.lst ds), .own false false (.lst acc)] = whileF mixC mixB n [.own true false fd1, row, .own false false (.lst (ds.eraseIdx k)), .own false false (.lst (acc ++ [d]))] := by
  conv => lhs; unfold whileF
  simp [Pw.runF, Pw.startE, Pw.mSeq, Pw.mSkip, Pw.mExpr, Pw.mRet, Pw.mRetN, Pw.mIfS, Pw.mSet, Pw.setSlot, Pw.mPar, Pw.mPar3, Pw.mAsgT, Pw.tgOut_nm, Pw.tgOut_tp2, Pw.tgOut_tp3, Pw.tgSet_nm, Pw.tgSet_tp2, Pw.mCons, Pw.mNil, Pw.mC, Pw.mVar, Pw.mOp2, Pw.mOp, Pw.mUn, Pw.mUn2, Pw.unBoth, Pw.unOwn, Pw.unOut, Pw.opOut, Pw.opBoth, Pw.opOwn, Pw.opFind, Pw.resOut, Pw.opArgs, Pw.tyD, Pw.isObjR, Pw.mTst, Pw.mTru, Pw.truOut, Pw.truD, Pw.boolOut, Pw.mIf, Pw.mAndT, Pw.mOrT, Pw.mNotT, Pw.mAndV, Pw.mOrV, Pw.mNotV, Pw.norm, Pw.view, Pw.views, Pw.callOut, Pw.mCallB, Pw.mCallO, Pw.call1Both, Pw.chkAny, Pw.share, Pw.shareAll, Pw.putSlot, Pw.fs_val, Pw.fs_none, Pw.fs_own, Pw.retOut, Pw.mergeP, Pw.isOwn, Pw.mCall, Pw.callD, Pw.callOn, Pw.prep, Pw.prep1, Pw.agOk, Pw.penv, Pw.agSlot, Pw.callEnd, Pw.back, Pw.retB, Pw.mMake, Pw.makeD, Pw.makeOn, Pw.makeEnd, Pw.mAttr, Pw.attrOut, Pw.noExn, Pw.mMethO, Pw.methO, Pw.mStatic, Pw.statOut, Pw.mIsi, Pw.isiOut, Pw.isD, Pw.mTup, Pw.mLst, Pw.mSetSub, Pw.subOut, Pw.mSetFld, Pw.fldOut, Pw.putD, Pw.Ct.toD, Pw.gtD, Pw.ltD, Pw.addD, Pw.subD, Pw.mulD, Pw.fdivD, Pw.modD, Pw.negD, Pw.absD, Pw.intD, Pw.lenD, Pw.mRaise, Pw.mJs, Pw.mFmt, Pw.fmtOut, Pw.idxA, Pw.isDctD, Pw.inA, Pw.notInA, Pw.lenA, Pw.isDcts, Pw.mulA, Pw.isLstD, Pw.listA, Pw.mChainI, Pw.mParF, Pw.mSetSubA, Pw.subOutA, Pw.mNewD, Pw.mWAny, Pw.wkStr, Pw.conV, Pw.dlenD, Pw.mMeth, Pw.methOut, Pw.isTy, Pw.mMut, Pw.mMut0, Pw.isLst, Pw.mutOut, Pw.gAppend, Pw.mLc, Pw.okOwn, Pw.lockE, Pw.unlockE, Pw.wipeE, Pw.restE, Pw.mYes, Pw.Out.bind_ok, nums_nil, nums_v, nums_o, hne, lenD, e1, gPopAt, op, ix, hx, hz]
theorem loop_mixed {N0 : Nat} (hN0 : N0 ≤ 60) : ∀ (n : Nat) (ds acc : List D) (fd : Ct) (row : Sv), ds.length < n → acc.length + ds.length ≤ 1000 → (∀ d ∈ ds, OkN N0 d) → Fd fd →
    ∃ ds' fd', Fd fd' ∧ ds'.Perm ds ∧ whileF mixC mixB n [.own true false fd, row, .own false false (.lst ds), .own false false (.lst acc)] = .next [.own true false fd', row, .own false false (.lst []), .own false false (.lst (acc ++ ds'))] := by
  intro n
  induction n with
  | zero => intro ds acc fd row h; omega
  | succ n IH =>
    intro ds acc fd row h hs ok hf
    have hne := neD_nil ok hN0
    by_cases hd : ds = []
    · subst hd
      refine ⟨[], fd, hf, .refl _, ?_⟩
      unfold whileF
      simp [Pw.runF, Pw.startE, Pw.mSeq, Pw.mSkip, Pw.mExpr, Pw.mRet, Pw.mRetN, Pw.mIfS, Pw.mSet, Pw.setSlot, Pw.mPar, Pw.mPar3, Pw.mAsgT, Pw.tgOut_nm, Pw.tgOut_tp2, Pw.tgOut_tp3, Pw.tgSet_nm, Pw.tgSet_tp2, Pw.mCons, Pw.mNil, Pw.mC, Pw.mVar, Pw.mOp2, Pw.mOp, Pw.mUn, Pw.mUn2, Pw.unBoth, Pw.unOwn, Pw.unOut, Pw.opOut, Pw.opBoth, Pw.opOwn, Pw.opFind, Pw.resOut, Pw.opArgs, Pw.tyD, Pw.isObjR, Pw.mTst, Pw.mTru, Pw.truOut, Pw.truD, Pw.boolOut, Pw.mIf, Pw.mAndT, Pw.mOrT, Pw.mNotT, Pw.mAndV, Pw.mOrV, Pw.mNotV, Pw.norm, Pw.view, Pw.views, Pw.callOut, Pw.mCallB, Pw.mCallO, Pw.call1Both, Pw.chkAny, Pw.share, Pw.shareAll, Pw.putSlot, Pw.fs_val, Pw.fs_none, Pw.fs_own, Pw.retOut, Pw.mergeP, Pw.isOwn, Pw.mCall, Pw.callD, Pw.callOn, Pw.prep, Pw.prep1, Pw.agOk, Pw.penv, Pw.agSlot, Pw.callEnd, Pw.back, Pw.retB, Pw.mMake, Pw.makeD, Pw.makeOn, Pw.makeEnd, Pw.mAttr, Pw.attrOut, Pw.noExn, Pw.mMethO, Pw.methO, Pw.mStatic, Pw.statOut, Pw.mIsi, Pw.isiOut, Pw.isD, Pw.mTup, Pw.mLst, Pw.mSetSub, Pw.subOut, Pw.mSetFld, Pw.fldOut, Pw.putD, Pw.Ct.toD, Pw.gtD, Pw.ltD, Pw.addD, Pw.subD, Pw.mulD, Pw.fdivD, Pw.modD, Pw.negD, Pw.absD, Pw.intD, Pw.lenD, Pw.mRaise, Pw.mJs, Pw.mFmt, Pw.fmtOut, Pw.idxA, Pw.isDctD, Pw.inA, Pw.notInA, Pw.lenA, Pw.isDcts, Pw.mulA, Pw.isLstD, Pw.listA, Pw.mChainI, Pw.mParF, Pw.mSetSubA, Pw.subOutA, Pw.mNewD, Pw.mWAny, Pw.wkStr, Pw.conV, Pw.dlenD, Pw.mMeth, Pw.methOut, Pw.isTy, Pw.mMut, Pw.mMut0, Pw.isLst, Pw.mutOut, Pw.gAppend, Pw.mLc, Pw.okOwn, Pw.lockE, Pw.unlockE, Pw.wipeE, Pw.restE, Pw.mYes, Pw.Out.bind_ok, hne]
    · have hl : 0 < ds.length := List.length_pos_iff.mpr hd
      obtain ⟨r, fd1, a0, a1, hf1, e1⟩ := v_draw hf (many := ds.length) (by omega) (okDiv_nat hl (by omega))
      obtain ⟨k, rfl⟩ := Int.eq_ofNat_of_zero_le a0
      have hk : k < ds.length := by omega
      have ix := seqIx hk
      have hx : ds[k]? = some ds[k] := List.getElem?_eq_getElem hk
      have op : okPop (k : Int) := okP_nat (by omega)
      obtain ⟨ds', fd2, hf2, hp, e2⟩ := IH (ds.eraseIdx k) (acc ++ [ds[k]]) fd1 row (by rw [List.length_eraseIdx]; simp [hk]; omega) (by rw [List.length_eraseIdx]; simp [hk]; omega) (fun d hd => ok d (List.mem_of_mem_eraseIdx hd)) hf1
      refine ⟨ds[k] :: ds', fd2, hf2, (hp.cons _).trans (perm_erase ds k hk), ?_⟩
      have e3 : acc ++ ds[k] :: ds' = acc ++ [ds[k]] ++ ds' := by simp
      rw [e3, ← e2]
      have hne' : neD (.lst ds) (.lst []) = .val (.bl true) := by rw [hne]; cases ds with | nil => exact absurd rfl hd | cons _ _ => rfl
      have hz : acc.length < PySem.sizeLine := smallt (by omega)
      exact turn_mixed hne' e1 op ix hx hz
theorem v_mixed {N0 : Nat} (hN0 : N0 ≤ 60) {fd : Ct} (hf : Fd fd) {ds : List D} (hl : ds.length ≤ 1000) (ok : ∀ d ∈ ds, OkN N0 d) : ∃ ds' fd', Fd fd' ∧ ds'.Perm ds ∧ Lw.f__law_mixed [.own true false fd, .val (.lst ds)] = .ok (.fresh (.lst ds')) [.own true false fd', .val (.lst ds)] := by
  obtain ⟨ds', fd', hf', hp, e⟩ := loop_mixed hN0 (ds.length + 1) ds [] fd (.val (.lst ds)) (by omega) (by simpa using hl) ok hf
  have hw := whileM_eq (c := mixC) (b := mixB) (n := ds.length + 1) (e := [.own true false fd, .val (.lst ds), .own false false (.lst ds), .own false false (.lst [])]) (by rw [e]; exact fun z => nomatch z)
  rw [e] at hw
  refine ⟨ds', fd', hf', hp, ?_⟩
  simp [Lw.f__law_mixed, Lw.m__law_mixed, Pw.runF, Pw.startE, Pw.mSeq, Pw.mSkip, Pw.mExpr, Pw.mRet, Pw.mRetN, Pw.mIfS, Pw.mSet, Pw.setSlot, Pw.mPar, Pw.mPar3, Pw.mAsgT, Pw.tgOut_nm, Pw.tgOut_tp2, Pw.tgOut_tp3, Pw.tgSet_nm, Pw.tgSet_tp2, Pw.mCons, Pw.mNil, Pw.mC, Pw.mVar, Pw.mOp2, Pw.mOp, Pw.mUn, Pw.mUn2, Pw.unBoth, Pw.unOwn, Pw.unOut, Pw.opOut, Pw.opBoth, Pw.opOwn, Pw.opFind, Pw.resOut, Pw.opArgs, Pw.tyD, Pw.isObjR, Pw.mTst, Pw.mTru, Pw.truOut, Pw.truD, Pw.boolOut, Pw.mIf, Pw.mAndT, Pw.mOrT, Pw.mNotT, Pw.mAndV, Pw.mOrV, Pw.mNotV, Pw.norm, Pw.view, Pw.views, Pw.callOut, Pw.mCallB, Pw.mCallO, Pw.call1Both, Pw.chkAny, Pw.share, Pw.shareAll, Pw.putSlot, Pw.fs_val, Pw.fs_none, Pw.fs_own, Pw.retOut, Pw.mergeP, Pw.isOwn, Pw.mCall, Pw.callD, Pw.callOn, Pw.prep, Pw.prep1, Pw.agOk, Pw.penv, Pw.agSlot, Pw.callEnd, Pw.back, Pw.retB, Pw.mMake, Pw.makeD, Pw.makeOn, Pw.makeEnd, Pw.mAttr, Pw.attrOut, Pw.noExn, Pw.mMethO, Pw.methO, Pw.mStatic, Pw.statOut, Pw.mIsi, Pw.isiOut, Pw.isD, Pw.mTup, Pw.mLst, Pw.mSetSub, Pw.subOut, Pw.mSetFld, Pw.fldOut, Pw.putD, Pw.Ct.toD, Pw.gtD, Pw.ltD, Pw.addD, Pw.subD, Pw.mulD, Pw.fdivD, Pw.modD, Pw.negD, Pw.absD, Pw.intD, Pw.lenD, Pw.mRaise, Pw.mJs, Pw.mFmt, Pw.fmtOut, Pw.idxA, Pw.isDctD, Pw.inA, Pw.notInA, Pw.lenA, Pw.isDcts, Pw.mulA, Pw.isLstD, Pw.listA, Pw.mChainI, Pw.mParF, Pw.mSetSubA, Pw.subOutA, Pw.mNewD, Pw.mWAny, Pw.wkStr, Pw.conV, Pw.dlenD, Pw.mMeth, Pw.methOut, Pw.isTy, Pw.mMut, Pw.mMut0, Pw.isLst, Pw.mutOut, Pw.gAppend, Pw.mLc, Pw.okOwn, Pw.lockE, Pw.unlockE, Pw.wipeE, Pw.restE, Pw.mYes, Pw.Out.bind_ok, nums_nil, nums_v, nums_o, Pw.listD, hw]
/-! ### pairs -/
abbrev P2 (p : PySem.Str × Int) : D := .tup [.str p.1, .int p.2]
def W8 : List PySem.Str := ["E", "F", "AB", "BA", "ZZZ", "Q", "EE", "XYZ"]
def okCol (c : Int) : Prop := c = 1 ∨ c = 2 ∨ c = 3
noncomputable abbrev prB : MS := mSeq (mExpr (mMut gAppend (mVar 3) (mCons (mTup (mCons (mMut gPopAt (mVar 2) (mCons (mCall 2 [true] Lw.f__law_draw [] (mCons (mVar 0) (mCons (mCallB lenA (mCons (mVar 2) (mNil))) (mNil)))) (mNil))) (mCons (mOp2 (opOut addD) (mC (.int 1)) (mCall 2 [true] Lw.f__law_any [] (mCons (mVar 0) (mCons (mLst (mCons (mC (.int 0)) (mCons (mC (.int 1)) (mCons (mC (.int 1)) (mCons (mC (.int 2)) (mNil)))))) (mNil))))) (mNil)))) (mNil)))) (mSkip)
theorem turn_pairs {k : Nat} {xs acc : List D} {fd fd1 fd2 : Ct} {top t : Sv} {r c : Int} {x d : D} (ht : Fr t) (e1 : Lw.f__law_draw [.own true false fd, I (xs.length : Int)] = .ok (.val (.int r)) [.own true false fd1, I (xs.length : Int)])
    (e2 : Lw.f__law_any [.own true false fd1, .val (.lst [.int 0, .int 1, .int 1, .int 2])] = .ok (.val (.int c)) [.own true false fd2, .val (.lst [.int 0, .int 1, .int 1, .int 2])])
    (op : okPop r) (ix : PySem.seqIndex? r xs.length = some k) (hx : xs[k]? = some x) (hz : acc.length < PySem.sizeLine) :
    turnF (.nm 4) prB d [.own true false fd, top, .own false false (.lst xs), .own false false (.lst acc), t] = .next [.own true false fd2, top, .own false false (.lst (xs.eraseIdx k)), .own false false (.lst (acc ++ [.tup [x, .int (1 + c)]])), .val d] := by
  have z4 : (4 : Nat) ≤ PySem.sizeLine := by decide
  have z2 : (2 : Nat) ≤ PySem.sizeLine := by decide
  rw [turnF_at]
  simp [Pw.runF, Pw.startE, Pw.mSeq, Pw.mSkip, Pw.mExpr, Pw.mRet, Pw.mRetN, Pw.mIfS, Pw.mSet, Pw.setSlot, Pw.mPar, Pw.mPar3, Pw.mAsgT, Pw.tgOut_nm, Pw.tgOut_tp2, Pw.tgOut_tp3, Pw.tgSet_nm, Pw.tgSet_tp2, Pw.mCons, Pw.mNil, Pw.mC, Pw.mVar, Pw.mOp2, Pw.mOp, Pw.mUn, Pw.mUn2, Pw.unBoth, Pw.unOwn, Pw.unOut, Pw.opOut, Pw.opBoth, Pw.opOwn, Pw.opFind, Pw.resOut, Pw.opArgs, Pw.tyD, Pw.isObjR, Pw.mTst, Pw.mTru, Pw.truOut, Pw.truD, Pw.boolOut, Pw.mIf, Pw.mAndT, Pw.mOrT, Pw.mNotT, Pw.mAndV, Pw.mOrV, Pw.mNotV, Pw.norm, Pw.view, Pw.views, Pw.callOut, Pw.mCallB, Pw.mCallO, Pw.call1Both, Pw.chkAny, Pw.share, Pw.shareAll, Pw.putSlot, Pw.fs_val, Pw.fs_none, Pw.fs_own, Pw.retOut, Pw.mergeP, Pw.isOwn, Pw.mCall, Pw.callD, Pw.callOn, Pw.prep, Pw.prep1, Pw.agOk, Pw.penv, Pw.agSlot, Pw.callEnd, Pw.back, Pw.retB, Pw.mMake, Pw.makeD, Pw.makeOn, Pw.makeEnd, Pw.mAttr, Pw.attrOut, Pw.noExn, Pw.mMethO, Pw.methO, Pw.mStatic, Pw.statOut, Pw.mIsi, Pw.isiOut, Pw.isD, Pw.mTup, Pw.mLst, Pw.mSetSub, Pw.subOut, Pw.mSetFld, Pw.fldOut, Pw.putD, Pw.Ct.toD, Pw.gtD, Pw.ltD, Pw.addD, Pw.subD, Pw.mulD, Pw.fdivD, Pw.modD, Pw.negD, Pw.absD, Pw.intD, Pw.lenD, Pw.mRaise, Pw.mJs, Pw.mFmt, Pw.fmtOut, Pw.idxA, Pw.isDctD, Pw.inA, Pw.notInA, Pw.lenA, Pw.isDcts, Pw.mulA, Pw.isLstD, Pw.listA, Pw.mChainI, Pw.mParF, Pw.mSetSubA, Pw.subOutA, Pw.mNewD, Pw.mWAny, Pw.wkStr, Pw.conV, Pw.dlenD, Pw.mMeth, Pw.methOut, Pw.isTy, Pw.mMut, Pw.mMut0, Pw.isLst, Pw.mutOut, Pw.gAppend, Pw.mLc, Pw.okOwn, Pw.lockE, Pw.unlockE, Pw.wipeE, Pw.restE, Pw.mYes, Pw.Out.bind_ok, nums_nil, nums_v, nums_o, ht, lenD, e1, e2, gPopAt, op, ix, hx, hz, z4, z2]
theorem erase_map {α β : Type} (f : α → β) : ∀ (l : List α) (k : Nat), (l.map f).eraseIdx k = (l.eraseIdx k).map f
  | [], _ => rfl
  | x :: l, 0 => rfl
  | x :: l, k + 1 => congrArg (f x :: ·) (erase_map f l k)
theorem loop_pairs : ∀ (ds : List D) (ws : List PySem.Str) (ps : List (PySem.Str × Int)) (fd : Ct) (top t : Sv), ds.length ≤ ws.length → ws.length ≤ 100 → ps.length + ds.length ≤ 100 → Fr t → Fd fd →
    ∃ ps' ws' fd' t', Fd fd' ∧ ps'.length = ds.length ∧ (ps'.map (·.1) ++ ws').Perm ws ∧ (∀ p ∈ ps', okCol p.2) ∧
      forL (turnF (.nm 4) prB) ds [.own true false fd, top, .own false false (.lst (ws.map D.str)), .own false false (.lst (ps.map P2)), t] = .next [.own true false fd', top, .own false false (.lst (ws'.map D.str)), .own false false (.lst ((ps ++ ps').map P2)), t']
  | [], ws, ps, fd, top, t, _, _, _, ht, hf => ⟨[], ws, fd, t, hf, rfl, .refl _, by simp, by simp [forL]⟩
  | d :: ds, ws, ps, fd, top, t, h1, h2, h3, ht, hf => by
    simp only [List.length_cons] at h1 h3
    have hl : 0 < (ws.map D.str).length := by rw [List.length_map]; omega
    obtain ⟨r, fd1, a0, a1, hf1, e1⟩ := v_draw hf (many := (ws.map D.str).length) (by omega) (okDiv_nat hl (by rw [List.length_map]; omega))
    obtain ⟨c, fd2, hc, hf2, e2⟩ := v_any hf1 [.int 0, .int 1, .int 1, .int 2] (by decide) (by decide)
    obtain ⟨k, rfl⟩ := Int.eq_ofNat_of_zero_le a0
    have hk : k < ws.length := by rw [List.length_map] at a1; omega
    have ix := seqIx (k := k) (n := (ws.map D.str).length) (by rw [List.length_map]; exact hk)
    have hx : (ws.map D.str)[k]? = some (.str ws[k]) := by rw [List.getElem?_map, List.getElem?_eq_getElem hk]; rfl
    have op : okPop (k : Int) := okP_nat (by omega)
    have hz : (ps.map P2).length < PySem.sizeLine := smallt (by rw [List.length_map]; omega)
    obtain ⟨ci, rfl, hci⟩ : ∃ ci, c = .int ci ∧ okCol (1 + ci) := by
      simp only [List.mem_cons, List.not_mem_nil, or_false] at hc
      rcases hc with rfl | rfl | rfl | rfl
      · exact ⟨0, rfl, .inl rfl⟩
      · exact ⟨1, rfl, .inr (.inl rfl)⟩
      · exact ⟨1, rfl, .inr (.inl rfl)⟩
      · exact ⟨2, rfl, .inr (.inr rfl)⟩
    have e3 := turn_pairs (top := top) (d := d) ht e1 e2 op ix hx hz
    rw [erase_map] at e3
    have e4 : ps.map P2 ++ [.tup [.str ws[k], .int (1 + ci)]] = (ps ++ [(ws[k], 1 + ci)]).map P2 := by simp
    rw [e4] at e3
    obtain ⟨ps', ws', fd', t', hf', g1, g2, g3, g4⟩ := loop_pairs ds (ws.eraseIdx k) (ps ++ [(ws[k], 1 + ci)]) fd2 top (.val d) (by rw [List.length_eraseIdx]; simp [hk]; omega) (by rw [List.length_eraseIdx]; simp [hk]; omega) (by simp; omega) rfl hf2
    refine ⟨(ws[k], 1 + ci) :: ps', ws', fd', t', hf', by simp [g1], ?_, ?_, ?_⟩
    · simp only [List.map_cons, List.cons_append]
      exact (g2.cons _).trans (perm_erase ws k hk)
    · intro p hp
      rcases List.mem_cons.mp hp with rfl | hp
      · exact hci
      · exact g3 p hp
    · rw [forL_next e3, g4]
      simp
/-! ### pairs as a dict -/
def dctOf (ps : List (PySem.Str × Int)) : List (D × D) := ps.map fun p => (.str p.1, .int p.2)
theorem flat_dct (ps : List (PySem.Str × Int)) : allFlat (dctOf ps) = true := by
  simp [allFlat, dctOf, isFlatK]
theorem key_dct (ps : List (PySem.Str × Int)) (n : PySem.Str) : keyFor (dctOf ps) (.str n) = true := by
  simp [keyFor, flat_dct, isFlatK]
theorem get_dct : ∀ (ps : List (PySem.Str × Int)) (n : PySem.Str), (dGet (dctOf ps) (.str n)).isSome = decide (n ∈ ps.map (·.1))
  | [], n => by simp [dctOf, dGet]
  | p :: ps, n => by
    have ih := get_dct ps n
    by_cases h : p.1 = n
    · subst h; simp [dctOf, dGet]
    · have h' : ¬ n = p.1 := fun z => h z.symm
      have e1 : dGet (dctOf (p :: ps)) (.str n) = dGet (dctOf ps) (.str n) := by simp [dctOf, dGet, h]
      have e2 : decide (n ∈ (p :: ps).map (·.1)) = decide (n ∈ ps.map (·.1)) := by
        rw [List.map_cons]
        simp only [List.mem_cons, h', false_or]
      rw [e1, e2, ih]
theorem put_dct (ps : List (PySem.Str × Int)) (n : PySem.Str) (c : Int) (h : n ∉ ps.map (·.1)) : dPut (dctOf ps) (.str n) (.int c) = dctOf (ps ++ [(n, c)]) := by
  unfold dPut
  rw [get_dct, decide_eq_false h, if_neg (by decide)]
  simp [dctOf]
theorem len_dct (ps : List (PySem.Str × Int)) : (dctOf ps).length = ps.length := by simp [dctOf]
theorem keys_dct (ps : List (PySem.Str × Int)) : (dctOf ps).map (·.1) = ps.map fun p => D.str p.1 := by simp [dctOf, List.map_map, Function.comp_def]
theorem perm_map {α β : Type} {f : α → β} {a b : List β} (h : a.Perm b) : ∀ l : List α, b = l.map f → ∃ l' : List α, a = l'.map f ∧ l'.Perm l := by
  induction h with
  | nil => intro l e; cases l with
    | nil => exact ⟨[], rfl, .refl _⟩
    | cons _ _ => cases e
  | cons x h ih => intro l e; cases l with
    | nil => cases e
    | cons y l =>
      rw [List.map_cons] at e
      injection e with e1 e2
      obtain ⟨l', r1, r2⟩ := ih l e2
      exact ⟨y :: l', by rw [List.map_cons, ← r1, e1], r2.cons _⟩
  | swap x y r => intro l e; cases l with
    | nil => cases e
    | cons p l => cases l with
      | nil => rw [List.map_cons, List.map_nil] at e; cases e
      | cons q l =>
        rw [List.map_cons, List.map_cons] at e
        injection e with e1 e2
        injection e2 with e2 e3
        exact ⟨q :: p :: l, by rw [List.map_cons, List.map_cons, ← e1, ← e2, ← e3], .swap _ _ _⟩
  | trans h1 h2 ih1 ih2 =>
    intro l e
    obtain ⟨l1, r1, r2⟩ := ih2 l e
    obtain ⟨l2, r3, r4⟩ := ih1 l1 r1
    exact ⟨l2, r3, r4.trans r2⟩
theorem cut_take {α : Type} (ds : List α) {i : Int} (h : 0 ≤ i) : cutL ds none (some i) = ds.take i.toNat := by
  obtain ⟨k, rfl⟩ := Int.eq_ofNat_of_zero_le h
  unfold cutL
  rw [HT_sIx_none, HT_sIx_nat, List.drop_zero, Nat.sub_zero]
  simp only [Int.toNat_natCast]
  by_cases c : k ≤ ds.length
  · rw [Nat.min_eq_left c]
  · rw [Nat.min_eq_right (by omega), List.take_length, List.take_of_length_le (by omega)]
theorem cut_drop {α : Type} (ds : List α) {i : Int} (h : 0 ≤ i) : cutL ds (some i) none = ds.drop i.toNat := by
  obtain ⟨k, rfl⟩ := Int.eq_ofNat_of_zero_le h
  unfold cutL
  rw [HT_sIx_none, HT_sIx_nat]
  simp only [Int.toNat_natCast]
  by_cases c : k ≤ ds.length
  · rw [Nat.min_eq_left c, List.take_of_length_le (by rw [List.length_drop]; omega)]
  · rw [Nat.min_eq_right (by omega), List.drop_length, List.drop_of_length_le (by omega), List.take_nil]
theorem sort_strs (ss : List PySem.Str) (h : ss.length ≤ 1000) : sortOk (ss.map D.str) = true := by
  have e : ∀ s : PySem.Str, encD (.str s) = .str s := fun s => by simp [encD, D.toP]
  simp only [sortOk, Bool.and_eq_true, Bool.or_eq_true, decide_eq_true_eq, List.all_eq_true, List.mem_map, forall_exists_index, and_imp, forall_apply_eq_imp_iff₂, e]
  exact ⟨by rw [List.length_map]; exact small h, fun s _ => ⟨by simp [D.toP], by simp [PySem.PyData.depth]⟩, fun s _ t _ => by simp [PySem.W.alike], .inr fun s _ => by simp [isOther]⟩
theorem sortK_perm (ds : List D) : (sortK ds).Perm ds := List.mergeSort_perm ds _
theorem sortK_okN {n : Nat} {ds : List D} (h : ∀ d ∈ ds, OkN n d) : ∀ d ∈ sortK ds, OkN n d := fun d hd => h d ((sortK_perm ds).mem_iff.mp hd)
theorem okRng_small {i : Int} (h0 : -1000 ≤ i) (h1 : i ≤ 1000) : okRng i := ⟨by omega, by omega⟩
theorem v_pairs {fd : Ct} (hf : Fd fd) {top : Int} (h0 : 1 ≤ top) (h1 : top ≤ 4) : ∃ (ps : List (PySem.Str × Int)) (ws' : List PySem.Str) (fd' : Ct), Fd fd' ∧ 1 ≤ ps.length ∧ (ps.length : Int) ≤ top ∧ (ps.map (·.1) ++ ws').Perm W8 ∧ (∀ p ∈ ps, okCol p.2) ∧
    f__law_pairs [.own true false fd, I top] = .ok (.fresh (.lst (ps.map P2))) [.own true false fd', I top] := by
  obtain ⟨r, fd1, a0, a1, hf1, e1⟩ := v_draw hf (many := top) (by omega) ⟨by omega, by
    have : top.natAbs ≠ 0 := by omega
    have := (Nat.log2_lt this).mpr (show top.natAbs < 2 ^ 64 by omega)
    omega⟩
  have hl : (rngD 0 (1 + r).toNat).length = (1 + r).toNat := by simp [rngD]
  obtain ⟨ps, ws', fd', t', hf', g1, g2, g3, g4⟩ := loop_pairs (rngD 0 (1 + r).toNat) W8 [] fd1 (I top) .none (by rw [hl]; show _ ≤ 8; omega) (by decide) (by rw [hl]; simp; omega) rfl hf1
  have ok : okRng (1 + r) := okRng_small (by omega) (by omega)
  have z8 : (8 : Nat) ≤ PySem.sizeLine := by decide
  refine ⟨ps, ws', fd', hf', by rw [g1, hl]; omega, by rw [g1, hl]; omega, g2, g3, ?_⟩
  simp only [W8, List.map_cons, List.map_nil, List.nil_append] at g4
  simp [f__law_pairs, m__law_pairs, Pw.runF, Pw.startE, Pw.mSeq, Pw.mSkip, Pw.mExpr, Pw.mRet, Pw.mRetN, Pw.mIfS, Pw.mSet, Pw.setSlot, Pw.mPar, Pw.mPar3, Pw.mAsgT, Pw.tgOut_nm, Pw.tgOut_tp2, Pw.tgOut_tp3, Pw.tgSet_nm, Pw.tgSet_tp2, Pw.mCons, Pw.mNil, Pw.mC, Pw.mVar, Pw.mOp2, Pw.mOp, Pw.mUn, Pw.mUn2, Pw.unBoth, Pw.unOwn, Pw.unOut, Pw.opOut, Pw.opBoth, Pw.opOwn, Pw.opFind, Pw.resOut, Pw.opArgs, Pw.tyD, Pw.isObjR, Pw.mTst, Pw.mTru, Pw.truOut, Pw.truD, Pw.boolOut, Pw.mIf, Pw.mAndT, Pw.mOrT, Pw.mNotT, Pw.mAndV, Pw.mOrV, Pw.mNotV, Pw.norm, Pw.view, Pw.views, Pw.callOut, Pw.mCallB, Pw.mCallO, Pw.call1Both, Pw.chkAny, Pw.share, Pw.shareAll, Pw.putSlot, Pw.fs_val, Pw.fs_none, Pw.fs_own, Pw.retOut, Pw.mergeP, Pw.isOwn, Pw.mCall, Pw.callD, Pw.callOn, Pw.prep, Pw.prep1, Pw.agOk, Pw.penv, Pw.agSlot, Pw.callEnd, Pw.back, Pw.retB, Pw.mMake, Pw.makeD, Pw.makeOn, Pw.makeEnd, Pw.mAttr, Pw.attrOut, Pw.noExn, Pw.mMethO, Pw.methO, Pw.mStatic, Pw.statOut, Pw.mIsi, Pw.isiOut, Pw.isD, Pw.mTup, Pw.mLst, Pw.mSetSub, Pw.subOut, Pw.mSetFld, Pw.fldOut, Pw.putD, Pw.Ct.toD, Pw.gtD, Pw.ltD, Pw.addD, Pw.subD, Pw.mulD, Pw.fdivD, Pw.modD, Pw.negD, Pw.absD, Pw.intD, Pw.lenD, Pw.mRaise, Pw.mJs, Pw.mFmt, Pw.fmtOut, Pw.idxA, Pw.isDctD, Pw.inA, Pw.notInA, Pw.lenA, Pw.isDcts, Pw.mulA, Pw.isLstD, Pw.listA, Pw.mChainI, Pw.mParF, Pw.mSetSubA, Pw.subOutA, Pw.mNewD, Pw.mWAny, Pw.wkStr, Pw.conV, Pw.dlenD, Pw.mMeth, Pw.methOut, Pw.isTy, Pw.mMut, Pw.mMut0, Pw.isLst, Pw.mutOut, Pw.gAppend, Pw.mLc, Pw.okOwn, Pw.lockE, Pw.unlockE, Pw.wipeE, Pw.restE, Pw.mYes, Pw.Out.bind_ok, nums_nil, nums_v, nums_o, mWRng1, rngOut1, ok, e1, z8, mFor_eq, SO.mapE, g4]
end Lx

set_option maxHeartbeats 4000000
/-! PyEb: tuples times n; == of dicts with flat keys. -/
namespace L2
open PySem PySem.Spec PyProof.Rows
theorem tuple_mul1 (l : Addr) (items : Array Value) (n : Nat) (dd : Option Addr) (sl : Array (Option Value)) (x : Int) (u : Tok) (c0 : (decide (x < -(2 ^ 63)) || decide (x ≥ 2 ^ 63)) = false) (c1 : (items.isEmpty || x == 1) = true) :
    Meets (Builtin.«tuple.__mul__» ⟨[.ref l, .int x u], []⟩) (fun _ R s => s.heap.get? l = some { cls := .type "tuple", dict := dd, data := .seq items n, slots := sl } ∧
      R (.ok (.ret (Value.ref l))) s) :=
  .of_wp fun prog w A R s h => by
    obtain ⟨hp, g, d, tk, os⟩ := s
    obtain ⟨hl, h⟩ := h
    have f1 := AutoSeq1.idx_int
    wp_walk using wpAny_loadPart' hl
    repeat (first
      | (refine wpAny_ite_false (decide_eq_false (by rw [c0]; exact Bool.false_ne_true)) ?_; wp_walk using wpAny_loadPart' hl)
      | (refine wpAny_ite_true (decide_eq_true (by rw [c1])) ?_; wp_walk using wpAny_loadPart' hl))
    exact ⟨_, rfl, h⟩
theorem tuple_mul0 (l : Addr) (items : Array Value) (n : Nat) (dd : Option Addr) (sl : Array (Option Value)) (x : Int) (u : Tok) (c0 : (decide (x < -(2 ^ 63)) || decide (x ≥ 2 ^ 63)) = false) (c1 : (items.isEmpty || x == 1) = false) (c2 : (decide (x ≤ 0) || items.isEmpty) = true) :
    Meets (Builtin.«tuple.__mul__» ⟨[.ref l, .int x u], []⟩) (fun _ R s => s.heap.get? l = some { cls := .type "tuple", dict := dd, data := .seq items n, slots := sl } ∧
      R (.ok (.ret (Value.ref s.heap.objs.size))) { s with heap := s.heap.push { cls := Value.type "tuple", data := Data.seq #[] }, toks := s.toks }) :=
  .of_wp fun prog w A R s h => by
    obtain ⟨hp, g, d, tk, os⟩ := s
    obtain ⟨hl, h⟩ := h
    have f1 := AutoSeq1.idx_int
    wp_walk using wpAny_loadPart' hl
    repeat (first
      | (refine wpAny_ite_false (decide_eq_false (by rw [c0]; exact Bool.false_ne_true)) ?_; wp_walk using wpAny_loadPart' hl)
      | (refine wpAny_ite_false (decide_eq_false (by rw [c1]; exact Bool.false_ne_true)) ?_; wp_walk using wpAny_loadPart' hl)
      | (refine wpAny_ite_true (decide_eq_true (by rw [c2])) ?_; wp_walk using wpAny_loadPart' hl))
    exact ⟨_, rfl, h⟩
/-- x * k: the very tuple, or an empty new one -/
def rRepT1 (K : PySem.W.Frag) : R2 := fun x y H Q => ∃ l k xs, x = .ref l ∧ y = .int k ∧ SqT K H l xs ∧ k ≤ 1000 ∧ -(2 ^ 63) ≤ k ∧ ((xs = [] ∨ k = 1) ∧ Q (.ref l) H ∨ (¬ (xs = [] ∨ k = 1) ∧ k ≤ 0 ∧ ∀ p, H p = none → Q (.ref p) (upd H p (.tup []))))
section
variable {X : Cx}
theorem op_repT1 : OpR X (binaryOp .Mult) (rRepT1 X.K) := by
  intro pins s σ H x y v u Q I rx ry h
  obtain ⟨l, k, xs, rfl, rfl, hT, hz, hlo, q⟩ := h
  cases rx
  obtain ⟨t, rfl⟩ := ry
  obtain ⟨its, r, ⟨⟨cls, dd, data, sl⟩, ho, hc, n, hd⟩, hs⟩ := I.tuple hT
  simp only at hc hd
  subst hc hd
  have hle : its.length = xs.length := r.length.symm
  have hi : its.toArray.isEmpty = decide (xs = []) := by
    cases its with
    | nil => rw [List.eq_nil_of_length_eq_zero (l := xs) (by rw [← hle]; rfl)]; rfl
    | cons a b =>
      cases xs with
      | nil => exact absurd hle (by simp)
      | cons c d => rfl
  have c0 : (decide (k < -(2 ^ 63)) || decide (k ≥ 2 ^ 63)) = false := by
    rw [decide_eq_false (by omega), decide_eq_false (by omega)] <;> rfl
  refine wpAny_binaryOp_repeat_ref (T := "tuple") (U := "int") (by decide) ⟨_, ho, rfl⟩ (fun s' => typeIs_int s' k t) noFill_tuple_mul F.fills_int_mul F.slot_int_rmul repeat_tuple F.slot_int_index.lookup
    (call_meets F.slot_int_rmul (typeIs_int s k t) F.entry_int_rmul (F.args_int_rmul_2 _ _) (int_rmul_tuple k t l its.toArray n dd sl)
      ⟨ho, rfl, ⟨_, ho, rfl⟩, ?_⟩)
  rcases q with ⟨c, q⟩ | ⟨c, hk, q⟩
  · have c1 : (its.toArray.isEmpty || k == 1) = true := by
      rw [hi]
      rcases c with c | c
      · rw [c]; rfl
      · rw [c]; simp
    exact call_meets F.slot_tuple_mul ⟨_, ho, rfl⟩ F.entry_tuple_mul (F.args_tuple_mul_2 _ _) (tuple_mul1 l its.toArray n dd sl k t c0 c1) ⟨ho, .ref l, H, I.tok _, rfl, q⟩
  · have c1 : (its.toArray.isEmpty || k == 1) = false := by
      rw [hi, Bool.or_eq_false_iff]
      exact ⟨decide_eq_false fun z => c (.inl z), beq_eq_false_iff_ne.mpr fun z => c (.inr z)⟩
    have c2 : (decide (k ≤ 0) || its.toArray.isEmpty) = true := by rw [decide_eq_true hk]; rfl
    refine call_meets F.slot_tuple_mul ⟨_, ho, rfl⟩ F.entry_tuple_mul (F.args_tuple_mul_2 _ _) (tuple_mul0 l its.toArray n dd sl k t c0 c1 c2) ⟨ho, ?_⟩
    refine ⟨.ref s.heap.objs.size, _, I.laid (t' := s.toks) (o := .tup []) (fun b ob q => Heap.get?_push_of_some _ q) (Nat.le_refl _) ?_, rfl, q _ (I.hok.fresh (Nat.le_refl _))⟩
    exact ⟨Nat.zero_le _, _, .nil, IsTup.new _ _⟩
end
end L2
namespace Pw
open PySem PySem.Spec PyProof.Rows L2
def isTupD : D → Bool
  | .tup _ => true
  | _ => false
def okRepT (xs : List D) (k : Int) : Prop := xs.length ≤ 1000 ∧ k ≤ 1000 ∧ -(2 ^ 63) ≤ k
instance : ∀ xs k, Decidable (okRepT xs k) := fun _ _ => inferInstanceAs (Decidable (_ ∧ _ ∧ _))
def repTD (x y : D) : Po := match x, y with
  | .tup xs, .int k => if okRepT xs k then .val (.tup (List.replicate k.toNat xs).flatten) else .stuck
  | _, _ => .stuck
def mulB (x y : D) : Po := if isTupD x = true then repTD x y else mulA x y
theorem flat_nil (m : Nat) : (List.replicate m ([] : List D)).flatten = [] := by
  induction m with
  | zero => rfl
  | succ n ih => rw [List.replicate_succ, List.flatten_cons, ih]; rfl
section
variable {X : Cx} {ca : Ca}
theorem ov_repT : OpV ca X (binaryOp .Mult) repTD := OpV.of (OpR.or op_repT op_repT1) fun N H x y dx dy Q kx nd hx hy q => by
  unfold repTD at q
  split at q
  · rename_i xs k
    by_cases c : okRepT xs k
    · rw [if_pos c] at q
      obtain ⟨c1, c2, c3⟩ := c
      obtain ⟨p, vs, rfl, h, r⟩ := vr_tup hx
      have hl := r.len
      by_cases z : xs = [] ∨ k = 1
      · refine .inr ⟨p, k, vs, rfl, vr_int hy, h.sq, c2, c3, .inl ⟨z.imp (fun z => ?_) id, ?_⟩⟩
        · subst z
          exact List.eq_nil_of_length_eq_zero hl
        · have e : (List.replicate k.toNat xs).flatten = xs := by
            rcases z with z | z
            · rw [z]; exact flat_nil _
            · rw [z]; simp
          rw [e] at q
          exact q _ H (fun _ _ e => e) (.tup h r)
      · have hn : vs ≠ [] := fun e => z (.inl (List.eq_nil_of_length_eq_zero (by rw [← hl, e]; rfl)))
        by_cases w : k ≤ 0
        · refine .inr ⟨p, k, vs, rfl, vr_int hy, h.sq, c2, c3, .inr ⟨fun y => y.elim hn fun y => z (.inr y), w, fun l hp => q _ _ (Ext.new hp) ?_⟩⟩
          rw [show k.toNat = 0 by omega]
          exact upd_tup hp .nil nd
        · refine .inl ⟨p, k, vs, rfl, vr_int hy, h.sq, hn, by have := fun e => z (.inr e); omega, c2, by omega, fun l hp => q _ _ (Ext.new hp) (upd_tup hp (reps_rep r _) nd)⟩
    · rw [if_neg c] at q; exact q.elim
  · exact q.elim
theorem ov_mulB : OpV ca X (binaryOp .Mult) mulB := OpV.or (b := fun x _ => isTupD x) ov_repT ov_mulA
end
/-! ### == of dicts with flat keys -/
def valEq (x y : D) : Option Bool := match x.toP, y.toP with
  | some p, some q => if eqOk p q = true then some (PyData.eqv p q) else none
  | _, _ => none
noncomputable def hitsD (kb : List (D × D)) : List (D × D) → Option Bool
  | [] => some true
  | (k, v) :: r => match dGet kb k with
    | none => some false
    | some y => match valEq v y, hitsD kb r with
      | some e, some b => some (e && b)
      | _, _ => none
noncomputable def eqDct (x y : D) : Po := match x, y with
  | .dct a, .dct b => if (allFlat a && allFlat b) = true then (if a.length = b.length then (match hitsD b a with
      | some r => .val (.bl r)
      | none => .stuck) else .val (.bl false)) else .stuck
  | _, _ => .stuck
noncomputable def eqA (x y : D) : Po := if isDctD x = true then eqDct x y else eqD x y
section
variable {X : Cx} {ca : Ca}
theorem dct_flat {N : Addr → Prop} {pins : List (Addr × Obj)} {σ : St} {H : Hp} {s : Shared} {y : V} {kvs : List (D × D)} (hw : ca.hs = hashStr X.w) (I : Inv X pins σ H s) (R : VRep X.K ca N H y (.dct kvs)) (ok : allFlat kvs = true) : ∃ a, y = .ref a ∧ (a == sysModules) = false ∧ ∃ ks vs, KReps X.K ca N H ks kvs ∧ KV ks vs ∧ s.heap.DictOf (mixKind X.prog X.w) a vs := by
  obtain ⟨a, rfl, _, y, _, ⟨j, ks, vs, _, r, rel, dd⟩ | ⟨h, _⟩⟩ := dct_raw (k := .int 0) hw I R (by unfold keyFor; rw [ok]; rfl)
  · exact ⟨a, rfl, y, ks, vs, r, rel, dd⟩
  · cases h
theorem eqP_val {N : Addr → Prop} {pins : List (Addr × Obj)} {σ : St} {H : Hp} {s : Shared} {A : Around} {v w : V} {x y : D} {a b : Value} {e : Bool} (hu : A.units + 64 < cLine) (I : Inv X pins σ H s) (rv : Rep X.K ca N H v x) (rw' : Rep X.K ca N H w y) (ra : RelV v a) (rb : RelV w b) (h : valEq x y = some e) : SeqAt.EqP X.prog X.w A s a b e := by
  unfold valEq at h
  split at h
  · rename_i p q h1 h2
    split at h
    · rename_i c
      cases h
      have c' := Bool.and_eq_true_iff.mp c
      obtain ⟨as, r1⟩ := Dp.reads I p v a (rv.dp h1) ra
      obtain ⟨bs, r2⟩ := Dp.reads I q w b (rw'.dp h2) rb
      exact (SeqAt.eqAt_reads p q A s a b as bs r1 r2 (SeqAt.canLay_of_shaped c'.1) (SeqAt.canLay_of_shaped c'.2) (SeqAt.room_of_shaped c'.1 hu)).eqP
    · cases h
  · cases h
theorem hits_of {N : Addr → Prop} {pins : List (Addr × Obj)} {σ : St} {H : Hp} {s : Shared} {A : Around} (hu : A.units + 64 < cLine) (I : Inv X pins σ H s) {ls : List (Key × V)} {b : List (D × D)} {vb : List (Key × Value)} (rb : KReps X.K ca N H ls b) (kb : KV ls vb) : ∀ {ks : List (Key × V)} {a : List (D × D)} {va : List (Key × Value)} {r : Bool}, KReps X.K ca N H ks a → KV ks va → hitsD b a = some r → PySem.W.KeqHitsP X.prog X.w A s vb va r
  | _, _, va, r, .nil, ka, h => by
    cases ka
    cases h
    exact .nil
  | _, _, va, r, .cons (k := k) (v := v) (d := d) (vs := vs) (ds := ds) rv t, ka, h => by
    cases ka with
    | @cons p q ps qs e1 e2 =>
      obtain ⟨key, x⟩ := q
      obtain ⟨h1, h2⟩ := e1
      have h1' : k = key := h1
      subst h1'
      obtain ⟨g1, g2⟩ := krep_get k rb
      have rr := kb.val k
      unfold hitsD at h
      cases c : dGet b (kD k) with
      | none =>
        rw [c] at h
        cases h
        rw [g2 c] at rr
        exact .miss rr.none_of
      | some y =>
        rw [c] at h
        dsimp only at h
        obtain ⟨w, e3, e4⟩ := g1 y c
        rw [e3] at rr
        obtain ⟨u, e5, e6⟩ := rr.some_of
        cases c1 : valEq d y with
        | none => rw [c1] at h; cases h
        | some e =>
          cases c2 : hitsD b ds with
          | none => rw [c1, c2] at h; cases h
          | some r' =>
            rw [c1, c2] at h
            cases h
            exact .hit e5 (eqP_val hu I rv e4 h2 e6 c1) (hits_of hu I rb kb t e2 c2)
theorem ov_eqDct (hu : X.A.units + 65 < cLine) (hw : ca.hs = hashStr X.w) : OpV ca X (compareOp .Eq) eqDct := fun W tk pins s σ H x y v u Q N dx dy I rx ry nd hx hy q => by
  unfold eqDct at q
  split at q
  · rename_i a b
    split at q
    · rename_i c
      obtain ⟨c1, c2⟩ := Bool.and_eq_true_iff.mp c
      obtain ⟨p1, rfl, y1, ks, va, r1, k1, d1⟩ := dct_flat hw I hx c1
      obtain ⟨p2, rfl, y2, ls, vb, r2, k2, d2⟩ := dct_flat hw I hy c2
      cases rx
      cases ry
      have l1 := krep_len r1
      have l2 := krep_len r2
      have l3 := k1.length
      have l4 := k2.length
      split at q
      · rename_i c3
        cases c4 : hitsD b a with
        | none => rw [c4] at q; exact q.elim
        | some r =>
          rw [c4] at q
          refine PySem.W.rcP_dicts (knd := mixKind X.prog X.w) (r := r) y1 y2 d1 d2 (by omega) (fun _ => hits_of (A := X.A.in1) (by show X.A.units + 1 + 64 < cLine; omega) I r2 k2 r1 k1 c4) _ _ ?_
          rw [show (va.length == vb.length && r) = r from by rw [show va.length = vb.length by omega]; simp]
          exact ⟨.bl _, H, I, rfl, q _ H (fun _ _ e => e) (.bl _)⟩
      · rename_i c3
        refine PySem.W.rcP_dicts (knd := mixKind X.prog X.w) (r := false) y1 y2 d1 d2 (by omega) (fun z => absurd z (by omega)) _ _ ?_
        rw [Bool.and_false]
        exact ⟨.bl _, H, I, rfl, q _ H (fun _ _ e => e) (.bl _)⟩
    · exact q.elim
  · exact q.elim
theorem ov_eqA (hu : X.A.units + 65 < cLine) (hw : ca.hs = hashStr X.w) : OpV ca X (compareOp .Eq) eqA := OpV.or (b := fun x _ => isDctD x) (ov_eqDct hu hw) (ov_eq (by omega))
end
end Pw

set_option maxHeartbeats 4000000
/-! PyH: an empty tuple as a default. -/
namespace Pw
open PySem PySem.Spec PyProof.Rows L2
/-- the i-th default of c.m, if it is an object -/
def dAt (c m : Str) (i : Nat) (K : PySem.W.Frag) : Addr := match K.lookup (mAd c m K) with
  | some ⟨_, _, .func fd, _⟩ => (match fd.defaults with
    | .ref T => (match K.lookup T with
      | some ⟨_, _, .seq its _, _⟩ => (match its.toList[i]? with
        | some (.ref a) => a
        | _ => 0)
      | _ => 0)
    | _ => 0)
  | _ => 0
def etupB (K : PySem.W.Frag) (a : Addr) : Bool := match K.lookup a with
  | some ⟨.type c, _, .seq its _, _⟩ => decide (c = "tuple") && decide (its = #[])
  | _ => false
theorem etup_rep {K : PySem.W.Frag} {ca : Ca} {a : Addr} (h : etupB K a = true) : DfRep K ca [.ref a] [.tup []] := by
  refine .cons (fun N H => ?_) .nil
  unfold etupB at h
  split at h
  · rename_i c dd its n sl e
    obtain ⟨h1, h2⟩ := Bool.and_eq_true_iff.mp h
    have h1 := of_decide_eq_true h1
    have h2 := of_decide_eq_true h2
    subst h1 h2
    exact .tup (.inr ⟨_, _, _, e, rfl, rfl, Nat.zero_le _, .nil⟩) .nil
  · cases h
end Pw

set_option maxHeartbeats 4000000
/-! Ly: rows of shapes as data: ==, in, dicts, sorted. -/
namespace Ly
open Pw Lw Lx
abbrev Row := PySem.Str × List Int
abbrev RD (r : Row) : D := .tup [.str r.1, .tup (r.2.map D.int)]
def PR (r : Row) : PySem.PyData := .tuple [.str r.1, .tuple (r.2.map .int)]
theorem toPs_ints : ∀ xs : List Int, toPs (xs.map D.int) = some (xs.map PySem.PyData.int)
  | [] => by rw [List.map_nil, toPs]; rfl
  | x :: xs => by rw [List.map_cons, toPs, toPs_ints xs, D.toP]; rfl
theorem toP_RD (r : Row) : (RD r).toP = some (PR r) := by
  rw [RD, D.toP, toPs, toPs, toPs, D.toP, D.toP, toPs_ints]
  rfl
theorem toPs_RD : ∀ rs : List Row, toPs (rs.map RD) = some (rs.map PR)
  | [] => by rw [List.map_nil, toPs]; rfl
  | r :: rs => by rw [List.map_cons, toPs, toPs_RD rs, toP_RD]; rfl
theorem eqv_ints : ∀ xs ys : List Int, PySem.PyData.eqvAll (xs.map .int) (ys.map .int) = decide (xs = ys)
  | [], [] => by simp [PySem.PyData.eqvAll]
  | [], _ :: _ => by simp [PySem.PyData.eqvAll]
  | _ :: _, [] => by simp [PySem.PyData.eqvAll]
  | x :: xs, y :: ys => by
    simp only [List.map_cons, PySem.PyData.eqvAll, PySem.PyData.eqv, eqv_ints xs ys]
    by_cases h : x = y <;> simp [h]
theorem eqv_PR (a b : Row) : PySem.PyData.eqv (PR a) (PR b) = decide (a = b) := by
  obtain ⟨n, xs⟩ := a
  obtain ⟨m, ys⟩ := b
  simp only [PR, PySem.PyData.eqv, PySem.PyData.eqvAll, eqv_ints, Prod.mk.injEq]
  by_cases h : n = m <;> simp [h]
theorem okN_ints (xs : List Int) : ∀ d ∈ xs.map D.int, OkN 0 d := by
  intro d hd
  obtain ⟨x, _, rfl⟩ := List.mem_map.mp hd
  exact okN_int 0 x
theorem okN_RD {r : Row} (h : PySem.PyData.strOk r.1 = true) : OkN 2 (RD r) := okN_tup (n := 1) fun d hd => by
  simp only [List.mem_cons, List.not_mem_nil, or_false] at hd
  rcases hd with rfl | rfl
  · exact okN_str h
  · exact okN_tup (okN_ints _)
theorem RD_inj {a b : Row} (h : RD a = RD b) : a = b := by
  have e : some (PR a) = some (PR b) := by rw [← toP_RD, ← toP_RD, h]
  have e2 : PySem.PyData.eqv (PR a) (PR b) = true := by
    have := Option.some.inj e
    rw [← this, eqv_PR]
    simp
  rw [eqv_PR] at e2
  exact of_decide_eq_true e2
theorem in_rows {rs : List Row} {r : Row} (h : PySem.PyData.strOk r.1 = true) (hs : ∀ x ∈ rs, PySem.PyData.strOk x.1 = true) : inB (RD r) (.lst (rs.map RD)) = some (decide (r ∈ rs)) := by
  obtain ⟨p, e1, e2, e3⟩ := okN_RD h
  obtain ⟨q, f1, f2, f3⟩ := okN_lst (n := 2) (ds := rs.map RD) (fun d hd => by
    obtain ⟨x, hx, rfl⟩ := List.mem_map.mp hd
    exact okN_RD (hs x hx))
  rw [toP_RD] at e1
  cases e1
  rw [D.toP, toPs_RD] at f1
  cases f1
  have s1 : PySem.SeqAt.shaped (PR r) = true := by rw [PySem.SeqAt.shaped, e2, decide_eq_true (by omega)]; rfl
  have s2 : PySem.SeqAt.shaped (.list (rs.map PR)) = true := by rw [PySem.SeqAt.shaped, f2, decide_eq_true (by omega)]; rfl
  have hf : (flatD (RD r) && (rs.map RD).all flatD) = false := rfl
  rw [inB, hf, if_neg (by decide), toP_RD, toPs_RD]
  dsimp only
  rw [eqOk, s1, s2, if_pos (by rfl)]
  congr 1
  rw [Bool.eq_iff_iff]
  simp only [List.any_map, List.any_eq_true, Function.comp, eqv_PR, decide_eq_true_eq]
  exact ⟨fun ⟨x, hx, e⟩ => e ▸ hx, fun hx => ⟨r, hx, rfl⟩⟩
/-! ### dicts of rows -/
def rowsDct (rs : List Row) : List (D × D) := rs.map fun r => (RD r, D.bl true)
theorem okK_ints (n : Nat) (xs : List Int) : (xs.map D.int).all (okK n) = true := by
  rw [List.all_map, List.all_eq_true]
  intro x _
  cases n <;> rfl
theorem tupK_RD {r : Row} (h : PySem.PyData.strOk r.1 = true) : isTupK (RD r) = true := by
  show ([D.str r.1, D.tup (r.2.map D.int)].all (okK 5)) = true
  have h1 : okK 5 (.str r.1) = true := h
  have h2 : okK 5 (.tup (r.2.map D.int)) = true := okK_ints 4 r.2
  simp only [List.all_cons, List.all_nil, h1, h2, Bool.and_self]
theorem key_rows {rs : List Row} {r : Row} (h : PySem.PyData.strOk r.1 = true) (hs : ∀ x ∈ rs, PySem.PyData.strOk x.1 = true) : keyFor (rowsDct rs) (RD r) = true := by
  have h2 : allTup (rowsDct rs) = true := by
    rw [allTup, rowsDct, List.all_map, List.all_eq_true]
    exact fun x hx => tupK_RD (hs x hx)
  rw [keyFor, tupK_RD h, h2, Bool.and_self, Bool.or_true]
theorem get_rows : ∀ (rs : List Row) (r : Row), (dGet (rowsDct rs) (RD r)).isSome = decide (r ∈ rs)
  | [], r => by simp [rowsDct, dGet]
  | x :: rs, r => by
    have ih := get_rows rs r
    by_cases h : x = r
    · subst h; simp [rowsDct, dGet]
    · have h' : ¬ RD x = RD r := fun z => h (RD_inj z)
      have h2 : ¬ r = x := fun z => h z.symm
      have e1 : dGet (rowsDct (x :: rs)) (RD r) = dGet (rowsDct rs) (RD r) := by
        rw [rowsDct, List.map_cons, dGet, List.find?_cons, decide_eq_false h']
        rfl
      rw [e1, ih]
      simp [h2]
def addR (rs : List Row) (r : Row) : List Row := if r ∈ rs then rs else rs ++ [r]
theorem put_rows (rs : List Row) (r : Row) : dPut (rowsDct rs) (RD r) (.bl true) = rowsDct (addR rs r) := by
  rw [dPut, get_rows, addR]
  by_cases h : r ∈ rs
  · rw [if_pos (decide_eq_true h), if_pos h, rowsDct, List.map_map]
    apply List.map_congr_left
    intro x _
    show (if RD x = RD r then (RD x, D.bl true) else (RD x, D.bl true)) = _
    rw [ite_self]
  · rw [if_neg (by rw [decide_eq_false h]; decide), if_neg h]
    simp [rowsDct]
theorem keys_rows (rs : List Row) : (rowsDct rs).map (·.1) = rs.map RD := by simp [rowsDct, List.map_map, Function.comp_def]
theorem len_rows (rs : List Row) : (rowsDct rs).length = rs.length := by simp [rowsDct]
theorem mem_addR {rs : List Row} {r x : Row} : x ∈ addR rs r ↔ x ∈ rs ∨ x = r := by
  unfold addR
  by_cases h : r ∈ rs
  · rw [if_pos h]
    exact ⟨.inl, fun z => z.elim id fun e => e ▸ h⟩
  · rw [if_neg h]; simp
theorem len_addR (rs : List Row) (r : Row) : (addR rs r).length ≤ rs.length + 1 := by
  unfold addR
  split
  · omega
  · simp
theorem nodup_addR {rs : List Row} (r : Row) (h : rs.Nodup) : (addR rs r).Nodup := by
  unfold addR
  split
  · exact h
  · rename_i c
    rw [List.nodup_append]
    refine ⟨h, by simp, fun a ha b hb e => ?_⟩
    rw [List.mem_singleton.mp hb] at e
    exact c (e ▸ ha)
/-! ### sorted rows -/
theorem enc_RD (r : Row) : encD (RD r) = PR r := by rw [encD, toP_RD]; rfl
theorem sort_rows (rs : List Row) (h : rs.length ≤ 1000) : sortOk (rs.map RD) = true := by
  simp only [sortOk, Bool.and_eq_true, Bool.or_eq_true, decide_eq_true_eq, List.all_eq_true, List.mem_map, forall_exists_index, and_imp, forall_apply_eq_imp_iff₂, enc_RD, toP_RD]
  refine ⟨by rw [List.length_map]; exact small h, fun s _ => ⟨rfl, ?_⟩, fun s _ t _ => ?_, .inl fun s _ => rfl⟩
  · simp [PR, PySem.PyData.depth, PySem.PyData.depthAll, PySem.W.depth_ints]
  · simp [PR, PySem.W.alike, PySem.W.alikeAll, PySem.W.alike_ints]
theorem leK_total : PySem.W.TotalLe leK := by
  show PySem.W.TotalLe (PySem.W.sortLe (PyProof.Rows.listOrd PyProof.Rows.itemOrd) false fun b : D => PySem.W.keyToks (encD b))
  exact PySem.W.sortLe_total _ _ _
theorem sortK_idem (ds : List D) : sortK (sortK ds) = sortK ds := List.mergeSort_of_pairwise (PySem.W.sort_pairwise leK_total ds)
def sortR (rs : List Row) : List Row := rs.mergeSort fun a b => leK (RD a) (RD b)
theorem sortR_map (rs : List Row) : sortK (rs.map RD) = (sortR rs).map RD := (List.map_mergeSort (r := fun a b : Row => leK (RD a) (RD b)) (s := leK) (f := RD) (l := rs) fun _ _ _ _ => rfl).symm
theorem sortR_perm (rs : List Row) : (sortR rs).Perm rs := List.mergeSort_perm rs _
theorem sortR_idem (rs : List Row) : sortR (sortR rs) = sortR rs := List.mergeSort_of_pairwise (List.pairwise_mergeSort (le := fun a b : Row => leK (RD a) (RD b)) (fun a b c h1 h2 => leK_total.trans (RD a) (RD b) (RD c) h1 h2) (fun a b => Bool.or_eq_true_iff.mpr (leK_total.total (RD a) (RD b))) rs)
end Ly

set_option maxHeartbeats 0
namespace K07
open PySem PySem.Spec PyProof.Rows L2 LamX Pw
abbrev rw_ := PySem.Challenge.rw_countgives_k07_shapes_refused
abbrev prg : Program := PySem.Challenge.pw_countgives_k07_shapes_refused
def top (i : Nat) : Stmt := prg.main.body.getD i (.Pass ⟨0, 0, 0, 0⟩)
def sub (i j : Nat) : Stmt := match top i with
  | .ClassDef (body := b) .. => b.getD j (.Pass ⟨0, 0, 0, 0⟩)
  | _ => .Pass ⟨0, 0, 0, 0⟩
def gdef (x : Str) (st : Stmt) : DefG := ⟨gAd x, x, x, defArgs st, defBody st, defScope st, []⟩
def mdef (c m q : Str) (st : Stmt) : DefG := ⟨mAd c m, m, q, defArgs st, defBody st, defScope st, []⟩
def rdef (ty : String) (c m q : Str) (st : Stmt) : DefG := ⟨rAd ty c m, m, q, defArgs st, defBody st, defScope st, []⟩
def sdef (c q : Str) (st : Stmt) : SupG := ⟨c, q, defArgs st, defBody st, defScope st⟩
def fns : List DefG := [gdef "is_number" (top 12),
  gdef "is_word" (top 13),
  mdef "Schema" "__init__" "Schema.__init__" (sub 14 3),
  mdef "Schema" "columns" "Schema.columns" (sub 14 6),
  mdef "Schema" "__contains__" "Schema.__contains__" (sub 14 7),
  gdef "is_row" (top 16),
  { mdef "Shape" "__init__" "Shape.__init__" (sub 17 1) with dfl := [.adr (dAt "Shape" "__init__" 0)] },
  rdef "property" "Shape" "schema" "Shape.schema" (sub 17 3),
  rdef "property" "Shape" "nodes" "Shape.nodes" (sub 17 4),
  mdef "Shape" "rows" "Shape.rows" (sub 17 5),
  mdef "Shape" "key" "Shape.key" (sub 17 6),
  mdef "Shape" "with_rows" "Shape.with_rows" (sub 17 13),
  gdef "_law_feed" (top 19),
  gdef "_law_draw" (top 20),
  gdef "_law_any" (top 21),
  gdef "_law_pairs" (top 22),
  gdef "_law_rows" (top 23),
  gdef "_law_like" (top 26),
  mdef "Schema" "__eq__" "Schema.__eq__" (sub 14 9),
  gdef "_law_is_shape" (top 27),
  gdef "_law_fields" (top 24),
  gdef "_law_told" (top 25),
  gdef "law" (top 28)]
def sups : List SupG := [sdef "InvalidRelation" "InvalidRelation.__init__" (sub 4 0), sdef "InvalidSize" "InvalidSize.__init__" (sub 5 0), sdef "InvalidRow" "InvalidRow.__init__" (sub 6 0)]
def tf : List TabG := [(gAd "law", ("law" : Str) ++ ".<locals>." ++ "<lambda>")]
def loose : List Str := ["_wall", "CountError", "Missing", "InvalidRelation", "InvalidSize", "InvalidRow", "Unlike", "UnknownRelation", "NothingLeft", "is_number", "is_word", "Schema", "is_row", "Shape", "_law_feed", "_law_draw", "_law_any", "_law_pairs", "_law_rows", "_law_fields", "_law_told", "_law_like", "_law_is_shape", "LARGE"]
def cad (w : World) (K : PySem.W.Frag) : Ca := caOf ["Schema", "Shape", "InvalidRelation", "InvalidSize", "InvalidRow"] K (tsOf tf K) (hashStr w)
def isTab : IsTab := [((.inl "int", .inl "int"), true), ((.inl "int", .inl "str"), false), ((.inl "int", .inl "bool"), false), ((.inl "int", .inl "list"), false), ((.inl "int", .inl "tuple"), false), ((.inl "str", .inl "int"), false), ((.inl "str", .inl "str"), true), ((.inl "str", .inl "bool"), false), ((.inl "str", .inl "list"), false), ((.inl "str", .inl "tuple"), false), ((.inl "list", .inl "int"), false), ((.inl "list", .inl "str"), false), ((.inl "list", .inl "bool"), false), ((.inl "list", .inl "list"), true), ((.inl "list", .inl "tuple"), false), ((.inl "tuple", .inl "int"), false), ((.inl "tuple", .inl "str"), false), ((.inl "tuple", .inl "bool"), false), ((.inl "tuple", .inl "list"), false), ((.inl "tuple", .inl "tuple"), true), ((.inl "bool", .inl "int"), true), ((.inl "bool", .inl "str"), false), ((.inl "bool", .inl "bool"), true), ((.inl "bool", .inl "list"), false), ((.inl "bool", .inl "tuple"), false), ((.inr "Schema", .inr "Schema"), true), ((.inr "Shape", .inr "Shape"), true)]
def fa : List He.Fa := [.free "len", .free "all", .free "any", .free "range", .free "int", .free "abs", .free "isinstance", .free "str", .free "repr", .free "list", .free "tuple", .free "bool", .free "sorted", .free "enumerate", .free "super", .free "sum", .free "min", .free "max", .free "zip", .str "LARGE" "ABCDEFGHIJKLMNOPQRSTUVWXYZ", .glo "Schema", .cls "Schema", .glo "Shape", .cls "Shape", .noat "Schema" "by_name", .noat "Shape" "plan", .noat "Shape" "many", .noat "Shape" "row_list", .noat "Shape" "known_rows", .glo "InvalidRelation", .glo "InvalidSize", .glo "InvalidRow", .glo "is_number", .glo "is_word", .mkr "Schema", .meth "Schema" "columns", .meth "Schema" "__contains__", .glo "is_row", .mkr "Shape", .meth "Shape" "rows", .meth "Shape" "key", .meth "Shape" "with_rows", .glo "_law_feed", .glo "_law_draw", .glo "_law_any", .glo "_law_pairs", .glo "_law_rows", .glo "_law_like", .meth "Schema" "__eq__", .glo "_law_is_shape", .glo "_law_fields", .glo "_law_told", .glo "CountError", .glo "Missing", .glo "NothingLeft", .glo "law"]
def exs (K : PySem.W.Frag) : List Bool := [PySem.W.selfFirst K (He.ga K "Schema"), PySem.W.selfFirst K (He.ga K "Shape"), conB K "Schema" "MOST" (.inl 4), conB K "Schema" "MAX_COLUMNS" (.inl 3), conB K "Schema" "MAX_LETTERS" (.inl 3), conB K "Shape" "MOST" (.inl 60), supB K "InvalidRelation", decide (PySem.W.findIn K (.ref (He.ga K "InvalidRelation")) "at" = some none), decide (PySem.W.findIn K (.ref (He.ga K "InvalidRelation")) "code" = some none), supB K "InvalidSize", decide (PySem.W.findIn K (.ref (He.ga K "InvalidSize")) "given" = some none), decide (PySem.W.findIn K (.ref (He.ga K "InvalidSize")) "code" = some none), supB K "InvalidRow", decide (PySem.W.findIn K (.ref (He.ga K "InvalidRow")) "at" = some none), decide (PySem.W.findIn K (.ref (He.ga K "InvalidRow")) "code" = some none), etupB K (dAt "Shape" "__init__" 0 K), propB K "Shape" "schema", propB K "Shape" "nodes", neB K "Schema" [], toldCB K ["InvalidSize", "InvalidRow"], tabB K isTab, ownTB K isTab]
def ex (K : PySem.W.Frag) : Bool := (fa.all fun f => f.ok K) && (exs K).all id
theorem sit_lam {X : Cx} {A : Around} {outer : List Env} {s : Shared} {H : Hp} {E : XK} {scope : Scope} {f c' : Addr} {k k0 : Nat} (S : Sit X k0) (hr : Room k (A.deeper (lamEnv X scope s.heap.objs.size f c'))) : Sit (lamCx X A outer s H E scope f c') k := ⟨S.nd, hr, rfl⟩
structure Fx (w : World) (K : PySem.W.Frag) (mg : Str → Option Value) : Prop where
  len : mg "len" = none
  all : mg "all" = none
  any : mg "any" = none
  range : mg "range" = none
  int : mg "int" = none
  abs : mg "abs" = none
  isinstance : mg "isinstance" = none
  str : mg "str" = none
  repr : mg "repr" = none
  list : mg "list" = none
  tuple : mg "tuple" = none
  sorted : mg "sorted" = none
  enumerate : mg "enumerate" = none
  sum : mg "sum" = none
  min : mg "min" = none
  max : mg "max" = none
  zip : mg "zip" = none
  isTab : TabOk K (cad w K) isTab
  own : OwnT K (cad w K) K07.isTab
noncomputable def a_by_name : AtI := ⟨["Schema"], []⟩
noncomputable def a_plan : AtI := ⟨["Shape"], []⟩
noncomputable def a_many : AtI := ⟨["Shape"], []⟩
noncomputable def a_row_list : AtI := ⟨["Shape"], []⟩
noncomputable def a_known_rows : AtI := ⟨["Shape"], []⟩
def fl_InvalidRelation : FL := [("code", .inr "InvalidRelation"), ("at", .inl 0)]
def fl_InvalidSize : FL := [("code", .inr "InvalidSize"), ("given", .inl 0)]
def fl_InvalidRow : FL := [("code", .inr "InvalidRow"), ("at", .inl 0)]
abbrev N_is_number : List Str := ["value", "least", "most"]
noncomputable def m_is_number : MS := mSeq (mRet (mAndV (mIsi isTab [.inl "int"] (mVar 0)) (mAndV (mNotV (mIsi isTab [.inl "bool"] (mVar 0))) (mChainI (fun i j => decide (i ≤ j)) (fun i j => decide (i ≤ j)) (mVar 1) (mVar 0) (mVar 2))))) (mSkip)
noncomputable def f_is_number : Fn := runF N_is_number.length (m_is_number)
theorem sc_is_number : FnScope N_is_number ["value", "least", "most"] (defScope (top 12)) := ⟨rfl, rfl, rfl, by decide +kernel, rfl, by decide +kernel, by decide +kernel⟩
theorem b_is_number {P : Program} {w : World} {K : PySem.W.Frag} {mg : Str → Option Value} {base : Heap} {f : Addr} {cdv : Value} {A : Around} {outer : List Env} {s : Shared} {Hp0 : Hp} {E : XK} (H : Fx w K mg) (t_int : At P w K mg base fun X => NmTy X (cad w K) "int" (.inl "int")) (t_bool : At P w K mg base fun X => NmTy X (cad w K) "bool" (.inl "bool")) (hr : Room 4 (A.deeper (envOfC "is_number" (defScope (top 12)) s.heap.objs.size f cdv))) :
    VSs (cxOf (L2.CX P w) P w K mg base N_is_number "is_number" (defScope (top 12)) f cdv A outer s Hp0 E) (cad w K) (defBody (top 12)) (m_is_number) := by
  have S : Sit (cxOf (L2.CX P w) P w K mg base N_is_number "is_number" (defScope (top 12)) f cdv A outer s Hp0 E) 4 := ⟨sc_is_number.nd, hr, rfl⟩
  have U4 := u64 S; have U5 := u65 S
  exact (vss_cons (vs_ret (ve_and (ve_isi1 H.isTab H.own rfl H.isinstance (ve_var (i := 0) rfl (vis_of rfl) (by decide) (by decide)) rfl (by decide) (t_int _ rfl rfl rfl rfl rfl) rfl rfl rfl) (ve_and (ve_not (ve_isi1 H.isTab H.own rfl H.isinstance (ve_var (i := 0) rfl (vis_of rfl) (by decide) (by decide)) rfl (by decide) (t_bool _ rfl rfl rfl rfl rfl) rfl rfl rfl)) (ve_one (ve_chainI ci_le ci_le (ve_var (i := 1) rfl (vis_of rfl) (by decide) (by decide)) (ve_var (i := 0) rfl (vis_of rfl) (by decide) (by decide)) (ve_var (i := 2) rfl (vis_of rfl) (by decide) (by decide)) rfl)))))
      vss_nil)
abbrev N_is_word : List Str := ["value", "letters", "most", "sign"]
noncomputable def m_is_word : MS := mSeq (mRet (mAndV (mIsi isTab [.inl "str"] (mVar 0)) (mAndV (mChainI (fun i j => decide (i ≤ j)) (fun i j => decide (i ≤ j)) (mC (.int 1)) (mCallB lenA (mCons (mVar 0) (mNil))) (mVar 2)) (mCallB allD (mCons (mLc [3] (.nm 3) (mWAny (mVar 0)) (mYes) (mOp2 (opOut inA) (mVar 3) (mVar 1))) (mNil)))))) (mSkip)
noncomputable def f_is_word : Fn := runF N_is_word.length (m_is_word)
theorem sc_is_word : FnScope N_is_word ["value", "letters", "most"] (defScope (top 13)) := ⟨rfl, rfl, rfl, by decide +kernel, rfl, by decide +kernel, by decide +kernel⟩
theorem b_is_word {P : Program} {w : World} {K : PySem.W.Frag} {mg : Str → Option Value} {base : Heap} {f : Addr} {cdv : Value} {A : Around} {outer : List Env} {s : Shared} {Hp0 : Hp} {E : XK} (H : Fx w K mg) (t_str : At P w K mg base fun X => NmTy X (cad w K) "str" (.inl "str")) (hr : Room 6 (A.deeper (envOfC "is_word" (defScope (top 13)) s.heap.objs.size f cdv))) :
    VSs (cxOf (L2.CX P w) P w K mg base N_is_word "is_word" (defScope (top 13)) f cdv A outer s Hp0 E) (cad w K) (defBody (top 13)) (m_is_word) := by
  have S : Sit (cxOf (L2.CX P w) P w K mg base N_is_word "is_word" (defScope (top 13)) f cdv A outer s Hp0 E) 6 := ⟨sc_is_word.nd, hr, rfl⟩
  have U4 := u64 S; have U5 := u65 S
  exact (vss_cons (vs_ret (ve_and (ve_isi1 H.isTab H.own rfl H.isinstance (ve_var (i := 0) rfl (vis_of rfl) (by decide) (by decide)) rfl (by decide) (t_str _ rfl rfl rfl rfl rfl) rfl rfl rfl) (ve_and (ve_chainI ci_le ci_le ve_int (ve_callB (cv_lenA rfl) rfl H.len (by decide +kernel) (va_cons (ve_var (i := 0) rfl (vis_of rfl) (by decide) (by decide)) va_nil rfl) (by decide) (by decide) rfl rfl) (ve_var (i := 2) rfl (vis_of rfl) (by decide) (by decide)) rfl) (ve_one (ve_callB (cv_all S.calm) rfl H.all (by decide +kernel) (va_cons (ve_lc (own := [("sign", 3)]) S.calm S.nd (vi_any (ve_var (i := 0) rfl (vis_of rfl) (by decide) (by decide))) (blkOk_by (N := N_is_word) (sc := defScope (top 13)) (by decide +kernel)) (by decide) (fun _ _ _ _ _ => (vg_nm (i := 3) S.nd rfl (loc_of rfl) (by first | exact .inl rfl | exact .inr rfl))) (fun _ _ _ _ _ => vts_nil) (fun _ _ _ _ _ => (ve_cmp2 (op2_of (ov_inA U5 rfl)) (ve_var (i := 3) rfl (vis_of rfl) (by decide) (by decide)) (ve_var (i := 1) rfl (vis_of rfl) (by decide) (by decide)) rfl)) (fun _ => rfl)) va_nil rfl) (by decide) (by decide) rfl rfl)))))
      vss_nil)
abbrev N_init : List Str := ["self", "relations", "found", "at", "name", "columns"]
noncomputable def m_init : MS := mSeq (mSet 2 (mNewD)) (mSeq (mFor (.tp [.nm 3, .tp [.nm 4, .nm 5]]) (mWEnum (mCons (mVar 1) (mNil))) (mSeq (mIfS (mOrT (mTst (mOp2 (opOut eqD) (mVar 3) (mC (conV (.inl 4))))) (mOrT (mNotT (mTru (mCall 3 [] f_is_word [] (mCons (mVar 4) (mCons (mC (.str "ABCDEFGHIJKLMNOPQRSTUVWXYZ")) (mCons (mC (conV (.inl 3))) (mNil))))))) (mTst (mOp2 (opOut inA) (mVar 4) (mVar 2))))) (mSeq (mRaise "InvalidRelation" 1 fl_InvalidRelation (mCons (mVar 3) (mNil))) (mSkip)) (mSkip)) (mSeq (mIfS (mNotT (mTru (mCall 3 [] f_is_number [] (mCons (mVar 5) (mCons (mC (.int 1)) (mCons (mC (conV (.inl 3))) (mNil))))))) (mSeq (mRaise "InvalidRelation" 1 fl_InvalidRelation (mCons (mVar 3) (mNil))) (mSkip)) (mSkip)) (mSeq (mSetSubA (mVar 2) (mVar 4) (mVar 5)) (mSkip))))) (mSeq (mIfS (mTst (mOp2 (opOut eqD) (mCallB lenA (mCons (mVar 2) (mNil))) (mC (.int 0)))) (mSeq (mRaise "InvalidRelation" 1 fl_InvalidRelation (mCons (mC (.int 0)) (mNil))) (mSkip)) (mSkip)) (mSeq (mSetFld a_by_name.flds "by_name" (mVar 0) (mVar 2)) (mSkip))))
noncomputable def f_init : Fn := runF N_init.length (m_init)
theorem sc_init : FnScope N_init ["self", "relations"] (defScope (sub 14 3)) := ⟨rfl, rfl, rfl, by decide +kernel, rfl, by decide +kernel, by decide +kernel⟩
theorem b_init {P : Program} {w : World} {K : PySem.W.Frag} {mg : Str → Option Value} {base : Heap} {f : Addr} {cdv : Value} {A : Around} {outer : List Env} {s : Shared} {Hp0 : Hp} {E : XK} (H : Fx w K mg) (at_by_name : At P w K mg base fun X => AtOk X (cad w K) 0 a_by_name "by_name") (ra_InvalidRelation : At P w K mg base fun X => RaiseOk X (cad w K) 2 "InvalidRelation" "InvalidRelation" 1 fl_InvalidRelation) (con_Schema_MAX_COLUMNS : At P w K mg base fun X => ConOk X (cad w K) "Schema" "MAX_COLUMNS" (conV (.inl 3))) (c_is_number : At P w K mg base fun X => Call1 X (cad w K) 5 "is_number" 3 f_is_number []) (con_Schema_MOST : At P w K mg base fun X => ConOk X (cad w K) "Schema" "MOST" (conV (.inl 4))) (con_Schema_MAX_LETTERS : At P w K mg base fun X => ConOk X (cad w K) "Schema" "MAX_LETTERS" (conV (.inl 3))) (gl_LARGE : At P w K mg base fun X => GlC X (cad w K) "LARGE" (.str "ABCDEFGHIJKLMNOPQRSTUVWXYZ")) (c_is_word : At P w K mg base fun X => Call1 X (cad w K) 7 "is_word" 3 f_is_word []) (hr : Room 8 (A.deeper (envOfC "Schema.__init__" (defScope (sub 14 3)) s.heap.objs.size f cdv))) :
    VSs (cxOf (L2.CX P w) P w K mg base N_init "Schema.__init__" (defScope (sub 14 3)) f cdv A outer s Hp0 E) (cad w K) (defBody (sub 14 3)) (m_init) := by
  have S : Sit (cxOf (L2.CX P w) P w K mg base N_init "Schema.__init__" (defScope (sub 14 3)) f cdv A outer s Hp0 E) 8 := ⟨sc_init.nd, hr, rfl⟩
  have U4 := u64 S; have U5 := u65 S
  exact (vss_cons (vs_set (i := 2) S.nd rfl (loc_of rfl) ve_newD rfl (by first | exact .inl rfl | exact .inr rfl))
      (vss_cons (vs_for (passes_of rfl) S.calm (vi_enum rfl H.enumerate (va_cons (ve_var (i := 1) rfl (vis_of rfl) (by decide) (by decide)) va_nil rfl) rfl) (vg_tp S.calm (vgs_cons (vg_nm (i := 3) S.nd rfl (loc_of rfl) (by first | exact .inl rfl | exact .inr rfl)) (vgs_cons (vg_tp S.calm (vgs_cons (vg_nm (i := 4) S.nd rfl (loc_of rfl) (by first | exact .inl rfl | exact .inr rfl)) (vgs_cons (vg_nm (i := 5) S.nd rfl (loc_of rfl) (by first | exact .inl rfl | exact .inr rfl)) vgs_nil rfl) rfl) rfl rfl) vgs_nil rfl) rfl) rfl rfl) (vss_cons (vs_if (vt_w (vw_or (vt_cmp2 (op2_of (ov_eq U4)) (ve_var (i := 3) rfl (vis_of rfl) (by decide) (by decide)) (ve_con (con_Schema_MOST _ rfl rfl rfl rfl rfl) rfl rfl (by decide)) rfl) (vw_or (vt_not (vt_tru (ve_call (c_is_word _ rfl rfl rfl rfl rfl) (S.hr.mono (by first | decide | exact Nat.le_refl _)) rfl (va_cons (ve_var (i := 4) rfl (vis_of rfl) (by decide) (by decide)) (va_cons (ve_glc (gl_LARGE _ rfl rfl rfl rfl rfl) rfl (by decide)) (va_cons (ve_con (con_Schema_MAX_LETTERS _ rfl rfl rfl rfl rfl) rfl rfl (by decide)) va_nil rfl) rfl) rfl) (by decide) rfl rfl) (fun _ => rfl))) (vw_or1 (vt_cmp2 (op2_of (ov_inA U5 rfl)) (ve_var (i := 4) rfl (vis_of rfl) (by decide) (by decide)) (ve_var (i := 2) rfl (vis_of rfl) (by decide) (by decide)) rfl))))) (vss_cons (vs_raise S.calm (ra_InvalidRelation _ rfl rfl rfl rfl rfl) (by decide) (S.hr.mono (by first | decide | exact Nat.le_refl _)) rfl (va_cons (ve_var (i := 3) rfl (vis_of rfl) (by decide) (by decide)) va_nil rfl) (.inr ⟨_, _, rfl, rfl, rfl⟩) (by decide))
      vss_nil) vss_nil)
      (vss_cons (vs_if (vt_not (vt_tru (ve_call (c_is_number _ rfl rfl rfl rfl rfl) (S.hr.mono (by first | decide | exact Nat.le_refl _)) rfl (va_cons (ve_var (i := 5) rfl (vis_of rfl) (by decide) (by decide)) (va_cons ve_int (va_cons (ve_con (con_Schema_MAX_COLUMNS _ rfl rfl rfl rfl rfl) rfl rfl (by decide)) va_nil rfl) rfl) rfl) (by decide) rfl rfl) (fun _ => rfl))) (vss_cons (vs_raise S.calm (ra_InvalidRelation _ rfl rfl rfl rfl rfl) (by decide) (S.hr.mono (by first | decide | exact Nat.le_refl _)) rfl (va_cons (ve_var (i := 3) rfl (vis_of rfl) (by decide) (by decide)) va_nil rfl) (.inr ⟨_, _, rfl, rfl, rfl⟩) (by decide))
      vss_nil) vss_nil)
      (vss_cons (vs_setSubA U5 rfl (ve_var (i := 5) rfl (vis_of rfl) (by decide) (by decide)) (ve_var (i := 2) rfl (vis_of rfl) (by decide) (by decide)) (ve_var (i := 4) rfl (vis_of rfl) (by decide) (by decide)) (fun _ => rfl) rfl rfl rfl)
      vss_nil))) (fun _ => rfl))
      (vss_cons (vs_if (vt_cmp2 (op2_of (ov_eq U4)) (ve_callB (cv_lenA rfl) rfl H.len (by decide +kernel) (va_cons (ve_var (i := 2) rfl (vis_of rfl) (by decide) (by decide)) va_nil rfl) (by decide) (by decide) rfl rfl) ve_int rfl) (vss_cons (vs_raise S.calm (ra_InvalidRelation _ rfl rfl rfl rfl rfl) (by decide) (S.hr.mono (by first | decide | exact Nat.le_refl _)) rfl (va_cons ve_int va_nil rfl) (.inr ⟨_, _, rfl, rfl, rfl⟩) (by decide))
      vss_nil) vss_nil)
      (vss_cons (vs_setFld (at_by_name _ rfl rfl rfl rfl rfl).fld (ve_var (i := 0) rfl (vis_of rfl) (by decide) (by decide)) (ve_var (i := 2) rfl (vis_of rfl) (by decide) (by decide)) rfl)
      vss_nil))))
noncomputable def k_Schema_1 : MtI := ⟨2, [], f_init, []⟩
abbrev N_columns : List Str := ["self", "name"]
noncomputable def m_columns : MS := mSeq (mIfS (mTst (mOp2 (opOut notInA) (mVar 1) (mAttr a_by_name "by_name" (mVar 0)))) (mSeq (mNoS) (mSkip)) (mSkip)) (mSeq (mRet (mOp idxA (mAttr a_by_name "by_name" (mVar 0)) (mVar 1))) (mSkip))
noncomputable def f_columns : Fn := runF N_columns.length (m_columns)
theorem sc_columns : FnScope N_columns ["self", "name"] (defScope (sub 14 6)) := ⟨rfl, rfl, rfl, by decide +kernel, rfl, by decide +kernel, by decide +kernel⟩
theorem b_columns {P : Program} {w : World} {K : PySem.W.Frag} {mg : Str → Option Value} {base : Heap} {f : Addr} {cdv : Value} {A : Around} {outer : List Env} {s : Shared} {Hp0 : Hp} {E : XK} (H : Fx w K mg) (at_by_name : At P w K mg base fun X => AtOk X (cad w K) 0 a_by_name "by_name") (hr : Room 10 (A.deeper (envOfC "Schema.columns" (defScope (sub 14 6)) s.heap.objs.size f cdv))) :
    VSs (cxOf (L2.CX P w) P w K mg base N_columns "Schema.columns" (defScope (sub 14 6)) f cdv A outer s Hp0 E) (cad w K) (defBody (sub 14 6)) (m_columns) := by
  have S : Sit (cxOf (L2.CX P w) P w K mg base N_columns "Schema.columns" (defScope (sub 14 6)) f cdv A outer s Hp0 E) 10 := ⟨sc_columns.nd, hr, rfl⟩
  have U4 := u64 S; have U5 := u65 S
  exact (vss_cons (vs_if (vt_cmp2 (op2_of (ov_notInA U5 rfl)) (ve_var (i := 1) rfl (vis_of rfl) (by decide) (by decide)) (ve_attr (at_by_name _ rfl rfl rfl rfl rfl) (S.hr.mono (by first | decide | exact Nat.le_refl _)) (ve_var (i := 0) rfl (vis_of rfl) (by decide) (by decide)) rfl) rfl) (vss_cons vs_no
      vss_nil) vss_nil)
      (vss_cons (vs_ret (ve_sub (ov_ixA U5 rfl (fun _ _ => rfl)) (ve_attr (at_by_name _ rfl rfl rfl rfl rfl) (S.hr.mono (by first | decide | exact Nat.le_refl _)) (ve_var (i := 0) rfl (vis_of rfl) (by decide) (by decide)) rfl) (ve_var (i := 1) rfl (vis_of rfl) (by decide) (by decide))))
      vss_nil))
noncomputable def i_columns : MtI := ⟨2, [], f_columns, []⟩
noncomputable def o_columns : List (Str × MtI) := [("Schema", i_columns)]
abbrev N_contains : List Str := ["self", "name"]
noncomputable def m_contains : MS := mSeq (mRet (mOp2 (opOut inA) (mVar 1) (mAttr a_by_name "by_name" (mVar 0)))) (mSkip)
noncomputable def f_contains : Fn := runF N_contains.length (m_contains)
theorem sc_contains : FnScope N_contains ["self", "name"] (defScope (sub 14 7)) := ⟨rfl, rfl, rfl, by decide +kernel, rfl, by decide +kernel, by decide +kernel⟩
theorem b_contains {P : Program} {w : World} {K : PySem.W.Frag} {mg : Str → Option Value} {base : Heap} {f : Addr} {cdv : Value} {A : Around} {outer : List Env} {s : Shared} {Hp0 : Hp} {E : XK} (H : Fx w K mg) (at_by_name : At P w K mg base fun X => AtOk X (cad w K) 0 a_by_name "by_name") (hr : Room 12 (A.deeper (envOfC "Schema.__contains__" (defScope (sub 14 7)) s.heap.objs.size f cdv))) :
    VSs (cxOf (L2.CX P w) P w K mg base N_contains "Schema.__contains__" (defScope (sub 14 7)) f cdv A outer s Hp0 E) (cad w K) (defBody (sub 14 7)) (m_contains) := by
  have S : Sit (cxOf (L2.CX P w) P w K mg base N_contains "Schema.__contains__" (defScope (sub 14 7)) f cdv A outer s Hp0 E) 12 := ⟨sc_contains.nd, hr, rfl⟩
  have U4 := u64 S; have U5 := u65 S
  exact (vss_cons (vs_ret (ve_cmp2 (op2_of (ov_inA U5 rfl)) (ve_var (i := 1) rfl (vis_of rfl) (by decide) (by decide)) (ve_attr (at_by_name _ rfl rfl rfl rfl rfl) (S.hr.mono (by first | decide | exact Nat.le_refl _)) (ve_var (i := 0) rfl (vis_of rfl) (by decide) (by decide)) rfl) rfl))
      vss_nil)
noncomputable def inT : OpTab := inTab "Schema" false f_contains [.inl "str"]
noncomputable def notinT : OpTab := inTab "Schema" true f_contains [.inl "str"]
abbrev N_is_row : List Str := ["schema", "nodes", "row", "relation", "spots", "spot"]
noncomputable def m_is_row : MS := mSeq (mAsgT (.tp [.nm 3, .nm 4]) (mVar 2)) (mSeq (mIfS (mOrT (mTst (mOp2 (opBoth notInA notinT) (mVar 3) (mVar 0))) (mTst (mOp2 (opOut neD) (mCallB lenA (mCons (mVar 4) (mNil))) (mMethO o_columns "columns" (mVar 0) (mCons (mVar 3) (mNil)))))) (mSeq (mRet (mC (.bl false))) (mSkip)) (mSkip)) (mSeq (mRet (mCallB allD (mCons (mLc [5] (.nm 5) (mWAny (mVar 4)) (mYes) (mCall 3 [] f_is_number [] (mCons (mVar 5) (mCons (mC (.int 0)) (mCons (mOp2 (opOut subD) (mVar 1) (mC (.int 1))) (mNil)))))) (mNil)))) (mSkip)))
noncomputable def f_is_row : Fn := runF N_is_row.length (m_is_row)
theorem sc_is_row : FnScope N_is_row ["schema", "nodes", "row"] (defScope (top 16)) := ⟨rfl, rfl, rfl, by decide +kernel, rfl, by decide +kernel, by decide +kernel⟩
theorem b_is_row {P : Program} {w : World} {K : PySem.W.Frag} {mg : Str → Option Value} {base : Heap} {f : Addr} {cdv : Value} {A : Around} {outer : List Env} {s : Shared} {Hp0 : Hp} {E : XK} (H : Fx w K mg) (c_is_number : At P w K mg base fun X => Call1 X (cad w K) 5 "is_number" 3 f_is_number []) (notinT : At P w K mg base fun X => Room 13 X.A → OpsOk X (cad w K) (compareOp .NotIn) notinT) (om_columns : At P w K mg base fun X => ∀ c i, o_columns.lookup c = some i → MetOk X (cad w K) 11 c "columns" i) (hr : Room 14 (A.deeper (envOfC "is_row" (defScope (top 16)) s.heap.objs.size f cdv))) :
    VSs (cxOf (L2.CX P w) P w K mg base N_is_row "is_row" (defScope (top 16)) f cdv A outer s Hp0 E) (cad w K) (defBody (top 16)) (m_is_row) := by
  have S : Sit (cxOf (L2.CX P w) P w K mg base N_is_row "is_row" (defScope (top 16)) f cdv A outer s Hp0 E) 14 := ⟨sc_is_row.nd, hr, rfl⟩
  have U4 := u64 S; have U5 := u65 S
  exact (vss_cons (vs_asgT (ve_var (i := 2) rfl (vis_of rfl) (by decide) (by decide)) (vg_tp S.calm (vgs_cons (vg_nm (i := 3) S.nd rfl (loc_of rfl) (by first | exact .inl rfl | exact .inr rfl)) (vgs_cons (vg_nm (i := 4) S.nd rfl (loc_of rfl) (by first | exact .inl rfl | exact .inr rfl)) vgs_nil rfl) rfl) rfl rfl) rfl rfl rfl)
      (vss_cons (vs_if (vt_w (vw_or (vt_cmp2 (op2_both (ov_notInA U5 rfl) (notinT _ rfl rfl rfl rfl rfl (S.hr.mono (by first | decide | exact Nat.le_refl _)))) (ve_var (i := 3) rfl (vis_of rfl) (by decide) (by decide)) (ve_var (i := 0) rfl (vis_of rfl) (by decide) (by decide)) rfl) (vw_or1 (vt_cmp2 (op2_of (ov_ne U4)) (ve_callB (cv_lenA rfl) rfl H.len (by decide +kernel) (va_cons (ve_var (i := 4) rfl (vis_of rfl) (by decide) (by decide)) va_nil rfl) (by decide) (by decide) rfl rfl) (ve_methO (om_columns _ rfl rfl rfl rfl rfl) (S.hr.mono (by first | decide | exact Nat.le_refl _)) (ve_var (i := 0) rfl (vis_of rfl) (by decide) (by decide)) (va_cons (ve_var (i := 3) rfl (vis_of rfl) (by decide) (by decide)) va_nil rfl) (.inr ⟨_, _, rfl, rfl, rfl⟩) ⟨_, rfl⟩) rfl)))) (vss_cons (vs_ret ve_bl)
      vss_nil) vss_nil)
      (vss_cons (vs_ret (ve_callB (cv_all S.calm) rfl H.all (by decide +kernel) (va_cons (ve_lc (own := [("spot", 5)]) S.calm S.nd (vi_any (ve_var (i := 4) rfl (vis_of rfl) (by decide) (by decide))) (blkOk_by (N := N_is_row) (sc := defScope (top 16)) (by decide +kernel)) (by decide) (fun _ _ _ _ _ => (vg_nm (i := 5) S.nd rfl (loc_of rfl) (by first | exact .inl rfl | exact .inr rfl))) (fun _ _ _ _ _ => vts_nil) (fun _ _ _ _ _ => (ve_call (c_is_number _ rfl rfl rfl rfl rfl) (S.hr.mono (by first | decide | exact Nat.le_refl _)) rfl (va_cons (ve_var (i := 5) rfl (vis_of rfl) (by decide) (by decide)) (va_cons ve_int (va_cons (ve_op2 (op2_of ov_sub) (ve_var (i := 1) rfl (vis_of rfl) (by decide) (by decide)) ve_int) va_nil rfl) rfl) rfl) (by decide) rfl rfl)) (fun _ => rfl)) va_nil rfl) (by decide) (by decide) rfl rfl))
      vss_nil)))
abbrev N_sinit : List Str := ["self", "schema", "nodes", "rows", "found", "at", "row", "relation", "spots"]
noncomputable def m_sinit : MS := mSeq (mIfS (mNotT (mTru (mCall 3 [] f_is_number [] (mCons (mVar 2) (mCons (mC (.int 0)) (mCons (mC (conV (.inl 60))) (mNil))))))) (mSeq (mRaise "InvalidSize" 1 fl_InvalidSize (mCons (mVar 2) (mNil))) (mSkip)) (mSkip)) (mSeq (mSet 4 (mNewD)) (mSeq (mFor (.tp [.nm 5, .nm 6]) (mWEnum (mCons (mVar 3) (mNil))) (mSeq (mIfS (mNotT (mTru (mCall 3 [] f_is_row [] (mCons (mVar 1) (mCons (mVar 2) (mCons (mVar 6) (mNil))))))) (mSeq (mRaise "InvalidRow" 1 fl_InvalidRow (mCons (mVar 5) (mNil))) (mSkip)) (mSkip)) (mSeq (mAsgT (.tp [.nm 7, .nm 8]) (mVar 6)) (mSeq (mSetSubA (mVar 4) (mTup (mCons (mVar 7) (mCons (mCallB tupleD (mCons (mVar 8) (mNil))) (mNil)))) (mC (.bl true))) (mSkip))))) (mSeq (mSetFld a_plan.flds "plan" (mVar 0) (mVar 1)) (mSeq (mSetFld a_many.flds "many" (mVar 0) (mVar 2)) (mSeq (mSetFld a_row_list.flds "row_list" (mVar 0) (mCallB tupleD (mCons (mCallB sortedD (mCons (mCallB listA (mCons (mVar 4) (mNil))) (mNil))) (mNil)))) (mSeq (mSetFld a_known_rows.flds "known_rows" (mVar 0) (mVar 4)) (mSkip)))))))
noncomputable def f_sinit : Fn := runF N_sinit.length (m_sinit)
theorem sc_sinit : FnScope N_sinit ["self", "schema", "nodes", "rows"] (defScope (sub 17 1)) := ⟨rfl, rfl, rfl, by decide +kernel, rfl, by decide +kernel, by decide +kernel⟩
theorem b_sinit {P : Program} {w : World} {K : PySem.W.Frag} {mg : Str → Option Value} {base : Heap} {f : Addr} {cdv : Value} {A : Around} {outer : List Env} {s : Shared} {Hp0 : Hp} {E : XK} (H : Fx w K mg) (at_known_rows : At P w K mg base fun X => AtOk X (cad w K) 0 a_known_rows "known_rows") (at_row_list : At P w K mg base fun X => AtOk X (cad w K) 0 a_row_list "row_list") (at_many : At P w K mg base fun X => AtOk X (cad w K) 0 a_many "many") (at_plan : At P w K mg base fun X => AtOk X (cad w K) 0 a_plan "plan") (c_is_row : At P w K mg base fun X => Call1 X (cad w K) 15 "is_row" 3 f_is_row []) (ra_InvalidRow : At P w K mg base fun X => RaiseOk X (cad w K) 2 "InvalidRow" "InvalidRow" 1 fl_InvalidRow) (con_Shape_MOST : At P w K mg base fun X => ConOk X (cad w K) "Shape" "MOST" (conV (.inl 60))) (c_is_number : At P w K mg base fun X => Call1 X (cad w K) 5 "is_number" 3 f_is_number []) (ra_InvalidSize : At P w K mg base fun X => RaiseOk X (cad w K) 2 "InvalidSize" "InvalidSize" 1 fl_InvalidSize) (hr : Room 16 (A.deeper (envOfC "Shape.__init__" (defScope (sub 17 1)) s.heap.objs.size f cdv))) :
    VSs (cxOf (L2.CX P w) P w K mg base N_sinit "Shape.__init__" (defScope (sub 17 1)) f cdv A outer s Hp0 E) (cad w K) (defBody (sub 17 1)) (m_sinit) := by
  have S : Sit (cxOf (L2.CX P w) P w K mg base N_sinit "Shape.__init__" (defScope (sub 17 1)) f cdv A outer s Hp0 E) 16 := ⟨sc_sinit.nd, hr, rfl⟩
  have U4 := u64 S; have U5 := u65 S
  exact (vss_cons (vs_if (vt_not (vt_tru (ve_call (c_is_number _ rfl rfl rfl rfl rfl) (S.hr.mono (by first | decide | exact Nat.le_refl _)) rfl (va_cons (ve_var (i := 2) rfl (vis_of rfl) (by decide) (by decide)) (va_cons ve_int (va_cons (ve_con (con_Shape_MOST _ rfl rfl rfl rfl rfl) rfl rfl (by decide)) va_nil rfl) rfl) rfl) (by decide) rfl rfl) (fun _ => rfl))) (vss_cons (vs_raise S.calm (ra_InvalidSize _ rfl rfl rfl rfl rfl) (by decide) (S.hr.mono (by first | decide | exact Nat.le_refl _)) rfl (va_cons (ve_var (i := 2) rfl (vis_of rfl) (by decide) (by decide)) va_nil rfl) (.inr ⟨_, _, rfl, rfl, rfl⟩) (by decide))
      vss_nil) vss_nil)
      (vss_cons (vs_set (i := 4) S.nd rfl (loc_of rfl) ve_newD rfl (by first | exact .inl rfl | exact .inr rfl))
      (vss_cons (vs_for (passes_of rfl) S.calm (vi_enum rfl H.enumerate (va_cons (ve_var (i := 3) rfl (vis_of rfl) (by decide) (by decide)) va_nil rfl) rfl) (vg_tp S.calm (vgs_cons (vg_nm (i := 5) S.nd rfl (loc_of rfl) (by first | exact .inl rfl | exact .inr rfl)) (vgs_cons (vg_nm (i := 6) S.nd rfl (loc_of rfl) (by first | exact .inl rfl | exact .inr rfl)) vgs_nil rfl) rfl) rfl rfl) (vss_cons (vs_if (vt_not (vt_tru (ve_call (c_is_row _ rfl rfl rfl rfl rfl) (S.hr.mono (by first | decide | exact Nat.le_refl _)) rfl (va_cons (ve_var (i := 1) rfl (vis_of rfl) (by decide) (by decide)) (va_cons (ve_var (i := 2) rfl (vis_of rfl) (by decide) (by decide)) (va_cons (ve_var (i := 6) rfl (vis_of rfl) (by decide) (by decide)) va_nil rfl) rfl) rfl) (by decide) rfl rfl) (fun _ => rfl))) (vss_cons (vs_raise S.calm (ra_InvalidRow _ rfl rfl rfl rfl rfl) (by decide) (S.hr.mono (by first | decide | exact Nat.le_refl _)) rfl (va_cons (ve_var (i := 5) rfl (vis_of rfl) (by decide) (by decide)) va_nil rfl) (.inr ⟨_, _, rfl, rfl, rfl⟩) (by decide))
      vss_nil) vss_nil)
      (vss_cons (vs_asgT (ve_var (i := 6) rfl (vis_of rfl) (by decide) (by decide)) (vg_tp S.calm (vgs_cons (vg_nm (i := 7) S.nd rfl (loc_of rfl) (by first | exact .inl rfl | exact .inr rfl)) (vgs_cons (vg_nm (i := 8) S.nd rfl (loc_of rfl) (by first | exact .inl rfl | exact .inr rfl)) vgs_nil rfl) rfl) rfl rfl) rfl rfl rfl)
      (vss_cons (vs_setSubA U5 rfl ve_bl (ve_var (i := 4) rfl (vis_of rfl) (by decide) (by decide)) (ve_tup (va_cons (ve_var (i := 7) rfl (vis_of rfl) (by decide) (by decide)) (va_cons (ve_callTy cv_tuple rfl H.tuple (by decide +kernel) (va_cons (ve_var (i := 8) rfl (vis_of rfl) (by decide) (by decide)) va_nil rfl) (by decide) (by decide) rfl rfl) va_nil rfl) rfl)) (fun _ => rfl) rfl rfl rfl)
      vss_nil))) (fun _ => rfl))
      (vss_cons (vs_setFld (at_plan _ rfl rfl rfl rfl rfl).fld (ve_var (i := 0) rfl (vis_of rfl) (by decide) (by decide)) (ve_var (i := 1) rfl (vis_of rfl) (by decide) (by decide)) rfl)
      (vss_cons (vs_setFld (at_many _ rfl rfl rfl rfl rfl).fld (ve_var (i := 0) rfl (vis_of rfl) (by decide) (by decide)) (ve_var (i := 2) rfl (vis_of rfl) (by decide) (by decide)) rfl)
      (vss_cons (vs_setFld (at_row_list _ rfl rfl rfl rfl rfl).fld (ve_var (i := 0) rfl (vis_of rfl) (by decide) (by decide)) (ve_callTy cv_tuple rfl H.tuple (by decide +kernel) (va_cons (ve_callB (cv_sorted U5) rfl H.sorted (by decide +kernel) (va_cons (ve_callTy (cv_listA S.calm rfl) rfl H.list (by decide +kernel) (va_cons (ve_var (i := 4) rfl (vis_of rfl) (by decide) (by decide)) va_nil rfl) (by decide) (by decide) rfl rfl) va_nil rfl) (by decide) (by decide) rfl rfl) va_nil rfl) (by decide) (by decide) rfl rfl) rfl)
      (vss_cons (vs_setFld (at_known_rows _ rfl rfl rfl rfl rfl).fld (ve_var (i := 0) rfl (vis_of rfl) (by decide) (by decide)) (ve_var (i := 4) rfl (vis_of rfl) (by decide) (by decide)) rfl)
      vss_nil)))))))
noncomputable def k_Shape_3 : MtI := ⟨4, [], f_sinit, []⟩
noncomputable def k_Shape_2 : MtI := ⟨4, [], f_sinit, [.tup []]⟩
abbrev N_schema : List Str := ["self"]
noncomputable def m_schema : MS := mSeq (mRet (mAttr a_plan "plan" (mVar 0))) (mSkip)
noncomputable def f_schema : Fn := runF N_schema.length (m_schema)
theorem sc_schema : FnScope N_schema ["self"] (defScope (sub 17 3)) := ⟨rfl, rfl, rfl, by decide +kernel, rfl, by decide +kernel, by decide +kernel⟩
theorem b_schema {P : Program} {w : World} {K : PySem.W.Frag} {mg : Str → Option Value} {base : Heap} {f : Addr} {cdv : Value} {A : Around} {outer : List Env} {s : Shared} {Hp0 : Hp} {E : XK} (H : Fx w K mg) (at_plan : At P w K mg base fun X => AtOk X (cad w K) 0 a_plan "plan") (hr : Room 18 (A.deeper (envOfC "Shape.schema" (defScope (sub 17 3)) s.heap.objs.size f cdv))) :
    VSs (cxOf (L2.CX P w) P w K mg base N_schema "Shape.schema" (defScope (sub 17 3)) f cdv A outer s Hp0 E) (cad w K) (defBody (sub 17 3)) (m_schema) := by
  have S : Sit (cxOf (L2.CX P w) P w K mg base N_schema "Shape.schema" (defScope (sub 17 3)) f cdv A outer s Hp0 E) 18 := ⟨sc_schema.nd, hr, rfl⟩
  have U4 := u64 S; have U5 := u65 S
  exact (vss_cons (vs_ret (ve_attr (at_plan _ rfl rfl rfl rfl rfl) (S.hr.mono (by first | decide | exact Nat.le_refl _)) (ve_var (i := 0) rfl (vis_of rfl) (by decide) (by decide)) rfl))
      vss_nil)
noncomputable def a_schema : AtI := ⟨[], [("Shape", f_schema)]⟩
abbrev N_nodes : List Str := ["self"]
noncomputable def m_nodes : MS := mSeq (mRet (mAttr a_many "many" (mVar 0))) (mSkip)
noncomputable def f_nodes : Fn := runF N_nodes.length (m_nodes)
theorem sc_nodes : FnScope N_nodes ["self"] (defScope (sub 17 4)) := ⟨rfl, rfl, rfl, by decide +kernel, rfl, by decide +kernel, by decide +kernel⟩
theorem b_nodes {P : Program} {w : World} {K : PySem.W.Frag} {mg : Str → Option Value} {base : Heap} {f : Addr} {cdv : Value} {A : Around} {outer : List Env} {s : Shared} {Hp0 : Hp} {E : XK} (H : Fx w K mg) (at_many : At P w K mg base fun X => AtOk X (cad w K) 0 a_many "many") (hr : Room 20 (A.deeper (envOfC "Shape.nodes" (defScope (sub 17 4)) s.heap.objs.size f cdv))) :
    VSs (cxOf (L2.CX P w) P w K mg base N_nodes "Shape.nodes" (defScope (sub 17 4)) f cdv A outer s Hp0 E) (cad w K) (defBody (sub 17 4)) (m_nodes) := by
  have S : Sit (cxOf (L2.CX P w) P w K mg base N_nodes "Shape.nodes" (defScope (sub 17 4)) f cdv A outer s Hp0 E) 20 := ⟨sc_nodes.nd, hr, rfl⟩
  have U4 := u64 S; have U5 := u65 S
  exact (vss_cons (vs_ret (ve_attr (at_many _ rfl rfl rfl rfl rfl) (S.hr.mono (by first | decide | exact Nat.le_refl _)) (ve_var (i := 0) rfl (vis_of rfl) (by decide) (by decide)) rfl))
      vss_nil)
noncomputable def a_nodes : AtI := ⟨[], [("Shape", f_nodes)]⟩
abbrev N_rows : List Str := ["self"]
noncomputable def m_rows : MS := mSeq (mRet (mCallB listA (mCons (mAttr a_row_list "row_list" (mVar 0)) (mNil)))) (mSkip)
noncomputable def f_rows : Fn := runF N_rows.length (m_rows)
theorem sc_rows : FnScope N_rows ["self"] (defScope (sub 17 5)) := ⟨rfl, rfl, rfl, by decide +kernel, rfl, by decide +kernel, by decide +kernel⟩
theorem b_rows {P : Program} {w : World} {K : PySem.W.Frag} {mg : Str → Option Value} {base : Heap} {f : Addr} {cdv : Value} {A : Around} {outer : List Env} {s : Shared} {Hp0 : Hp} {E : XK} (H : Fx w K mg) (at_row_list : At P w K mg base fun X => AtOk X (cad w K) 0 a_row_list "row_list") (hr : Room 22 (A.deeper (envOfC "Shape.rows" (defScope (sub 17 5)) s.heap.objs.size f cdv))) :
    VSs (cxOf (L2.CX P w) P w K mg base N_rows "Shape.rows" (defScope (sub 17 5)) f cdv A outer s Hp0 E) (cad w K) (defBody (sub 17 5)) (m_rows) := by
  have S : Sit (cxOf (L2.CX P w) P w K mg base N_rows "Shape.rows" (defScope (sub 17 5)) f cdv A outer s Hp0 E) 22 := ⟨sc_rows.nd, hr, rfl⟩
  have U4 := u64 S; have U5 := u65 S
  exact (vss_cons (vs_ret (ve_callTy (cv_listA S.calm rfl) rfl H.list (by decide +kernel) (va_cons (ve_attr (at_row_list _ rfl rfl rfl rfl rfl) (S.hr.mono (by first | decide | exact Nat.le_refl _)) (ve_var (i := 0) rfl (vis_of rfl) (by decide) (by decide)) rfl) va_nil rfl) (by decide) (by decide) rfl rfl))
      vss_nil)
noncomputable def i_rows : MtI := ⟨1, [], f_rows, []⟩
noncomputable def o_rows : List (Str × MtI) := [("Shape", i_rows)]
abbrev N_key : List Str := ["self"]
noncomputable def m_key : MS := mSeq (mRet (mTup (mCons (mAttr a_many "many" (mVar 0)) (mCons (mAttr a_row_list "row_list" (mVar 0)) (mNil))))) (mSkip)
noncomputable def f_key : Fn := runF N_key.length (m_key)
theorem sc_key : FnScope N_key ["self"] (defScope (sub 17 6)) := ⟨rfl, rfl, rfl, by decide +kernel, rfl, by decide +kernel, by decide +kernel⟩
theorem b_key {P : Program} {w : World} {K : PySem.W.Frag} {mg : Str → Option Value} {base : Heap} {f : Addr} {cdv : Value} {A : Around} {outer : List Env} {s : Shared} {Hp0 : Hp} {E : XK} (H : Fx w K mg) (at_row_list : At P w K mg base fun X => AtOk X (cad w K) 0 a_row_list "row_list") (at_many : At P w K mg base fun X => AtOk X (cad w K) 0 a_many "many") (hr : Room 24 (A.deeper (envOfC "Shape.key" (defScope (sub 17 6)) s.heap.objs.size f cdv))) :
    VSs (cxOf (L2.CX P w) P w K mg base N_key "Shape.key" (defScope (sub 17 6)) f cdv A outer s Hp0 E) (cad w K) (defBody (sub 17 6)) (m_key) := by
  have S : Sit (cxOf (L2.CX P w) P w K mg base N_key "Shape.key" (defScope (sub 17 6)) f cdv A outer s Hp0 E) 24 := ⟨sc_key.nd, hr, rfl⟩
  have U4 := u64 S; have U5 := u65 S
  exact (vss_cons (vs_ret (ve_tup (va_cons (ve_attr (at_many _ rfl rfl rfl rfl rfl) (S.hr.mono (by first | decide | exact Nat.le_refl _)) (ve_var (i := 0) rfl (vis_of rfl) (by decide) (by decide)) rfl) (va_cons (ve_attr (at_row_list _ rfl rfl rfl rfl rfl) (S.hr.mono (by first | decide | exact Nat.le_refl _)) (ve_var (i := 0) rfl (vis_of rfl) (by decide) (by decide)) rfl) va_nil rfl) rfl)))
      vss_nil)
noncomputable def i_key : MtI := ⟨1, [], f_key, []⟩
noncomputable def o_key : List (Str × MtI) := [("Shape", i_key)]
abbrev N_with_rows : List Str := ["self", "rows", "at", "row"]
noncomputable def m_with_rows : MS := mSeq (mFor (.tp [.nm 2, .nm 3]) (mWEnum (mCons (mVar 1) (mNil))) (mSeq (mIfS (mNotT (mTru (mCall 3 [] f_is_row [] (mCons (mAttr a_plan "plan" (mVar 0)) (mCons (mAttr a_many "many" (mVar 0)) (mCons (mVar 3) (mNil))))))) (mSeq (mRaise "InvalidRow" 1 fl_InvalidRow (mCons (mVar 2) (mNil))) (mSkip)) (mSkip)) (mSkip))) (mSeq (mRet (mMake "Shape" k_Shape_3.n k_Shape_3.modes k_Shape_3.fn k_Shape_3.dfs (mCons (mAttr a_plan "plan" (mVar 0)) (mCons (mAttr a_many "many" (mVar 0)) (mCons (mOp2 (opOut addD) (mCallB listA (mCons (mAttr a_row_list "row_list" (mVar 0)) (mNil))) (mCallB listA (mCons (mVar 1) (mNil)))) (mNil)))))) (mSkip))
noncomputable def f_with_rows : Fn := runF N_with_rows.length (m_with_rows)
theorem sc_with_rows : FnScope N_with_rows ["self", "rows"] (defScope (sub 17 13)) := ⟨rfl, rfl, rfl, by decide +kernel, rfl, by decide +kernel, by decide +kernel⟩
theorem b_with_rows {P : Program} {w : World} {K : PySem.W.Frag} {mg : Str → Option Value} {base : Heap} {f : Addr} {cdv : Value} {A : Around} {outer : List Env} {s : Shared} {Hp0 : Hp} {E : XK} (H : Fx w K mg) (at_row_list : At P w K mg base fun X => AtOk X (cad w K) 0 a_row_list "row_list") (at_many : At P w K mg base fun X => AtOk X (cad w K) 0 a_many "many") (at_plan : At P w K mg base fun X => AtOk X (cad w K) 0 a_plan "plan") (mk_Shape_3 : At P w K mg base fun X => MakeOk X (cad w K) 17 "Shape" "Shape" k_Shape_3) (c_is_row : At P w K mg base fun X => Call1 X (cad w K) 15 "is_row" 3 f_is_row []) (ra_InvalidRow : At P w K mg base fun X => RaiseOk X (cad w K) 2 "InvalidRow" "InvalidRow" 1 fl_InvalidRow) (hr : Room 26 (A.deeper (envOfC "Shape.with_rows" (defScope (sub 17 13)) s.heap.objs.size f cdv))) :
    VSs (cxOf (L2.CX P w) P w K mg base N_with_rows "Shape.with_rows" (defScope (sub 17 13)) f cdv A outer s Hp0 E) (cad w K) (defBody (sub 17 13)) (m_with_rows) := by
  have S : Sit (cxOf (L2.CX P w) P w K mg base N_with_rows "Shape.with_rows" (defScope (sub 17 13)) f cdv A outer s Hp0 E) 26 := ⟨sc_with_rows.nd, hr, rfl⟩
  have U4 := u64 S; have U5 := u65 S
  exact (vss_cons (vs_for (passes_of rfl) S.calm (vi_enum rfl H.enumerate (va_cons (ve_var (i := 1) rfl (vis_of rfl) (by decide) (by decide)) va_nil rfl) rfl) (vg_tp S.calm (vgs_cons (vg_nm (i := 2) S.nd rfl (loc_of rfl) (by first | exact .inl rfl | exact .inr rfl)) (vgs_cons (vg_nm (i := 3) S.nd rfl (loc_of rfl) (by first | exact .inl rfl | exact .inr rfl)) vgs_nil rfl) rfl) rfl rfl) (vss_cons (vs_if (vt_not (vt_tru (ve_call (c_is_row _ rfl rfl rfl rfl rfl) (S.hr.mono (by first | decide | exact Nat.le_refl _)) rfl (va_cons (ve_attr (at_plan _ rfl rfl rfl rfl rfl) (S.hr.mono (by first | decide | exact Nat.le_refl _)) (ve_var (i := 0) rfl (vis_of rfl) (by decide) (by decide)) rfl) (va_cons (ve_attr (at_many _ rfl rfl rfl rfl rfl) (S.hr.mono (by first | decide | exact Nat.le_refl _)) (ve_var (i := 0) rfl (vis_of rfl) (by decide) (by decide)) rfl) (va_cons (ve_var (i := 3) rfl (vis_of rfl) (by decide) (by decide)) va_nil rfl) rfl) rfl) (by decide) rfl rfl) (fun _ => rfl))) (vss_cons (vs_raise S.calm (ra_InvalidRow _ rfl rfl rfl rfl rfl) (by decide) (S.hr.mono (by first | decide | exact Nat.le_refl _)) rfl (va_cons (ve_var (i := 2) rfl (vis_of rfl) (by decide) (by decide)) va_nil rfl) (.inr ⟨_, _, rfl, rfl, rfl⟩) (by decide))
      vss_nil) vss_nil)
      vss_nil) (fun _ => rfl))
      (vss_cons (vs_ret (ve_make (i := k_Shape_3) (mk_Shape_3 _ rfl rfl rfl rfl rfl) (S.hr.mono (by first | decide | exact Nat.le_refl _)) rfl (va_cons (ve_attr (at_plan _ rfl rfl rfl rfl rfl) (S.hr.mono (by first | decide | exact Nat.le_refl _)) (ve_var (i := 0) rfl (vis_of rfl) (by decide) (by decide)) rfl) (va_cons (ve_attr (at_many _ rfl rfl rfl rfl rfl) (S.hr.mono (by first | decide | exact Nat.le_refl _)) (ve_var (i := 0) rfl (vis_of rfl) (by decide) (by decide)) rfl) (va_cons (ve_op2 (op2_of ov_add) (ve_callTy (cv_listA S.calm rfl) rfl H.list (by decide +kernel) (va_cons (ve_attr (at_row_list _ rfl rfl rfl rfl rfl) (S.hr.mono (by first | decide | exact Nat.le_refl _)) (ve_var (i := 0) rfl (vis_of rfl) (by decide) (by decide)) rfl) va_nil rfl) (by decide) (by decide) rfl rfl) (ve_callTy (cv_listA S.calm rfl) rfl H.list (by decide +kernel) (va_cons (ve_var (i := 1) rfl (vis_of rfl) (by decide) (by decide)) va_nil rfl) (by decide) (by decide) rfl rfl)) va_nil rfl) rfl) rfl) (.inr ⟨_, _, rfl, rfl, rfl⟩) (by decide)))
      vss_nil))
noncomputable def i_with_rows : MtI := ⟨2, [], f_with_rows, []⟩
noncomputable def o_with_rows : List (Str × MtI) := [("Shape", i_with_rows)]
abbrev N__law_feed : List Str := ["_law_script", "_law_cells", "_law_mark", "_law_cell"]
noncomputable def m__law_feed : MS := mSeq (mSet 1 (mLc [3] (.nm 3) (mWAny (mSlice (mVar 0) (mNoP) (mPart (mC (.int 63))))) (mYes) (mCallB intD (mCons (mVar 3) (mNil))))) (mSeq (mSet 2 (mOp2 (opOut addD) (mC (.int 5751)) (mOp2 (opOut mulA) (mC (.int 83)) (mCallB lenA (mCons (mVar 1) (mNil)))))) (mSeq (mFor (.nm 3) (mWAny (mVar 1)) (mSeq (mSet 2 (mOp2 (opOut modD) (mCallB intD (mCons (mOp2 (opOut addD) (mOp2 (opOut mulA) (mVar 2) (mC (.int 7919))) (mVar 3)) (mNil))) (mC (.int 2147483629)))) (mSkip))) (mSeq (mRet (mLst (mCons (mVar 1) (mCons (mC (.int 0)) (mCons (mC (.int 0)) (mCons (mVar 2) (mNil))))))) (mSkip))))
noncomputable def f__law_feed : Fn := runF N__law_feed.length (m__law_feed)
theorem sc__law_feed : FnScope N__law_feed ["_law_script"] (defScope (top 19)) := ⟨rfl, rfl, rfl, by decide +kernel, rfl, by decide +kernel, by decide +kernel⟩
theorem b__law_feed {P : Program} {w : World} {K : PySem.W.Frag} {mg : Str → Option Value} {base : Heap} {f : Addr} {cdv : Value} {A : Around} {outer : List Env} {s : Shared} {Hp0 : Hp} {E : XK} (H : Fx w K mg) (hr : Room 28 (A.deeper (envOfC "_law_feed" (defScope (top 19)) s.heap.objs.size f cdv))) :
    VSs (cxOf (L2.CX P w) P w K mg base N__law_feed "_law_feed" (defScope (top 19)) f cdv A outer s Hp0 E) (cad w K) (defBody (top 19)) (m__law_feed) := by
  have S : Sit (cxOf (L2.CX P w) P w K mg base N__law_feed "_law_feed" (defScope (top 19)) f cdv A outer s Hp0 E) 28 := ⟨sc__law_feed.nd, hr, rfl⟩
  have U4 := u64 S; have U5 := u65 S
  exact (vss_cons (vs_setLc (i := 1) (hy := rfl) (hyl := rfl) (hsw := sw_true rfl rfl rfl (by decide +kernel)) (hc := S.calm) (hN := S.nd) (own := [("_law_cell", 3)]) (hi := (vi_any (ve_slice (ve_var (i := 0) rfl (vis_of rfl) (by decide) (by decide)) vp_none (vp_some ve_int)))) (ok := blkOk_by (N := N__law_feed) (sc := defScope (top 19)) (by decide +kernel)) (hix := by decide) (hg := fun _ _ _ _ _ => (vg_nm (i := 3) S.nd rfl (loc_of rfl) (by first | exact .inl rfl | exact .inr rfl))) (ht := fun _ _ _ _ _ => vts_nil) (he := fun _ _ _ _ _ => (ve_callTy cv_int rfl H.int (by decide +kernel) (va_cons (ve_var (i := 3) rfl (vis_of rfl) (by decide) (by decide)) va_nil rfl) (by decide) (by decide) rfl rfl)) (hs := fun _ => rfl))
      (vss_cons (vs_set (i := 2) S.nd rfl (loc_of rfl) (ve_op2 (op2_of ov_add) ve_int (ve_op2 (op2_of ov_mulA) ve_int (ve_callB (cv_lenA rfl) rfl H.len (by decide +kernel) (va_cons (ve_var (i := 1) rfl (vis_of rfl) (by decide) (by decide)) va_nil rfl) (by decide) (by decide) rfl rfl))) rfl (by first | exact .inl rfl | exact .inr rfl))
      (vss_cons (vs_for (passes_of rfl) S.calm (vi_any (ve_var (i := 1) rfl (vis_of rfl) (by decide) (by decide))) (vg_nm (i := 3) S.nd rfl (loc_of rfl) (by first | exact .inl rfl | exact .inr rfl)) (vss_cons (vs_set (i := 2) S.nd rfl (loc_of rfl) (ve_op2 (op2_of ov_mod) (ve_callTy cv_int rfl H.int (by decide +kernel) (va_cons (ve_op2 (op2_of ov_add) (ve_op2 (op2_of ov_mulA) (ve_var (i := 2) rfl (vis_of rfl) (by decide) (by decide)) ve_int) (ve_var (i := 3) rfl (vis_of rfl) (by decide) (by decide))) va_nil rfl) (by decide) (by decide) rfl rfl) ve_int) rfl (by first | exact .inl rfl | exact .inr rfl))
      vss_nil) (fun _ => rfl))
      (vss_cons (vs_ret (ve_lst (va_cons (ve_var (i := 1) rfl (vis_of rfl) (by decide) (by decide)) (va_cons ve_int (va_cons ve_int (va_cons (ve_var (i := 2) rfl (vis_of rfl) (by decide) (by decide)) va_nil rfl) rfl) rfl) rfl)))
      vss_nil))))
abbrev N__law_draw : List Str := ["_law_feed_here", "_law_many", "_law_drawn", "_law_cell", "_law_first", "_law_second"]
noncomputable def m__law_draw : MS := mSeq (mIfS (mTst (mOp2 (opOut ltD) (mOp idxA (mVar 0) (mC (.int 2))) (mC (.int 2)))) (mSeq (mSetSubA (mVar 0) (mC (.int 1)) (mOp2 (opOut addD) (mOp idxA (mVar 0) (mC (.int 1))) (mC (.int 1)))) (mSeq (mSet 3 (mOp2 (opOut addD) (mOp idxA (mVar 0) (mC (.int 3))) (mOp2 (opOut mulA) (mOp idxA (mVar 0) (mC (.int 1))) (mC (.int 5987))))) (mSeq (mIfS (mTst (mOp2 (opOut leD) (mOp idxA (mVar 0) (mC (.int 1))) (mCallB lenA (mCons (mOp idxA (mVar 0) (mC (.int 0))) (mNil))))) (mSeq (mSet 3 (mOp idxA (mOp idxA (mVar 0) (mC (.int 0))) (mOp2 (opOut subD) (mOp idxA (mVar 0) (mC (.int 1))) (mC (.int 1))))) (mSkip)) (mSkip)) (mSeq (mIfS (mOrT (mTst (mOp2 (opOut gtD) (mOp idxA (mVar 0) (mC (.int 1))) (mCallB lenA (mCons (mOp idxA (mVar 0) (mC (.int 0))) (mNil))))) (mTst (mOp2 (opOut ltD) (mVar 3) (mOp2 (opOut powD) (mC (.int 10)) (mC (.int 18)))))) (mSeq (mSet 4 (mOp2 (opOut modD) (mCallB intD (mCons (mOp2 (opOut addD) (mOp2 (opOut addD) (mOp2 (opOut mulA) (mVar 3) (mC (.int 48271))) (mOp2 (opOut mulA) (mOp idxA (mVar 0) (mC (.int 1))) (mC (.int 40692)))) (mOp idxA (mVar 0) (mC (.int 3)))) (mNil))) (mC (.int 2147483647)))) (mSeq (mSet 5 (mOp2 (opOut modD) (mCallB intD (mCons (mOp2 (opOut addD) (mOp2 (opOut mulA) (mVar 4) (mVar 4)) (mOp2 (opOut mulA) (mOp idxA (mVar 0) (mC (.int 1))) (mC (.int 16807)))) (mNil))) (mC (.int 998244353)))) (mSeq (mRet (mOp2 (opOut modD) (mOp2 (opOut fdivD) (mOp2 (opOut modD) (mCallB intD (mCons (mOp2 (opOut addD) (mOp2 (opOut mulA) (mVar 5) (mC (.int 69621))) (mVar 4)) (mNil))) (mC (.int 2147483629))) (mC (.int 11))) (mVar 1))) (mSkip)))) (mSkip)) (mSeq (mSetSubA (mVar 0) (mC (.int 2)) (mVar 3)) (mSkip)))))) (mSkip)) (mSeq (mSet 2 (mOp2 (opOut modD) (mCallB intD (mCons (mOp idxA (mVar 0) (mC (.int 2))) (mNil))) (mVar 1))) (mSeq (mSetSubA (mVar 0) (mC (.int 2)) (mOp2 (opOut fdivD) (mCallB intD (mCons (mOp idxA (mVar 0) (mC (.int 2))) (mNil))) (mVar 1))) (mSeq (mRet (mVar 2)) (mSkip))))
noncomputable def f__law_draw : Fn := runF N__law_draw.length (m__law_draw)
theorem sc__law_draw : FnScope N__law_draw ["_law_feed_here", "_law_many"] (defScope (top 20)) := ⟨rfl, rfl, rfl, by decide +kernel, rfl, by decide +kernel, by decide +kernel⟩
theorem b__law_draw {P : Program} {w : World} {K : PySem.W.Frag} {mg : Str → Option Value} {base : Heap} {f : Addr} {cdv : Value} {A : Around} {outer : List Env} {s : Shared} {Hp0 : Hp} {E : XK} (H : Fx w K mg) (hr : Room 30 (A.deeper (envOfC "_law_draw" (defScope (top 20)) s.heap.objs.size f cdv))) :
    VSs (cxOf (L2.CX P w) P w K mg base N__law_draw "_law_draw" (defScope (top 20)) f cdv A outer s Hp0 E) (cad w K) (defBody (top 20)) (m__law_draw) := by
  have S : Sit (cxOf (L2.CX P w) P w K mg base N__law_draw "_law_draw" (defScope (top 20)) f cdv A outer s Hp0 E) 30 := ⟨sc__law_draw.nd, hr, rfl⟩
  have U4 := u64 S; have U5 := u65 S
  exact (vss_cons (vs_if (vt_cmp2 (op2_of ov_lt) (ve_sub (ov_ixA U5 rfl (fun _ _ => rfl)) (ve_var (i := 0) rfl (vis_of rfl) (by decide) (by decide)) ve_int) ve_int rfl) (vss_cons (vs_setSubA U5 rfl (ve_op2 (op2_of ov_add) (ve_sub (ov_ixA U5 rfl (fun _ _ => rfl)) (ve_var (i := 0) rfl (vis_of rfl) (by decide) (by decide)) ve_int) ve_int) (ve_var (i := 0) rfl (vis_of rfl) (by decide) (by decide)) ve_int (fun _ => rfl) rfl rfl rfl)
      (vss_cons (vs_set (i := 3) S.nd rfl (loc_of rfl) (ve_op2 (op2_of ov_add) (ve_sub (ov_ixA U5 rfl (fun _ _ => rfl)) (ve_var (i := 0) rfl (vis_of rfl) (by decide) (by decide)) ve_int) (ve_op2 (op2_of ov_mulA) (ve_sub (ov_ixA U5 rfl (fun _ _ => rfl)) (ve_var (i := 0) rfl (vis_of rfl) (by decide) (by decide)) ve_int) ve_int)) rfl (by first | exact .inl rfl | exact .inr rfl))
      (vss_cons (vs_if (vt_cmp2 (op2_of ov_le) (ve_sub (ov_ixA U5 rfl (fun _ _ => rfl)) (ve_var (i := 0) rfl (vis_of rfl) (by decide) (by decide)) ve_int) (ve_callB (cv_lenA rfl) rfl H.len (by decide +kernel) (va_cons (ve_sub (ov_ixA U5 rfl (fun _ _ => rfl)) (ve_var (i := 0) rfl (vis_of rfl) (by decide) (by decide)) ve_int) va_nil rfl) (by decide) (by decide) rfl rfl) rfl) (vss_cons (vs_set (i := 3) S.nd rfl (loc_of rfl) (ve_sub (ov_ixA U5 rfl (fun _ _ => rfl)) (ve_sub (ov_ixA U5 rfl (fun _ _ => rfl)) (ve_var (i := 0) rfl (vis_of rfl) (by decide) (by decide)) ve_int) (ve_op2 (op2_of ov_sub) (ve_sub (ov_ixA U5 rfl (fun _ _ => rfl)) (ve_var (i := 0) rfl (vis_of rfl) (by decide) (by decide)) ve_int) ve_int)) rfl (by first | exact .inl rfl | exact .inr rfl))
      vss_nil) vss_nil)
      (vss_cons (vs_if (vt_w (vw_or (vt_cmp2 (op2_of ov_gt) (ve_sub (ov_ixA U5 rfl (fun _ _ => rfl)) (ve_var (i := 0) rfl (vis_of rfl) (by decide) (by decide)) ve_int) (ve_callB (cv_lenA rfl) rfl H.len (by decide +kernel) (va_cons (ve_sub (ov_ixA U5 rfl (fun _ _ => rfl)) (ve_var (i := 0) rfl (vis_of rfl) (by decide) (by decide)) ve_int) va_nil rfl) (by decide) (by decide) rfl rfl) rfl) (vw_or1 (vt_cmp2 (op2_of ov_lt) (ve_var (i := 3) rfl (vis_of rfl) (by decide) (by decide)) (ve_op2 (op2_of ov_pow) ve_int ve_int) rfl)))) (vss_cons (vs_set (i := 4) S.nd rfl (loc_of rfl) (ve_op2 (op2_of ov_mod) (ve_callTy cv_int rfl H.int (by decide +kernel) (va_cons (ve_op2 (op2_of ov_add) (ve_op2 (op2_of ov_add) (ve_op2 (op2_of ov_mulA) (ve_var (i := 3) rfl (vis_of rfl) (by decide) (by decide)) ve_int) (ve_op2 (op2_of ov_mulA) (ve_sub (ov_ixA U5 rfl (fun _ _ => rfl)) (ve_var (i := 0) rfl (vis_of rfl) (by decide) (by decide)) ve_int) ve_int)) (ve_sub (ov_ixA U5 rfl (fun _ _ => rfl)) (ve_var (i := 0) rfl (vis_of rfl) (by decide) (by decide)) ve_int)) va_nil rfl) (by decide) (by decide) rfl rfl) ve_int) rfl (by first | exact .inl rfl | exact .inr rfl))
      (vss_cons (vs_set (i := 5) S.nd rfl (loc_of rfl) (ve_op2 (op2_of ov_mod) (ve_callTy cv_int rfl H.int (by decide +kernel) (va_cons (ve_op2 (op2_of ov_add) (ve_op2 (op2_of ov_mulA) (ve_var (i := 4) rfl (vis_of rfl) (by decide) (by decide)) (ve_var (i := 4) rfl (vis_of rfl) (by decide) (by decide))) (ve_op2 (op2_of ov_mulA) (ve_sub (ov_ixA U5 rfl (fun _ _ => rfl)) (ve_var (i := 0) rfl (vis_of rfl) (by decide) (by decide)) ve_int) ve_int)) va_nil rfl) (by decide) (by decide) rfl rfl) ve_int) rfl (by first | exact .inl rfl | exact .inr rfl))
      (vss_cons (vs_ret (ve_op2 (op2_of ov_mod) (ve_op2 (op2_of ov_fdiv) (ve_op2 (op2_of ov_mod) (ve_callTy cv_int rfl H.int (by decide +kernel) (va_cons (ve_op2 (op2_of ov_add) (ve_op2 (op2_of ov_mulA) (ve_var (i := 5) rfl (vis_of rfl) (by decide) (by decide)) ve_int) (ve_var (i := 4) rfl (vis_of rfl) (by decide) (by decide))) va_nil rfl) (by decide) (by decide) rfl rfl) ve_int) ve_int) (ve_var (i := 1) rfl (vis_of rfl) (by decide) (by decide))))
      vss_nil))) vss_nil)
      (vss_cons (vs_setSubA U5 rfl (ve_var (i := 3) rfl (vis_of rfl) (by decide) (by decide)) (ve_var (i := 0) rfl (vis_of rfl) (by decide) (by decide)) ve_int (fun _ => rfl) rfl rfl rfl)
      vss_nil))))) vss_nil)
      (vss_cons (vs_set (i := 2) S.nd rfl (loc_of rfl) (ve_op2 (op2_of ov_mod) (ve_callTy cv_int rfl H.int (by decide +kernel) (va_cons (ve_sub (ov_ixA U5 rfl (fun _ _ => rfl)) (ve_var (i := 0) rfl (vis_of rfl) (by decide) (by decide)) ve_int) va_nil rfl) (by decide) (by decide) rfl rfl) (ve_var (i := 1) rfl (vis_of rfl) (by decide) (by decide))) rfl (by first | exact .inl rfl | exact .inr rfl))
      (vss_cons (vs_setSubA U5 rfl (ve_op2 (op2_of ov_fdiv) (ve_callTy cv_int rfl H.int (by decide +kernel) (va_cons (ve_sub (ov_ixA U5 rfl (fun _ _ => rfl)) (ve_var (i := 0) rfl (vis_of rfl) (by decide) (by decide)) ve_int) va_nil rfl) (by decide) (by decide) rfl rfl) (ve_var (i := 1) rfl (vis_of rfl) (by decide) (by decide))) (ve_var (i := 0) rfl (vis_of rfl) (by decide) (by decide)) ve_int (fun _ => rfl) rfl rfl rfl)
      (vss_cons (vs_ret (ve_var (i := 2) rfl (vis_of rfl) (by decide) (by decide)))
      vss_nil))))
abbrev N__law_any : List Str := ["_law_feed_here", "_law_choices"]
noncomputable def m__law_any : MS := mSeq (mRet (mOp idxA (mVar 1) (mCall 2 [true] f__law_draw [] (mCons (mVar 0) (mCons (mCallB lenA (mCons (mVar 1) (mNil))) (mNil)))))) (mSkip)
noncomputable def f__law_any : Fn := runF N__law_any.length (m__law_any)
theorem sc__law_any : FnScope N__law_any ["_law_feed_here", "_law_choices"] (defScope (top 21)) := ⟨rfl, rfl, rfl, by decide +kernel, rfl, by decide +kernel, by decide +kernel⟩
theorem b__law_any {P : Program} {w : World} {K : PySem.W.Frag} {mg : Str → Option Value} {base : Heap} {f : Addr} {cdv : Value} {A : Around} {outer : List Env} {s : Shared} {Hp0 : Hp} {E : XK} (H : Fx w K mg) (c__law_draw : At P w K mg base fun X => Call1 X (cad w K) 31 "_law_draw" 2 f__law_draw []) (hr : Room 32 (A.deeper (envOfC "_law_any" (defScope (top 21)) s.heap.objs.size f cdv))) :
    VSs (cxOf (L2.CX P w) P w K mg base N__law_any "_law_any" (defScope (top 21)) f cdv A outer s Hp0 E) (cad w K) (defBody (top 21)) (m__law_any) := by
  have S : Sit (cxOf (L2.CX P w) P w K mg base N__law_any "_law_any" (defScope (top 21)) f cdv A outer s Hp0 E) 32 := ⟨sc__law_any.nd, hr, rfl⟩
  have U4 := u64 S; have U5 := u65 S
  exact (vss_cons (vs_ret (ve_sub (ov_ixA U5 rfl (fun _ _ => rfl)) (ve_var (i := 1) rfl (vis_of rfl) (by decide) (by decide)) (ve_call (c__law_draw _ rfl rfl rfl rfl rfl) (S.hr.mono (by first | decide | exact Nat.le_refl _)) rfl (va_cons (ve_var (i := 0) rfl (vis_of rfl) (by decide) (by decide)) (va_cons (ve_callB (cv_lenA rfl) rfl H.len (by decide +kernel) (va_cons (ve_var (i := 1) rfl (vis_of rfl) (by decide) (by decide)) va_nil rfl) (by decide) (by decide) rfl rfl) va_nil rfl) rfl) (by decide) rfl rfl)))
      vss_nil)
abbrev N__law_pairs : List Str := ["_law_feed_here", "_law_top", "_law_words", "_law_found", "_law_turn"]
noncomputable def m__law_pairs : MS := mSeq (mSet 2 (mLst (mCons (mC (.str "E")) (mCons (mC (.str "F")) (mCons (mC (.str "AB")) (mCons (mC (.str "BA")) (mCons (mC (.str "ZZZ")) (mCons (mC (.str "Q")) (mCons (mC (.str "EE")) (mCons (mC (.str "XYZ")) (mNil))))))))))) (mSeq (mSet 3 (mLst (mNil))) (mSeq (mFor (.nm 4) (mWRng1 (mCons (mOp2 (opOut addD) (mC (.int 1)) (mCall 2 [true] f__law_draw [] (mCons (mVar 0) (mCons (mVar 1) (mNil))))) (mNil))) (mSeq (mExpr (mMut gAppend (mVar 3) (mCons (mTup (mCons (mMut gPopAt (mVar 2) (mCons (mCall 2 [true] f__law_draw [] (mCons (mVar 0) (mCons (mCallB lenA (mCons (mVar 2) (mNil))) (mNil)))) (mNil))) (mCons (mOp2 (opOut addD) (mC (.int 1)) (mCall 2 [true] f__law_any [] (mCons (mVar 0) (mCons (mLst (mCons (mC (.int 0)) (mCons (mC (.int 1)) (mCons (mC (.int 1)) (mCons (mC (.int 2)) (mNil)))))) (mNil))))) (mNil)))) (mNil)))) (mSkip))) (mSeq (mRet (mVar 3)) (mSkip))))
noncomputable def f__law_pairs : Fn := runF N__law_pairs.length (m__law_pairs)
theorem sc__law_pairs : FnScope N__law_pairs ["_law_feed_here", "_law_top"] (defScope (top 22)) := ⟨rfl, rfl, rfl, by decide +kernel, rfl, by decide +kernel, by decide +kernel⟩
theorem b__law_pairs {P : Program} {w : World} {K : PySem.W.Frag} {mg : Str → Option Value} {base : Heap} {f : Addr} {cdv : Value} {A : Around} {outer : List Env} {s : Shared} {Hp0 : Hp} {E : XK} (H : Fx w K mg) (c__law_draw : At P w K mg base fun X => Call1 X (cad w K) 31 "_law_draw" 2 f__law_draw []) (c__law_any : At P w K mg base fun X => Call1 X (cad w K) 33 "_law_any" 2 f__law_any []) (hr : Room 34 (A.deeper (envOfC "_law_pairs" (defScope (top 22)) s.heap.objs.size f cdv))) :
    VSs (cxOf (L2.CX P w) P w K mg base N__law_pairs "_law_pairs" (defScope (top 22)) f cdv A outer s Hp0 E) (cad w K) (defBody (top 22)) (m__law_pairs) := by
  have S : Sit (cxOf (L2.CX P w) P w K mg base N__law_pairs "_law_pairs" (defScope (top 22)) f cdv A outer s Hp0 E) 34 := ⟨sc__law_pairs.nd, hr, rfl⟩
  have U4 := u64 S; have U5 := u65 S
  exact (vss_cons (vs_set (i := 2) S.nd rfl (loc_of rfl) (ve_lst (va_cons ve_str (va_cons ve_str (va_cons ve_str (va_cons ve_str (va_cons ve_str (va_cons ve_str (va_cons ve_str (va_cons ve_str va_nil rfl) rfl) rfl) rfl) rfl) rfl) rfl) rfl)) rfl (by first | exact .inl rfl | exact .inr rfl))
      (vss_cons (vs_set (i := 3) S.nd rfl (loc_of rfl) (ve_lst va_nil) rfl (by first | exact .inl rfl | exact .inr rfl))
      (vss_cons (vs_for (passes_of rfl) S.calm (vi_rng1 rfl H.range (va_cons (ve_op2 (op2_of ov_add) ve_int (ve_call (c__law_draw _ rfl rfl rfl rfl rfl) (S.hr.mono (by first | decide | exact Nat.le_refl _)) rfl (va_cons (ve_var (i := 0) rfl (vis_of rfl) (by decide) (by decide)) (va_cons (ve_var (i := 1) rfl (vis_of rfl) (by decide) (by decide)) va_nil rfl) rfl) (by decide) rfl rfl)) va_nil rfl) rfl) (vg_nm (i := 4) S.nd rfl (loc_of rfl) (by first | exact .inl rfl | exact .inr rfl)) (vss_cons (vs_expr (ve_mut PySem.F.plainAttrs_list PySem.F.slot_list_append PySem.F.type_list_append mt_append mu_append (ve_var (i := 3) rfl (vis_of rfl) (by decide) (by decide)) (va_cons (ve_tup (va_cons (ve_mut PySem.F.plainAttrs_list PySem.F.slot_list_pop PySem.F.type_list_pop mt_popAt mu_popAt (ve_var (i := 2) rfl (vis_of rfl) (by decide) (by decide)) (va_cons (ve_call (c__law_draw _ rfl rfl rfl rfl rfl) (S.hr.mono (by first | decide | exact Nat.le_refl _)) rfl (va_cons (ve_var (i := 0) rfl (vis_of rfl) (by decide) (by decide)) (va_cons (ve_callB (cv_lenA rfl) rfl H.len (by decide +kernel) (va_cons (ve_var (i := 2) rfl (vis_of rfl) (by decide) (by decide)) va_nil rfl) (by decide) (by decide) rfl rfl) va_nil rfl) rfl) (by decide) rfl rfl) va_nil rfl) rfl rfl rfl rfl rfl) (va_cons (ve_op2 (op2_of ov_add) ve_int (ve_call (c__law_any _ rfl rfl rfl rfl rfl) (S.hr.mono (by first | decide | exact Nat.le_refl _)) rfl (va_cons (ve_var (i := 0) rfl (vis_of rfl) (by decide) (by decide)) (va_cons (ve_lst (va_cons ve_int (va_cons ve_int (va_cons ve_int (va_cons ve_int va_nil rfl) rfl) rfl) rfl)) va_nil rfl) rfl) (by decide) rfl rfl)) va_nil rfl) rfl)) va_nil rfl) rfl rfl rfl rfl rfl) rfl)
      vss_nil) (fun _ => rfl))
      (vss_cons (vs_ret (ve_var (i := 3) rfl (vis_of rfl) (by decide) (by decide)))
      vss_nil))))
abbrev N__law_rows : List Str := ["_law_feed_here", "_law_pairs_here", "_law_nodes", "_law_top", "_law_found", "_law_turn", "_law_row", "_law_name", "_law_columns", "_law_k"]
noncomputable def m__law_rows : MS := mSeq (mSet 4 (mLst (mNil))) (mSeq (mFor (.nm 5) (mWRng1 (mCons (mIf (mTst (mOp2 (opOut gtD) (mVar 2) (mC (.int 0)))) (mCall 2 [true] f__law_draw [] (mCons (mVar 0) (mCons (mOp2 (opOut addD) (mVar 3) (mC (.int 1))) (mNil)))) (mC (.int 0))) (mNil))) (mSeq (mAsgT (.tp [.nm 7, .nm 8]) (mCall 2 [true] f__law_any [] (mCons (mVar 0) (mCons (mVar 1) (mNil))))) (mSeq (mSet 6 (mTup (mCons (mVar 7) (mCons (mCallB tupleD (mCons (mLc [9] (.nm 9) (mWRng1 (mCons (mVar 8) (mNil))) (mYes) (mCall 2 [true] f__law_draw [] (mCons (mVar 0) (mCons (mVar 2) (mNil))))) (mNil))) (mNil))))) (mSeq (mIfS (mTst (mOp2 (opOut notInA) (mVar 6) (mVar 4))) (mSeq (mExpr (mMut gAppend (mVar 4) (mCons (mVar 6) (mNil)))) (mSkip)) (mSkip)) (mSkip))))) (mSeq (mRet (mCallB tupleD (mCons (mCallB sortedD (mCons (mVar 4) (mNil))) (mNil)))) (mSkip)))
noncomputable def f__law_rows : Fn := runF N__law_rows.length (m__law_rows)
theorem sc__law_rows : FnScope N__law_rows ["_law_feed_here", "_law_pairs_here", "_law_nodes", "_law_top"] (defScope (top 23)) := ⟨rfl, rfl, rfl, by decide +kernel, rfl, by decide +kernel, by decide +kernel⟩
theorem b__law_rows {P : Program} {w : World} {K : PySem.W.Frag} {mg : Str → Option Value} {base : Heap} {f : Addr} {cdv : Value} {A : Around} {outer : List Env} {s : Shared} {Hp0 : Hp} {E : XK} (H : Fx w K mg) (c__law_draw : At P w K mg base fun X => Call1 X (cad w K) 31 "_law_draw" 2 f__law_draw []) (c__law_any : At P w K mg base fun X => Call1 X (cad w K) 33 "_law_any" 2 f__law_any []) (hr : Room 36 (A.deeper (envOfC "_law_rows" (defScope (top 23)) s.heap.objs.size f cdv))) :
    VSs (cxOf (L2.CX P w) P w K mg base N__law_rows "_law_rows" (defScope (top 23)) f cdv A outer s Hp0 E) (cad w K) (defBody (top 23)) (m__law_rows) := by
  have S : Sit (cxOf (L2.CX P w) P w K mg base N__law_rows "_law_rows" (defScope (top 23)) f cdv A outer s Hp0 E) 36 := ⟨sc__law_rows.nd, hr, rfl⟩
  have U4 := u64 S; have U5 := u65 S
  exact (vss_cons (vs_set (i := 4) S.nd rfl (loc_of rfl) (ve_lst va_nil) rfl (by first | exact .inl rfl | exact .inr rfl))
      (vss_cons (vs_for (passes_of rfl) S.calm (vi_rng1 rfl H.range (va_cons (ve_if (vt_cmp2 (op2_of ov_gt) (ve_var (i := 2) rfl (vis_of rfl) (by decide) (by decide)) ve_int rfl) (ve_call (c__law_draw _ rfl rfl rfl rfl rfl) (S.hr.mono (by first | decide | exact Nat.le_refl _)) rfl (va_cons (ve_var (i := 0) rfl (vis_of rfl) (by decide) (by decide)) (va_cons (ve_op2 (op2_of ov_add) (ve_var (i := 3) rfl (vis_of rfl) (by decide) (by decide)) ve_int) va_nil rfl) rfl) (by decide) rfl rfl) ve_int) va_nil rfl) rfl) (vg_nm (i := 5) S.nd rfl (loc_of rfl) (by first | exact .inl rfl | exact .inr rfl)) (vss_cons (vs_asgT (ve_call (c__law_any _ rfl rfl rfl rfl rfl) (S.hr.mono (by first | decide | exact Nat.le_refl _)) rfl (va_cons (ve_var (i := 0) rfl (vis_of rfl) (by decide) (by decide)) (va_cons (ve_var (i := 1) rfl (vis_of rfl) (by decide) (by decide)) va_nil rfl) rfl) (by decide) rfl rfl) (vg_tp S.calm (vgs_cons (vg_nm (i := 7) S.nd rfl (loc_of rfl) (by first | exact .inl rfl | exact .inr rfl)) (vgs_cons (vg_nm (i := 8) S.nd rfl (loc_of rfl) (by first | exact .inl rfl | exact .inr rfl)) vgs_nil rfl) rfl) rfl rfl) rfl rfl rfl)
      (vss_cons (vs_set (i := 6) S.nd rfl (loc_of rfl) (ve_tup (va_cons (ve_var (i := 7) rfl (vis_of rfl) (by decide) (by decide)) (va_cons (ve_callTy cv_tuple rfl H.tuple (by decide +kernel) (va_cons (ve_lc (own := [("_law_k", 9)]) S.calm S.nd (vi_rng1 rfl H.range (va_cons (ve_var (i := 8) rfl (vis_of rfl) (by decide) (by decide)) va_nil rfl) rfl) (blkOk_by (N := N__law_rows) (sc := defScope (top 23)) (by decide +kernel)) (by decide) (fun _ _ _ _ _ => (vg_nm (i := 9) S.nd rfl (loc_of rfl) (by first | exact .inl rfl | exact .inr rfl))) (fun _ _ _ _ _ => vts_nil) (fun _ _ _ _ _ => (ve_call (c__law_draw _ rfl rfl rfl rfl rfl) (S.hr.mono (by first | decide | exact Nat.le_refl _)) rfl (va_cons (ve_var (i := 0) rfl (vis_of rfl) (by decide) (by decide)) (va_cons (ve_var (i := 2) rfl (vis_of rfl) (by decide) (by decide)) va_nil rfl) rfl) (by decide) rfl rfl)) (fun _ => rfl)) va_nil rfl) (by decide) (by decide) rfl rfl) va_nil rfl) rfl)) rfl (by first | exact .inl rfl | exact .inr rfl))
      (vss_cons (vs_if (vt_cmp2 (op2_of (ov_notInA U5 rfl)) (ve_var (i := 6) rfl (vis_of rfl) (by decide) (by decide)) (ve_var (i := 4) rfl (vis_of rfl) (by decide) (by decide)) rfl) (vss_cons (vs_expr (ve_mut PySem.F.plainAttrs_list PySem.F.slot_list_append PySem.F.type_list_append mt_append mu_append (ve_var (i := 4) rfl (vis_of rfl) (by decide) (by decide)) (va_cons (ve_var (i := 6) rfl (vis_of rfl) (by decide) (by decide)) va_nil rfl) rfl rfl rfl rfl rfl) rfl)
      vss_nil) vss_nil)
      vss_nil))) (fun _ => rfl))
      (vss_cons (vs_ret (ve_callTy cv_tuple rfl H.tuple (by decide +kernel) (va_cons (ve_callB (cv_sorted U5) rfl H.sorted (by decide +kernel) (va_cons (ve_var (i := 4) rfl (vis_of rfl) (by decide) (by decide)) va_nil rfl) (by decide) (by decide) rfl rfl) va_nil rfl) (by decide) (by decide) rfl rfl))
      vss_nil)))
abbrev N__law_like : List Str := ["_law_found", "_law_due", "_law_at"]
noncomputable def m__law_like (rec : Fn) : MS := mSeq (mIfS (mTru (mIsi isTab [.inl "list", .inl "tuple"] (mVar 1))) (mSeq (mIfS (mOrT (mTst (mOp2 (opOut neD) (mIsi isTab [.inl "list"] (mVar 0)) (mIsi isTab [.inl "list"] (mVar 1)))) (mTst (mOp2 (opOut neD) (mIsi isTab [.inl "tuple"] (mVar 0)) (mIsi isTab [.inl "tuple"] (mVar 1))))) (mSeq (mRet (mC (.bl false))) (mSkip)) (mSkip)) (mSeq (mRet (mAndV (mOp2 (opOut eqD) (mCallB lenA (mCons (mVar 0) (mNil))) (mCallB lenA (mCons (mVar 1) (mNil)))) (mCallB allD (mCons (mLc [2] (.nm 2) (mWRng1 (mCons (mCallB lenA (mCons (mVar 1) (mNil))) (mNil))) (mYes) (mCall 2 [] rec [] (mCons (mOp idxA (mVar 0) (mVar 2)) (mCons (mOp idxA (mVar 1) (mVar 2)) (mNil))))) (mNil))))) (mSkip))) (mSkip)) (mSeq (mIfS (mOrT (mTru (mIsi isTab [.inl "list", .inl "tuple"] (mVar 0))) (mTst (mOp2 (opOut neD) (mIsi isTab [.inl "bool"] (mVar 0)) (mIsi isTab [.inl "bool"] (mVar 1))))) (mSeq (mRet (mC (.bl false))) (mSkip)) (mSkip)) (mSeq (mRet (mOp2 (opOut eqD) (mVar 0) (mVar 1))) (mSkip)))
noncomputable def f__law_like (rec : Fn) : Fn := runF N__law_like.length (m__law_like rec)
theorem sc__law_like : FnScope N__law_like ["_law_found", "_law_due"] (defScope (top 26)) := ⟨rfl, rfl, rfl, by decide +kernel, rfl, by decide +kernel, by decide +kernel⟩
theorem b__law_like {P : Program} {w : World} {K : PySem.W.Frag} {mg : Str → Option Value} {base : Heap} {f : Addr} {cdv : Value} {A : Around} {outer : List Env} {s : Shared} {Hp0 : Hp} {E : XK} {rec : Fn} {lv : Nat} (H : Fx w K mg) (t_list : At P w K mg base fun X => NmTy X (cad w K) "list" (.inl "list")) (t_tuple : At P w K mg base fun X => NmTy X (cad w K) "tuple" (.inl "tuple")) (t_bool : At P w K mg base fun X => NmTy X (cad w K) "bool" (.inl "bool")) (c__law_like : At P w K mg base fun X => Call1 X (cad w K) lv "_law_like" 2 rec []) (hr : Room lv (A.deeper (envOfC "_law_like" (defScope (top 26)) s.heap.objs.size f cdv))) :
    VSs (cxOf (L2.CX P w) P w K mg base N__law_like "_law_like" (defScope (top 26)) f cdv A outer s Hp0 E) (cad w K) (defBody (top 26)) (m__law_like rec) := by
  have S : Sit (cxOf (L2.CX P w) P w K mg base N__law_like "_law_like" (defScope (top 26)) f cdv A outer s Hp0 E) lv := ⟨sc__law_like.nd, hr, rfl⟩
  have U4 := u64 S; have U5 := u65 S
  exact (vss_cons (vs_if (vt_tru (ve_isi2 H.isTab H.own rfl H.isinstance (ve_var (i := 1) rfl (vis_of rfl) (by decide) (by decide)) rfl (by decide) (t_list _ rfl rfl rfl rfl rfl) rfl (by decide) (t_tuple _ rfl rfl rfl rfl rfl) rfl rfl rfl rfl rfl) (fun _ => rfl)) (vss_cons (vs_if (vt_w (vw_or (vt_cmp2 (op2_of (ov_ne U4)) (ve_isi1 H.isTab H.own rfl H.isinstance (ve_var (i := 0) rfl (vis_of rfl) (by decide) (by decide)) rfl (by decide) (t_list _ rfl rfl rfl rfl rfl) rfl rfl rfl) (ve_isi1 H.isTab H.own rfl H.isinstance (ve_var (i := 1) rfl (vis_of rfl) (by decide) (by decide)) rfl (by decide) (t_list _ rfl rfl rfl rfl rfl) rfl rfl rfl) rfl) (vw_or1 (vt_cmp2 (op2_of (ov_ne U4)) (ve_isi1 H.isTab H.own rfl H.isinstance (ve_var (i := 0) rfl (vis_of rfl) (by decide) (by decide)) rfl (by decide) (t_tuple _ rfl rfl rfl rfl rfl) rfl rfl rfl) (ve_isi1 H.isTab H.own rfl H.isinstance (ve_var (i := 1) rfl (vis_of rfl) (by decide) (by decide)) rfl (by decide) (t_tuple _ rfl rfl rfl rfl rfl) rfl rfl rfl) rfl)))) (vss_cons (vs_ret ve_bl)
      vss_nil) vss_nil)
      (vss_cons (vs_ret (ve_and (ve_cmp2 (op2_of (ov_eq U4)) (ve_callB (cv_lenA rfl) rfl H.len (by decide +kernel) (va_cons (ve_var (i := 0) rfl (vis_of rfl) (by decide) (by decide)) va_nil rfl) (by decide) (by decide) rfl rfl) (ve_callB (cv_lenA rfl) rfl H.len (by decide +kernel) (va_cons (ve_var (i := 1) rfl (vis_of rfl) (by decide) (by decide)) va_nil rfl) (by decide) (by decide) rfl rfl) rfl) (ve_one (ve_callB (cv_all S.calm) rfl H.all (by decide +kernel) (va_cons (ve_lc (own := [("_law_at", 2)]) S.calm S.nd (vi_rng1 rfl H.range (va_cons (ve_callB (cv_lenA rfl) rfl H.len (by decide +kernel) (va_cons (ve_var (i := 1) rfl (vis_of rfl) (by decide) (by decide)) va_nil rfl) (by decide) (by decide) rfl rfl) va_nil rfl) rfl) (blkOk_by (N := N__law_like) (sc := defScope (top 26)) (by decide +kernel)) (by decide) (fun _ _ _ _ _ => (vg_nm (i := 2) S.nd rfl (loc_of rfl) (by first | exact .inl rfl | exact .inr rfl))) (fun _ _ _ _ _ => vts_nil) (fun _ _ _ _ _ => (ve_call (c__law_like _ rfl rfl rfl rfl rfl) (S.hr.mono (by first | decide | exact Nat.le_refl _)) rfl (va_cons (ve_sub (ov_ixA U5 rfl (fun _ _ => rfl)) (ve_var (i := 0) rfl (vis_of rfl) (by decide) (by decide)) (ve_var (i := 2) rfl (vis_of rfl) (by decide) (by decide))) (va_cons (ve_sub (ov_ixA U5 rfl (fun _ _ => rfl)) (ve_var (i := 1) rfl (vis_of rfl) (by decide) (by decide)) (ve_var (i := 2) rfl (vis_of rfl) (by decide) (by decide))) va_nil rfl) rfl) (by decide) rfl rfl)) (fun _ => rfl)) va_nil rfl) (by decide) (by decide) rfl rfl))))
      vss_nil)) vss_nil)
      (vss_cons (vs_if (vt_w (vw_or (vt_tru (ve_isi2 H.isTab H.own rfl H.isinstance (ve_var (i := 0) rfl (vis_of rfl) (by decide) (by decide)) rfl (by decide) (t_list _ rfl rfl rfl rfl rfl) rfl (by decide) (t_tuple _ rfl rfl rfl rfl rfl) rfl rfl rfl rfl rfl) (fun _ => rfl)) (vw_or1 (vt_cmp2 (op2_of (ov_ne U4)) (ve_isi1 H.isTab H.own rfl H.isinstance (ve_var (i := 0) rfl (vis_of rfl) (by decide) (by decide)) rfl (by decide) (t_bool _ rfl rfl rfl rfl rfl) rfl rfl rfl) (ve_isi1 H.isTab H.own rfl H.isinstance (ve_var (i := 1) rfl (vis_of rfl) (by decide) (by decide)) rfl (by decide) (t_bool _ rfl rfl rfl rfl rfl) rfl rfl rfl) rfl)))) (vss_cons (vs_ret ve_bl)
      vss_nil) vss_nil)
      (vss_cons (vs_ret (ve_cmp2 (op2_of (ov_eq U4)) (ve_var (i := 0) rfl (vis_of rfl) (by decide) (by decide)) (ve_var (i := 1) rfl (vis_of rfl) (by decide) (by decide)) rfl))
      vss_nil)))
noncomputable def r__law_like : Fn := f__law_like (f__law_like (f__law_like (f__law_like (f__law_like (fun _ => .stuck)))))
abbrev N_eq : List Str := ["self", "other"]
noncomputable def m_eq : MS := mSeq (mRet (mAndV (mIsi isTab [.inr "Schema"] (mVar 1)) (mOp2 (opOut eqA) (mAttr a_by_name "by_name" (mVar 0)) (mAttr a_by_name "by_name" (mVar 1))))) (mSkip)
noncomputable def f_eq : Fn := runF N_eq.length (m_eq)
theorem sc_eq : FnScope N_eq ["self", "other"] (defScope (sub 14 9)) := ⟨rfl, rfl, rfl, by decide +kernel, rfl, by decide +kernel, by decide +kernel⟩
theorem b_eq {P : Program} {w : World} {K : PySem.W.Frag} {mg : Str → Option Value} {base : Heap} {f : Addr} {cdv : Value} {A : Around} {outer : List Env} {s : Shared} {Hp0 : Hp} {E : XK} (H : Fx w K mg) (t_Schema : At P w K mg base fun X => NmTy X (cad w K) "Schema" (.inr "Schema")) (at_by_name : At P w K mg base fun X => AtOk X (cad w K) 0 a_by_name "by_name") (hr : Room 46 (A.deeper (envOfC "Schema.__eq__" (defScope (sub 14 9)) s.heap.objs.size f cdv))) :
    VSs (cxOf (L2.CX P w) P w K mg base N_eq "Schema.__eq__" (defScope (sub 14 9)) f cdv A outer s Hp0 E) (cad w K) (defBody (sub 14 9)) (m_eq) := by
  have S : Sit (cxOf (L2.CX P w) P w K mg base N_eq "Schema.__eq__" (defScope (sub 14 9)) f cdv A outer s Hp0 E) 46 := ⟨sc_eq.nd, hr, rfl⟩
  have U4 := u64 S; have U5 := u65 S
  exact (vss_cons (vs_ret (ve_and (ve_isi1 H.isTab H.own rfl H.isinstance (ve_var (i := 1) rfl (vis_of rfl) (by decide) (by decide)) rfl (by decide) (t_Schema _ rfl rfl rfl rfl rfl) rfl rfl rfl) (ve_one (ve_cmp2 (op2_of (ov_eqA U5 rfl)) (ve_attr (at_by_name _ rfl rfl rfl rfl rfl) (S.hr.mono (by first | decide | exact Nat.le_refl _)) (ve_var (i := 0) rfl (vis_of rfl) (by decide) (by decide)) rfl) (ve_attr (at_by_name _ rfl rfl rfl rfl rfl) (S.hr.mono (by first | decide | exact Nat.le_refl _)) (ve_var (i := 1) rfl (vis_of rfl) (by decide) (by decide)) rfl) rfl))))
      vss_nil)
noncomputable def eqT : OpTab := eqTab "Schema" false f_eq []
abbrev N__law_is_shape : List Str := ["_law_found", "_law_here", "_law_model"]
noncomputable def m__law_is_shape : MS := mSeq (mIfS (mOrT (mNotT (mTru (mIsi isTab [.inr "Shape"] (mVar 0)))) (mOrT (mNotT (mTru (mCall 2 [] r__law_like [] (mCons (mMethO o_key "key" (mVar 0) (mNil)) (mCons (mVar 2) (mNil)))))) (mTst (mOp2 (opOut neD) (mAttr a_nodes "nodes" (mVar 0)) (mOp idxA (mVar 2) (mC (.int 0))))))) (mSeq (mRet (mC (.bl false))) (mSkip)) (mSkip)) (mSeq (mRet (mAndV (mCall 2 [] r__law_like [] (mCons (mMethO o_rows "rows" (mVar 0) (mNil)) (mCons (mCallB listA (mCons (mOp idxA (mVar 2) (mC (.int 1))) (mNil))) (mNil)))) (mOp2 (opBoth eqD eqT) (mAttr a_schema "schema" (mVar 0)) (mVar 1)))) (mSkip))
noncomputable def f__law_is_shape : Fn := runF N__law_is_shape.length (m__law_is_shape)
theorem sc__law_is_shape : FnScope N__law_is_shape ["_law_found", "_law_here", "_law_model"] (defScope (top 27)) := ⟨rfl, rfl, rfl, by decide +kernel, rfl, by decide +kernel, by decide +kernel⟩
theorem b__law_is_shape {P : Program} {w : World} {K : PySem.W.Frag} {mg : Str → Option Value} {base : Heap} {f : Addr} {cdv : Value} {A : Around} {outer : List Env} {s : Shared} {Hp0 : Hp} {E : XK} (H : Fx w K mg) (om_rows : At P w K mg base fun X => ∀ c i, o_rows.lookup c = some i → MetOk X (cad w K) 23 c "rows" i) (c__law_like : At P w K mg base fun X => Call1 X (cad w K) 45 "_law_like" 2 r__law_like []) (at_schema : At P w K mg base fun X => AtOk X (cad w K) 19 a_schema "schema") (eqT : At P w K mg base fun X => Room 48 X.A → OpsOk X (cad w K) (compareOp .Eq) eqT) (t_Shape : At P w K mg base fun X => NmTy X (cad w K) "Shape" (.inr "Shape")) (om_key : At P w K mg base fun X => ∀ c i, o_key.lookup c = some i → MetOk X (cad w K) 25 c "key" i) (at_nodes : At P w K mg base fun X => AtOk X (cad w K) 21 a_nodes "nodes") (hr : Room 48 (A.deeper (envOfC "_law_is_shape" (defScope (top 27)) s.heap.objs.size f cdv))) :
    VSs (cxOf (L2.CX P w) P w K mg base N__law_is_shape "_law_is_shape" (defScope (top 27)) f cdv A outer s Hp0 E) (cad w K) (defBody (top 27)) (m__law_is_shape) := by
  have S : Sit (cxOf (L2.CX P w) P w K mg base N__law_is_shape "_law_is_shape" (defScope (top 27)) f cdv A outer s Hp0 E) 48 := ⟨sc__law_is_shape.nd, hr, rfl⟩
  have U4 := u64 S; have U5 := u65 S
  exact (vss_cons (vs_if (vt_w (vw_or (vt_not (vt_tru (ve_isi1 H.isTab H.own rfl H.isinstance (ve_var (i := 0) rfl (vis_of rfl) (by decide) (by decide)) rfl (by decide) (t_Shape _ rfl rfl rfl rfl rfl) rfl rfl rfl) (fun _ => rfl))) (vw_or (vt_not (vt_tru (ve_call (c__law_like _ rfl rfl rfl rfl rfl) (S.hr.mono (by first | decide | exact Nat.le_refl _)) rfl (va_cons (ve_methO (om_key _ rfl rfl rfl rfl rfl) (S.hr.mono (by first | decide | exact Nat.le_refl _)) (ve_var (i := 0) rfl (vis_of rfl) (by decide) (by decide)) va_nil (.inl ⟨rfl, rfl⟩) ⟨_, rfl⟩) (va_cons (ve_var (i := 2) rfl (vis_of rfl) (by decide) (by decide)) va_nil rfl) rfl) (by decide) rfl rfl) (fun _ => rfl))) (vw_or1 (vt_cmp2 (op2_of (ov_ne U4)) (ve_attr (at_nodes _ rfl rfl rfl rfl rfl) (S.hr.mono (by first | decide | exact Nat.le_refl _)) (ve_var (i := 0) rfl (vis_of rfl) (by decide) (by decide)) rfl) (ve_sub (ov_ixA U5 rfl (fun _ _ => rfl)) (ve_var (i := 2) rfl (vis_of rfl) (by decide) (by decide)) ve_int) rfl))))) (vss_cons (vs_ret ve_bl)
      vss_nil) vss_nil)
      (vss_cons (vs_ret (ve_and (ve_call (c__law_like _ rfl rfl rfl rfl rfl) (S.hr.mono (by first | decide | exact Nat.le_refl _)) rfl (va_cons (ve_methO (om_rows _ rfl rfl rfl rfl rfl) (S.hr.mono (by first | decide | exact Nat.le_refl _)) (ve_var (i := 0) rfl (vis_of rfl) (by decide) (by decide)) va_nil (.inl ⟨rfl, rfl⟩) ⟨_, rfl⟩) (va_cons (ve_callTy (cv_listA S.calm rfl) rfl H.list (by decide +kernel) (va_cons (ve_sub (ov_ixA U5 rfl (fun _ _ => rfl)) (ve_var (i := 2) rfl (vis_of rfl) (by decide) (by decide)) ve_int) va_nil rfl) (by decide) (by decide) rfl rfl) va_nil rfl) rfl) (by decide) rfl rfl) (ve_one (ve_cmp2 (op2_both (ov_eq U4) (eqT _ rfl rfl rfl rfl rfl (S.hr.mono (by first | decide | exact Nat.le_refl _)))) (ve_attr (at_schema _ rfl rfl rfl rfl rfl) (S.hr.mono (by first | decide | exact Nat.le_refl _)) (ve_var (i := 0) rfl (vis_of rfl) (by decide) (by decide)) rfl) (ve_var (i := 1) rfl (vis_of rfl) (by decide) (by decide)) rfl))))
      vss_nil))
abbrev N_law : List Str := ["_law_script", "_law_feed_here", "_law_pairs_here", "_law_here", "_law_turn", "_law_nodes", "_law_rows_here", "_law_odd", "_law_wrong", "_law_base", "_law_size", "_law_name", "_law_columns", "_law_bad", "_law_at"]
noncomputable def m_law : MS := mSeq (mSet 1 (mCall 1 [] f__law_feed [] (mCons (mVar 0) (mNil)))) (mSeq (mSet 2 (mCall 2 [true] f__law_pairs [] (mCons (mVar 1) (mCons (mC (.int 4)) (mNil))))) (mSeq (mSet 3 (mMake "Schema" k_Schema_1.n k_Schema_1.modes k_Schema_1.fn k_Schema_1.dfs (mCons (mVar 2) (mNil)))) (mSeq (mFor (.nm 4) (mWRng1 (mCons (mC (.int 3)) (mNil))) (mSeq (mSet 5 (mCall 2 [true] f__law_any [] (mCons (mVar 1) (mCons (mLst (mCons (mC (.int 0)) (mCons (mC (.int 1)) (mCons (mC (.int 3)) (mCons (mC (.int 60)) (mNil)))))) (mNil))))) (mSeq (mSet 6 (mCallB listA (mCons (mCall 4 [true] f__law_rows [] (mCons (mVar 1) (mCons (mVar 2) (mCons (mVar 5) (mCons (mC (.int 6)) (mNil)))))) (mNil)))) (mSeq (mAsgT (.tp [.nm 11, .nm 12]) (mCall 2 [true] f__law_any [] (mCons (mVar 1) (mCons (mVar 2) (mNil))))) (mSeq (mSet 7 (mLst (mCons (mTup (mCons (mVar 11) (mCons (mOp2 (opOut mulB) (mTup (mCons (mC (.int 0)) (mNil))) (mOp2 (opOut addD) (mVar 12) (mC (.int 1)))) (mNil)))) (mCons (mTup (mCons (mVar 11) (mCons (mTup (mNil)) (mNil)))) (mCons (mTup (mCons (mC (.str "G")) (mCons (mTup (mCons (mC (.int 0)) (mNil))) (mNil)))) (mCons (mTup (mCons (mVar 11) (mCons (mOp2 (opOut mulB) (mTup (mCons (mVar 5) (mNil))) (mVar 12)) (mNil)))) (mCons (mTup (mCons (mC (.str "")) (mCons (mTup (mNil)) (mNil)))) (mNil)))))))) (mSeq (mSet 7 (mOp2 (opOut addD) (mVar 7) (mLst (mCons (mTup (mCons (mVar 11) (mCons (mOp2 (opOut addD) (mOp2 (opOut mulB) (mTup (mCons (mC (.int 0)) (mNil))) (mOp2 (opOut subD) (mVar 12) (mC (.int 1)))) (mTup (mCons (mUn negD (mC (.int 1))) (mNil)))) (mNil)))) (mCons (mTup (mCons (mVar 11) (mCons (mOp2 (opOut mulB) (mTup (mCons (mOp2 (opOut addD) (mVar 5) (mCall 2 [true] f__law_draw [] (mCons (mVar 1) (mCons (mOp2 (opOut powD) (mC (.int 10)) (mC (.int 9))) (mNil))))) (mNil))) (mVar 12)) (mNil)))) (mNil)))))) (mSeq (mSet 7 (mOp2 (opOut addD) (mVar 7) (mLst (mCons (mTup (mCons (mVar 11) (mCons (mOp2 (opOut mulB) (mLst (mCons (mC (.int 0)) (mNil))) (mOp2 (opOut addD) (mVar 12) (mC (.int 2)))) (mNil)))) (mNil))))) (mSeq (mPar 13 14 (mCons (mCall 2 [true] f__law_any [] (mCons (mVar 1) (mCons (mVar 7) (mNil)))) (mCons (mCall 2 [true] f__law_draw [] (mCons (mVar 1) (mCons (mOp2 (opOut addD) (mCallB lenA (mCons (mVar 6) (mNil))) (mC (.int 1))) (mNil)))) (mNil)))) (mSeq (mSet 8 (mOp2 (opOut addD) (mOp2 (opOut addD) (mSlice (mVar 6) (mNoP) (mPart (mVar 14))) (mLst (mCons (mVar 13) (mNil)))) (mSlice (mVar 6) (mPart (mVar 14)) (mNoP)))) (mSeq (mIfS (mTst (mOp2 (opOut neD) (mTold ["InvalidSize", "InvalidRow"] (mMake "Shape" k_Shape_3.n k_Shape_3.modes k_Shape_3.fn k_Shape_3.dfs (mCons (mVar 3) (mCons (mVar 5) (mCons (mVar 8) (mNil)))))) (mTup (mCons (mC (.str "no")) (mCons (mC (.str "InvalidRow")) (mCons (mVar 14) (mNil))))))) (mSeq (mRet (mC (.bl false))) (mSkip)) (mSkip)) (mSeq (mSet 9 (mMake "Shape" k_Shape_3.n k_Shape_3.modes k_Shape_3.fn k_Shape_3.dfs (mCons (mVar 3) (mCons (mVar 5) (mCons (mVar 6) (mNil)))))) (mSeq (mIfS (mTst (mOp2 (opOut neD) (mTold ["InvalidSize", "InvalidRow"] (mMethO o_with_rows "with_rows" (mVar 9) (mCons (mVar 8) (mNil)))) (mTup (mCons (mC (.str "no")) (mCons (mC (.str "InvalidRow")) (mCons (mVar 14) (mNil))))))) (mSeq (mRet (mC (.bl false))) (mSkip)) (mSkip)) (mSeq (mIfS (mNotT (mTru (mCall 3 [] f__law_is_shape [] (mCons (mVar 9) (mCons (mVar 3) (mCons (mTup (mCons (mVar 5) (mCons (mCallB tupleD (mCons (mVar 6) (mNil))) (mNil)))) (mNil))))))) (mSeq (mRet (mC (.bl false))) (mSkip)) (mSkip)) (mSeq (mSet 10 (mCall 2 [true] f__law_any [] (mCons (mVar 1) (mCons (mLst (mCons (mC (.int 61)) (mCons (mUn negD (mC (.int 1))) (mCons (mOp2 (opOut addD) (mC (.int 62)) (mCall 2 [true] f__law_draw [] (mCons (mVar 1) (mCons (mOp2 (opOut powD) (mC (.int 10)) (mC (.int 9))) (mNil))))) (mCons (mOp2 (opOut subD) (mUn negD (mC (.int 2))) (mCall 2 [true] f__law_draw [] (mCons (mVar 1) (mCons (mOp2 (opOut powD) (mC (.int 10)) (mC (.int 9))) (mNil))))) (mNil)))))) (mNil))))) (mSeq (mIfS (mTst (mOp2 (opOut neD) (mTold ["InvalidSize", "InvalidRow"] (mMake "Shape" k_Shape_3.n k_Shape_3.modes k_Shape_3.fn k_Shape_3.dfs (mCons (mVar 3) (mCons (mVar 10) (mCons (mVar 8) (mNil)))))) (mTup (mCons (mC (.str "no")) (mCons (mC (.str "InvalidSize")) (mCons (mVar 10) (mNil))))))) (mSeq (mRet (mC (.bl false))) (mSkip)) (mSkip)) (mSeq (mIfS (mTst (mOp2 (opOut neD) (mTold ["InvalidSize", "InvalidRow"] (mMake "Shape" k_Shape_2.n k_Shape_2.modes k_Shape_2.fn k_Shape_2.dfs (mCons (mVar 3) (mCons (mVar 10) (mNil))))) (mTup (mCons (mC (.str "no")) (mCons (mC (.str "InvalidSize")) (mCons (mVar 10) (mNil))))))) (mSeq (mRet (mC (.bl false))) (mSkip)) (mSkip)) (mSkip))))))))))))))))) (mSeq (mRet (mC (.bl true))) (mSkip)))))
noncomputable def f_law : Fn := runF N_law.length (m_law)
theorem sc_law : FnScope N_law ["_law_script"] (defScope (top 28)) := ⟨rfl, rfl, rfl, by decide +kernel, rfl, by decide +kernel, by decide +kernel⟩
theorem b_law {P : Program} {w : World} {K : PySem.W.Frag} {mg : Str → Option Value} {base : Heap} {f : Addr} {A : Around} {outer : List Env} {s : Shared} {Hp0 : Hp} {E : XK} (H : Fx w K mg) (TB : TabB base mg (cdAt K (gAd "law" K)) (tbAt K (gAd "law" K))) (mk_Shape_2 : At P w K mg base fun X => MakeOk X (cad w K) 17 "Shape" "Shape" k_Shape_2) (tld : At P w K mg base fun X => LamOk X (cad w K) 49 "_law_told" ["InvalidSize", "InvalidRow"]) (mk_Shape_3 : At P w K mg base fun X => MakeOk X (cad w K) 17 "Shape" "Shape" k_Shape_3) (c__law_draw : At P w K mg base fun X => Call1 X (cad w K) 31 "_law_draw" 2 f__law_draw []) (c__law_any : At P w K mg base fun X => Call1 X (cad w K) 33 "_law_any" 2 f__law_any []) (c__law_is_shape : At P w K mg base fun X => Call1 X (cad w K) 49 "_law_is_shape" 3 f__law_is_shape []) (om_with_rows : At P w K mg base fun X => ∀ c i, o_with_rows.lookup c = some i → MetOk X (cad w K) 27 c "with_rows" i) (c__law_rows : At P w K mg base fun X => Call1 X (cad w K) 37 "_law_rows" 4 f__law_rows []) (mk_Schema_1 : At P w K mg base fun X => MakeOk X (cad w K) 9 "Schema" "Schema" k_Schema_1) (c__law_pairs : At P w K mg base fun X => Call1 X (cad w K) 35 "_law_pairs" 2 f__law_pairs []) (c__law_feed : At P w K mg base fun X => Call1 X (cad w K) 29 "_law_feed" 1 f__law_feed []) (hr : Room 52 (A.deeper (envOfC "law" (defScope (top 28)) s.heap.objs.size f (.ref (cdAt K (gAd "law" K)))))) :
    VSs (cxOf (L2.CX P w) P w K mg base N_law "law" (defScope (top 28)) f (.ref (cdAt K (gAd "law" K))) A outer s Hp0 E) (cad w K) (defBody (top 28)) (m_law) := by
  have S : Sit (cxOf (L2.CX P w) P w K mg base N_law "law" (defScope (top 28)) f (.ref (cdAt K (gAd "law" K))) A outer s Hp0 E) 52 := ⟨sc_law.nd, hr, rfl⟩
  have U4 := u64 S; have U5 := u65 S
  exact (vss_cons (vs_set (i := 1) S.nd rfl (loc_of rfl) (ve_call (c__law_feed _ rfl rfl rfl rfl rfl) (S.hr.mono (by first | decide | exact Nat.le_refl _)) rfl (va_cons (ve_var (i := 0) rfl (vis_of rfl) (by decide) (by decide)) va_nil rfl) (by decide) rfl rfl) rfl (by first | exact .inl rfl | exact .inr rfl))
      (vss_cons (vs_set (i := 2) S.nd rfl (loc_of rfl) (ve_call (c__law_pairs _ rfl rfl rfl rfl rfl) (S.hr.mono (by first | decide | exact Nat.le_refl _)) rfl (va_cons (ve_var (i := 1) rfl (vis_of rfl) (by decide) (by decide)) (va_cons ve_int va_nil rfl) rfl) (by decide) rfl rfl) rfl (by first | exact .inl rfl | exact .inr rfl))
      (vss_cons (vs_set (i := 3) S.nd rfl (loc_of rfl) (ve_make (i := k_Schema_1) (mk_Schema_1 _ rfl rfl rfl rfl rfl) (S.hr.mono (by first | decide | exact Nat.le_refl _)) rfl (va_cons (ve_var (i := 2) rfl (vis_of rfl) (by decide) (by decide)) va_nil rfl) (.inr ⟨_, _, rfl, rfl, rfl⟩) (by decide)) rfl (by first | exact .inl rfl | exact .inr rfl))
      (vss_cons (vs_for (passes_of rfl) S.calm (vi_rng1 rfl H.range (va_cons ve_int va_nil rfl) rfl) (vg_nm (i := 4) S.nd rfl (loc_of rfl) (by first | exact .inl rfl | exact .inr rfl)) (vss_cons (vs_set (i := 5) S.nd rfl (loc_of rfl) (ve_call (c__law_any _ rfl rfl rfl rfl rfl) (S.hr.mono (by first | decide | exact Nat.le_refl _)) rfl (va_cons (ve_var (i := 1) rfl (vis_of rfl) (by decide) (by decide)) (va_cons (ve_lst (va_cons ve_int (va_cons ve_int (va_cons ve_int (va_cons ve_int va_nil rfl) rfl) rfl) rfl)) va_nil rfl) rfl) (by decide) rfl rfl) rfl (by first | exact .inl rfl | exact .inr rfl))
      (vss_cons (vs_set (i := 6) S.nd rfl (loc_of rfl) (ve_callTy (cv_listA S.calm rfl) rfl H.list (by decide +kernel) (va_cons (ve_call (c__law_rows _ rfl rfl rfl rfl rfl) (S.hr.mono (by first | decide | exact Nat.le_refl _)) rfl (va_cons (ve_var (i := 1) rfl (vis_of rfl) (by decide) (by decide)) (va_cons (ve_var (i := 2) rfl (vis_of rfl) (by decide) (by decide)) (va_cons (ve_var (i := 5) rfl (vis_of rfl) (by decide) (by decide)) (va_cons ve_int va_nil rfl) rfl) rfl) rfl) (by decide) rfl rfl) va_nil rfl) (by decide) (by decide) rfl rfl) rfl (by first | exact .inl rfl | exact .inr rfl))
      (vss_cons (vs_asgT (ve_call (c__law_any _ rfl rfl rfl rfl rfl) (S.hr.mono (by first | decide | exact Nat.le_refl _)) rfl (va_cons (ve_var (i := 1) rfl (vis_of rfl) (by decide) (by decide)) (va_cons (ve_var (i := 2) rfl (vis_of rfl) (by decide) (by decide)) va_nil rfl) rfl) (by decide) rfl rfl) (vg_tp S.calm (vgs_cons (vg_nm (i := 11) S.nd rfl (loc_of rfl) (by first | exact .inl rfl | exact .inr rfl)) (vgs_cons (vg_nm (i := 12) S.nd rfl (loc_of rfl) (by first | exact .inl rfl | exact .inr rfl)) vgs_nil rfl) rfl) rfl rfl) rfl rfl rfl)
      (vss_cons (vs_set (i := 7) S.nd rfl (loc_of rfl) (ve_lst (va_cons (ve_tup (va_cons (ve_var (i := 11) rfl (vis_of rfl) (by decide) (by decide)) (va_cons (ve_op2 (op2_of ov_mulB) (ve_tup (va_cons ve_int va_nil rfl)) (ve_op2 (op2_of ov_add) (ve_var (i := 12) rfl (vis_of rfl) (by decide) (by decide)) ve_int)) va_nil rfl) rfl)) (va_cons (ve_tup (va_cons (ve_var (i := 11) rfl (vis_of rfl) (by decide) (by decide)) (va_cons (ve_tup va_nil) va_nil rfl) rfl)) (va_cons (ve_tup (va_cons ve_str (va_cons (ve_tup (va_cons ve_int va_nil rfl)) va_nil rfl) rfl)) (va_cons (ve_tup (va_cons (ve_var (i := 11) rfl (vis_of rfl) (by decide) (by decide)) (va_cons (ve_op2 (op2_of ov_mulB) (ve_tup (va_cons (ve_var (i := 5) rfl (vis_of rfl) (by decide) (by decide)) va_nil rfl)) (ve_var (i := 12) rfl (vis_of rfl) (by decide) (by decide))) va_nil rfl) rfl)) (va_cons (ve_tup (va_cons ve_str (va_cons (ve_tup va_nil) va_nil rfl) rfl)) va_nil rfl) rfl) rfl) rfl) rfl)) rfl (by first | exact .inl rfl | exact .inr rfl))
      (vss_cons (vs_set (i := 7) S.nd rfl (loc_of rfl) (ve_op2 (op2_of ov_add) (ve_var (i := 7) rfl (vis_of rfl) (by decide) (by decide)) (ve_lst (va_cons (ve_tup (va_cons (ve_var (i := 11) rfl (vis_of rfl) (by decide) (by decide)) (va_cons (ve_op2 (op2_of ov_add) (ve_op2 (op2_of ov_mulB) (ve_tup (va_cons ve_int va_nil rfl)) (ve_op2 (op2_of ov_sub) (ve_var (i := 12) rfl (vis_of rfl) (by decide) (by decide)) ve_int)) (ve_tup (va_cons (ve_un ov_neg ve_int) va_nil rfl))) va_nil rfl) rfl)) (va_cons (ve_tup (va_cons (ve_var (i := 11) rfl (vis_of rfl) (by decide) (by decide)) (va_cons (ve_op2 (op2_of ov_mulB) (ve_tup (va_cons (ve_op2 (op2_of ov_add) (ve_var (i := 5) rfl (vis_of rfl) (by decide) (by decide)) (ve_call (c__law_draw _ rfl rfl rfl rfl rfl) (S.hr.mono (by first | decide | exact Nat.le_refl _)) rfl (va_cons (ve_var (i := 1) rfl (vis_of rfl) (by decide) (by decide)) (va_cons (ve_op2 (op2_of ov_pow) ve_int ve_int) va_nil rfl) rfl) (by decide) rfl rfl)) va_nil rfl)) (ve_var (i := 12) rfl (vis_of rfl) (by decide) (by decide))) va_nil rfl) rfl)) va_nil rfl) rfl))) rfl (by first | exact .inl rfl | exact .inr rfl))
      (vss_cons (vs_set (i := 7) S.nd rfl (loc_of rfl) (ve_op2 (op2_of ov_add) (ve_var (i := 7) rfl (vis_of rfl) (by decide) (by decide)) (ve_lst (va_cons (ve_tup (va_cons (ve_var (i := 11) rfl (vis_of rfl) (by decide) (by decide)) (va_cons (ve_op2 (op2_of ov_mulB) (ve_lst (va_cons ve_int va_nil rfl)) (ve_op2 (op2_of ov_add) (ve_var (i := 12) rfl (vis_of rfl) (by decide) (by decide)) ve_int)) va_nil rfl) rfl)) va_nil rfl))) rfl (by first | exact .inl rfl | exact .inr rfl))
      (vss_cons (vs_par (i := 13) (j := 14) S.calm S.nd rfl rfl (by decide) rfl rfl (va_cons (ve_call (c__law_any _ rfl rfl rfl rfl rfl) (S.hr.mono (by first | decide | exact Nat.le_refl _)) rfl (va_cons (ve_var (i := 1) rfl (vis_of rfl) (by decide) (by decide)) (va_cons (ve_var (i := 7) rfl (vis_of rfl) (by decide) (by decide)) va_nil rfl) rfl) (by decide) rfl rfl) (va_cons (ve_call (c__law_draw _ rfl rfl rfl rfl rfl) (S.hr.mono (by first | decide | exact Nat.le_refl _)) rfl (va_cons (ve_var (i := 1) rfl (vis_of rfl) (by decide) (by decide)) (va_cons (ve_op2 (op2_of ov_add) (ve_callB (cv_lenA rfl) rfl H.len (by decide +kernel) (va_cons (ve_var (i := 6) rfl (vis_of rfl) (by decide) (by decide)) va_nil rfl) (by decide) (by decide) rfl rfl) ve_int) va_nil rfl) rfl) (by decide) rfl rfl) va_nil rfl) rfl) rfl rfl)
      (vss_cons (vs_set (i := 8) S.nd rfl (loc_of rfl) (ve_op2 (op2_of ov_add) (ve_op2 (op2_of ov_add) (ve_slice (ve_var (i := 6) rfl (vis_of rfl) (by decide) (by decide)) vp_none (vp_some (ve_var (i := 14) rfl (vis_of rfl) (by decide) (by decide)))) (ve_lst (va_cons (ve_var (i := 13) rfl (vis_of rfl) (by decide) (by decide)) va_nil rfl))) (ve_slice (ve_var (i := 6) rfl (vis_of rfl) (by decide) (by decide)) (vp_some (ve_var (i := 14) rfl (vis_of rfl) (by decide) (by decide))) vp_none)) rfl (by first | exact .inl rfl | exact .inr rfl))
      (vss_cons (vs_if (vt_cmp2 (op2_of (ov_ne U4)) (ve_told (tld _ rfl rfl rfl rfl rfl) (S.hr.mono (by first | decide | exact Nat.le_refl _)) rfl (by decide) TB rfl (List.mem_singleton.mpr rfl) (fun p hp _ => by cases List.mem_singleton.mp hp; rfl) (lamS1_by (show lamSB1 N_law (defScope (top 28)) _ = true by decide +kernel)) (.none rfl rfl fun _ _ _ _ _ _ => rfl) (fun A2 o2 s2 H2 E2 f2 c2 hr2 => have S := sit_lam (outer := o2) (s := s2) (H := H2) (E := E2) S hr2; (ve_make (i := k_Shape_3) (mk_Shape_3 _ rfl rfl rfl rfl rfl) (S.hr.mono (by first | decide | exact Nat.le_refl _)) rfl (va_cons (ve_var (i := 3) rfl (vis_of rfl) (by decide) (by decide)) (va_cons (ve_var (i := 5) rfl (vis_of rfl) (by decide) (by decide)) (va_cons (ve_var (i := 8) rfl (vis_of rfl) (by decide) (by decide)) va_nil rfl) rfl) rfl) (.inr ⟨_, _, rfl, rfl, rfl⟩) (by decide)))) (ve_tup (va_cons ve_str (va_cons ve_str (va_cons (ve_var (i := 14) rfl (vis_of rfl) (by decide) (by decide)) va_nil rfl) rfl) rfl)) rfl) (vss_cons (vs_ret ve_bl)
      vss_nil) vss_nil)
      (vss_cons (vs_set (i := 9) S.nd rfl (loc_of rfl) (ve_make (i := k_Shape_3) (mk_Shape_3 _ rfl rfl rfl rfl rfl) (S.hr.mono (by first | decide | exact Nat.le_refl _)) rfl (va_cons (ve_var (i := 3) rfl (vis_of rfl) (by decide) (by decide)) (va_cons (ve_var (i := 5) rfl (vis_of rfl) (by decide) (by decide)) (va_cons (ve_var (i := 6) rfl (vis_of rfl) (by decide) (by decide)) va_nil rfl) rfl) rfl) (.inr ⟨_, _, rfl, rfl, rfl⟩) (by decide)) rfl (by first | exact .inl rfl | exact .inr rfl))
      (vss_cons (vs_if (vt_cmp2 (op2_of (ov_ne U4)) (ve_told (tld _ rfl rfl rfl rfl rfl) (S.hr.mono (by first | decide | exact Nat.le_refl _)) rfl (by decide) TB rfl (List.mem_singleton.mpr rfl) (fun p hp _ => by cases List.mem_singleton.mp hp; rfl) (lamS1_by (show lamSB1 N_law (defScope (top 28)) _ = true by decide +kernel)) (.one "_law_a" 0 _ _ rfl rfl rfl fun _ _ _ _ _ _ _ => ⟨_, rfl, fun _ => rfl⟩) (fun A2 o2 s2 H2 E2 f2 c2 hr2 => have S := sit_lam (outer := o2) (s := s2) (H := H2) (E := E2) S hr2; (ve_methO (om_with_rows _ rfl rfl rfl rfl rfl) (S.hr.mono (by first | decide | exact Nat.le_refl _)) (ve_var (i := 9) rfl (vis_of rfl) (by decide) (by decide)) (va_cons (ve_var (i := 8) rfl (vis_of rfl) (by decide) (by decide)) va_nil rfl) (.inr ⟨_, _, rfl, rfl, rfl⟩) ⟨_, rfl⟩))) (ve_tup (va_cons ve_str (va_cons ve_str (va_cons (ve_var (i := 14) rfl (vis_of rfl) (by decide) (by decide)) va_nil rfl) rfl) rfl)) rfl) (vss_cons (vs_ret ve_bl)
      vss_nil) vss_nil)
      (vss_cons (vs_if (vt_not (vt_tru (ve_call (c__law_is_shape _ rfl rfl rfl rfl rfl) (S.hr.mono (by first | decide | exact Nat.le_refl _)) rfl (va_cons (ve_var (i := 9) rfl (vis_of rfl) (by decide) (by decide)) (va_cons (ve_var (i := 3) rfl (vis_of rfl) (by decide) (by decide)) (va_cons (ve_tup (va_cons (ve_var (i := 5) rfl (vis_of rfl) (by decide) (by decide)) (va_cons (ve_callTy cv_tuple rfl H.tuple (by decide +kernel) (va_cons (ve_var (i := 6) rfl (vis_of rfl) (by decide) (by decide)) va_nil rfl) (by decide) (by decide) rfl rfl) va_nil rfl) rfl)) va_nil rfl) rfl) rfl) (by decide) rfl rfl) (fun _ => rfl))) (vss_cons (vs_ret ve_bl)
      vss_nil) vss_nil)
      (vss_cons (vs_set (i := 10) S.nd rfl (loc_of rfl) (ve_call (c__law_any _ rfl rfl rfl rfl rfl) (S.hr.mono (by first | decide | exact Nat.le_refl _)) rfl (va_cons (ve_var (i := 1) rfl (vis_of rfl) (by decide) (by decide)) (va_cons (ve_lst (va_cons ve_int (va_cons (ve_un ov_neg ve_int) (va_cons (ve_op2 (op2_of ov_add) ve_int (ve_call (c__law_draw _ rfl rfl rfl rfl rfl) (S.hr.mono (by first | decide | exact Nat.le_refl _)) rfl (va_cons (ve_var (i := 1) rfl (vis_of rfl) (by decide) (by decide)) (va_cons (ve_op2 (op2_of ov_pow) ve_int ve_int) va_nil rfl) rfl) (by decide) rfl rfl)) (va_cons (ve_op2 (op2_of ov_sub) (ve_un ov_neg ve_int) (ve_call (c__law_draw _ rfl rfl rfl rfl rfl) (S.hr.mono (by first | decide | exact Nat.le_refl _)) rfl (va_cons (ve_var (i := 1) rfl (vis_of rfl) (by decide) (by decide)) (va_cons (ve_op2 (op2_of ov_pow) ve_int ve_int) va_nil rfl) rfl) (by decide) rfl rfl)) va_nil rfl) rfl) rfl) rfl)) va_nil rfl) rfl) (by decide) rfl rfl) rfl (by first | exact .inl rfl | exact .inr rfl))
      (vss_cons (vs_if (vt_cmp2 (op2_of (ov_ne U4)) (ve_told (tld _ rfl rfl rfl rfl rfl) (S.hr.mono (by first | decide | exact Nat.le_refl _)) rfl (by decide) TB rfl (List.mem_singleton.mpr rfl) (fun p hp _ => by cases List.mem_singleton.mp hp; rfl) (lamS1_by (show lamSB1 N_law (defScope (top 28)) _ = true by decide +kernel)) (.one "_law_b" 0 _ _ rfl rfl rfl fun _ _ _ _ _ _ _ => ⟨_, rfl, fun _ => rfl⟩) (fun A2 o2 s2 H2 E2 f2 c2 hr2 => have S := sit_lam (outer := o2) (s := s2) (H := H2) (E := E2) S hr2; (ve_make (i := k_Shape_3) (mk_Shape_3 _ rfl rfl rfl rfl rfl) (S.hr.mono (by first | decide | exact Nat.le_refl _)) rfl (va_cons (ve_var (i := 3) rfl (vis_of rfl) (by decide) (by decide)) (va_cons (ve_var (i := 10) rfl (vis_of rfl) (by decide) (by decide)) (va_cons (ve_var (i := 8) rfl (vis_of rfl) (by decide) (by decide)) va_nil rfl) rfl) rfl) (.inr ⟨_, _, rfl, rfl, rfl⟩) (by decide)))) (ve_tup (va_cons ve_str (va_cons ve_str (va_cons (ve_var (i := 10) rfl (vis_of rfl) (by decide) (by decide)) va_nil rfl) rfl) rfl)) rfl) (vss_cons (vs_ret ve_bl)
      vss_nil) vss_nil)
      (vss_cons (vs_if (vt_cmp2 (op2_of (ov_ne U4)) (ve_told (tld _ rfl rfl rfl rfl rfl) (S.hr.mono (by first | decide | exact Nat.le_refl _)) rfl (by decide) TB rfl (List.mem_singleton.mpr rfl) (fun p hp _ => by cases List.mem_singleton.mp hp; rfl) (lamS1_by (show lamSB1 N_law (defScope (top 28)) _ = true by decide +kernel)) (.one "_law_c" 0 _ _ rfl rfl rfl fun _ _ _ _ _ _ _ => ⟨_, rfl, fun _ => rfl⟩) (fun A2 o2 s2 H2 E2 f2 c2 hr2 => have S := sit_lam (outer := o2) (s := s2) (H := H2) (E := E2) S hr2; (ve_make (i := k_Shape_2) (mk_Shape_2 _ rfl rfl rfl rfl rfl) (S.hr.mono (by first | decide | exact Nat.le_refl _)) rfl (va_cons (ve_var (i := 3) rfl (vis_of rfl) (by decide) (by decide)) (va_cons (ve_var (i := 10) rfl (vis_of rfl) (by decide) (by decide)) va_nil rfl) rfl) (.inr ⟨_, _, rfl, rfl, rfl⟩) (by decide)))) (ve_tup (va_cons ve_str (va_cons ve_str (va_cons (ve_var (i := 10) rfl (vis_of rfl) (by decide) (by decide)) va_nil rfl) rfl) rfl)) rfl) (vss_cons (vs_ret ve_bl)
      vss_nil) vss_nil)
      vss_nil))))))))))))))) (fun _ => rfl))
      (vss_cons (vs_ret ve_bl)
      vss_nil)))))
end K07

set_option maxHeartbeats 0
/-! K07a: the contracts of all defs, out of the head. -/
namespace K07
open PySem PySem.Spec PyProof.Rows L2 LamX NdefX Pw
theorem flds {K : PySem.W.Frag} : FldsB K (defBody (top 24)) (defScope (top 24)) := fun X a C d oe e1 hN e2 T hp hz hf => by
  subst e1
  have v : ∀ {n : Str} (hn : n ∈ (["code", "given", "bound", "name", "at", "group", "first"] : List Str)) {p1 p2 : Pos}, PE X (.Attribute (.Name "_law_e" p1) n p2) (tXp a d n (tVar 0)) := fun {n} hn {p1 p2} => fields_reads (q := fun _ => p1) (j := fun _ => 0) T hN (by rw [e2]; rfl) hp hz hf hn
  have s1 : ∀ {f : Str} {p1 p2 p3 p4 : Pos} {k : Nat} (hn : f ∈ (["code", "given", "bound", "name", "at", "group", "first"] : List Str)), PSs X [.Return (some (.Tuple [.Attribute (.Name "_law_e" p1) f p2] k p3)) p4] (tSeq (tRet (tTup (tFlds a d [f]))) tNext) := fun hn => pss_cons (ps_ret (pe_tup (pa_cons (v hn) pa_nil))) pss_nil
  exact pss_cons (ps_if (pt_cmpR op_in_seq (v (by decide)) (pe_tup (pa_cons pe_str (pa_cons pe_str (pa_cons pe_str pa_nil)))) rfl) (s1 (by decide)) pss_nil)
    (pss_cons (ps_if (pt_cmpR op_in_seq (v (by decide)) (pe_tup (pa_cons pe_str (pa_cons pe_str pa_nil))) rfl) (s1 (by decide)) pss_nil)
    (pss_cons (ps_if (pt_cmpR op_in_seq (v (by decide)) (pe_tup (pa_cons pe_str (pa_cons pe_str (pa_cons pe_str (pa_cons pe_str pa_nil))))) rfl) (s1 (by decide)) pss_nil)
    (pss_cons (ps_if (pt_cmpR op_in_seq (v (by decide)) (pe_tup (pa_cons pe_str (pa_cons pe_str (pa_cons pe_str (pa_cons pe_str pa_nil))))) rfl) (s1 (by decide)) pss_nil)
    (pss_cons (ps_if (pt_cmpR op_eq (v (by decide)) pe_str rfl) (pss_cons (ps_ret (pe_tup (pa_cons (v (by decide)) (pa_cons (v (by decide)) pa_nil)))) pss_nil) pss_nil)
    (pss_cons (ps_ret (pe_ifExp (pt_cmpR op_eq (v (by decide)) pe_str rfl) (pe_tup (pa_cons (v (by decide)) pa_nil)) (pe_tup pa_nil))) pss_nil)))))
theorem flds_scope : FnScope ["_law_e"] ["_law_e"] (defScope (top 24)) := ⟨rfl, rfl, rfl, by decide +kernel, rfl, by decide +kernel, by decide +kernel⟩
theorem told_scope : FnScope ["_law_deed", "_law_e"] ["_law_deed"] (defScope (top 25)) := ⟨rfl, rfl, rfl, by decide +kernel, rfl, by decide +kernel, by decide +kernel⟩

abbrev rowA : PySem.W.OpenRow := PySem.W.OpenLaw.row rw_
abbrev hk : PySem.W.Hook := hookT 6 prg.main.file ex fns sups tf
def ob (s : PySem.W.SharedT) : AlQ := obsT 6 prg.main.file ex fns sups tf (HandSHeadRun.getT s)
theorem ob_eq (s : PySem.W.SharedT) : ob s = hk.obs s.abs := obsT_eq (HandSHeadRun.getT_eq s)
theorem asm {w : World} {K : PySem.W.Frag} {h : Heap} {mg : Str → Option Value} (X : K.In h) (G : h.Ns mainGlobals mg) (c : SaysQ prg.main.file ex fns sups K) :
    ∃ fd : FuncData, (∀ (s : Shared) (v : Value), BindsTo s fd ⟨[v], []⟩ [("_law_script", v)]) ∧ ∀ base : Heap, (∀ p ∈ csOf tf K, TabB base mg p.1 p.2) → FnOk prg w K mg base (L2.CX prg w) 53 (gAd "law" K) fd ["_law_script"] (spF K (cad w K) 1 f_law) := by
  have fct : ∀ {i : Nat} {f : He.Fa}, fa[i]? = some f → f.ok K = true := fun e => List.all_eq_true.mp (He.ba c.ex).1 _ (List.mem_of_getElem? e)
  have ext : ∀ {i : Nat} {b : Bool}, (exs K)[i]? = some b → b = true := fun e => List.all_eq_true.mp (He.ba c.ex).2 _ (List.mem_of_getElem? e)
  have hca : CaN K (cad w K) := caOf_n
  have z_len : mg "len" = none := He.free_ok X G (fct (i := 0) rfl)
  have z_all : mg "all" = none := He.free_ok X G (fct (i := 1) rfl)
  have z_any : mg "any" = none := He.free_ok X G (fct (i := 2) rfl)
  have z_range : mg "range" = none := He.free_ok X G (fct (i := 3) rfl)
  have z_int : mg "int" = none := He.free_ok X G (fct (i := 4) rfl)
  have z_abs : mg "abs" = none := He.free_ok X G (fct (i := 5) rfl)
  have z_isinstance : mg "isinstance" = none := He.free_ok X G (fct (i := 6) rfl)
  have z_str : mg "str" = none := He.free_ok X G (fct (i := 7) rfl)
  have z_repr : mg "repr" = none := He.free_ok X G (fct (i := 8) rfl)
  have z_list : mg "list" = none := He.free_ok X G (fct (i := 9) rfl)
  have z_tuple : mg "tuple" = none := He.free_ok X G (fct (i := 10) rfl)
  have z_bool : mg "bool" = none := He.free_ok X G (fct (i := 11) rfl)
  have z_sorted : mg "sorted" = none := He.free_ok X G (fct (i := 12) rfl)
  have z_enumerate : mg "enumerate" = none := He.free_ok X G (fct (i := 13) rfl)
  have z_super : mg "super" = none := He.free_ok X G (fct (i := 14) rfl)
  have z_sum : mg "sum" = none := He.free_ok X G (fct (i := 15) rfl)
  have z_min : mg "min" = none := He.free_ok X G (fct (i := 16) rfl)
  have z_max : mg "max" = none := He.free_ok X G (fct (i := 17) rfl)
  have z_zip : mg "zip" = none := He.free_ok X G (fct (i := 18) rfl)
  have g_Schema : mg "Schema" = some (.ref (He.ga K "Schema")) := He.glo_ok X G (fct (i := 20) rfl)
  have g_Shape : mg "Shape" = some (.ref (He.ga K "Shape")) := He.glo_ok X G (fct (i := 22) rfl)
  have g_InvalidRelation : mg "InvalidRelation" = some (.ref (He.ga K "InvalidRelation")) := He.glo_ok X G (fct (i := 29) rfl)
  have g_InvalidSize : mg "InvalidSize" = some (.ref (He.ga K "InvalidSize")) := He.glo_ok X G (fct (i := 30) rfl)
  have g_InvalidRow : mg "InvalidRow" = some (.ref (He.ga K "InvalidRow")) := He.glo_ok X G (fct (i := 31) rfl)
  have g_is_number : mg "is_number" = some (.ref (He.ga K "is_number")) := He.glo_ok X G (fct (i := 32) rfl)
  have g_is_word : mg "is_word" = some (.ref (He.ga K "is_word")) := He.glo_ok X G (fct (i := 33) rfl)
  have g_is_row : mg "is_row" = some (.ref (He.ga K "is_row")) := He.glo_ok X G (fct (i := 37) rfl)
  have g__law_feed : mg "_law_feed" = some (.ref (He.ga K "_law_feed")) := He.glo_ok X G (fct (i := 42) rfl)
  have g__law_draw : mg "_law_draw" = some (.ref (He.ga K "_law_draw")) := He.glo_ok X G (fct (i := 43) rfl)
  have g__law_any : mg "_law_any" = some (.ref (He.ga K "_law_any")) := He.glo_ok X G (fct (i := 44) rfl)
  have g__law_pairs : mg "_law_pairs" = some (.ref (He.ga K "_law_pairs")) := He.glo_ok X G (fct (i := 45) rfl)
  have g__law_rows : mg "_law_rows" = some (.ref (He.ga K "_law_rows")) := He.glo_ok X G (fct (i := 46) rfl)
  have g__law_like : mg "_law_like" = some (.ref (He.ga K "_law_like")) := He.glo_ok X G (fct (i := 47) rfl)
  have g__law_is_shape : mg "_law_is_shape" = some (.ref (He.ga K "_law_is_shape")) := He.glo_ok X G (fct (i := 49) rfl)
  have g__law_fields : mg "_law_fields" = some (.ref (He.ga K "_law_fields")) := He.glo_ok X G (fct (i := 50) rfl)
  have g__law_told : mg "_law_told" = some (.ref (He.ga K "_law_told")) := He.glo_ok X G (fct (i := 51) rfl)
  have g_CountError : mg "CountError" = some (.ref (He.ga K "CountError")) := He.glo_ok X G (fct (i := 52) rfl)
  have g_Missing : mg "Missing" = some (.ref (He.ga K "Missing")) := He.glo_ok X G (fct (i := 53) rfl)
  have g_NothingLeft : mg "NothingLeft" = some (.ref (He.ga K "NothingLeft")) := He.glo_ok X G (fct (i := 54) rfl)
  have H : Fx w K mg := ⟨z_len, z_all, z_any, z_range, z_int, z_abs, z_isinstance, z_str, z_repr, z_list, z_tuple, z_sorted, z_enumerate, z_sum, z_min, z_max, z_zip, tab_ok hca (ext (i := 20) rfl), owns_ok hca (ext (i := 21) rfl)⟩
  obtain ⟨fd_is_number, F_is_number⟩ := c.fn 0 _ rfl
  obtain ⟨fd_is_word, F_is_word⟩ := c.fn 1 _ rfl
  obtain ⟨fd_init, F_init⟩ := c.fn 2 _ rfl
  obtain ⟨fd_columns, F_columns⟩ := c.fn 3 _ rfl
  obtain ⟨fd_contains, F_contains⟩ := c.fn 4 _ rfl
  obtain ⟨fd_is_row, F_is_row⟩ := c.fn 5 _ rfl
  obtain ⟨fd_sinit, F_sinit⟩ := c.fn 6 _ rfl
  obtain ⟨fd_schema, F_schema⟩ := c.fn 7 _ rfl
  obtain ⟨fd_nodes, F_nodes⟩ := c.fn 8 _ rfl
  obtain ⟨fd_rows, F_rows⟩ := c.fn 9 _ rfl
  obtain ⟨fd_key, F_key⟩ := c.fn 10 _ rfl
  obtain ⟨fd_with_rows, F_with_rows⟩ := c.fn 11 _ rfl
  obtain ⟨fd__law_feed, F__law_feed⟩ := c.fn 12 _ rfl
  obtain ⟨fd__law_draw, F__law_draw⟩ := c.fn 13 _ rfl
  obtain ⟨fd__law_any, F__law_any⟩ := c.fn 14 _ rfl
  obtain ⟨fd__law_pairs, F__law_pairs⟩ := c.fn 15 _ rfl
  obtain ⟨fd__law_rows, F__law_rows⟩ := c.fn 16 _ rfl
  obtain ⟨fd__law_like, F__law_like⟩ := c.fn 17 _ rfl
  obtain ⟨fd_eq, F_eq⟩ := c.fn 18 _ rfl
  obtain ⟨fd__law_is_shape, F__law_is_shape⟩ := c.fn 19 _ rfl
  obtain ⟨fd__law_fields, F__law_fields⟩ := c.fn 20 _ rfl
  obtain ⟨fd__law_told, F__law_told⟩ := c.fn 21 _ rfl
  obtain ⟨fd_law, F_law⟩ := c.fn 22 _ rfl
  have b_law_ := FunD.bindsA (ps := ["_law_script"]) F_law fun _ _ _ _ _ _ us hl => match us, hl with | [_], _ => rfl
  refine ⟨fd_law, fun s v => b_law_ s [v] rfl, fun base hTB => ?_⟩
  have TB : TabB base mg (cdAt K (gAd "law" K)) (tbAt K (gAd "law" K)) := hTB _ (List.mem_singleton.mpr rfl)
  have gl_LARGE : At prg w K mg base fun X => GlC X (cad w K) "LARGE" (.str "ABCDEFGHIJKLMNOPQRSTUVWXYZ") := gstrAt (He.str_ok X G (fct (i := 19) rfl))
  have e_Schema : (cad w K) "Schema" = some (He.ga K "Schema") := rfl
  have sf_Schema := ext (i := 0) rfl
  have kc_Schema := fct (i := 21) rfl
  have t_Schema : At prg w K mg base fun X => NmTy X (cad w K) "Schema" (.inr "Schema") := nmOwnAt e_Schema g_Schema
  have e_Shape : (cad w K) "Shape" = some (He.ga K "Shape") := rfl
  have sf_Shape := ext (i := 1) rfl
  have kc_Shape := fct (i := 23) rfl
  have t_Shape : At prg w K mg base fun X => NmTy X (cad w K) "Shape" (.inr "Shape") := nmOwnAt e_Shape g_Shape
  have t_int : At prg w K mg base fun X => NmTy X (cad w K) "int" (.inl "int") := nmTyAt z_int (by decide +kernel) (by decide)
  have t_bool : At prg w K mg base fun X => NmTy X (cad w K) "bool" (.inl "bool") := nmTyAt z_bool (by decide +kernel) (by decide)
  have t_str : At prg w K mg base fun X => NmTy X (cad w K) "str" (.inl "str") := nmTyAt z_str (by decide +kernel) (by decide)
  have t_list : At prg w K mg base fun X => NmTy X (cad w K) "list" (.inl "list") := nmTyAt z_list (by decide +kernel) (by decide)
  have t_tuple : At prg w K mg base fun X => NmTy X (cad w K) "tuple" (.inl "tuple") := nmTyAt z_tuple (by decide +kernel) (by decide)
  have at_by_name : At prg w K mg base fun X => AtOk X (cad w K) 0 a_by_name "by_name" := fldAt hca (by show ((_ && _) && true) = true; rw [kc_Schema, fct (i := 24) rfl]; rfl)
  have at_plan : At prg w K mg base fun X => AtOk X (cad w K) 0 a_plan "plan" := fldAt hca (by show ((_ && _) && true) = true; rw [kc_Shape, fct (i := 25) rfl]; rfl)
  have at_many : At prg w K mg base fun X => AtOk X (cad w K) 0 a_many "many" := fldAt hca (by show ((_ && _) && true) = true; rw [kc_Shape, fct (i := 26) rfl]; rfl)
  have at_row_list : At prg w K mg base fun X => AtOk X (cad w K) 0 a_row_list "row_list" := fldAt hca (by show ((_ && _) && true) = true; rw [kc_Shape, fct (i := 27) rfl]; rfl)
  have at_known_rows : At prg w K mg base fun X => AtOk X (cad w K) 0 a_known_rows "known_rows" := fldAt hca (by show ((_ && _) && true) = true; rw [kc_Shape, fct (i := 28) rfl]; rfl)
  have con_Schema_MOST : At prg w K mg base fun X => ConOk X (cad w K) "Schema" "MOST" (conV (.inl 4)) := conAt (ext (i := 2) rfl) g_Schema
  have con_Schema_MAX_COLUMNS : At prg w K mg base fun X => ConOk X (cad w K) "Schema" "MAX_COLUMNS" (conV (.inl 3)) := conAt (ext (i := 3) rfl) g_Schema
  have con_Schema_MAX_LETTERS : At prg w K mg base fun X => ConOk X (cad w K) "Schema" "MAX_LETTERS" (conV (.inl 3)) := conAt (ext (i := 4) rfl) g_Schema
  have con_Shape_MOST : At prg w K mg base fun X => ConOk X (cad w K) "Shape" "MOST" (conV (.inl 60)) := conAt (ext (i := 5) rfl) g_Shape
  have ra_InvalidRelation : At prg w K mg base fun X => RaiseOk X (cad w K) 2 "InvalidRelation" "InvalidRelation" 1 fl_InvalidRelation := by
    have D := c.sp 0 _ rfl
    exact raiseAt (N := ["self", "at", "__class__"]) (ps := ["self", "at"]) (t := tSeq (tOst K "at" (tVar 0) (tVar 1)) (tSeq (tOst K "code" (tVar 0) (tC (.str "InvalidRelation"))) tNext)) D (ext (i := 6) rfl) rfl (by decide +kernel) z_super g_InvalidRelation rfl rfl (nscope_by (by decide +kernel)) rfl rfl rfl rfl
      (fun env h => by unfold interactive; rw [h]; rfl) (fun env h => rfl) (fun env => ⟨_, rfl⟩)
      (fun q body cl kV doc pm an cdv ct us hl => match us, hl with | [_, _], _ => rfl)
      (fun cc cda f A outer s H E => pss_cons (ps_ost (pe_var (i := 0) rfl (.inl rfl)) (pe_var (i := 1) rfl (.inl rfl)) rfl) (pss_cons (ps_ost (pe_var (i := 0) rfl (.inl rfl)) pe_str rfl) pss_nil))
      (fun T a ws H Q hl ea q => match ws, hl with | [_], _ => read2 T (of_decide_eq_true (ext (i := 7) rfl)) (of_decide_eq_true (ext (i := 8) rfl)) ea q)
  have ra_InvalidSize : At prg w K mg base fun X => RaiseOk X (cad w K) 2 "InvalidSize" "InvalidSize" 1 fl_InvalidSize := by
    have D := c.sp 1 _ rfl
    exact raiseAt (N := ["self", "given", "__class__"]) (ps := ["self", "given"]) (t := tSeq (tOst K "given" (tVar 0) (tVar 1)) (tSeq (tOst K "code" (tVar 0) (tC (.str "InvalidSize"))) tNext)) D (ext (i := 9) rfl) rfl (by decide +kernel) z_super g_InvalidSize rfl rfl (nscope_by (by decide +kernel)) rfl rfl rfl rfl
      (fun env h => by unfold interactive; rw [h]; rfl) (fun env h => rfl) (fun env => ⟨_, rfl⟩)
      (fun q body cl kV doc pm an cdv ct us hl => match us, hl with | [_, _], _ => rfl)
      (fun cc cda f A outer s H E => pss_cons (ps_ost (pe_var (i := 0) rfl (.inl rfl)) (pe_var (i := 1) rfl (.inl rfl)) rfl) (pss_cons (ps_ost (pe_var (i := 0) rfl (.inl rfl)) pe_str rfl) pss_nil))
      (fun T a ws H Q hl ea q => match ws, hl with | [_], _ => read2 T (of_decide_eq_true (ext (i := 10) rfl)) (of_decide_eq_true (ext (i := 11) rfl)) ea q)
  have ra_InvalidRow : At prg w K mg base fun X => RaiseOk X (cad w K) 2 "InvalidRow" "InvalidRow" 1 fl_InvalidRow := by
    have D := c.sp 2 _ rfl
    exact raiseAt (N := ["self", "at", "__class__"]) (ps := ["self", "at"]) (t := tSeq (tOst K "at" (tVar 0) (tVar 1)) (tSeq (tOst K "code" (tVar 0) (tC (.str "InvalidRow"))) tNext)) D (ext (i := 12) rfl) rfl (by decide +kernel) z_super g_InvalidRow rfl rfl (nscope_by (by decide +kernel)) rfl rfl rfl rfl
      (fun env h => by unfold interactive; rw [h]; rfl) (fun env h => rfl) (fun env => ⟨_, rfl⟩)
      (fun q body cl kV doc pm an cdv ct us hl => match us, hl with | [_, _], _ => rfl)
      (fun cc cda f A outer s H E => pss_cons (ps_ost (pe_var (i := 0) rfl (.inl rfl)) (pe_var (i := 1) rfl (.inl rfl)) rfl) (pss_cons (ps_ost (pe_var (i := 0) rfl (.inl rfl)) pe_str rfl) pss_nil))
      (fun T a ws H Q hl ea q => match ws, hl with | [_], _ => read2 T (of_decide_eq_true (ext (i := 13) rfl)) (of_decide_eq_true (ext (i := 14) rfl)) ea q)
  have b_is_number_ : L2.Binds K fd_is_number ["value", "least", "most"] [] := F_is_number.bindsN fun _ _ _ _ _ _ us hl => match us, hl with | [_, _, _], _ => rfl
  have O_is_number := fn_ok (P := prg) (w := w) (mg := mg) (base := base) (ca := cad w K) F_is_number sc_is_number fun cdv A outer s Hh E hr => b_is_number H t_int t_bool hr
  have c_is_number := call_at (dfs := []) O_is_number g_is_number F_is_number.kp b_is_number_ .nil .nil
  have b_is_word_ : L2.Binds K fd_is_word ["value", "letters", "most"] [] := F_is_word.bindsN fun _ _ _ _ _ _ us hl => match us, hl with | [_, _, _], _ => rfl
  have O_is_word := fn_ok (P := prg) (w := w) (mg := mg) (base := base) (ca := cad w K) F_is_word sc_is_word fun cdv A outer s Hh E hr => b_is_word H t_str hr
  have c_is_word := call_at (dfs := []) O_is_word g_is_word F_is_word.kp b_is_word_ .nil .nil
  have b_init_ : L2.Binds K fd_init ["self", "relations"] [] := F_init.bindsN fun _ _ _ _ _ _ us hl => match us, hl with | [_, _], _ => rfl
  have O_init := fn_ok (P := prg) (w := w) (mg := mg) (base := base) (ca := cad w K) F_init sc_init fun cdv A outer s Hh E hr => b_init H at_by_name ra_InvalidRelation con_Schema_MAX_COLUMNS c_is_number con_Schema_MOST con_Schema_MAX_LETTERS gl_LARGE c_is_word hr
  have mk_Schema_1 : At prg w K mg base fun X => MakeOk X (cad w K) 9 "Schema" "Schema" k_Schema_1 := makAt e_Schema g_Schema (fct (i := 34) rfl) O_init b_init_ .nil .nil
  have b_columns_ : L2.Binds K fd_columns ["self", "name"] [] := F_columns.bindsN fun _ _ _ _ _ _ us hl => match us, hl with | [_, _], _ => rfl
  have O_columns := fn_ok (P := prg) (w := w) (mg := mg) (base := base) (ca := cad w K) F_columns sc_columns fun cdv A outer s Hh E hr => b_columns H at_by_name hr
  have om_columns : At prg w K mg base fun X => ∀ c i, o_columns.lookup c = some i → MetOk X (cad w K) 11 c "columns" i := metAt (i := i_columns) e_Schema kc_Schema (fct (i := 35) rfl) O_columns b_columns_ .nil .nil
  have b_contains_ : L2.Binds K fd_contains ["self", "name"] [] := F_contains.bindsN fun _ _ _ _ _ _ us hl => match us, hl with | [_, _], _ => rfl
  have O_contains := fn_ok (P := prg) (w := w) (mg := mg) (base := base) (ca := cad w K) F_contains sc_contains fun cdv A outer s Hh E hr => b_contains H at_by_name hr
  have d_contains : At prg w K mg base fun X => DunOk X (cad w K) 13 "Schema" "__contains__" 2 f_contains := dunAt e_Schema sf_Schema (fct (i := 36) rfl) O_contains b_contains_
  have inT : At prg w K mg base fun X => Room 13 X.A → OpsOk X (cad w K) (compareOp .In) inT := inAt (by decide) d_contains
  have notinT : At prg w K mg base fun X => Room 13 X.A → OpsOk X (cad w K) (compareOp .NotIn) notinT := notInAt (by decide) d_contains
  have b_is_row_ : L2.Binds K fd_is_row ["schema", "nodes", "row"] [] := F_is_row.bindsN fun _ _ _ _ _ _ us hl => match us, hl with | [_, _, _], _ => rfl
  have O_is_row := fn_ok (P := prg) (w := w) (mg := mg) (base := base) (ca := cad w K) F_is_row sc_is_row fun cdv A outer s Hh E hr => b_is_row H c_is_number notinT om_columns hr
  have c_is_row := call_at (dfs := []) O_is_row g_is_row F_is_row.kp b_is_row_ .nil .nil
  have O_sinit := fn_ok (P := prg) (w := w) (mg := mg) (base := base) (ca := cad w K) F_sinit sc_sinit fun cdv A outer s Hh E hr => b_sinit H at_known_rows at_row_list at_many at_plan c_is_row ra_InvalidRow con_Shape_MOST c_is_number ra_InvalidSize hr
  have F_sinit_ : FunD K "__init__" "Shape.__init__" (defArgs (sub 17 1)) (defBody (sub 17 1)) (defScope (sub 17 1)) [V.ref (dAt "Shape" "__init__" 0 K)] [] (mAd "Shape" "__init__" K) fd_sinit := F_sinit
  have b_sinit_ : L2.Binds K fd_sinit ["self", "schema", "nodes", "rows"] [] := by obtain ⟨ds, v, b⟩ : ∃ ds, Vals [] ds ∧ L2.Binds K fd_sinit ["self", "schema", "nodes", "rows"] ds := F_sinit_.binds1 4 1 (List.cons_ne_nil _ _) rfl fun T kV doc pm an cdv ct us its h1 h2 => match us, its, h1, h2 with | [_, _, _, _], [_], _, _ => ⟨_, rfl, by rfl⟩; cases v; exact b
  obtain ⟨ds1, v1, b_sinit1⟩ : ∃ ds, Vals [V.ref (dAt "Shape" "__init__" 0 K)] ds ∧ L2.Binds K fd_sinit ["self", "schema", "nodes", "rows"] ds := F_sinit_.binds1 3 0 (List.cons_ne_nil _ _) rfl fun T kV doc pm an cdv ct us its h1 h2 => match us, its, h1, h2 with | [_, _, _], [_], _, _ => ⟨_, rfl, by rfl⟩
  have mk_Shape_3 : At prg w K mg base fun X => MakeOk X (cad w K) 17 "Shape" "Shape" k_Shape_3 := makAt e_Shape g_Shape (fct (i := 38) rfl) O_sinit b_sinit_ .nil .nil
  have mk_Shape_2 : At prg w K mg base fun X => MakeOk X (cad w K) 17 "Shape" "Shape" k_Shape_2 := makAt e_Shape g_Shape (fct (i := 38) rfl) O_sinit b_sinit1 v1 (etup_rep (ext (i := 15) rfl))
  have b_schema_ : L2.Binds K fd_schema ["self"] [] := F_schema.bindsN fun _ _ _ _ _ _ us hl => match us, hl with | [_], _ => rfl
  have O_schema := fn_ok (P := prg) (w := w) (mg := mg) (base := base) (ca := cad w K) F_schema sc_schema fun cdv A outer s Hh E hr => b_schema H at_plan hr
  have at_schema := propAt (mg := mg) e_Shape kc_Shape (ext (i := 16) rfl) O_schema b_schema_
  have b_nodes_ : L2.Binds K fd_nodes ["self"] [] := F_nodes.bindsN fun _ _ _ _ _ _ us hl => match us, hl with | [_], _ => rfl
  have O_nodes := fn_ok (P := prg) (w := w) (mg := mg) (base := base) (ca := cad w K) F_nodes sc_nodes fun cdv A outer s Hh E hr => b_nodes H at_many hr
  have at_nodes := propAt (mg := mg) e_Shape kc_Shape (ext (i := 17) rfl) O_nodes b_nodes_
  have b_rows_ : L2.Binds K fd_rows ["self"] [] := F_rows.bindsN fun _ _ _ _ _ _ us hl => match us, hl with | [_], _ => rfl
  have O_rows := fn_ok (P := prg) (w := w) (mg := mg) (base := base) (ca := cad w K) F_rows sc_rows fun cdv A outer s Hh E hr => b_rows H at_row_list hr
  have om_rows : At prg w K mg base fun X => ∀ c i, o_rows.lookup c = some i → MetOk X (cad w K) 23 c "rows" i := metAt (i := i_rows) e_Shape kc_Shape (fct (i := 39) rfl) O_rows b_rows_ .nil .nil
  have b_key_ : L2.Binds K fd_key ["self"] [] := F_key.bindsN fun _ _ _ _ _ _ us hl => match us, hl with | [_], _ => rfl
  have O_key := fn_ok (P := prg) (w := w) (mg := mg) (base := base) (ca := cad w K) F_key sc_key fun cdv A outer s Hh E hr => b_key H at_row_list at_many hr
  have om_key : At prg w K mg base fun X => ∀ c i, o_key.lookup c = some i → MetOk X (cad w K) 25 c "key" i := metAt (i := i_key) e_Shape kc_Shape (fct (i := 40) rfl) O_key b_key_ .nil .nil
  have b_with_rows_ : L2.Binds K fd_with_rows ["self", "rows"] [] := F_with_rows.bindsN fun _ _ _ _ _ _ us hl => match us, hl with | [_, _], _ => rfl
  have O_with_rows := fn_ok (P := prg) (w := w) (mg := mg) (base := base) (ca := cad w K) F_with_rows sc_with_rows fun cdv A outer s Hh E hr => b_with_rows H at_row_list at_many at_plan mk_Shape_3 c_is_row ra_InvalidRow hr
  have om_with_rows : At prg w K mg base fun X => ∀ c i, o_with_rows.lookup c = some i → MetOk X (cad w K) 27 c "with_rows" i := metAt (i := i_with_rows) e_Shape kc_Shape (fct (i := 41) rfl) O_with_rows b_with_rows_ .nil .nil
  have b__law_feed_ : L2.Binds K fd__law_feed ["_law_script"] [] := F__law_feed.bindsN fun _ _ _ _ _ _ us hl => match us, hl with | [_], _ => rfl
  have O__law_feed := fn_ok (P := prg) (w := w) (mg := mg) (base := base) (ca := cad w K) F__law_feed sc__law_feed fun cdv A outer s Hh E hr => b__law_feed H hr
  have c__law_feed := call_at (dfs := []) O__law_feed g__law_feed F__law_feed.kp b__law_feed_ .nil .nil
  have b__law_draw_ : L2.Binds K fd__law_draw ["_law_feed_here", "_law_many"] [] := F__law_draw.bindsN fun _ _ _ _ _ _ us hl => match us, hl with | [_, _], _ => rfl
  have O__law_draw := fn_ok (P := prg) (w := w) (mg := mg) (base := base) (ca := cad w K) F__law_draw sc__law_draw fun cdv A outer s Hh E hr => b__law_draw H hr
  have c__law_draw := call_at (dfs := []) O__law_draw g__law_draw F__law_draw.kp b__law_draw_ .nil .nil
  have b__law_any_ : L2.Binds K fd__law_any ["_law_feed_here", "_law_choices"] [] := F__law_any.bindsN fun _ _ _ _ _ _ us hl => match us, hl with | [_, _], _ => rfl
  have O__law_any := fn_ok (P := prg) (w := w) (mg := mg) (base := base) (ca := cad w K) F__law_any sc__law_any fun cdv A outer s Hh E hr => b__law_any H c__law_draw hr
  have c__law_any := call_at (dfs := []) O__law_any g__law_any F__law_any.kp b__law_any_ .nil .nil
  have b__law_pairs_ : L2.Binds K fd__law_pairs ["_law_feed_here", "_law_top"] [] := F__law_pairs.bindsN fun _ _ _ _ _ _ us hl => match us, hl with | [_, _], _ => rfl
  have O__law_pairs := fn_ok (P := prg) (w := w) (mg := mg) (base := base) (ca := cad w K) F__law_pairs sc__law_pairs fun cdv A outer s Hh E hr => b__law_pairs H c__law_draw c__law_any hr
  have c__law_pairs := call_at (dfs := []) O__law_pairs g__law_pairs F__law_pairs.kp b__law_pairs_ .nil .nil
  have b__law_rows_ : L2.Binds K fd__law_rows ["_law_feed_here", "_law_pairs_here", "_law_nodes", "_law_top"] [] := F__law_rows.bindsN fun _ _ _ _ _ _ us hl => match us, hl with | [_, _, _, _], _ => rfl
  have O__law_rows := fn_ok (P := prg) (w := w) (mg := mg) (base := base) (ca := cad w K) F__law_rows sc__law_rows fun cdv A outer s Hh E hr => b__law_rows H c__law_draw c__law_any hr
  have c__law_rows := call_at (dfs := []) O__law_rows g__law_rows F__law_rows.kp b__law_rows_ .nil .nil
  have b__law_like_ : L2.Binds K fd__law_like ["_law_found", "_law_due"] [] := F__law_like.bindsN fun _ _ _ _ _ _ us hl => match us, hl with | [_, _], _ => rfl
  have O__law_like0 : FnOk prg w K mg base (L2.CX prg w) 38 (gAd "_law_like" K) fd__law_like ["_law_found", "_law_due"] (spF K (cad w K) 2 fun _ => .stuck) := fn_none
  have c__law_like0 := call_at (dfs := []) O__law_like0 g__law_like F__law_like.kp b__law_like_ .nil .nil
  have O__law_like1 := fn_ok (P := prg) (w := w) (mg := mg) (base := base) (ca := cad w K) F__law_like sc__law_like fun cdv A outer s Hh E hr => b__law_like H t_list t_tuple t_bool c__law_like0 hr
  have c__law_like1 := call_at (dfs := []) O__law_like1 g__law_like F__law_like.kp b__law_like_ .nil .nil
  have O__law_like2 := fn_ok (P := prg) (w := w) (mg := mg) (base := base) (ca := cad w K) F__law_like sc__law_like fun cdv A outer s Hh E hr => b__law_like H t_list t_tuple t_bool c__law_like1 hr
  have c__law_like2 := call_at (dfs := []) O__law_like2 g__law_like F__law_like.kp b__law_like_ .nil .nil
  have O__law_like3 := fn_ok (P := prg) (w := w) (mg := mg) (base := base) (ca := cad w K) F__law_like sc__law_like fun cdv A outer s Hh E hr => b__law_like H t_list t_tuple t_bool c__law_like2 hr
  have c__law_like3 := call_at (dfs := []) O__law_like3 g__law_like F__law_like.kp b__law_like_ .nil .nil
  have O__law_like4 := fn_ok (P := prg) (w := w) (mg := mg) (base := base) (ca := cad w K) F__law_like sc__law_like fun cdv A outer s Hh E hr => b__law_like H t_list t_tuple t_bool c__law_like3 hr
  have c__law_like4 := call_at (dfs := []) O__law_like4 g__law_like F__law_like.kp b__law_like_ .nil .nil
  have O__law_like5 := fn_ok (P := prg) (w := w) (mg := mg) (base := base) (ca := cad w K) F__law_like sc__law_like fun cdv A outer s Hh E hr => b__law_like H t_list t_tuple t_bool c__law_like4 hr
  have c__law_like5 := call_at (dfs := []) O__law_like5 g__law_like F__law_like.kp b__law_like_ .nil .nil
  have c__law_like : At prg w K mg base fun X => Call1 X (cad w K) 45 "_law_like" 2 r__law_like [] := c__law_like5.imp fun X _ h => h.mono (by decide)
  have b_eq_ : L2.Binds K fd_eq ["self", "other"] [] := F_eq.bindsN fun _ _ _ _ _ _ us hl => match us, hl with | [_, _], _ => rfl
  have O_eq := fn_ok (P := prg) (w := w) (mg := mg) (base := base) (ca := cad w K) F_eq sc_eq fun cdv A outer s Hh E hr => b_eq H t_Schema at_by_name hr
  have d_eq : At prg w K mg base fun X => DunOk X (cad w K) 47 "Schema" "__eq__" 2 f_eq := dunAt e_Schema sf_Schema (fct (i := 48) rfl) O_eq b_eq_
  have eqT : At prg w K mg base fun X => Room 48 X.A → OpsOk X (cad w K) (compareOp .Eq) eqT := eqAt (by decide) hca d_eq (ext (i := 18) rfl)
  have b__law_is_shape_ : L2.Binds K fd__law_is_shape ["_law_found", "_law_here", "_law_model"] [] := F__law_is_shape.bindsN fun _ _ _ _ _ _ us hl => match us, hl with | [_, _, _], _ => rfl
  have O__law_is_shape := fn_ok (P := prg) (w := w) (mg := mg) (base := base) (ca := cad w K) F__law_is_shape sc__law_is_shape fun cdv A outer s Hh E hr => b__law_is_shape H om_rows c__law_like at_schema eqT t_Shape om_key at_nodes hr
  have c__law_is_shape := call_at (dfs := []) O__law_is_shape g__law_is_shape F__law_is_shape.kp b__law_is_shape_ .nil .nil
  have b_fl_ : L2.Binds K fd__law_fields ["_law_e"] [] := F__law_fields.bindsN fun _ _ _ _ _ _ us hl => match us, hl with | [_], _ => rfl
  have b_tl_ : L2.Binds K fd__law_told ["_law_deed"] [] := F__law_told.bindsN fun _ _ _ _ _ _ us hl => match us, hl with | [_], _ => rfl
  have tld : At prg w K mg base fun X => LamOk X (cad w K) 49 "_law_told" ["InvalidSize", "InvalidRow"] := lamOkAt hca (by decide) F__law_fields flds_scope flds b_fl_ g__law_fields F__law_told rfl told_scope b_tl_ g__law_told rfl rfl rfl rfl rfl rfl g_CountError g_Missing g_NothingLeft (ext (i := 19) rfl)
  have O_law := fn_okT (P := prg) (w := w) (mg := mg) (base := base) (ca := cad w K) F_law sc_law fun A outer s Hh E hr => b_law H TB mk_Shape_2 tld mk_Shape_3 c__law_draw c__law_any c__law_is_shape om_with_rows c__law_rows mk_Schema_1 c__law_pairs c__law_feed hr
  exact O_law
theorem glo_law (K : PySem.W.Frag) (c : SaysP ex fns K) : (He.Fa.glo "law").ok K = true := List.all_eq_true.mp (He.ba c.ex).1 _ (List.mem_of_getElem? (i := 55) rfl)
end K07

set_option maxHeartbeats 8000000
/-! K07s: schemas. -/
namespace K07
open Pw Lw Lx
theorem ti_ii : isAny isTab (.inl "int") [.inl "int"] = some true := by decide +kernel
theorem ti_ib : isAny isTab (.inl "int") [.inl "bool"] = some false := by decide +kernel
theorem ti_ss : isAny isTab (.inl "str") [.inl "str"] = some true := by decide +kernel
theorem v_isnum (i a b : Int) : f_is_number [I i, I a, I b] = .ok (.val (.bl (decide (a ≤ i) && decide (i ≤ b)))) [I i, I a, I b] := by
  by_cases h : a ≤ i
  · simp [f_is_number, m_is_number, Pw.runF, Pw.startE, Pw.mSeq, Pw.mSkip, Pw.mExpr, Pw.mRet, Pw.mRetN, Pw.mIfS, Pw.mSet, Pw.setSlot, Pw.mPar, Pw.mPar3, Pw.mAsgT, Pw.tgOut_nm, Pw.tgOut_tp2, Pw.tgOut_tp3, Pw.tgSet_nm, Pw.tgSet_tp2, Pw.mCons, Pw.mNil, Pw.mC, Pw.mVar, Pw.mOp2, Pw.mOp, Pw.mUn, Pw.mUn2, Pw.unBoth, Pw.unOwn, Pw.unOut, Pw.opOut, Pw.opBoth, Pw.opOwn, Pw.opFind, Pw.resOut, Pw.opArgs, Pw.tyD, Pw.isObjR, Pw.mTst, Pw.mTru, Pw.truOut, Pw.truD, Pw.boolOut, Pw.mIf, Pw.mAndT, Pw.mOrT, Pw.mNotT, Pw.mAndV, Pw.mOrV, Pw.mNotV, Pw.norm, Pw.view, Pw.views, Pw.callOut, Pw.mCallB, Pw.mCallO, Pw.call1Both, Pw.chkAny, Pw.share, Pw.shareAll, Pw.putSlot, Pw.fs_val, Pw.fs_none, Pw.fs_own, Pw.retOut, Pw.mergeP, Pw.isOwn, Pw.mCall, Pw.callD, Pw.callOn, Pw.prep, Pw.prep1, Pw.agOk, Pw.penv, Pw.agSlot, Pw.callEnd, Pw.back, Pw.retB, Pw.mMake, Pw.makeD, Pw.makeOn, Pw.makeEnd, Pw.mAttr, Pw.attrOut, Pw.noExn, Pw.mMethO, Pw.methO, Pw.mStatic, Pw.statOut, Pw.mIsi, Pw.isiOut, Pw.isD, Pw.mTup, Pw.mLst, Pw.mSetSub, Pw.subOut, Pw.mSetFld, Pw.fldOut, Pw.putD, Pw.Ct.toD, Pw.gtD, Pw.ltD, Pw.addD, Pw.subD, Pw.mulD, Pw.fdivD, Pw.modD, Pw.negD, Pw.absD, Pw.intD, Pw.lenD, Pw.mRaise, Pw.mJs, Pw.mFmt, Pw.fmtOut, Pw.idxA, Pw.isDctD, Pw.inA, Pw.notInA, Pw.lenA, Pw.isDcts, Pw.mulA, Pw.isLstD, Pw.listA, Pw.mChainI, Pw.mParF, Pw.mSetSubA, Pw.subOutA, Pw.mNewD, Pw.mWAny, Pw.wkStr, Pw.conV, Pw.dlenD, Pw.mMeth, Pw.methOut, Pw.isTy, Pw.mMut, Pw.mMut0, Pw.isLst, Pw.mutOut, Pw.gAppend, Pw.mLc, Pw.okOwn, Pw.lockE, Pw.unlockE, Pw.wipeE, Pw.restE, Pw.mYes, Pw.Out.bind_ok, nums_nil, nums_v, nums_o, ti_ii, ti_ib, h]
  · simp [f_is_number, m_is_number, Pw.runF, Pw.startE, Pw.mSeq, Pw.mSkip, Pw.mExpr, Pw.mRet, Pw.mRetN, Pw.mIfS, Pw.mSet, Pw.setSlot, Pw.mPar, Pw.mPar3, Pw.mAsgT, Pw.tgOut_nm, Pw.tgOut_tp2, Pw.tgOut_tp3, Pw.tgSet_nm, Pw.tgSet_tp2, Pw.mCons, Pw.mNil, Pw.mC, Pw.mVar, Pw.mOp2, Pw.mOp, Pw.mUn, Pw.mUn2, Pw.unBoth, Pw.unOwn, Pw.unOut, Pw.opOut, Pw.opBoth, Pw.opOwn, Pw.opFind, Pw.resOut, Pw.opArgs, Pw.tyD, Pw.isObjR, Pw.mTst, Pw.mTru, Pw.truOut, Pw.truD, Pw.boolOut, Pw.mIf, Pw.mAndT, Pw.mOrT, Pw.mNotT, Pw.mAndV, Pw.mOrV, Pw.mNotV, Pw.norm, Pw.view, Pw.views, Pw.callOut, Pw.mCallB, Pw.mCallO, Pw.call1Both, Pw.chkAny, Pw.share, Pw.shareAll, Pw.putSlot, Pw.fs_val, Pw.fs_none, Pw.fs_own, Pw.retOut, Pw.mergeP, Pw.isOwn, Pw.mCall, Pw.callD, Pw.callOn, Pw.prep, Pw.prep1, Pw.agOk, Pw.penv, Pw.agSlot, Pw.callEnd, Pw.back, Pw.retB, Pw.mMake, Pw.makeD, Pw.makeOn, Pw.makeEnd, Pw.mAttr, Pw.attrOut, Pw.noExn, Pw.mMethO, Pw.methO, Pw.mStatic, Pw.statOut, Pw.mIsi, Pw.isiOut, Pw.isD, Pw.mTup, Pw.mLst, Pw.mSetSub, Pw.subOut, Pw.mSetFld, Pw.fldOut, Pw.putD, Pw.Ct.toD, Pw.gtD, Pw.ltD, Pw.addD, Pw.subD, Pw.mulD, Pw.fdivD, Pw.modD, Pw.negD, Pw.absD, Pw.intD, Pw.lenD, Pw.mRaise, Pw.mJs, Pw.mFmt, Pw.fmtOut, Pw.idxA, Pw.isDctD, Pw.inA, Pw.notInA, Pw.lenA, Pw.isDcts, Pw.mulA, Pw.isLstD, Pw.listA, Pw.mChainI, Pw.mParF, Pw.mSetSubA, Pw.subOutA, Pw.mNewD, Pw.mWAny, Pw.wkStr, Pw.conV, Pw.dlenD, Pw.mMeth, Pw.methOut, Pw.isTy, Pw.mMut, Pw.mMut0, Pw.isLst, Pw.mutOut, Pw.gAppend, Pw.mLc, Pw.okOwn, Pw.lockE, Pw.unlockE, Pw.wipeE, Pw.restE, Pw.mYes, Pw.Out.bind_ok, nums_nil, nums_v, nums_o, ti_ii, ti_ib, h]
/-- is the sign one of the letters -/
def signB (L : PySem.Str) (c : Nat) : Bool := !(PySem.Builtin.Str.occurrences L ⟨#[c]⟩ 0 L.length 1).isEmpty
def wordB (s L : PySem.Str) (m : Int) : Bool := decide (1 ≤ (s.length : Int)) && (decide ((s.length : Int) ≤ m) && s.cps.toList.all (signB L))
theorem in_sign (L : PySem.Str) (c : Nat) : Pw.inD (.str ⟨#[c]⟩) (.str L) = .val (.bl (signB L c)) := rfl
theorem lc_signs (L : PySem.Str) (s m : Sv) : ∀ (cs : List Nat) (acc : List D), acc.length + cs.length ≤ 1000 → lcL (.nm 3) mYes (mOp2 (opOut inA) (mVar 3) (mVar 1)) [3] (cs.map fun c => D.str ⟨#[c]⟩) acc [s, .val (.str L), m, .none] = some (acc ++ cs.map fun c => D.bl (signB L c), [s, .val (.str L), m, .none])
  | [], acc, _ => by simp [lcL]
  | c :: cs, acc, h => by
    have ih := lc_signs L s m cs (acc ++ [.bl (signB L c)]) (by simp only [List.length_append, List.length_cons, List.length_nil] at h ⊢; omega)
    have hz : acc.length < PySem.sizeLine := smallt (by simp only [List.length_cons] at h; omega)
    simp only [List.append_assoc, List.cons_append, List.nil_append] at ih
    simp [lcL, Pw.runF, Pw.startE, Pw.mSeq, Pw.mSkip, Pw.mExpr, Pw.mRet, Pw.mRetN, Pw.mIfS, Pw.mSet, Pw.setSlot, Pw.mPar, Pw.mPar3, Pw.mAsgT, Pw.tgOut_nm, Pw.tgOut_tp2, Pw.tgOut_tp3, Pw.tgSet_nm, Pw.tgSet_tp2, Pw.mCons, Pw.mNil, Pw.mC, Pw.mVar, Pw.mOp2, Pw.mOp, Pw.mUn, Pw.mUn2, Pw.unBoth, Pw.unOwn, Pw.unOut, Pw.opOut, Pw.opBoth, Pw.opOwn, Pw.opFind, Pw.resOut, Pw.opArgs, Pw.tyD, Pw.isObjR, Pw.mTst, Pw.mTru, Pw.truOut, Pw.truD, Pw.boolOut, Pw.mIf, Pw.mAndT, Pw.mOrT, Pw.mNotT, Pw.mAndV, Pw.mOrV, Pw.mNotV, Pw.norm, Pw.view, Pw.views, Pw.callOut, Pw.mCallB, Pw.mCallO, Pw.call1Both, Pw.chkAny, Pw.share, Pw.shareAll, Pw.putSlot, Pw.fs_val, Pw.fs_none, Pw.fs_own, Pw.retOut, Pw.mergeP, Pw.isOwn, Pw.mCall, Pw.callD, Pw.callOn, Pw.prep, Pw.prep1, Pw.agOk, Pw.penv, Pw.agSlot, Pw.callEnd, Pw.back, Pw.retB, Pw.mMake, Pw.makeD, Pw.makeOn, Pw.makeEnd, Pw.mAttr, Pw.attrOut, Pw.noExn, Pw.mMethO, Pw.methO, Pw.mStatic, Pw.statOut, Pw.mIsi, Pw.isiOut, Pw.isD, Pw.mTup, Pw.mLst, Pw.mSetSub, Pw.subOut, Pw.mSetFld, Pw.fldOut, Pw.putD, Pw.Ct.toD, Pw.gtD, Pw.ltD, Pw.addD, Pw.subD, Pw.mulD, Pw.fdivD, Pw.modD, Pw.negD, Pw.absD, Pw.intD, Pw.lenD, Pw.mRaise, Pw.mJs, Pw.mFmt, Pw.fmtOut, Pw.idxA, Pw.isDctD, Pw.inA, Pw.notInA, Pw.lenA, Pw.isDcts, Pw.mulA, Pw.isLstD, Pw.listA, Pw.mChainI, Pw.mParF, Pw.mSetSubA, Pw.subOutA, Pw.mNewD, Pw.mWAny, Pw.wkStr, Pw.conV, Pw.dlenD, Pw.mMeth, Pw.methOut, Pw.isTy, Pw.mMut, Pw.mMut0, Pw.isLst, Pw.mutOut, Pw.gAppend, Pw.mLc, Pw.okOwn, Pw.lockE, Pw.unlockE, Pw.wipeE, Pw.restE, Pw.mYes, Pw.Out.bind_ok, nums_nil, nums_v, nums_o, in_sign, hz, ih]
theorem bools_map {α : Type} (f : α → Bool) : ∀ l : List α, boolsD (l.map fun c => D.bl (f c)) = some (l.map f)
  | [] => rfl
  | x :: l => by simp [boolsD, bools_map f l]
theorem v_isword (s L : PySem.Str) (m : Int) (h : s.length ≤ 1000) : f_is_word [.val (.str s), .val (.str L), I m] = .ok (.val (.bl (wordB s L m))) [.val (.str s), .val (.str L), I m] := by
  have hl : s.cps.toList.length = s.length := by rw [Array.length_toList]; rfl
  have e := lc_signs L (.val (.str s)) (I m) s.cps.toList [] (by rw [hl]; simpa using h)
  have hz : s.length ≤ PySem.sizeLine := small h
  simp only [List.nil_append] at e
  by_cases h1 : 1 ≤ (s.length : Int)
  · by_cases h2 : (s.length : Int) ≤ m
    · simp [f_is_word, m_is_word, Pw.runF, Pw.startE, Pw.mSeq, Pw.mSkip, Pw.mExpr, Pw.mRet, Pw.mRetN, Pw.mIfS, Pw.mSet, Pw.setSlot, Pw.mPar, Pw.mPar3, Pw.mAsgT, Pw.tgOut_nm, Pw.tgOut_tp2, Pw.tgOut_tp3, Pw.tgSet_nm, Pw.tgSet_tp2, Pw.mCons, Pw.mNil, Pw.mC, Pw.mVar, Pw.mOp2, Pw.mOp, Pw.mUn, Pw.mUn2, Pw.unBoth, Pw.unOwn, Pw.unOut, Pw.opOut, Pw.opBoth, Pw.opOwn, Pw.opFind, Pw.resOut, Pw.opArgs, Pw.tyD, Pw.isObjR, Pw.mTst, Pw.mTru, Pw.truOut, Pw.truD, Pw.boolOut, Pw.mIf, Pw.mAndT, Pw.mOrT, Pw.mNotT, Pw.mAndV, Pw.mOrV, Pw.mNotV, Pw.norm, Pw.view, Pw.views, Pw.callOut, Pw.mCallB, Pw.mCallO, Pw.call1Both, Pw.chkAny, Pw.share, Pw.shareAll, Pw.putSlot, Pw.fs_val, Pw.fs_none, Pw.fs_own, Pw.retOut, Pw.mergeP, Pw.isOwn, Pw.mCall, Pw.callD, Pw.callOn, Pw.prep, Pw.prep1, Pw.agOk, Pw.penv, Pw.agSlot, Pw.callEnd, Pw.back, Pw.retB, Pw.mMake, Pw.makeD, Pw.makeOn, Pw.makeEnd, Pw.mAttr, Pw.attrOut, Pw.noExn, Pw.mMethO, Pw.methO, Pw.mStatic, Pw.statOut, Pw.mIsi, Pw.isiOut, Pw.isD, Pw.mTup, Pw.mLst, Pw.mSetSub, Pw.subOut, Pw.mSetFld, Pw.fldOut, Pw.putD, Pw.Ct.toD, Pw.gtD, Pw.ltD, Pw.addD, Pw.subD, Pw.mulD, Pw.fdivD, Pw.modD, Pw.negD, Pw.absD, Pw.intD, Pw.lenD, Pw.mRaise, Pw.mJs, Pw.mFmt, Pw.fmtOut, Pw.idxA, Pw.isDctD, Pw.inA, Pw.notInA, Pw.lenA, Pw.isDcts, Pw.mulA, Pw.isLstD, Pw.listA, Pw.mChainI, Pw.mParF, Pw.mSetSubA, Pw.subOutA, Pw.mNewD, Pw.mWAny, Pw.wkStr, Pw.conV, Pw.dlenD, Pw.mMeth, Pw.methOut, Pw.isTy, Pw.mMut, Pw.mMut0, Pw.isLst, Pw.mutOut, Pw.gAppend, Pw.mLc, Pw.okOwn, Pw.lockE, Pw.unlockE, Pw.wipeE, Pw.restE, Pw.mYes, Pw.Out.bind_ok, nums_nil, nums_v, nums_o, ti_ss, h1, h2, hz, lenD, signsD, e, Pw.allD, bools_map, wordB]
    · simp [f_is_word, m_is_word, Pw.runF, Pw.startE, Pw.mSeq, Pw.mSkip, Pw.mExpr, Pw.mRet, Pw.mRetN, Pw.mIfS, Pw.mSet, Pw.setSlot, Pw.mPar, Pw.mPar3, Pw.mAsgT, Pw.tgOut_nm, Pw.tgOut_tp2, Pw.tgOut_tp3, Pw.tgSet_nm, Pw.tgSet_tp2, Pw.mCons, Pw.mNil, Pw.mC, Pw.mVar, Pw.mOp2, Pw.mOp, Pw.mUn, Pw.mUn2, Pw.unBoth, Pw.unOwn, Pw.unOut, Pw.opOut, Pw.opBoth, Pw.opOwn, Pw.opFind, Pw.resOut, Pw.opArgs, Pw.tyD, Pw.isObjR, Pw.mTst, Pw.mTru, Pw.truOut, Pw.truD, Pw.boolOut, Pw.mIf, Pw.mAndT, Pw.mOrT, Pw.mNotT, Pw.mAndV, Pw.mOrV, Pw.mNotV, Pw.norm, Pw.view, Pw.views, Pw.callOut, Pw.mCallB, Pw.mCallO, Pw.call1Both, Pw.chkAny, Pw.share, Pw.shareAll, Pw.putSlot, Pw.fs_val, Pw.fs_none, Pw.fs_own, Pw.retOut, Pw.mergeP, Pw.isOwn, Pw.mCall, Pw.callD, Pw.callOn, Pw.prep, Pw.prep1, Pw.agOk, Pw.penv, Pw.agSlot, Pw.callEnd, Pw.back, Pw.retB, Pw.mMake, Pw.makeD, Pw.makeOn, Pw.makeEnd, Pw.mAttr, Pw.attrOut, Pw.noExn, Pw.mMethO, Pw.methO, Pw.mStatic, Pw.statOut, Pw.mIsi, Pw.isiOut, Pw.isD, Pw.mTup, Pw.mLst, Pw.mSetSub, Pw.subOut, Pw.mSetFld, Pw.fldOut, Pw.putD, Pw.Ct.toD, Pw.gtD, Pw.ltD, Pw.addD, Pw.subD, Pw.mulD, Pw.fdivD, Pw.modD, Pw.negD, Pw.absD, Pw.intD, Pw.lenD, Pw.mRaise, Pw.mJs, Pw.mFmt, Pw.fmtOut, Pw.idxA, Pw.isDctD, Pw.inA, Pw.notInA, Pw.lenA, Pw.isDcts, Pw.mulA, Pw.isLstD, Pw.listA, Pw.mChainI, Pw.mParF, Pw.mSetSubA, Pw.subOutA, Pw.mNewD, Pw.mWAny, Pw.wkStr, Pw.conV, Pw.dlenD, Pw.mMeth, Pw.methOut, Pw.isTy, Pw.mMut, Pw.mMut0, Pw.isLst, Pw.mutOut, Pw.gAppend, Pw.mLc, Pw.okOwn, Pw.lockE, Pw.unlockE, Pw.wipeE, Pw.restE, Pw.mYes, Pw.Out.bind_ok, nums_nil, nums_v, nums_o, ti_ss, h1, h2, hz, lenD, wordB]
  · simp [f_is_word, m_is_word, Pw.runF, Pw.startE, Pw.mSeq, Pw.mSkip, Pw.mExpr, Pw.mRet, Pw.mRetN, Pw.mIfS, Pw.mSet, Pw.setSlot, Pw.mPar, Pw.mPar3, Pw.mAsgT, Pw.tgOut_nm, Pw.tgOut_tp2, Pw.tgOut_tp3, Pw.tgSet_nm, Pw.tgSet_tp2, Pw.mCons, Pw.mNil, Pw.mC, Pw.mVar, Pw.mOp2, Pw.mOp, Pw.mUn, Pw.mUn2, Pw.unBoth, Pw.unOwn, Pw.unOut, Pw.opOut, Pw.opBoth, Pw.opOwn, Pw.opFind, Pw.resOut, Pw.opArgs, Pw.tyD, Pw.isObjR, Pw.mTst, Pw.mTru, Pw.truOut, Pw.truD, Pw.boolOut, Pw.mIf, Pw.mAndT, Pw.mOrT, Pw.mNotT, Pw.mAndV, Pw.mOrV, Pw.mNotV, Pw.norm, Pw.view, Pw.views, Pw.callOut, Pw.mCallB, Pw.mCallO, Pw.call1Both, Pw.chkAny, Pw.share, Pw.shareAll, Pw.putSlot, Pw.fs_val, Pw.fs_none, Pw.fs_own, Pw.retOut, Pw.mergeP, Pw.isOwn, Pw.mCall, Pw.callD, Pw.callOn, Pw.prep, Pw.prep1, Pw.agOk, Pw.penv, Pw.agSlot, Pw.callEnd, Pw.back, Pw.retB, Pw.mMake, Pw.makeD, Pw.makeOn, Pw.makeEnd, Pw.mAttr, Pw.attrOut, Pw.noExn, Pw.mMethO, Pw.methO, Pw.mStatic, Pw.statOut, Pw.mIsi, Pw.isiOut, Pw.isD, Pw.mTup, Pw.mLst, Pw.mSetSub, Pw.subOut, Pw.mSetFld, Pw.fldOut, Pw.putD, Pw.Ct.toD, Pw.gtD, Pw.ltD, Pw.addD, Pw.subD, Pw.mulD, Pw.fdivD, Pw.modD, Pw.negD, Pw.absD, Pw.intD, Pw.lenD, Pw.mRaise, Pw.mJs, Pw.mFmt, Pw.fmtOut, Pw.idxA, Pw.isDctD, Pw.inA, Pw.notInA, Pw.lenA, Pw.isDcts, Pw.mulA, Pw.isLstD, Pw.listA, Pw.mChainI, Pw.mParF, Pw.mSetSubA, Pw.subOutA, Pw.mNewD, Pw.mWAny, Pw.wkStr, Pw.conV, Pw.dlenD, Pw.mMeth, Pw.methOut, Pw.isTy, Pw.mMut, Pw.mMut0, Pw.isLst, Pw.mutOut, Pw.gAppend, Pw.mLc, Pw.okOwn, Pw.lockE, Pw.unlockE, Pw.wipeE, Pw.restE, Pw.mYes, Pw.Out.bind_ok, nums_nil, nums_v, nums_o, ti_ss, h1, hz, lenD, wordB]
noncomputable def c_init_0 : MS := mSet 2 (mNewD)
noncomputable def c_init_1_0 : MS := mIfS (mOrT (mTst (mOp2 (opOut Pw.eqD) (mVar 3) (mC (conV (.inl 4))))) (mOrT (mNotT (mTru (mCall 3 [] f_is_word [] (mCons (mVar 4) (mCons (mC (.str "ABCDEFGHIJKLMNOPQRSTUVWXYZ")) (mCons (mC (conV (.inl 3))) (mNil))))))) (mTst (mOp2 (opOut inA) (mVar 4) (mVar 2))))) (mSeq (mRaise "InvalidRelation" 1 fl_InvalidRelation (mCons (mVar 3) (mNil))) (mSkip)) (mSkip)
noncomputable def c_init_1_1 : MS := mIfS (mNotT (mTru (mCall 3 [] f_is_number [] (mCons (mVar 5) (mCons (mC (.int 1)) (mCons (mC (conV (.inl 3))) (mNil))))))) (mSeq (mRaise "InvalidRelation" 1 fl_InvalidRelation (mCons (mVar 3) (mNil))) (mSkip)) (mSkip)
noncomputable def c_init_1_2 : MS := mSetSubA (mVar 2) (mVar 4) (mVar 5)
noncomputable def c_init_1b : MS := mSeq c_init_1_0 ( mSeq c_init_1_1 ( mSeq c_init_1_2 (mSkip)))
noncomputable def c_init_1 : MS := mFor (.tp [.nm 3, .tp [.nm 4, .nm 5]]) (mWEnum (mCons (mVar 1) (mNil))) c_init_1b
noncomputable def c_init_2 : MS := mIfS (mTst (mOp2 (opOut Pw.eqD) (mCallB lenA (mCons (mVar 2) (mNil))) (mC (.int 0)))) (mSeq (mRaise "InvalidRelation" 1 fl_InvalidRelation (mCons (mC (.int 0)) (mNil))) (mSkip)) (mSkip)
noncomputable def c_init_3 : MS := mSetFld a_by_name.flds "by_name" (mVar 0) (mVar 2)
theorem c_init_eq : m_init = mSeq c_init_0 ( mSeq c_init_1 ( mSeq c_init_2 ( mSeq c_init_3 (mSkip)))) := rfl
abbrev LG : PySem.Str := "ABCDEFGHIJKLMNOPQRSTUVWXYZ"
def okAt (k : Nat) (seen : List (PySem.Str × Int)) (p : PySem.Str × Int) : Bool := decide (k ≠ 4) && (wordB p.1 LG 3 && (!decide (p.1 ∈ seen.map (·.1)) && (decide (1 ≤ p.2) && decide (p.2 ≤ 3))))
abbrev XR (k : Int) : Ex := ⟨"InvalidRelation", [("code", .str "InvalidRelation"), ("at", .int k)]⟩
theorem fl_at (k : Int) : fl_InvalidRelation.d [.int k] = ([("code", .str "InvalidRelation"), ("at", .int k)] : List (PySem.Str × D)) := rfl
section
variable {S R a b c : Sv}
theorem turn_ok {k : Nat} {seen : List (PySem.Str × Int)} {p : PySem.Str × Int} (hl : p.1.length ≤ 1000) (hs : seen.length ≤ 900) (h : okAt k seen p = true) (ha : Fr a) (hb : Fr b) (hc : Fr c) :
    turnF (.tp [.nm 3, .tp [.nm 4, .nm 5]]) c_init_1b (.tup [.int k, P2 p]) [S, R, .own false false (.dct (dctOf seen)), a, b, c] = .next [S, R, .own false false (.dct (dctOf (seen ++ [p]))), I k, .val (.str p.1), I p.2] := by
  obtain ⟨n, col⟩ := p
  simp only [okAt, Bool.and_eq_true, Bool.not_eq_true', decide_eq_true_eq, decide_eq_false_iff_not] at h
  obtain ⟨h1, h2, h3, h4, h5⟩ := h
  have h1' : ¬ (k : Int) = 4 := by omega
  have hz : (dctOf seen).length < PySem.sizeLine := smallt (by rw [len_dct]; omega)
  have e1 := v_isword n LG 3 hl
  rw [h2] at e1
  have e2 := v_isnum col 1 3
  rw [decide_eq_true h4, decide_eq_true h5] at e2
  have e3 : Pw.dinD (.str n) (.dct (dctOf seen)) = .val (.bl false) := by
    simp only [dinD, key_dct, if_true, get_dct, decide_eq_false h3]
  have e4 := put_dct seen n col h3
  rw [turnF_at]
  simp [c_init_1b, c_init_1_0, c_init_1_1, c_init_1_2, tgOut_n, Pw.runF, Pw.startE, Pw.mSeq, Pw.mSkip, Pw.mExpr, Pw.mRet, Pw.mRetN, Pw.mIfS, Pw.mSet, Pw.setSlot, Pw.mPar, Pw.mPar3, Pw.mAsgT, Pw.tgOut_nm, Pw.tgOut_tp2, Pw.tgOut_tp3, Pw.tgSet_nm, Pw.tgSet_tp2, Pw.mCons, Pw.mNil, Pw.mC, Pw.mVar, Pw.mOp2, Pw.mOp, Pw.mUn, Pw.mUn2, Pw.unBoth, Pw.unOwn, Pw.unOut, Pw.opOut, Pw.opBoth, Pw.opOwn, Pw.opFind, Pw.resOut, Pw.opArgs, Pw.tyD, Pw.isObjR, Pw.mTst, Pw.mTru, Pw.truOut, Pw.truD, Pw.boolOut, Pw.mIf, Pw.mAndT, Pw.mOrT, Pw.mNotT, Pw.mAndV, Pw.mOrV, Pw.mNotV, Pw.norm, Pw.view, Pw.views, Pw.callOut, Pw.mCallB, Pw.mCallO, Pw.call1Both, Pw.chkAny, Pw.share, Pw.shareAll, Pw.putSlot, Pw.fs_val, Pw.fs_none, Pw.fs_own, Pw.retOut, Pw.mergeP, Pw.isOwn, Pw.mCall, Pw.callD, Pw.callOn, Pw.prep, Pw.prep1, Pw.agOk, Pw.penv, Pw.agSlot, Pw.callEnd, Pw.back, Pw.retB, Pw.mMake, Pw.makeD, Pw.makeOn, Pw.makeEnd, Pw.mAttr, Pw.attrOut, Pw.noExn, Pw.mMethO, Pw.methO, Pw.mStatic, Pw.statOut, Pw.mIsi, Pw.isiOut, Pw.isD, Pw.mTup, Pw.mLst, Pw.mSetSub, Pw.subOut, Pw.mSetFld, Pw.fldOut, Pw.putD, Pw.Ct.toD, Pw.gtD, Pw.ltD, Pw.addD, Pw.subD, Pw.mulD, Pw.fdivD, Pw.modD, Pw.negD, Pw.absD, Pw.intD, Pw.lenD, Pw.mRaise, Pw.mJs, Pw.mFmt, Pw.fmtOut, Pw.idxA, Pw.isDctD, Pw.inA, Pw.notInA, Pw.lenA, Pw.isDcts, Pw.mulA, Pw.isLstD, Pw.listA, Pw.mChainI, Pw.mParF, Pw.mSetSubA, Pw.subOutA, Pw.mNewD, Pw.mWAny, Pw.wkStr, Pw.conV, Pw.dlenD, Pw.mMeth, Pw.methOut, Pw.isTy, Pw.mMut, Pw.mMut0, Pw.isLst, Pw.mutOut, Pw.gAppend, Pw.mLc, Pw.okOwn, Pw.lockE, Pw.unlockE, Pw.wipeE, Pw.restE, Pw.mYes, Pw.Out.bind_ok, nums_nil, nums_v, nums_o, ha, hb, hc, eqD_int, h1', e1, e2, e3, e4, key_dct, hz]
theorem turn_bad {k : Nat} {seen : List (PySem.Str × Int)} {p : PySem.Str × Int} (hl : p.1.length ≤ 1000) (hs : seen.length ≤ 900) (h : okAt k seen p = false) (ha : Fr a) (hb : Fr b) (hc : Fr c) :
    turnF (.tp [.nm 3, .tp [.nm 4, .nm 5]]) c_init_1b (.tup [.int k, P2 p]) [S, R, .own false false (.dct (dctOf seen)), a, b, c] = .exn (XR k) [S, R, .own false false (.dct (dctOf seen)), I k, .val (.str p.1), I p.2] := by
  obtain ⟨n, col⟩ := p
  have e1 := v_isword n LG 3 hl
  have e2 := v_isnum col 1 3
  have e3 : Pw.dinD (.str n) (.dct (dctOf seen)) = .val (.bl (decide (n ∈ seen.map (·.1)))) := by
    simp only [dinD, key_dct, if_true, get_dct]
  rw [turnF_at]
  by_cases h1 : k = 4
  · subst h1
    simp [c_init_1b, c_init_1_0, c_init_1_1, c_init_1_2, tgOut_n, Pw.runF, Pw.startE, Pw.mSeq, Pw.mSkip, Pw.mExpr, Pw.mRet, Pw.mRetN, Pw.mIfS, Pw.mSet, Pw.setSlot, Pw.mPar, Pw.mPar3, Pw.mAsgT, Pw.tgOut_nm, Pw.tgOut_tp2, Pw.tgOut_tp3, Pw.tgSet_nm, Pw.tgSet_tp2, Pw.mCons, Pw.mNil, Pw.mC, Pw.mVar, Pw.mOp2, Pw.mOp, Pw.mUn, Pw.mUn2, Pw.unBoth, Pw.unOwn, Pw.unOut, Pw.opOut, Pw.opBoth, Pw.opOwn, Pw.opFind, Pw.resOut, Pw.opArgs, Pw.tyD, Pw.isObjR, Pw.mTst, Pw.mTru, Pw.truOut, Pw.truD, Pw.boolOut, Pw.mIf, Pw.mAndT, Pw.mOrT, Pw.mNotT, Pw.mAndV, Pw.mOrV, Pw.mNotV, Pw.norm, Pw.view, Pw.views, Pw.callOut, Pw.mCallB, Pw.mCallO, Pw.call1Both, Pw.chkAny, Pw.share, Pw.shareAll, Pw.putSlot, Pw.fs_val, Pw.fs_none, Pw.fs_own, Pw.retOut, Pw.mergeP, Pw.isOwn, Pw.mCall, Pw.callD, Pw.callOn, Pw.prep, Pw.prep1, Pw.agOk, Pw.penv, Pw.agSlot, Pw.callEnd, Pw.back, Pw.retB, Pw.mMake, Pw.makeD, Pw.makeOn, Pw.makeEnd, Pw.mAttr, Pw.attrOut, Pw.noExn, Pw.mMethO, Pw.methO, Pw.mStatic, Pw.statOut, Pw.mIsi, Pw.isiOut, Pw.isD, Pw.mTup, Pw.mLst, Pw.mSetSub, Pw.subOut, Pw.mSetFld, Pw.fldOut, Pw.putD, Pw.Ct.toD, Pw.gtD, Pw.ltD, Pw.addD, Pw.subD, Pw.mulD, Pw.fdivD, Pw.modD, Pw.negD, Pw.absD, Pw.intD, Pw.lenD, Pw.mRaise, Pw.mJs, Pw.mFmt, Pw.fmtOut, Pw.idxA, Pw.isDctD, Pw.inA, Pw.notInA, Pw.lenA, Pw.isDcts, Pw.mulA, Pw.isLstD, Pw.listA, Pw.mChainI, Pw.mParF, Pw.mSetSubA, Pw.subOutA, Pw.mNewD, Pw.mWAny, Pw.wkStr, Pw.conV, Pw.dlenD, Pw.mMeth, Pw.methOut, Pw.isTy, Pw.mMut, Pw.mMut0, Pw.isLst, Pw.mutOut, Pw.gAppend, Pw.mLc, Pw.okOwn, Pw.lockE, Pw.unlockE, Pw.wipeE, Pw.restE, Pw.mYes, Pw.Out.bind_ok, nums_nil, nums_v, nums_o, ha, hb, hc, eqD_int, fl_at]
  · have h1' : ¬ (k : Int) = 4 := by omega
    cases h2 : wordB n LG 3 with
    | false =>
      rw [h2] at e1
      simp [c_init_1b, c_init_1_0, c_init_1_1, c_init_1_2, tgOut_n, Pw.runF, Pw.startE, Pw.mSeq, Pw.mSkip, Pw.mExpr, Pw.mRet, Pw.mRetN, Pw.mIfS, Pw.mSet, Pw.setSlot, Pw.mPar, Pw.mPar3, Pw.mAsgT, Pw.tgOut_nm, Pw.tgOut_tp2, Pw.tgOut_tp3, Pw.tgSet_nm, Pw.tgSet_tp2, Pw.mCons, Pw.mNil, Pw.mC, Pw.mVar, Pw.mOp2, Pw.mOp, Pw.mUn, Pw.mUn2, Pw.unBoth, Pw.unOwn, Pw.unOut, Pw.opOut, Pw.opBoth, Pw.opOwn, Pw.opFind, Pw.resOut, Pw.opArgs, Pw.tyD, Pw.isObjR, Pw.mTst, Pw.mTru, Pw.truOut, Pw.truD, Pw.boolOut, Pw.mIf, Pw.mAndT, Pw.mOrT, Pw.mNotT, Pw.mAndV, Pw.mOrV, Pw.mNotV, Pw.norm, Pw.view, Pw.views, Pw.callOut, Pw.mCallB, Pw.mCallO, Pw.call1Both, Pw.chkAny, Pw.share, Pw.shareAll, Pw.putSlot, Pw.fs_val, Pw.fs_none, Pw.fs_own, Pw.retOut, Pw.mergeP, Pw.isOwn, Pw.mCall, Pw.callD, Pw.callOn, Pw.prep, Pw.prep1, Pw.agOk, Pw.penv, Pw.agSlot, Pw.callEnd, Pw.back, Pw.retB, Pw.mMake, Pw.makeD, Pw.makeOn, Pw.makeEnd, Pw.mAttr, Pw.attrOut, Pw.noExn, Pw.mMethO, Pw.methO, Pw.mStatic, Pw.statOut, Pw.mIsi, Pw.isiOut, Pw.isD, Pw.mTup, Pw.mLst, Pw.mSetSub, Pw.subOut, Pw.mSetFld, Pw.fldOut, Pw.putD, Pw.Ct.toD, Pw.gtD, Pw.ltD, Pw.addD, Pw.subD, Pw.mulD, Pw.fdivD, Pw.modD, Pw.negD, Pw.absD, Pw.intD, Pw.lenD, Pw.mRaise, Pw.mJs, Pw.mFmt, Pw.fmtOut, Pw.idxA, Pw.isDctD, Pw.inA, Pw.notInA, Pw.lenA, Pw.isDcts, Pw.mulA, Pw.isLstD, Pw.listA, Pw.mChainI, Pw.mParF, Pw.mSetSubA, Pw.subOutA, Pw.mNewD, Pw.mWAny, Pw.wkStr, Pw.conV, Pw.dlenD, Pw.mMeth, Pw.methOut, Pw.isTy, Pw.mMut, Pw.mMut0, Pw.isLst, Pw.mutOut, Pw.gAppend, Pw.mLc, Pw.okOwn, Pw.lockE, Pw.unlockE, Pw.wipeE, Pw.restE, Pw.mYes, Pw.Out.bind_ok, nums_nil, nums_v, nums_o, ha, hb, hc, eqD_int, fl_at, h1', e1]
    | true =>
      rw [h2] at e1
      by_cases h3 : n ∈ seen.map (·.1)
      · rw [decide_eq_true h3] at e3
        simp [c_init_1b, c_init_1_0, c_init_1_1, c_init_1_2, tgOut_n, Pw.runF, Pw.startE, Pw.mSeq, Pw.mSkip, Pw.mExpr, Pw.mRet, Pw.mRetN, Pw.mIfS, Pw.mSet, Pw.setSlot, Pw.mPar, Pw.mPar3, Pw.mAsgT, Pw.tgOut_nm, Pw.tgOut_tp2, Pw.tgOut_tp3, Pw.tgSet_nm, Pw.tgSet_tp2, Pw.mCons, Pw.mNil, Pw.mC, Pw.mVar, Pw.mOp2, Pw.mOp, Pw.mUn, Pw.mUn2, Pw.unBoth, Pw.unOwn, Pw.unOut, Pw.opOut, Pw.opBoth, Pw.opOwn, Pw.opFind, Pw.resOut, Pw.opArgs, Pw.tyD, Pw.isObjR, Pw.mTst, Pw.mTru, Pw.truOut, Pw.truD, Pw.boolOut, Pw.mIf, Pw.mAndT, Pw.mOrT, Pw.mNotT, Pw.mAndV, Pw.mOrV, Pw.mNotV, Pw.norm, Pw.view, Pw.views, Pw.callOut, Pw.mCallB, Pw.mCallO, Pw.call1Both, Pw.chkAny, Pw.share, Pw.shareAll, Pw.putSlot, Pw.fs_val, Pw.fs_none, Pw.fs_own, Pw.retOut, Pw.mergeP, Pw.isOwn, Pw.mCall, Pw.callD, Pw.callOn, Pw.prep, Pw.prep1, Pw.agOk, Pw.penv, Pw.agSlot, Pw.callEnd, Pw.back, Pw.retB, Pw.mMake, Pw.makeD, Pw.makeOn, Pw.makeEnd, Pw.mAttr, Pw.attrOut, Pw.noExn, Pw.mMethO, Pw.methO, Pw.mStatic, Pw.statOut, Pw.mIsi, Pw.isiOut, Pw.isD, Pw.mTup, Pw.mLst, Pw.mSetSub, Pw.subOut, Pw.mSetFld, Pw.fldOut, Pw.putD, Pw.Ct.toD, Pw.gtD, Pw.ltD, Pw.addD, Pw.subD, Pw.mulD, Pw.fdivD, Pw.modD, Pw.negD, Pw.absD, Pw.intD, Pw.lenD, Pw.mRaise, Pw.mJs, Pw.mFmt, Pw.fmtOut, Pw.idxA, Pw.isDctD, Pw.inA, Pw.notInA, Pw.lenA, Pw.isDcts, Pw.mulA, Pw.isLstD, Pw.listA, Pw.mChainI, Pw.mParF, Pw.mSetSubA, Pw.subOutA, Pw.mNewD, Pw.mWAny, Pw.wkStr, Pw.conV, Pw.dlenD, Pw.mMeth, Pw.methOut, Pw.isTy, Pw.mMut, Pw.mMut0, Pw.isLst, Pw.mutOut, Pw.gAppend, Pw.mLc, Pw.okOwn, Pw.lockE, Pw.unlockE, Pw.wipeE, Pw.restE, Pw.mYes, Pw.Out.bind_ok, nums_nil, nums_v, nums_o, ha, hb, hc, eqD_int, fl_at, h1', e1, e3]
      · rw [decide_eq_false h3] at e3
        have h4 : (decide (1 ≤ col) && decide (col ≤ 3)) = false := by
          cases q : (decide (1 ≤ col) && decide (col ≤ 3)) with
          | false => rfl
          | true =>
            exfalso
            have : okAt k seen (n, col) = true := by simp only [okAt, h2, decide_eq_true h1, decide_eq_false h3, q]; rfl
            rw [h] at this; cases this
        rw [h4] at e2
        simp [c_init_1b, c_init_1_0, c_init_1_1, c_init_1_2, tgOut_n, Pw.runF, Pw.startE, Pw.mSeq, Pw.mSkip, Pw.mExpr, Pw.mRet, Pw.mRetN, Pw.mIfS, Pw.mSet, Pw.setSlot, Pw.mPar, Pw.mPar3, Pw.mAsgT, Pw.tgOut_nm, Pw.tgOut_tp2, Pw.tgOut_tp3, Pw.tgSet_nm, Pw.tgSet_tp2, Pw.mCons, Pw.mNil, Pw.mC, Pw.mVar, Pw.mOp2, Pw.mOp, Pw.mUn, Pw.mUn2, Pw.unBoth, Pw.unOwn, Pw.unOut, Pw.opOut, Pw.opBoth, Pw.opOwn, Pw.opFind, Pw.resOut, Pw.opArgs, Pw.tyD, Pw.isObjR, Pw.mTst, Pw.mTru, Pw.truOut, Pw.truD, Pw.boolOut, Pw.mIf, Pw.mAndT, Pw.mOrT, Pw.mNotT, Pw.mAndV, Pw.mOrV, Pw.mNotV, Pw.norm, Pw.view, Pw.views, Pw.callOut, Pw.mCallB, Pw.mCallO, Pw.call1Both, Pw.chkAny, Pw.share, Pw.shareAll, Pw.putSlot, Pw.fs_val, Pw.fs_none, Pw.fs_own, Pw.retOut, Pw.mergeP, Pw.isOwn, Pw.mCall, Pw.callD, Pw.callOn, Pw.prep, Pw.prep1, Pw.agOk, Pw.penv, Pw.agSlot, Pw.callEnd, Pw.back, Pw.retB, Pw.mMake, Pw.makeD, Pw.makeOn, Pw.makeEnd, Pw.mAttr, Pw.attrOut, Pw.noExn, Pw.mMethO, Pw.methO, Pw.mStatic, Pw.statOut, Pw.mIsi, Pw.isiOut, Pw.isD, Pw.mTup, Pw.mLst, Pw.mSetSub, Pw.subOut, Pw.mSetFld, Pw.fldOut, Pw.putD, Pw.Ct.toD, Pw.gtD, Pw.ltD, Pw.addD, Pw.subD, Pw.mulD, Pw.fdivD, Pw.modD, Pw.negD, Pw.absD, Pw.intD, Pw.lenD, Pw.mRaise, Pw.mJs, Pw.mFmt, Pw.fmtOut, Pw.idxA, Pw.isDctD, Pw.inA, Pw.notInA, Pw.lenA, Pw.isDcts, Pw.mulA, Pw.isLstD, Pw.listA, Pw.mChainI, Pw.mParF, Pw.mSetSubA, Pw.subOutA, Pw.mNewD, Pw.mWAny, Pw.wkStr, Pw.conV, Pw.dlenD, Pw.mMeth, Pw.methOut, Pw.isTy, Pw.mMut, Pw.mMut0, Pw.isLst, Pw.mutOut, Pw.gAppend, Pw.mLc, Pw.okOwn, Pw.lockE, Pw.unlockE, Pw.wipeE, Pw.restE, Pw.mYes, Pw.Out.bind_ok, nums_nil, nums_v, nums_o, ha, hb, hc, eqD_int, fl_at, h1', e1, e2, e3]
end
/-- the first that is not valid -/
def bad : Nat → List (PySem.Str × Int) → List (PySem.Str × Int) → Option Nat
  | _, _, [] => none
  | k, seen, p :: r => if okAt k seen p = true then bad (k + 1) (seen ++ [p]) r else some k
theorem for_init {S R : Sv} : ∀ (ps : List (PySem.Str × Int)) (k : Nat) (seen : List (PySem.Str × Int)) (a b c : Sv), (∀ p ∈ ps, p.1.length ≤ 1000) → seen.length + ps.length ≤ 900 → Fr a → Fr b → Fr c →
    (bad k seen ps = none → ∃ a' b' c', forL (turnF (.tp [.nm 3, .tp [.nm 4, .nm 5]]) c_init_1b) (enumD k (ps.map P2)) [S, R, .own false false (.dct (dctOf seen)), a, b, c] = .next [S, R, .own false false (.dct (dctOf (seen ++ ps))), a', b', c']) ∧
    (∀ j, bad k seen ps = some j → ∃ e, forL (turnF (.tp [.nm 3, .tp [.nm 4, .nm 5]]) c_init_1b) (enumD k (ps.map P2)) [S, R, .own false false (.dct (dctOf seen)), a, b, c] = .exn (XR j) (S :: R :: e))
  | [], k, seen, a, b, c, _, _, _, _, _ => ⟨fun _ => ⟨a, b, c, by simp [enumD, forL]⟩, fun j h => by cases h⟩
  | p :: ps, k, seen, a, b, c, hl, hs, ha, hb, hc => by
    simp only [List.length_cons] at hs
    have h1 := hl p (by simp)
    cases q : okAt k seen p with
    | true =>
      have e := turn_ok (S := S) (R := R) h1 (by omega) q ha hb hc
      obtain ⟨i1, i2⟩ := for_init (S := S) (R := R) ps (k + 1) (seen ++ [p]) (I k) (.val (.str p.1)) (I p.2) (fun x hx => hl x (by simp [hx])) (by simp; omega) rfl rfl rfl
      have eb : bad k seen (p :: ps) = bad (k + 1) (seen ++ [p]) ps := by rw [bad, if_pos q]
      rw [eb, List.map_cons, enumD, forL_next e]
      simp only [List.append_assoc, List.cons_append, List.nil_append] at i1 i2
      exact ⟨i1, i2⟩
    | false =>
      have e := turn_bad (S := S) (R := R) h1 (by omega) q ha hb hc
      have eb : bad k seen (p :: ps) = some k := by rw [bad, if_neg (by rw [q]; decide)]
      rw [eb]
      refine ⟨fun z => (by cases z), fun j z => ?_⟩
      cases z
      refine ⟨[.own false false (.dct (dctOf seen)), I k, .val (.str p.1), I p.2], ?_⟩
      rw [List.map_cons, enumD]
      show (match turnF (.tp [.nm 3, .tp [.nm 4, .nm 5]]) c_init_1b (.tup [.int k, P2 p]) [S, R, .own false false (.dct (dctOf seen)), a, b, c] with | .next e1 => forL _ _ e1 | .cont e1 => forL _ _ e1 | .brk e1 => .next e1 | .ret r e1 => .ret r e1 | .exn x e1 => .exn x e1 | .stuck => .stuck) = _
      rw [e]
abbrev S0 : Sv := .own true false (.obj "Schema" [])
abbrev schC (ps : List (PySem.Str × Int)) : Ct := .obj "Schema" [("by_name", .dct (dctOf ps))]
abbrev schD (ps : List (PySem.Str × Int)) : D := .obj "Schema" [("by_name", .dct (dctOf ps))]
abbrev rel (ps : List (PySem.Str × Int)) : Sv := .val (.lst (ps.map P2))
theorem v_init_ok (ps : List (PySem.Str × Int)) (hl : ∀ p ∈ ps, p.1.length ≤ 1000) (hs : ps.length ≤ 900) (h0 : ps ≠ []) (h : bad 0 [] ps = none) : f_init [S0, rel ps] = .ok (.val .non) [.own true false (schC ps), rel ps] := by
  obtain ⟨a, b, c, e⟩ := (for_init (S := S0) (R := rel ps) ps 0 [] .none .none .none hl (by simpa using hs) rfl rfl rfl).1 h
  have hn : (dctOf ps).length = ps.length := len_dct ps
  have hp : ¬ ps.length = 0 := fun z => h0 (List.length_eq_zero_iff.mp z)
  simp only [List.nil_append, dctOf, List.map_nil] at e
  simp [f_init, c_init_eq, c_init_0, c_init_1, c_init_2, c_init_3, Pw.runF, Pw.startE, Pw.mSeq, Pw.mSkip, Pw.mExpr, Pw.mRet, Pw.mRetN, Pw.mIfS, Pw.mSet, Pw.setSlot, Pw.mPar, Pw.mPar3, Pw.mAsgT, Pw.tgOut_nm, Pw.tgOut_tp2, Pw.tgOut_tp3, Pw.tgSet_nm, Pw.tgSet_tp2, Pw.mCons, Pw.mNil, Pw.mC, Pw.mVar, Pw.mOp2, Pw.mOp, Pw.mUn, Pw.mUn2, Pw.unBoth, Pw.unOwn, Pw.unOut, Pw.opOut, Pw.opBoth, Pw.opOwn, Pw.opFind, Pw.resOut, Pw.opArgs, Pw.tyD, Pw.isObjR, Pw.mTst, Pw.mTru, Pw.truOut, Pw.truD, Pw.boolOut, Pw.mIf, Pw.mAndT, Pw.mOrT, Pw.mNotT, Pw.mAndV, Pw.mOrV, Pw.mNotV, Pw.norm, Pw.view, Pw.views, Pw.callOut, Pw.mCallB, Pw.mCallO, Pw.call1Both, Pw.chkAny, Pw.share, Pw.shareAll, Pw.putSlot, Pw.fs_val, Pw.fs_none, Pw.fs_own, Pw.retOut, Pw.mergeP, Pw.isOwn, Pw.mCall, Pw.callD, Pw.callOn, Pw.prep, Pw.prep1, Pw.agOk, Pw.penv, Pw.agSlot, Pw.callEnd, Pw.back, Pw.retB, Pw.mMake, Pw.makeD, Pw.makeOn, Pw.makeEnd, Pw.mAttr, Pw.attrOut, Pw.noExn, Pw.mMethO, Pw.methO, Pw.mStatic, Pw.statOut, Pw.mIsi, Pw.isiOut, Pw.isD, Pw.mTup, Pw.mLst, Pw.mSetSub, Pw.subOut, Pw.mSetFld, Pw.fldOut, Pw.putD, Pw.Ct.toD, Pw.gtD, Pw.ltD, Pw.addD, Pw.subD, Pw.mulD, Pw.fdivD, Pw.modD, Pw.negD, Pw.absD, Pw.intD, Pw.lenD, Pw.mRaise, Pw.mJs, Pw.mFmt, Pw.fmtOut, Pw.idxA, Pw.isDctD, Pw.inA, Pw.notInA, Pw.lenA, Pw.isDcts, Pw.mulA, Pw.isLstD, Pw.listA, Pw.mChainI, Pw.mParF, Pw.mSetSubA, Pw.subOutA, Pw.mNewD, Pw.mWAny, Pw.wkStr, Pw.conV, Pw.dlenD, Pw.mMeth, Pw.methOut, Pw.isTy, Pw.mMut, Pw.mMut0, Pw.isLst, Pw.mutOut, Pw.gAppend, Pw.mLc, Pw.okOwn, Pw.lockE, Pw.unlockE, Pw.wipeE, Pw.restE, Pw.mYes, Pw.Out.bind_ok, nums_nil, nums_v, nums_o, mWEnum, enumOut, isTupR, wkOf, wkVal, mFor_eq, SO.mapE, e, eqD_int, hn, hp, h0, a_by_name, dctOf]
theorem v_init_bad (ps : List (PySem.Str × Int)) (hl : ∀ p ∈ ps, p.1.length ≤ 1000) (hs : ps.length ≤ 900) {j : Nat} (h : bad 0 [] ps = some j) : f_init [S0, rel ps] = .exn (XR j) [S0, rel ps] := by
  obtain ⟨e0, e⟩ := (for_init (S := S0) (R := rel ps) ps 0 [] .none .none .none hl (by simpa using hs) rfl rfl rfl).2 j h
  simp only [dctOf, List.map_nil] at e
  simp [f_init, c_init_eq, c_init_0, c_init_1, c_init_2, c_init_3, Pw.runF, Pw.startE, Pw.mSeq, Pw.mSkip, Pw.mExpr, Pw.mRet, Pw.mRetN, Pw.mIfS, Pw.mSet, Pw.setSlot, Pw.mPar, Pw.mPar3, Pw.mAsgT, Pw.tgOut_nm, Pw.tgOut_tp2, Pw.tgOut_tp3, Pw.tgSet_nm, Pw.tgSet_tp2, Pw.mCons, Pw.mNil, Pw.mC, Pw.mVar, Pw.mOp2, Pw.mOp, Pw.mUn, Pw.mUn2, Pw.unBoth, Pw.unOwn, Pw.unOut, Pw.opOut, Pw.opBoth, Pw.opOwn, Pw.opFind, Pw.resOut, Pw.opArgs, Pw.tyD, Pw.isObjR, Pw.mTst, Pw.mTru, Pw.truOut, Pw.truD, Pw.boolOut, Pw.mIf, Pw.mAndT, Pw.mOrT, Pw.mNotT, Pw.mAndV, Pw.mOrV, Pw.mNotV, Pw.norm, Pw.view, Pw.views, Pw.callOut, Pw.mCallB, Pw.mCallO, Pw.call1Both, Pw.chkAny, Pw.share, Pw.shareAll, Pw.putSlot, Pw.fs_val, Pw.fs_none, Pw.fs_own, Pw.retOut, Pw.mergeP, Pw.isOwn, Pw.mCall, Pw.callD, Pw.callOn, Pw.prep, Pw.prep1, Pw.agOk, Pw.penv, Pw.agSlot, Pw.callEnd, Pw.back, Pw.retB, Pw.mMake, Pw.makeD, Pw.makeOn, Pw.makeEnd, Pw.mAttr, Pw.attrOut, Pw.noExn, Pw.mMethO, Pw.methO, Pw.mStatic, Pw.statOut, Pw.mIsi, Pw.isiOut, Pw.isD, Pw.mTup, Pw.mLst, Pw.mSetSub, Pw.subOut, Pw.mSetFld, Pw.fldOut, Pw.putD, Pw.Ct.toD, Pw.gtD, Pw.ltD, Pw.addD, Pw.subD, Pw.mulD, Pw.fdivD, Pw.modD, Pw.negD, Pw.absD, Pw.intD, Pw.lenD, Pw.mRaise, Pw.mJs, Pw.mFmt, Pw.fmtOut, Pw.idxA, Pw.isDctD, Pw.inA, Pw.notInA, Pw.lenA, Pw.isDcts, Pw.mulA, Pw.isLstD, Pw.listA, Pw.mChainI, Pw.mParF, Pw.mSetSubA, Pw.subOutA, Pw.mNewD, Pw.mWAny, Pw.wkStr, Pw.conV, Pw.dlenD, Pw.mMeth, Pw.methOut, Pw.isTy, Pw.mMut, Pw.mMut0, Pw.isLst, Pw.mutOut, Pw.gAppend, Pw.mLc, Pw.okOwn, Pw.lockE, Pw.unlockE, Pw.wipeE, Pw.restE, Pw.mYes, Pw.Out.bind_ok, nums_nil, nums_v, nums_o, mWEnum, enumOut, isTupR, wkOf, wkVal, mFor_eq, SO.mapE, e]
theorem v_init_none : f_init [S0, rel []] = .exn (XR 0) [S0, rel []] := by
  simp [f_init, c_init_eq, c_init_0, c_init_1, c_init_2, c_init_3, Pw.runF, Pw.startE, Pw.mSeq, Pw.mSkip, Pw.mExpr, Pw.mRet, Pw.mRetN, Pw.mIfS, Pw.mSet, Pw.setSlot, Pw.mPar, Pw.mPar3, Pw.mAsgT, Pw.tgOut_nm, Pw.tgOut_tp2, Pw.tgOut_tp3, Pw.tgSet_nm, Pw.tgSet_tp2, Pw.mCons, Pw.mNil, Pw.mC, Pw.mVar, Pw.mOp2, Pw.mOp, Pw.mUn, Pw.mUn2, Pw.unBoth, Pw.unOwn, Pw.unOut, Pw.opOut, Pw.opBoth, Pw.opOwn, Pw.opFind, Pw.resOut, Pw.opArgs, Pw.tyD, Pw.isObjR, Pw.mTst, Pw.mTru, Pw.truOut, Pw.truD, Pw.boolOut, Pw.mIf, Pw.mAndT, Pw.mOrT, Pw.mNotT, Pw.mAndV, Pw.mOrV, Pw.mNotV, Pw.norm, Pw.view, Pw.views, Pw.callOut, Pw.mCallB, Pw.mCallO, Pw.call1Both, Pw.chkAny, Pw.share, Pw.shareAll, Pw.putSlot, Pw.fs_val, Pw.fs_none, Pw.fs_own, Pw.retOut, Pw.mergeP, Pw.isOwn, Pw.mCall, Pw.callD, Pw.callOn, Pw.prep, Pw.prep1, Pw.agOk, Pw.penv, Pw.agSlot, Pw.callEnd, Pw.back, Pw.retB, Pw.mMake, Pw.makeD, Pw.makeOn, Pw.makeEnd, Pw.mAttr, Pw.attrOut, Pw.noExn, Pw.mMethO, Pw.methO, Pw.mStatic, Pw.statOut, Pw.mIsi, Pw.isiOut, Pw.isD, Pw.mTup, Pw.mLst, Pw.mSetSub, Pw.subOut, Pw.mSetFld, Pw.fldOut, Pw.putD, Pw.Ct.toD, Pw.gtD, Pw.ltD, Pw.addD, Pw.subD, Pw.mulD, Pw.fdivD, Pw.modD, Pw.negD, Pw.absD, Pw.intD, Pw.lenD, Pw.mRaise, Pw.mJs, Pw.mFmt, Pw.fmtOut, Pw.idxA, Pw.isDctD, Pw.inA, Pw.notInA, Pw.lenA, Pw.isDcts, Pw.mulA, Pw.isLstD, Pw.listA, Pw.mChainI, Pw.mParF, Pw.mSetSubA, Pw.subOutA, Pw.mNewD, Pw.mWAny, Pw.wkStr, Pw.conV, Pw.dlenD, Pw.mMeth, Pw.methOut, Pw.isTy, Pw.mMut, Pw.mMut0, Pw.isLst, Pw.mutOut, Pw.gAppend, Pw.mLc, Pw.okOwn, Pw.lockE, Pw.unlockE, Pw.wipeE, Pw.restE, Pw.mYes, Pw.Out.bind_ok, nums_nil, nums_v, nums_o, mWEnum, enumOut, isTupR, wkOf, wkVal, mFor_eq, SO.mapE, forL, enumD, eqD_int, fl_at]

end K07

set_option maxHeartbeats 8000000
/-! K07h: shapes. -/
namespace K07
open Pw Lw Lx Ly
/-! ### shapes -/
def colOf (ps : List (PySem.Str × Int)) (n : PySem.Str) : Option Int := (ps.find? fun p => decide (p.1 = n)).map (·.2)
theorem dget_col : ∀ (ps : List (PySem.Str × Int)) (n : PySem.Str), dGet (dctOf ps) (.str n) = (colOf ps n).map D.int
  | [], n => by simp [dctOf, dGet, colOf]
  | p :: ps, n => by
    have ih := dget_col ps n
    by_cases h : p.1 = n
    · subst h; simp [dctOf, dGet, colOf]
    · simp only [dctOf, dGet, colOf, List.map_cons, List.find?_cons, D.str.injEq, decide_eq_false h] at ih ⊢
      exact ih
theorem col_some {ps : List (PySem.Str × Int)} {n : PySem.Str} : decide (n ∈ ps.map (·.1)) = (colOf ps n).isSome := by
  rw [← get_dct, dget_col]
  cases colOf ps n <;> rfl
theorem v_contains (ps : List (PySem.Str × Int)) (n : PySem.Str) : f_contains [.val (schD ps), .val (.str n)] = .ok (.val (.bl (colOf ps n).isSome)) [.val (schD ps), .val (.str n)] := by
  have e3 : Pw.dinD (.str n) (.dct (dctOf ps)) = .val (.bl (colOf ps n).isSome) := by
    simp only [dinD, key_dct, if_true, get_dct, col_some]
  simp [f_contains, m_contains, Pw.runF, Pw.startE, Pw.mSeq, Pw.mSkip, Pw.mExpr, Pw.mRet, Pw.mRetN, Pw.mIfS, Pw.mSet, Pw.setSlot, Pw.mPar, Pw.mPar3, Pw.mAsgT, Pw.tgOut_nm, Pw.tgOut_tp2, Pw.tgOut_tp3, Pw.tgSet_nm, Pw.tgSet_tp2, Pw.mCons, Pw.mNil, Pw.mC, Pw.mVar, Pw.mOp2, Pw.mOp, Pw.mUn, Pw.mUn2, Pw.unBoth, Pw.unOwn, Pw.unOut, Pw.opOut, Pw.opBoth, Pw.opOwn, Pw.opFind, Pw.resOut, Pw.opArgs, Pw.tyD, Pw.isObjR, Pw.mTst, Pw.mTru, Pw.truOut, Pw.truD, Pw.boolOut, Pw.mIf, Pw.mAndT, Pw.mOrT, Pw.mNotT, Pw.mAndV, Pw.mOrV, Pw.mNotV, Pw.norm, Pw.view, Pw.views, Pw.callOut, Pw.mCallB, Pw.mCallO, Pw.call1Both, Pw.chkAny, Pw.share, Pw.shareAll, Pw.putSlot, Pw.fs_val, Pw.fs_none, Pw.fs_own, Pw.retOut, Pw.mergeP, Pw.isOwn, Pw.mCall, Pw.callD, Pw.callOn, Pw.prep, Pw.prep1, Pw.agOk, Pw.penv, Pw.agSlot, Pw.callEnd, Pw.back, Pw.retB, Pw.mMake, Pw.makeD, Pw.makeOn, Pw.makeEnd, Pw.mAttr, Pw.attrOut, Pw.noExn, Pw.mMethO, Pw.methO, Pw.mStatic, Pw.statOut, Pw.mIsi, Pw.isiOut, Pw.isD, Pw.mTup, Pw.mLst, Pw.mSetSub, Pw.subOut, Pw.mSetFld, Pw.fldOut, Pw.putD, Pw.Ct.toD, Pw.gtD, Pw.ltD, Pw.addD, Pw.subD, Pw.mulD, Pw.fdivD, Pw.modD, Pw.negD, Pw.absD, Pw.intD, Pw.lenD, Pw.mRaise, Pw.mJs, Pw.mFmt, Pw.fmtOut, Pw.idxA, Pw.isDctD, Pw.inA, Pw.notInA, Pw.lenA, Pw.isDcts, Pw.mulA, Pw.isLstD, Pw.listA, Pw.mChainI, Pw.mParF, Pw.mSetSubA, Pw.subOutA, Pw.mNewD, Pw.mWAny, Pw.wkStr, Pw.conV, Pw.dlenD, Pw.mMeth, Pw.methOut, Pw.isTy, Pw.mMut, Pw.mMut0, Pw.isLst, Pw.mutOut, Pw.gAppend, Pw.mLc, Pw.okOwn, Pw.lockE, Pw.unlockE, Pw.wipeE, Pw.restE, Pw.mYes, Pw.Out.bind_ok, nums_nil, nums_v, nums_o, a_by_name, List.lookup, e3]
theorem v_columns {ps : List (PySem.Str × Int)} {n : PySem.Str} {c : Int} (h : colOf ps n = some c) : f_columns [.val (schD ps), .val (.str n)] = .ok (.val (.int c)) [.val (schD ps), .val (.str n)] := by
  have e3 : Pw.dnotInD (.str n) (.dct (dctOf ps)) = .val (.bl false) := by
    simp only [dnotInD, key_dct, if_true, get_dct, col_some, h]
    rfl
  have e4 : Pw.dgetD (.dct (dctOf ps)) (.str n) = .val (.int c) := by
    simp only [dgetD, key_dct, if_true, dget_col, h]
    rfl
  simp [f_columns, m_columns, Pw.runF, Pw.startE, Pw.mSeq, Pw.mSkip, Pw.mExpr, Pw.mRet, Pw.mRetN, Pw.mIfS, Pw.mSet, Pw.setSlot, Pw.mPar, Pw.mPar3, Pw.mAsgT, Pw.tgOut_nm, Pw.tgOut_tp2, Pw.tgOut_tp3, Pw.tgSet_nm, Pw.tgSet_tp2, Pw.mCons, Pw.mNil, Pw.mC, Pw.mVar, Pw.mOp2, Pw.mOp, Pw.mUn, Pw.mUn2, Pw.unBoth, Pw.unOwn, Pw.unOut, Pw.opOut, Pw.opBoth, Pw.opOwn, Pw.opFind, Pw.resOut, Pw.opArgs, Pw.tyD, Pw.isObjR, Pw.mTst, Pw.mTru, Pw.truOut, Pw.truD, Pw.boolOut, Pw.mIf, Pw.mAndT, Pw.mOrT, Pw.mNotT, Pw.mAndV, Pw.mOrV, Pw.mNotV, Pw.norm, Pw.view, Pw.views, Pw.callOut, Pw.mCallB, Pw.mCallO, Pw.call1Both, Pw.chkAny, Pw.share, Pw.shareAll, Pw.putSlot, Pw.fs_val, Pw.fs_none, Pw.fs_own, Pw.retOut, Pw.mergeP, Pw.isOwn, Pw.mCall, Pw.callD, Pw.callOn, Pw.prep, Pw.prep1, Pw.agOk, Pw.penv, Pw.agSlot, Pw.callEnd, Pw.back, Pw.retB, Pw.mMake, Pw.makeD, Pw.makeOn, Pw.makeEnd, Pw.mAttr, Pw.attrOut, Pw.noExn, Pw.mMethO, Pw.methO, Pw.mStatic, Pw.statOut, Pw.mIsi, Pw.isiOut, Pw.isD, Pw.mTup, Pw.mLst, Pw.mSetSub, Pw.subOut, Pw.mSetFld, Pw.fldOut, Pw.putD, Pw.Ct.toD, Pw.gtD, Pw.ltD, Pw.addD, Pw.subD, Pw.mulD, Pw.fdivD, Pw.modD, Pw.negD, Pw.absD, Pw.intD, Pw.lenD, Pw.mRaise, Pw.mJs, Pw.mFmt, Pw.fmtOut, Pw.idxA, Pw.isDctD, Pw.inA, Pw.notInA, Pw.lenA, Pw.isDcts, Pw.mulA, Pw.isLstD, Pw.listA, Pw.mChainI, Pw.mParF, Pw.mSetSubA, Pw.subOutA, Pw.mNewD, Pw.mWAny, Pw.wkStr, Pw.conV, Pw.dlenD, Pw.mMeth, Pw.methOut, Pw.isTy, Pw.mMut, Pw.mMut0, Pw.isLst, Pw.mutOut, Pw.gAppend, Pw.mLc, Pw.okOwn, Pw.lockE, Pw.unlockE, Pw.wipeE, Pw.restE, Pw.mYes, Pw.Out.bind_ok, nums_nil, nums_v, nums_o, a_by_name, List.lookup, e3, e4]
theorem find_ni (ps : List (PySem.Str × Int)) (n : PySem.Str) : opFind notinT (.str n) (schD ps) = some ⟨true, true, boolFn f_contains⟩ := by
  simp [opFind, notinT, inTab, tyD]
theorem call_ni {fn : Fn} {x y r : D} {e : En} (h : fn [.val x, .val y] = .ok (.val r) [.val x, .val y]) : callD 2 [] fn [] [.val x, .val y] e = .ok (.val r) e := by
  simp [Pw.runF, Pw.startE, Pw.mSeq, Pw.mSkip, Pw.mExpr, Pw.mRet, Pw.mRetN, Pw.mIfS, Pw.mSet, Pw.setSlot, Pw.mPar, Pw.mPar3, Pw.mAsgT, Pw.tgOut_nm, Pw.tgOut_tp2, Pw.tgOut_tp3, Pw.tgSet_nm, Pw.tgSet_tp2, Pw.mCons, Pw.mNil, Pw.mC, Pw.mVar, Pw.mOp2, Pw.mOp, Pw.mUn, Pw.mUn2, Pw.unBoth, Pw.unOwn, Pw.unOut, Pw.opOut, Pw.opBoth, Pw.opOwn, Pw.opFind, Pw.resOut, Pw.opArgs, Pw.tyD, Pw.isObjR, Pw.mTst, Pw.mTru, Pw.truOut, Pw.truD, Pw.boolOut, Pw.mIf, Pw.mAndT, Pw.mOrT, Pw.mNotT, Pw.mAndV, Pw.mOrV, Pw.mNotV, Pw.norm, Pw.view, Pw.views, Pw.callOut, Pw.mCallB, Pw.mCallO, Pw.call1Both, Pw.chkAny, Pw.share, Pw.shareAll, Pw.putSlot, Pw.fs_val, Pw.fs_none, Pw.fs_own, Pw.retOut, Pw.mergeP, Pw.isOwn, Pw.mCall, Pw.callD, Pw.callOn, Pw.prep, Pw.prep1, Pw.agOk, Pw.penv, Pw.agSlot, Pw.callEnd, Pw.back, Pw.retB, Pw.mMake, Pw.makeD, Pw.makeOn, Pw.makeEnd, Pw.mAttr, Pw.attrOut, Pw.noExn, Pw.mMethO, Pw.methO, Pw.mStatic, Pw.statOut, Pw.mIsi, Pw.isiOut, Pw.isD, Pw.mTup, Pw.mLst, Pw.mSetSub, Pw.subOut, Pw.mSetFld, Pw.fldOut, Pw.putD, Pw.Ct.toD, Pw.gtD, Pw.ltD, Pw.addD, Pw.subD, Pw.mulD, Pw.fdivD, Pw.modD, Pw.negD, Pw.absD, Pw.intD, Pw.lenD, Pw.mRaise, Pw.mJs, Pw.mFmt, Pw.fmtOut, Pw.idxA, Pw.isDctD, Pw.inA, Pw.notInA, Pw.lenA, Pw.isDcts, Pw.mulA, Pw.isLstD, Pw.listA, Pw.mChainI, Pw.mParF, Pw.mSetSubA, Pw.subOutA, Pw.mNewD, Pw.mWAny, Pw.wkStr, Pw.conV, Pw.dlenD, Pw.mMeth, Pw.methOut, Pw.isTy, Pw.mMut, Pw.mMut0, Pw.isLst, Pw.mutOut, Pw.gAppend, Pw.mLc, Pw.okOwn, Pw.lockE, Pw.unlockE, Pw.wipeE, Pw.restE, Pw.mYes, Pw.Out.bind_ok, nums_nil, nums_v, nums_o, h]
theorem own_notin (ps : List (PySem.Str × Int)) (n : PySem.Str) (e : En) : opBoth notInA notinT (.val (.str n)) (.val (schD ps)) e = .ok (.val (.bl (!(colOf ps n).isSome))) e := by
  have h2 : boolFn f_contains [.val (schD ps), .val (.str n)] = .ok (.val (.bl (colOf ps n).isSome)) [.val (schD ps), .val (.str n)] := by
    unfold boolFn
    rw [v_contains]
  unfold opBoth
  rw [if_pos (by rfl)]
  unfold opOwn
  simp only [share, Out.bind_ok]
  rw [find_ni]
  show resOut true (callD 2 [] (boolFn f_contains) [] [.val (schD ps), .val (.str n)] e) = _
  rw [call_ni h2]
  rfl
theorem nb_col : (PySem.Str.ofString "columns" == PySem.Str.ofString "by_name") = false := by decide
theorem lk_col {ps : List (PySem.Str × Int)} {e : En} : methO o_columns "columns" (.val (schD ps)) e = some i_columns := by
  simp [methO, view, o_columns, List.lookup, nb_col]
theorem meth_col {ps : List (PySem.Str × Int)} {n : PySem.Str} {c : Int} (h : colOf ps n = some c) {mo : ME} {ma : MA} {e : En} (h1 : mo e = .ok (.val (schD ps)) e) (h2 : ma e = .ok [.val (.str n)] e) : mMethO o_columns "columns" mo ma e = .ok (.val (.int c)) e := by
  unfold mMethO
  rw [h1, Out.bind_ok, lk_col]
  dsimp only
  rw [h2, Out.bind_ok]
  exact call_ni (v_columns h)
def spD : Bool → List Int → D
  | true, xs => .lst (xs.map D.int)
  | false, xs => .tup (xs.map D.int)
abbrev GRow := PySem.Str × Bool × List Int
abbrev GD (r : GRow) : D := .tup [.str r.1, spD r.2.1 r.2.2]
def okSpots (nodes : Int) (xs : List Int) : Bool := xs.all fun x => decide (0 ≤ x) && decide (x ≤ nodes - 1)
def okRow (ps : List (PySem.Str × Int)) (nodes : Int) (n : PySem.Str) (xs : List Int) : Bool := match colOf ps n with
  | none => false
  | some c => decide ((xs.length : Int) = c) && okSpots nodes xs
theorem lc_spots (nodes : Int) (s g a b : Sv) : ∀ (xs : List Int) (acc : List D), acc.length + xs.length ≤ 1000 → lcL (.nm 5) mYes (mCall 3 [] f_is_number [] (mCons (mVar 5) (mCons (mC (.int 0)) (mCons (mOp2 (opOut subD) (mVar 1) (mC (.int 1))) (mNil))))) [5] (xs.map D.int) acc [s, I nodes, g, a, b, .none] = some (acc ++ xs.map fun x => D.bl (decide (0 ≤ x) && decide (x ≤ nodes - 1)), [s, I nodes, g, a, b, .none])
  | [], acc, _ => by simp [lcL]
  | x :: xs, acc, h => by
    have ih := lc_spots nodes s g a b xs (acc ++ [.bl (decide (0 ≤ x) && decide (x ≤ nodes - 1))]) (by simp only [List.length_append, List.length_cons, List.length_nil] at h ⊢; omega)
    have hz : acc.length < PySem.sizeLine := smallt (by simp only [List.length_cons] at h; omega)
    have e1 := v_isnum x 0 (nodes - 1)
    simp only [List.append_assoc, List.cons_append, List.nil_append] at ih
    simp [lcL, Pw.runF, Pw.startE, Pw.mSeq, Pw.mSkip, Pw.mExpr, Pw.mRet, Pw.mRetN, Pw.mIfS, Pw.mSet, Pw.setSlot, Pw.mPar, Pw.mPar3, Pw.mAsgT, Pw.tgOut_nm, Pw.tgOut_tp2, Pw.tgOut_tp3, Pw.tgSet_nm, Pw.tgSet_tp2, Pw.mCons, Pw.mNil, Pw.mC, Pw.mVar, Pw.mOp2, Pw.mOp, Pw.mUn, Pw.mUn2, Pw.unBoth, Pw.unOwn, Pw.unOut, Pw.opOut, Pw.opBoth, Pw.opOwn, Pw.opFind, Pw.resOut, Pw.opArgs, Pw.tyD, Pw.isObjR, Pw.mTst, Pw.mTru, Pw.truOut, Pw.truD, Pw.boolOut, Pw.mIf, Pw.mAndT, Pw.mOrT, Pw.mNotT, Pw.mAndV, Pw.mOrV, Pw.mNotV, Pw.norm, Pw.view, Pw.views, Pw.callOut, Pw.mCallB, Pw.mCallO, Pw.call1Both, Pw.chkAny, Pw.share, Pw.shareAll, Pw.putSlot, Pw.fs_val, Pw.fs_none, Pw.fs_own, Pw.retOut, Pw.mergeP, Pw.isOwn, Pw.mCall, Pw.callD, Pw.callOn, Pw.prep, Pw.prep1, Pw.agOk, Pw.penv, Pw.agSlot, Pw.callEnd, Pw.back, Pw.retB, Pw.mMake, Pw.makeD, Pw.makeOn, Pw.makeEnd, Pw.mAttr, Pw.attrOut, Pw.noExn, Pw.mMethO, Pw.methO, Pw.mStatic, Pw.statOut, Pw.mIsi, Pw.isiOut, Pw.isD, Pw.mTup, Pw.mLst, Pw.mSetSub, Pw.subOut, Pw.mSetFld, Pw.fldOut, Pw.putD, Pw.Ct.toD, Pw.gtD, Pw.ltD, Pw.addD, Pw.subD, Pw.mulD, Pw.fdivD, Pw.modD, Pw.negD, Pw.absD, Pw.intD, Pw.lenD, Pw.mRaise, Pw.mJs, Pw.mFmt, Pw.fmtOut, Pw.idxA, Pw.isDctD, Pw.inA, Pw.notInA, Pw.lenA, Pw.isDcts, Pw.mulA, Pw.isLstD, Pw.listA, Pw.mChainI, Pw.mParF, Pw.mSetSubA, Pw.subOutA, Pw.mNewD, Pw.mWAny, Pw.wkStr, Pw.conV, Pw.dlenD, Pw.mMeth, Pw.methOut, Pw.isTy, Pw.mMut, Pw.mMut0, Pw.isLst, Pw.mutOut, Pw.gAppend, Pw.mLc, Pw.okOwn, Pw.lockE, Pw.unlockE, Pw.wipeE, Pw.restE, Pw.mYes, Pw.Out.bind_ok, nums_nil, nums_v, nums_o, hz, e1, ih]
noncomputable def c_is_row_0 : MS := mAsgT (.tp [.nm 3, .nm 4]) (mVar 2)
noncomputable def c_is_row_1 : MS := mIfS (mOrT (mTst (mOp2 (opBoth notInA notinT) (mVar 3) (mVar 0))) (mTst (mOp2 (opOut Pw.neD) (mCallB lenA (mCons (mVar 4) (mNil))) (mMethO o_columns "columns" (mVar 0) (mCons (mVar 3) (mNil)))))) (mSeq (mRet (mC (.bl false))) (mSkip)) (mSkip)
noncomputable def c_is_row_2 : MS := mRet (mCallB Pw.allD (mCons (mLc [5] (.nm 5) (mWAny (mVar 4)) (mYes) (mCall 3 [] f_is_number [] (mCons (mVar 5) (mCons (mC (.int 0)) (mCons (mOp2 (opOut Pw.subD) (mVar 1) (mC (.int 1))) (mNil)))))) (mNil)))
theorem c_is_row_eq : m_is_row = mSeq c_is_row_0 ( mSeq c_is_row_1 ( mSeq c_is_row_2 (mSkip))) := rfl
noncomputable def irA : ME := mOp2 (opBoth notInA notinT) (mVar 3) (mVar 0)
noncomputable def irL : ME := mCallB lenA (mCons (mVar 4) (mNil))
noncomputable def irM : ME := mMethO o_columns "columns" (mVar 0) (mCons (mVar 3) (mNil))
noncomputable def irC : ME := mLc [5] (.nm 5) (mWAny (mVar 4)) (mYes) (mCall 3 [] f_is_number [] (mCons (mVar 5) (mCons (mC (.int 0)) (mCons (mOp2 (opOut Pw.subD) (mVar 1) (mC (.int 1))) (mNil)))))
theorem is_row_1 : c_is_row_1 = mIfS (mOrT (mTst irA) (mTst (mOp2 (opOut Pw.neD) irL irM))) (mSeq (mRet (mC (.bl false))) (mSkip)) (mSkip) := rfl
theorem is_row_2 : c_is_row_2 = mRet (mCallB Pw.allD (mCons irC mNil)) := rfl
section
variable {ps : List (PySem.Str × Int)} {nodes : Int} {g : Sv} {n : PySem.Str}
theorem irA_v {sp : Sv} : irA [.val (schD ps), I nodes, g, .val (.str n), sp, .none] = .ok (.val (.bl (!(colOf ps n).isSome))) [.val (schD ps), I nodes, g, .val (.str n), sp, .none] := by
  unfold irA
  simp only [mOp2, mVar, List.getElem?_cons_succ, List.getElem?_cons_zero, Out.bind_ok, norm]
  exact own_notin ps n _
theorem irL_v {l : Bool} {xs : List Int} {a : Sv} : irL [.val (schD ps), I nodes, g, a, .val (spD l xs), .none] = .ok (.val (.int xs.length)) [.val (schD ps), I nodes, g, a, .val (spD l xs), .none] := by
  cases l <;> simp [irL, spD, Pw.runF, Pw.startE, Pw.mSeq, Pw.mSkip, Pw.mExpr, Pw.mRet, Pw.mRetN, Pw.mIfS, Pw.mSet, Pw.setSlot, Pw.mPar, Pw.mPar3, Pw.mAsgT, Pw.tgOut_nm, Pw.tgOut_tp2, Pw.tgOut_tp3, Pw.tgSet_nm, Pw.tgSet_tp2, Pw.mCons, Pw.mNil, Pw.mC, Pw.mVar, Pw.mOp2, Pw.mOp, Pw.mUn, Pw.mUn2, Pw.unBoth, Pw.unOwn, Pw.unOut, Pw.opOut, Pw.opBoth, Pw.opOwn, Pw.opFind, Pw.resOut, Pw.opArgs, Pw.tyD, Pw.isObjR, Pw.mTst, Pw.mTru, Pw.truOut, Pw.truD, Pw.boolOut, Pw.mIf, Pw.mAndT, Pw.mOrT, Pw.mNotT, Pw.mAndV, Pw.mOrV, Pw.mNotV, Pw.norm, Pw.view, Pw.views, Pw.callOut, Pw.mCallB, Pw.mCallO, Pw.call1Both, Pw.chkAny, Pw.share, Pw.shareAll, Pw.putSlot, Pw.fs_val, Pw.fs_none, Pw.fs_own, Pw.retOut, Pw.mergeP, Pw.isOwn, Pw.mCall, Pw.callD, Pw.callOn, Pw.prep, Pw.prep1, Pw.agOk, Pw.penv, Pw.agSlot, Pw.callEnd, Pw.back, Pw.retB, Pw.mMake, Pw.makeD, Pw.makeOn, Pw.makeEnd, Pw.mAttr, Pw.attrOut, Pw.noExn, Pw.mMethO, Pw.methO, Pw.mStatic, Pw.statOut, Pw.mIsi, Pw.isiOut, Pw.isD, Pw.mTup, Pw.mLst, Pw.mSetSub, Pw.subOut, Pw.mSetFld, Pw.fldOut, Pw.putD, Pw.Ct.toD, Pw.gtD, Pw.ltD, Pw.addD, Pw.subD, Pw.mulD, Pw.fdivD, Pw.modD, Pw.negD, Pw.absD, Pw.intD, Pw.lenD, Pw.mRaise, Pw.mJs, Pw.mFmt, Pw.fmtOut, Pw.idxA, Pw.isDctD, Pw.inA, Pw.notInA, Pw.lenA, Pw.isDcts, Pw.mulA, Pw.isLstD, Pw.listA, Pw.mChainI, Pw.mParF, Pw.mSetSubA, Pw.subOutA, Pw.mNewD, Pw.mWAny, Pw.wkStr, Pw.conV, Pw.dlenD, Pw.mMeth, Pw.methOut, Pw.isTy, Pw.mMut, Pw.mMut0, Pw.isLst, Pw.mutOut, Pw.gAppend, Pw.mLc, Pw.okOwn, Pw.lockE, Pw.unlockE, Pw.wipeE, Pw.restE, Pw.mYes, Pw.Out.bind_ok, nums_nil, nums_v, nums_o]
theorem irM_v {c : Int} {sp : Sv} (h : colOf ps n = some c) : irM [.val (schD ps), I nodes, g, .val (.str n), sp, .none] = .ok (.val (.int c)) [.val (schD ps), I nodes, g, .val (.str n), sp, .none] :=
  meth_col h (by simp [Pw.runF, Pw.startE, Pw.mSeq, Pw.mSkip, Pw.mExpr, Pw.mRet, Pw.mRetN, Pw.mIfS, Pw.mSet, Pw.setSlot, Pw.mPar, Pw.mPar3, Pw.mAsgT, Pw.tgOut_nm, Pw.tgOut_tp2, Pw.tgOut_tp3, Pw.tgSet_nm, Pw.tgSet_tp2, Pw.mCons, Pw.mNil, Pw.mC, Pw.mVar, Pw.mOp2, Pw.mOp, Pw.mUn, Pw.mUn2, Pw.unBoth, Pw.unOwn, Pw.unOut, Pw.opOut, Pw.opBoth, Pw.opOwn, Pw.opFind, Pw.resOut, Pw.opArgs, Pw.tyD, Pw.isObjR, Pw.mTst, Pw.mTru, Pw.truOut, Pw.truD, Pw.boolOut, Pw.mIf, Pw.mAndT, Pw.mOrT, Pw.mNotT, Pw.mAndV, Pw.mOrV, Pw.mNotV, Pw.norm, Pw.view, Pw.views, Pw.callOut, Pw.mCallB, Pw.mCallO, Pw.call1Both, Pw.chkAny, Pw.share, Pw.shareAll, Pw.putSlot, Pw.fs_val, Pw.fs_none, Pw.fs_own, Pw.retOut, Pw.mergeP, Pw.isOwn, Pw.mCall, Pw.callD, Pw.callOn, Pw.prep, Pw.prep1, Pw.agOk, Pw.penv, Pw.agSlot, Pw.callEnd, Pw.back, Pw.retB, Pw.mMake, Pw.makeD, Pw.makeOn, Pw.makeEnd, Pw.mAttr, Pw.attrOut, Pw.noExn, Pw.mMethO, Pw.methO, Pw.mStatic, Pw.statOut, Pw.mIsi, Pw.isiOut, Pw.isD, Pw.mTup, Pw.mLst, Pw.mSetSub, Pw.subOut, Pw.mSetFld, Pw.fldOut, Pw.putD, Pw.Ct.toD, Pw.gtD, Pw.ltD, Pw.addD, Pw.subD, Pw.mulD, Pw.fdivD, Pw.modD, Pw.negD, Pw.absD, Pw.intD, Pw.lenD, Pw.mRaise, Pw.mJs, Pw.mFmt, Pw.fmtOut, Pw.idxA, Pw.isDctD, Pw.inA, Pw.notInA, Pw.lenA, Pw.isDcts, Pw.mulA, Pw.isLstD, Pw.listA, Pw.mChainI, Pw.mParF, Pw.mSetSubA, Pw.subOutA, Pw.mNewD, Pw.mWAny, Pw.wkStr, Pw.conV, Pw.dlenD, Pw.mMeth, Pw.methOut, Pw.isTy, Pw.mMut, Pw.mMut0, Pw.isLst, Pw.mutOut, Pw.gAppend, Pw.mLc, Pw.okOwn, Pw.lockE, Pw.unlockE, Pw.wipeE, Pw.restE, Pw.mYes, Pw.Out.bind_ok]) (by simp [Pw.runF, Pw.startE, Pw.mSeq, Pw.mSkip, Pw.mExpr, Pw.mRet, Pw.mRetN, Pw.mIfS, Pw.mSet, Pw.setSlot, Pw.mPar, Pw.mPar3, Pw.mAsgT, Pw.tgOut_nm, Pw.tgOut_tp2, Pw.tgOut_tp3, Pw.tgSet_nm, Pw.tgSet_tp2, Pw.mCons, Pw.mNil, Pw.mC, Pw.mVar, Pw.mOp2, Pw.mOp, Pw.mUn, Pw.mUn2, Pw.unBoth, Pw.unOwn, Pw.unOut, Pw.opOut, Pw.opBoth, Pw.opOwn, Pw.opFind, Pw.resOut, Pw.opArgs, Pw.tyD, Pw.isObjR, Pw.mTst, Pw.mTru, Pw.truOut, Pw.truD, Pw.boolOut, Pw.mIf, Pw.mAndT, Pw.mOrT, Pw.mNotT, Pw.mAndV, Pw.mOrV, Pw.mNotV, Pw.norm, Pw.view, Pw.views, Pw.callOut, Pw.mCallB, Pw.mCallO, Pw.call1Both, Pw.chkAny, Pw.share, Pw.shareAll, Pw.putSlot, Pw.fs_val, Pw.fs_none, Pw.fs_own, Pw.retOut, Pw.mergeP, Pw.isOwn, Pw.mCall, Pw.callD, Pw.callOn, Pw.prep, Pw.prep1, Pw.agOk, Pw.penv, Pw.agSlot, Pw.callEnd, Pw.back, Pw.retB, Pw.mMake, Pw.makeD, Pw.makeOn, Pw.makeEnd, Pw.mAttr, Pw.attrOut, Pw.noExn, Pw.mMethO, Pw.methO, Pw.mStatic, Pw.statOut, Pw.mIsi, Pw.isiOut, Pw.isD, Pw.mTup, Pw.mLst, Pw.mSetSub, Pw.subOut, Pw.mSetFld, Pw.fldOut, Pw.putD, Pw.Ct.toD, Pw.gtD, Pw.ltD, Pw.addD, Pw.subD, Pw.mulD, Pw.fdivD, Pw.modD, Pw.negD, Pw.absD, Pw.intD, Pw.lenD, Pw.mRaise, Pw.mJs, Pw.mFmt, Pw.fmtOut, Pw.idxA, Pw.isDctD, Pw.inA, Pw.notInA, Pw.lenA, Pw.isDcts, Pw.mulA, Pw.isLstD, Pw.listA, Pw.mChainI, Pw.mParF, Pw.mSetSubA, Pw.subOutA, Pw.mNewD, Pw.mWAny, Pw.wkStr, Pw.conV, Pw.dlenD, Pw.mMeth, Pw.methOut, Pw.isTy, Pw.mMut, Pw.mMut0, Pw.isLst, Pw.mutOut, Pw.gAppend, Pw.mLc, Pw.okOwn, Pw.lockE, Pw.unlockE, Pw.wipeE, Pw.restE, Pw.mYes, Pw.Out.bind_ok])
theorem irC_v {l : Bool} {xs : List Int} {a : Sv} (hx : xs.length ≤ 1000) : irC [.val (schD ps), I nodes, g, a, .val (spD l xs), .none] = .ok (.fresh (.lst (xs.map fun x => D.bl (decide (0 ≤ x) && decide (x ≤ nodes - 1))))) [.val (schD ps), I nodes, g, a, .val (spD l xs), .none] := by
  have e := lc_spots nodes (.val (schD ps)) g a (.val (spD l xs)) xs [] (by simpa using hx)
  simp only [List.nil_append] at e
  cases l <;> simp only [spD] at e <;> simp [irC, spD, Pw.runF, Pw.startE, Pw.mSeq, Pw.mSkip, Pw.mExpr, Pw.mRet, Pw.mRetN, Pw.mIfS, Pw.mSet, Pw.setSlot, Pw.mPar, Pw.mPar3, Pw.mAsgT, Pw.tgOut_nm, Pw.tgOut_tp2, Pw.tgOut_tp3, Pw.tgSet_nm, Pw.tgSet_tp2, Pw.mCons, Pw.mNil, Pw.mC, Pw.mVar, Pw.mOp2, Pw.mOp, Pw.mUn, Pw.mUn2, Pw.unBoth, Pw.unOwn, Pw.unOut, Pw.opOut, Pw.opBoth, Pw.opOwn, Pw.opFind, Pw.resOut, Pw.opArgs, Pw.tyD, Pw.isObjR, Pw.mTst, Pw.mTru, Pw.truOut, Pw.truD, Pw.boolOut, Pw.mIf, Pw.mAndT, Pw.mOrT, Pw.mNotT, Pw.mAndV, Pw.mOrV, Pw.mNotV, Pw.norm, Pw.view, Pw.views, Pw.callOut, Pw.mCallB, Pw.mCallO, Pw.call1Both, Pw.chkAny, Pw.share, Pw.shareAll, Pw.putSlot, Pw.fs_val, Pw.fs_none, Pw.fs_own, Pw.retOut, Pw.mergeP, Pw.isOwn, Pw.mCall, Pw.callD, Pw.callOn, Pw.prep, Pw.prep1, Pw.agOk, Pw.penv, Pw.agSlot, Pw.callEnd, Pw.back, Pw.retB, Pw.mMake, Pw.makeD, Pw.makeOn, Pw.makeEnd, Pw.mAttr, Pw.attrOut, Pw.noExn, Pw.mMethO, Pw.methO, Pw.mStatic, Pw.statOut, Pw.mIsi, Pw.isiOut, Pw.isD, Pw.mTup, Pw.mLst, Pw.mSetSub, Pw.subOut, Pw.mSetFld, Pw.fldOut, Pw.putD, Pw.Ct.toD, Pw.gtD, Pw.ltD, Pw.addD, Pw.subD, Pw.mulD, Pw.fdivD, Pw.modD, Pw.negD, Pw.absD, Pw.intD, Pw.lenD, Pw.mRaise, Pw.mJs, Pw.mFmt, Pw.fmtOut, Pw.idxA, Pw.isDctD, Pw.inA, Pw.notInA, Pw.lenA, Pw.isDcts, Pw.mulA, Pw.isLstD, Pw.listA, Pw.mChainI, Pw.mParF, Pw.mSetSubA, Pw.subOutA, Pw.mNewD, Pw.mWAny, Pw.wkStr, Pw.conV, Pw.dlenD, Pw.mMeth, Pw.methOut, Pw.isTy, Pw.mMut, Pw.mMut0, Pw.isLst, Pw.mutOut, Pw.gAppend, Pw.mLc, Pw.okOwn, Pw.lockE, Pw.unlockE, Pw.wipeE, Pw.restE, Pw.mYes, Pw.Out.bind_ok, nums_nil, nums_v, nums_o, wkOf, wkVal, e]
theorem v_isrow (r : GRow) (hx : r.2.2.length ≤ 1000) : f_is_row [.val (schD ps), I nodes, .val (GD r)] = .ok (.val (.bl (okRow ps nodes r.1 r.2.2))) [.val (schD ps), I nodes, .val (GD r)] := by
  obtain ⟨n, l, xs⟩ := r
  have a1 := irA_v (ps := ps) (nodes := nodes) (g := .val (GD (n, l, xs))) (n := n) (sp := .val (spD l xs))
  cases hc : colOf ps n with
  | none =>
    rw [hc] at a1
    simp [f_is_row, c_is_row_eq, c_is_row_0, is_row_1, okRow, hc, Pw.runF, Pw.startE, Pw.mSeq, Pw.mSkip, Pw.mExpr, Pw.mRet, Pw.mRetN, Pw.mIfS, Pw.mSet, Pw.setSlot, Pw.mPar, Pw.mPar3, Pw.mAsgT, Pw.tgOut_nm, Pw.tgOut_tp2, Pw.tgOut_tp3, Pw.tgSet_nm, Pw.tgSet_tp2, Pw.mCons, Pw.mNil, Pw.mC, Pw.mVar, Pw.mOp2, Pw.mOp, Pw.mUn, Pw.mUn2, Pw.unBoth, Pw.unOwn, Pw.unOut, Pw.opOut, Pw.opBoth, Pw.opOwn, Pw.opFind, Pw.resOut, Pw.opArgs, Pw.tyD, Pw.isObjR, Pw.mTst, Pw.mTru, Pw.truOut, Pw.truD, Pw.boolOut, Pw.mIf, Pw.mAndT, Pw.mOrT, Pw.mNotT, Pw.mAndV, Pw.mOrV, Pw.mNotV, Pw.norm, Pw.view, Pw.views, Pw.callOut, Pw.mCallB, Pw.mCallO, Pw.call1Both, Pw.chkAny, Pw.share, Pw.shareAll, Pw.putSlot, Pw.fs_val, Pw.fs_none, Pw.fs_own, Pw.retOut, Pw.mergeP, Pw.isOwn, Pw.mCall, Pw.callD, Pw.callOn, Pw.prep, Pw.prep1, Pw.agOk, Pw.penv, Pw.agSlot, Pw.callEnd, Pw.back, Pw.retB, Pw.mMake, Pw.makeD, Pw.makeOn, Pw.makeEnd, Pw.mAttr, Pw.attrOut, Pw.noExn, Pw.mMethO, Pw.methO, Pw.mStatic, Pw.statOut, Pw.mIsi, Pw.isiOut, Pw.isD, Pw.mTup, Pw.mLst, Pw.mSetSub, Pw.subOut, Pw.mSetFld, Pw.fldOut, Pw.putD, Pw.Ct.toD, Pw.gtD, Pw.ltD, Pw.addD, Pw.subD, Pw.mulD, Pw.fdivD, Pw.modD, Pw.negD, Pw.absD, Pw.intD, Pw.lenD, Pw.mRaise, Pw.mJs, Pw.mFmt, Pw.fmtOut, Pw.idxA, Pw.isDctD, Pw.inA, Pw.notInA, Pw.lenA, Pw.isDcts, Pw.mulA, Pw.isLstD, Pw.listA, Pw.mChainI, Pw.mParF, Pw.mSetSubA, Pw.subOutA, Pw.mNewD, Pw.mWAny, Pw.wkStr, Pw.conV, Pw.dlenD, Pw.mMeth, Pw.methOut, Pw.isTy, Pw.mMut, Pw.mMut0, Pw.isLst, Pw.mutOut, Pw.gAppend, Pw.mLc, Pw.okOwn, Pw.lockE, Pw.unlockE, Pw.wipeE, Pw.restE, Pw.mYes, Pw.Out.bind_ok, nums_nil, nums_v, nums_o, a1]
  | some c =>
    rw [hc] at a1
    have a2 := irL_v (ps := ps) (nodes := nodes) (g := .val (GD (n, l, xs))) (a := .val (.str n)) (l := l) (xs := xs)
    have a3 := irM_v (nodes := nodes) (g := .val (GD (n, l, xs))) (sp := .val (spD l xs)) hc
    have a4 := irC_v (ps := ps) (nodes := nodes) (g := .val (GD (n, l, xs))) (a := .val (.str n)) (l := l) (xs := xs) hx
    by_cases hl : (xs.length : Int) = c
    · subst hl
      have a5 : Pw.neD (.int xs.length) (.int xs.length) = .val (.bl false) := by rw [neD_int, decide_eq_true rfl]; rfl
      have a6 := bools_map (fun x => decide (0 ≤ x) && decide (x ≤ nodes - 1)) xs
      simp [f_is_row, c_is_row_eq, c_is_row_0, is_row_1, is_row_2, okRow, hc, Pw.runF, Pw.startE, Pw.mSeq, Pw.mSkip, Pw.mExpr, Pw.mRet, Pw.mRetN, Pw.mIfS, Pw.mSet, Pw.setSlot, Pw.mPar, Pw.mPar3, Pw.mAsgT, Pw.tgOut_nm, Pw.tgOut_tp2, Pw.tgOut_tp3, Pw.tgSet_nm, Pw.tgSet_tp2, Pw.mCons, Pw.mNil, Pw.mC, Pw.mVar, Pw.mOp2, Pw.mOp, Pw.mUn, Pw.mUn2, Pw.unBoth, Pw.unOwn, Pw.unOut, Pw.opOut, Pw.opBoth, Pw.opOwn, Pw.opFind, Pw.resOut, Pw.opArgs, Pw.tyD, Pw.isObjR, Pw.mTst, Pw.mTru, Pw.truOut, Pw.truD, Pw.boolOut, Pw.mIf, Pw.mAndT, Pw.mOrT, Pw.mNotT, Pw.mAndV, Pw.mOrV, Pw.mNotV, Pw.norm, Pw.view, Pw.views, Pw.callOut, Pw.mCallB, Pw.mCallO, Pw.call1Both, Pw.chkAny, Pw.share, Pw.shareAll, Pw.putSlot, Pw.fs_val, Pw.fs_none, Pw.fs_own, Pw.retOut, Pw.mergeP, Pw.isOwn, Pw.mCall, Pw.callD, Pw.callOn, Pw.prep, Pw.prep1, Pw.agOk, Pw.penv, Pw.agSlot, Pw.callEnd, Pw.back, Pw.retB, Pw.mMake, Pw.makeD, Pw.makeOn, Pw.makeEnd, Pw.mAttr, Pw.attrOut, Pw.noExn, Pw.mMethO, Pw.methO, Pw.mStatic, Pw.statOut, Pw.mIsi, Pw.isiOut, Pw.isD, Pw.mTup, Pw.mLst, Pw.mSetSub, Pw.subOut, Pw.mSetFld, Pw.fldOut, Pw.putD, Pw.Ct.toD, Pw.gtD, Pw.ltD, Pw.addD, Pw.subD, Pw.mulD, Pw.fdivD, Pw.modD, Pw.negD, Pw.absD, Pw.intD, Pw.lenD, Pw.mRaise, Pw.mJs, Pw.mFmt, Pw.fmtOut, Pw.idxA, Pw.isDctD, Pw.inA, Pw.notInA, Pw.lenA, Pw.isDcts, Pw.mulA, Pw.isLstD, Pw.listA, Pw.mChainI, Pw.mParF, Pw.mSetSubA, Pw.subOutA, Pw.mNewD, Pw.mWAny, Pw.wkStr, Pw.conV, Pw.dlenD, Pw.mMeth, Pw.methOut, Pw.isTy, Pw.mMut, Pw.mMut0, Pw.isLst, Pw.mutOut, Pw.gAppend, Pw.mLc, Pw.okOwn, Pw.lockE, Pw.unlockE, Pw.wipeE, Pw.restE, Pw.mYes, Pw.Out.bind_ok, nums_nil, nums_v, nums_o, a1, a2, a3, a4, a5, Pw.allD, a6, okSpots, List.all_map, Function.comp_def]
    · have a5 : Pw.neD (.int xs.length) (.int c) = .val (.bl true) := by rw [neD_int, decide_eq_false hl]; rfl
      simp [f_is_row, c_is_row_eq, c_is_row_0, is_row_1, okRow, hc, Pw.runF, Pw.startE, Pw.mSeq, Pw.mSkip, Pw.mExpr, Pw.mRet, Pw.mRetN, Pw.mIfS, Pw.mSet, Pw.setSlot, Pw.mPar, Pw.mPar3, Pw.mAsgT, Pw.tgOut_nm, Pw.tgOut_tp2, Pw.tgOut_tp3, Pw.tgSet_nm, Pw.tgSet_tp2, Pw.mCons, Pw.mNil, Pw.mC, Pw.mVar, Pw.mOp2, Pw.mOp, Pw.mUn, Pw.mUn2, Pw.unBoth, Pw.unOwn, Pw.unOut, Pw.opOut, Pw.opBoth, Pw.opOwn, Pw.opFind, Pw.resOut, Pw.opArgs, Pw.tyD, Pw.isObjR, Pw.mTst, Pw.mTru, Pw.truOut, Pw.truD, Pw.boolOut, Pw.mIf, Pw.mAndT, Pw.mOrT, Pw.mNotT, Pw.mAndV, Pw.mOrV, Pw.mNotV, Pw.norm, Pw.view, Pw.views, Pw.callOut, Pw.mCallB, Pw.mCallO, Pw.call1Both, Pw.chkAny, Pw.share, Pw.shareAll, Pw.putSlot, Pw.fs_val, Pw.fs_none, Pw.fs_own, Pw.retOut, Pw.mergeP, Pw.isOwn, Pw.mCall, Pw.callD, Pw.callOn, Pw.prep, Pw.prep1, Pw.agOk, Pw.penv, Pw.agSlot, Pw.callEnd, Pw.back, Pw.retB, Pw.mMake, Pw.makeD, Pw.makeOn, Pw.makeEnd, Pw.mAttr, Pw.attrOut, Pw.noExn, Pw.mMethO, Pw.methO, Pw.mStatic, Pw.statOut, Pw.mIsi, Pw.isiOut, Pw.isD, Pw.mTup, Pw.mLst, Pw.mSetSub, Pw.subOut, Pw.mSetFld, Pw.fldOut, Pw.putD, Pw.Ct.toD, Pw.gtD, Pw.ltD, Pw.addD, Pw.subD, Pw.mulD, Pw.fdivD, Pw.modD, Pw.negD, Pw.absD, Pw.intD, Pw.lenD, Pw.mRaise, Pw.mJs, Pw.mFmt, Pw.fmtOut, Pw.idxA, Pw.isDctD, Pw.inA, Pw.notInA, Pw.lenA, Pw.isDcts, Pw.mulA, Pw.isLstD, Pw.listA, Pw.mChainI, Pw.mParF, Pw.mSetSubA, Pw.subOutA, Pw.mNewD, Pw.mWAny, Pw.wkStr, Pw.conV, Pw.dlenD, Pw.mMeth, Pw.methOut, Pw.isTy, Pw.mMut, Pw.mMut0, Pw.isLst, Pw.mutOut, Pw.gAppend, Pw.mLc, Pw.okOwn, Pw.lockE, Pw.unlockE, Pw.wipeE, Pw.restE, Pw.mYes, Pw.Out.bind_ok, nums_nil, nums_v, nums_o, a1, a2, a3, a5, hl]
end

end K07

set_option maxHeartbeats 8000000
/-! K07i: Shape.__init__. -/
namespace K07
open Pw Lw Lx Ly
/-! ### Shape.__init__ -/
abbrev rowOf (r : GRow) : Row := (r.1, r.2.2)
theorem tup_sp (l : Bool) (xs : List Int) : Pw.tupleD [spD l xs] = .val (.tup (xs.map D.int)) := by cases l <;> rfl
abbrev XRow (k : Int) : Ex := ⟨"InvalidRow", [("code", .str "InvalidRow"), ("at", .int k)]⟩
abbrev XSize (k : Int) : Ex := ⟨"InvalidSize", [("code", .str "InvalidSize"), ("given", .int k)]⟩
theorem fl_row (k : Int) : fl_InvalidRow.d [.int k] = ([("code", .str "InvalidRow"), ("at", .int k)] : List (PySem.Str × D)) := rfl
theorem fl_size (k : Int) : fl_InvalidSize.d [.int k] = ([("code", .str "InvalidSize"), ("given", .int k)] : List (PySem.Str × D)) := rfl
noncomputable def c_sinit_0 : MS := mIfS (mNotT (mTru (mCall 3 [] f_is_number [] (mCons (mVar 2) (mCons (mC (.int 0)) (mCons (mC (conV (.inl 60))) (mNil))))))) (mSeq (mRaise "InvalidSize" 1 fl_InvalidSize (mCons (mVar 2) (mNil))) (mSkip)) (mSkip)
noncomputable def c_sinit_1 : MS := mSet 4 (mNewD)
noncomputable def c_sinit_2_0 : MS := mIfS (mNotT (mTru (mCall 3 [] f_is_row [] (mCons (mVar 1) (mCons (mVar 2) (mCons (mVar 6) (mNil))))))) (mSeq (mRaise "InvalidRow" 1 fl_InvalidRow (mCons (mVar 5) (mNil))) (mSkip)) (mSkip)
noncomputable def c_sinit_2_1 : MS := mAsgT (.tp [.nm 7, .nm 8]) (mVar 6)
noncomputable def c_sinit_2_2 : MS := mSetSubA (mVar 4) (mTup (mCons (mVar 7) (mCons (mCallB tupleD (mCons (mVar 8) (mNil))) (mNil)))) (mC (.bl true))
noncomputable def c_sinit_2b : MS := mSeq c_sinit_2_0 ( mSeq c_sinit_2_1 ( mSeq c_sinit_2_2 (mSkip)))
noncomputable def c_sinit_2 : MS := mFor (.tp [.nm 5, .nm 6]) (mWEnum (mCons (mVar 3) (mNil))) c_sinit_2b
noncomputable def c_sinit_3 : MS := mSetFld a_plan.flds "plan" (mVar 0) (mVar 1)
noncomputable def c_sinit_4 : MS := mSetFld a_many.flds "many" (mVar 0) (mVar 2)
noncomputable def c_sinit_5 : MS := mSetFld a_row_list.flds "row_list" (mVar 0) (mCallB tupleD (mCons (mCallB sortedD (mCons (mCallB listA (mCons (mVar 4) (mNil))) (mNil))) (mNil)))
noncomputable def c_sinit_6 : MS := mSetFld a_known_rows.flds "known_rows" (mVar 0) (mVar 4)
theorem c_sinit_eq : m_sinit = mSeq c_sinit_0 ( mSeq c_sinit_1 ( mSeq c_sinit_2 ( mSeq c_sinit_3 ( mSeq c_sinit_4 ( mSeq c_sinit_5 ( mSeq c_sinit_6 (mSkip))))))) := rfl
theorem ok_name {ps : List (PySem.Str × Int)} {nodes : Int} {n : PySem.Str} {xs : List Int} (hs : ∀ p ∈ ps, PySem.PyData.strOk p.1 = true) (h : okRow ps nodes n xs = true) : PySem.PyData.strOk n = true := by
  unfold okRow at h
  cases hc : colOf ps n with
  | none => rw [hc] at h; cases h
  | some c =>
    unfold colOf at hc
    cases hf : ps.find? fun p => decide (p.1 = n) with
    | none => rw [hf] at hc; cases hc
    | some p =>
      have h1 := List.find?_some hf
      have h2 := List.mem_of_find?_eq_some hf
      rw [← of_decide_eq_true h1]
      exact hs p h2
section
variable {ps : List (PySem.Str × Int)} {nodes : Int} {S R a b c d : Sv}
theorem turn_sok {k : Nat} {seen : List Row} {r : GRow} (hps : ∀ p ∈ ps, PySem.PyData.strOk p.1 = true) (hx : r.2.2.length ≤ 1000) (hs : seen.length ≤ 900) (hn : ∀ x ∈ seen, PySem.PyData.strOk x.1 = true) (h : okRow ps nodes r.1 r.2.2 = true) (ha : Fr a) (hb : Fr b) (hc : Fr c) (hd : Fr d) :
    turnF (.tp [.nm 5, .nm 6]) c_sinit_2b (.tup [.int k, GD r]) [S, .val (schD ps), I nodes, R, .own false false (.dct (rowsDct seen)), a, b, c, d] = .next [S, .val (schD ps), I nodes, R, .own false false (.dct (rowsDct (addR seen (rowOf r)))), I k, .val (GD r), .val (.str r.1), .val (spD r.2.1 r.2.2)] := by
  have e1 := v_isrow (ps := ps) (nodes := nodes) r hx
  rw [h] at e1
  have hz : (rowsDct seen).length < PySem.sizeLine := smallt (by rw [len_rows]; omega)
  have hk := key_rows (r := rowOf r) (ok_name hps h) hn
  have e4 := put_rows seen (rowOf r)
  have e5 := tup_sp r.2.1 r.2.2
  have z2 : (2 : Nat) ≤ PySem.sizeLine := by decide
  rw [turnF_at]
  simp [c_sinit_2b, c_sinit_2_0, c_sinit_2_1, c_sinit_2_2, Pw.runF, Pw.startE, Pw.mSeq, Pw.mSkip, Pw.mExpr, Pw.mRet, Pw.mRetN, Pw.mIfS, Pw.mSet, Pw.setSlot, Pw.mPar, Pw.mPar3, Pw.mAsgT, Pw.tgOut_nm, Pw.tgOut_tp2, Pw.tgOut_tp3, Pw.tgSet_nm, Pw.tgSet_tp2, Pw.mCons, Pw.mNil, Pw.mC, Pw.mVar, Pw.mOp2, Pw.mOp, Pw.mUn, Pw.mUn2, Pw.unBoth, Pw.unOwn, Pw.unOut, Pw.opOut, Pw.opBoth, Pw.opOwn, Pw.opFind, Pw.resOut, Pw.opArgs, Pw.tyD, Pw.isObjR, Pw.mTst, Pw.mTru, Pw.truOut, Pw.truD, Pw.boolOut, Pw.mIf, Pw.mAndT, Pw.mOrT, Pw.mNotT, Pw.mAndV, Pw.mOrV, Pw.mNotV, Pw.norm, Pw.view, Pw.views, Pw.callOut, Pw.mCallB, Pw.mCallO, Pw.call1Both, Pw.chkAny, Pw.share, Pw.shareAll, Pw.putSlot, Pw.fs_val, Pw.fs_none, Pw.fs_own, Pw.retOut, Pw.mergeP, Pw.isOwn, Pw.mCall, Pw.callD, Pw.callOn, Pw.prep, Pw.prep1, Pw.agOk, Pw.penv, Pw.agSlot, Pw.callEnd, Pw.back, Pw.retB, Pw.mMake, Pw.makeD, Pw.makeOn, Pw.makeEnd, Pw.mAttr, Pw.attrOut, Pw.noExn, Pw.mMethO, Pw.methO, Pw.mStatic, Pw.statOut, Pw.mIsi, Pw.isiOut, Pw.isD, Pw.mTup, Pw.mLst, Pw.mSetSub, Pw.subOut, Pw.mSetFld, Pw.fldOut, Pw.putD, Pw.Ct.toD, Pw.gtD, Pw.ltD, Pw.addD, Pw.subD, Pw.mulD, Pw.fdivD, Pw.modD, Pw.negD, Pw.absD, Pw.intD, Pw.lenD, Pw.mRaise, Pw.mJs, Pw.mFmt, Pw.fmtOut, Pw.idxA, Pw.isDctD, Pw.inA, Pw.notInA, Pw.lenA, Pw.isDcts, Pw.mulA, Pw.isLstD, Pw.listA, Pw.mChainI, Pw.mParF, Pw.mSetSubA, Pw.subOutA, Pw.mNewD, Pw.mWAny, Pw.wkStr, Pw.conV, Pw.dlenD, Pw.mMeth, Pw.methOut, Pw.isTy, Pw.mMut, Pw.mMut0, Pw.isLst, Pw.mutOut, Pw.gAppend, Pw.mLc, Pw.okOwn, Pw.lockE, Pw.unlockE, Pw.wipeE, Pw.restE, Pw.mYes, Pw.Out.bind_ok, nums_nil, nums_v, nums_o, ha, hb, hc, hd, e1, e4, e5, hk, hz, z2]
theorem turn_sbad {k : Nat} {seen : List Row} {r : GRow} (hx : r.2.2.length ≤ 1000) (h : okRow ps nodes r.1 r.2.2 = false) (ha : Fr a) (hb : Fr b) (hc : Fr c) (hd : Fr d) :
    turnF (.tp [.nm 5, .nm 6]) c_sinit_2b (.tup [.int k, GD r]) [S, .val (schD ps), I nodes, R, .own false false (.dct (rowsDct seen)), a, b, c, d] = .exn (XRow k) [S, .val (schD ps), I nodes, R, .own false false (.dct (rowsDct seen)), I k, .val (GD r), c, d] := by
  have e1 := v_isrow (ps := ps) (nodes := nodes) r hx
  rw [h] at e1
  rw [turnF_at]
  simp [c_sinit_2b, c_sinit_2_0, c_sinit_2_1, c_sinit_2_2, Pw.runF, Pw.startE, Pw.mSeq, Pw.mSkip, Pw.mExpr, Pw.mRet, Pw.mRetN, Pw.mIfS, Pw.mSet, Pw.setSlot, Pw.mPar, Pw.mPar3, Pw.mAsgT, Pw.tgOut_nm, Pw.tgOut_tp2, Pw.tgOut_tp3, Pw.tgSet_nm, Pw.tgSet_tp2, Pw.mCons, Pw.mNil, Pw.mC, Pw.mVar, Pw.mOp2, Pw.mOp, Pw.mUn, Pw.mUn2, Pw.unBoth, Pw.unOwn, Pw.unOut, Pw.opOut, Pw.opBoth, Pw.opOwn, Pw.opFind, Pw.resOut, Pw.opArgs, Pw.tyD, Pw.isObjR, Pw.mTst, Pw.mTru, Pw.truOut, Pw.truD, Pw.boolOut, Pw.mIf, Pw.mAndT, Pw.mOrT, Pw.mNotT, Pw.mAndV, Pw.mOrV, Pw.mNotV, Pw.norm, Pw.view, Pw.views, Pw.callOut, Pw.mCallB, Pw.mCallO, Pw.call1Both, Pw.chkAny, Pw.share, Pw.shareAll, Pw.putSlot, Pw.fs_val, Pw.fs_none, Pw.fs_own, Pw.retOut, Pw.mergeP, Pw.isOwn, Pw.mCall, Pw.callD, Pw.callOn, Pw.prep, Pw.prep1, Pw.agOk, Pw.penv, Pw.agSlot, Pw.callEnd, Pw.back, Pw.retB, Pw.mMake, Pw.makeD, Pw.makeOn, Pw.makeEnd, Pw.mAttr, Pw.attrOut, Pw.noExn, Pw.mMethO, Pw.methO, Pw.mStatic, Pw.statOut, Pw.mIsi, Pw.isiOut, Pw.isD, Pw.mTup, Pw.mLst, Pw.mSetSub, Pw.subOut, Pw.mSetFld, Pw.fldOut, Pw.putD, Pw.Ct.toD, Pw.gtD, Pw.ltD, Pw.addD, Pw.subD, Pw.mulD, Pw.fdivD, Pw.modD, Pw.negD, Pw.absD, Pw.intD, Pw.lenD, Pw.mRaise, Pw.mJs, Pw.mFmt, Pw.fmtOut, Pw.idxA, Pw.isDctD, Pw.inA, Pw.notInA, Pw.lenA, Pw.isDcts, Pw.mulA, Pw.isLstD, Pw.listA, Pw.mChainI, Pw.mParF, Pw.mSetSubA, Pw.subOutA, Pw.mNewD, Pw.mWAny, Pw.wkStr, Pw.conV, Pw.dlenD, Pw.mMeth, Pw.methOut, Pw.isTy, Pw.mMut, Pw.mMut0, Pw.isLst, Pw.mutOut, Pw.gAppend, Pw.mLc, Pw.okOwn, Pw.lockE, Pw.unlockE, Pw.wipeE, Pw.restE, Pw.mYes, Pw.Out.bind_ok, nums_nil, nums_v, nums_o, ha, hb, hc, hd, e1, fl_row]
end
def firstBad (ps : List (PySem.Str × Int)) (nodes : Int) : Nat → List GRow → Option Nat
  | _, [] => none
  | k, r :: t => if okRow ps nodes r.1 r.2.2 = true then firstBad ps nodes (k + 1) t else some k
def addAll : List Row → List GRow → List Row
  | seen, [] => seen
  | seen, r :: t => addAll (addR seen (rowOf r)) t
theorem for_sinit {ps : List (PySem.Str × Int)} {nodes : Int} {S R : Sv} (hps : ∀ p ∈ ps, PySem.PyData.strOk p.1 = true) : ∀ (gs : List GRow) (k : Nat) (seen : List Row) (a b c d : Sv), (∀ r ∈ gs, r.2.2.length ≤ 1000) → seen.length + gs.length ≤ 900 → (∀ x ∈ seen, PySem.PyData.strOk x.1 = true) → Fr a → Fr b → Fr c → Fr d →
    (firstBad ps nodes k gs = none → ∃ a' b' c' d', forL (turnF (.tp [.nm 5, .nm 6]) c_sinit_2b) (enumD k (gs.map GD)) [S, .val (schD ps), I nodes, R, .own false false (.dct (rowsDct seen)), a, b, c, d] = .next [S, .val (schD ps), I nodes, R, .own false false (.dct (rowsDct (addAll seen gs))), a', b', c', d']) ∧
    (∀ j, firstBad ps nodes k gs = some j → ∃ e, forL (turnF (.tp [.nm 5, .nm 6]) c_sinit_2b) (enumD k (gs.map GD)) [S, .val (schD ps), I nodes, R, .own false false (.dct (rowsDct seen)), a, b, c, d] = .exn (XRow j) (S :: .val (schD ps) :: I nodes :: R :: e))
  | [], k, seen, a, b, c, d, _, _, _, _, _, _, _ => ⟨fun _ => ⟨a, b, c, d, by simp [enumD, forL, addAll]⟩, fun j h => by cases h⟩
  | r :: gs, k, seen, a, b, c, d, hl, hs, hn, ha, hb, hc, hd => by
    simp only [List.length_cons] at hs
    have h1 := hl r (by simp)
    cases q : okRow ps nodes r.1 r.2.2 with
    | true =>
      have e := turn_sok (S := S) (R := R) (k := k) hps h1 (by omega) hn q ha hb hc hd
      have hl2 := len_addR seen (rowOf r)
      obtain ⟨i1, i2⟩ := for_sinit (ps := ps) (nodes := nodes) (S := S) (R := R) hps gs (k + 1) (addR seen (rowOf r)) (I k) (.val (GD r)) (.val (.str r.1)) (.val (spD r.2.1 r.2.2)) (fun x hx => hl x (by simp [hx])) (by omega) (fun x hx => (mem_addR.mp hx).elim (hn x) fun e => e ▸ ok_name hps q) rfl rfl rfl rfl
      have eb : firstBad ps nodes k (r :: gs) = firstBad ps nodes (k + 1) gs := by rw [firstBad, if_pos q]
      rw [eb, List.map_cons, enumD, forL_next e]
      exact ⟨i1, i2⟩
    | false =>
      have e := turn_sbad (S := S) (R := R) (k := k) (seen := seen) h1 q ha hb hc hd
      have eb : firstBad ps nodes k (r :: gs) = some k := by rw [firstBad, if_neg (by rw [q]; decide)]
      rw [eb]
      refine ⟨fun z => (by cases z), fun j z => ?_⟩
      cases z
      refine ⟨[.own false false (.dct (rowsDct seen)), I k, .val (GD r), c, d], ?_⟩
      rw [List.map_cons, enumD]
      show (match turnF (.tp [.nm 5, .nm 6]) c_sinit_2b (.tup [.int k, GD r]) [S, .val (schD ps), I nodes, R, .own false false (.dct (rowsDct seen)), a, b, c, d] with | .next e1 => forL _ _ e1 | .cont e1 => forL _ _ e1 | .brk e1 => .next e1 | .ret r e1 => .ret r e1 | .exn x e1 => .exn x e1 | .stuck => .stuck) = _
      rw [e]
theorem len_addAll : ∀ (gs : List GRow) (seen : List Row), (addAll seen gs).length ≤ seen.length + gs.length
  | [], seen => by simp [addAll]
  | r :: gs, seen => by
    have h1 := len_addAll gs (addR seen (rowOf r))
    have h2 := len_addR seen (rowOf r)
    rw [addAll, List.length_cons]
    omega
abbrev Z0 : Sv := .own true false (.obj "Shape" [])
abbrev shF (ps : List (PySem.Str × Int)) (nodes : Int) (rs seen : List Row) : List (PySem.Str × D) := [("plan", schD ps), ("many", .int nodes), ("row_list", .tup (rs.map RD)), ("known_rows", .dct (rowsDct seen))]
abbrev shC (ps : List (PySem.Str × Int)) (nodes : Int) (seen : List Row) : Ct := .obj "Shape" (shF ps nodes (sortR seen) seen)
abbrev shD (ps : List (PySem.Str × Int)) (nodes : Int) (seen : List Row) : D := .obj "Shape" (shF ps nodes (sortR seen) seen)
abbrev grs (gs : List GRow) : Sv := .val (.lst (gs.map GD))
theorem n12 : ¬ PySem.Str.ofString "plan" = PySem.Str.ofString "many" := by decide
theorem n13 : ¬ PySem.Str.ofString "plan" = PySem.Str.ofString "row_list" := by decide
theorem n14 : ¬ PySem.Str.ofString "plan" = PySem.Str.ofString "known_rows" := by decide
theorem n23 : ¬ PySem.Str.ofString "many" = PySem.Str.ofString "row_list" := by decide
theorem n24 : ¬ PySem.Str.ofString "many" = PySem.Str.ofString "known_rows" := by decide
theorem n34 : ¬ PySem.Str.ofString "row_list" = PySem.Str.ofString "known_rows" := by decide
theorem v_sinit_size {p r : D} {nodes : Int} (h : ¬ (0 ≤ nodes ∧ nodes ≤ 60)) : f_sinit [Z0, .val p, I nodes, .val r] = .exn (XSize nodes) [Z0, .val p, I nodes, .val r] := by
  have e := v_isnum nodes 0 60
  have h2 : (decide (0 ≤ nodes) && decide (nodes ≤ 60)) = false := by
    cases q : (decide (0 ≤ nodes) && decide (nodes ≤ 60)) with
    | false => rfl
    | true => exact absurd (by simpa using q) h
  rw [h2] at e
  simp [f_sinit, c_sinit_eq, c_sinit_0, Pw.runF, Pw.startE, Pw.mSeq, Pw.mSkip, Pw.mExpr, Pw.mRet, Pw.mRetN, Pw.mIfS, Pw.mSet, Pw.setSlot, Pw.mPar, Pw.mPar3, Pw.mAsgT, Pw.tgOut_nm, Pw.tgOut_tp2, Pw.tgOut_tp3, Pw.tgSet_nm, Pw.tgSet_tp2, Pw.mCons, Pw.mNil, Pw.mC, Pw.mVar, Pw.mOp2, Pw.mOp, Pw.mUn, Pw.mUn2, Pw.unBoth, Pw.unOwn, Pw.unOut, Pw.opOut, Pw.opBoth, Pw.opOwn, Pw.opFind, Pw.resOut, Pw.opArgs, Pw.tyD, Pw.isObjR, Pw.mTst, Pw.mTru, Pw.truOut, Pw.truD, Pw.boolOut, Pw.mIf, Pw.mAndT, Pw.mOrT, Pw.mNotT, Pw.mAndV, Pw.mOrV, Pw.mNotV, Pw.norm, Pw.view, Pw.views, Pw.callOut, Pw.mCallB, Pw.mCallO, Pw.call1Both, Pw.chkAny, Pw.share, Pw.shareAll, Pw.putSlot, Pw.fs_val, Pw.fs_none, Pw.fs_own, Pw.retOut, Pw.mergeP, Pw.isOwn, Pw.mCall, Pw.callD, Pw.callOn, Pw.prep, Pw.prep1, Pw.agOk, Pw.penv, Pw.agSlot, Pw.callEnd, Pw.back, Pw.retB, Pw.mMake, Pw.makeD, Pw.makeOn, Pw.makeEnd, Pw.mAttr, Pw.attrOut, Pw.noExn, Pw.mMethO, Pw.methO, Pw.mStatic, Pw.statOut, Pw.mIsi, Pw.isiOut, Pw.isD, Pw.mTup, Pw.mLst, Pw.mSetSub, Pw.subOut, Pw.mSetFld, Pw.fldOut, Pw.putD, Pw.Ct.toD, Pw.gtD, Pw.ltD, Pw.addD, Pw.subD, Pw.mulD, Pw.fdivD, Pw.modD, Pw.negD, Pw.absD, Pw.intD, Pw.lenD, Pw.mRaise, Pw.mJs, Pw.mFmt, Pw.fmtOut, Pw.idxA, Pw.isDctD, Pw.inA, Pw.notInA, Pw.lenA, Pw.isDcts, Pw.mulA, Pw.isLstD, Pw.listA, Pw.mChainI, Pw.mParF, Pw.mSetSubA, Pw.subOutA, Pw.mNewD, Pw.mWAny, Pw.wkStr, Pw.conV, Pw.dlenD, Pw.mMeth, Pw.methOut, Pw.isTy, Pw.mMut, Pw.mMut0, Pw.isLst, Pw.mutOut, Pw.gAppend, Pw.mLc, Pw.okOwn, Pw.lockE, Pw.unlockE, Pw.wipeE, Pw.restE, Pw.mYes, Pw.Out.bind_ok, nums_nil, nums_v, nums_o, e, fl_size]
theorem v_sinit_bad {ps : List (PySem.Str × Int)} (hps : ∀ p ∈ ps, PySem.PyData.strOk p.1 = true) {nodes : Int} (h : 0 ≤ nodes ∧ nodes ≤ 60) {gs : List GRow} (hl : ∀ r ∈ gs, r.2.2.length ≤ 1000) (hs : gs.length ≤ 900) {j : Nat} (hb : firstBad ps nodes 0 gs = some j) : f_sinit [Z0, .val (schD ps), I nodes, grs gs] = .exn (XRow j) [Z0, .val (schD ps), I nodes, grs gs] := by
  have e := v_isnum nodes 0 60
  rw [decide_eq_true h.1, decide_eq_true h.2] at e
  obtain ⟨e0, e1⟩ := (for_sinit (ps := ps) (nodes := nodes) (S := Z0) (R := grs gs) hps gs 0 [] .none .none .none .none hl (by simpa using hs) (by simp) rfl rfl rfl rfl).2 j hb
  simp only [rowsDct, List.map_nil] at e1
  simp [f_sinit, c_sinit_eq, c_sinit_0, c_sinit_1, c_sinit_2, Pw.runF, Pw.startE, Pw.mSeq, Pw.mSkip, Pw.mExpr, Pw.mRet, Pw.mRetN, Pw.mIfS, Pw.mSet, Pw.setSlot, Pw.mPar, Pw.mPar3, Pw.mAsgT, Pw.tgOut_nm, Pw.tgOut_tp2, Pw.tgOut_tp3, Pw.tgSet_nm, Pw.tgSet_tp2, Pw.mCons, Pw.mNil, Pw.mC, Pw.mVar, Pw.mOp2, Pw.mOp, Pw.mUn, Pw.mUn2, Pw.unBoth, Pw.unOwn, Pw.unOut, Pw.opOut, Pw.opBoth, Pw.opOwn, Pw.opFind, Pw.resOut, Pw.opArgs, Pw.tyD, Pw.isObjR, Pw.mTst, Pw.mTru, Pw.truOut, Pw.truD, Pw.boolOut, Pw.mIf, Pw.mAndT, Pw.mOrT, Pw.mNotT, Pw.mAndV, Pw.mOrV, Pw.mNotV, Pw.norm, Pw.view, Pw.views, Pw.callOut, Pw.mCallB, Pw.mCallO, Pw.call1Both, Pw.chkAny, Pw.share, Pw.shareAll, Pw.putSlot, Pw.fs_val, Pw.fs_none, Pw.fs_own, Pw.retOut, Pw.mergeP, Pw.isOwn, Pw.mCall, Pw.callD, Pw.callOn, Pw.prep, Pw.prep1, Pw.agOk, Pw.penv, Pw.agSlot, Pw.callEnd, Pw.back, Pw.retB, Pw.mMake, Pw.makeD, Pw.makeOn, Pw.makeEnd, Pw.mAttr, Pw.attrOut, Pw.noExn, Pw.mMethO, Pw.methO, Pw.mStatic, Pw.statOut, Pw.mIsi, Pw.isiOut, Pw.isD, Pw.mTup, Pw.mLst, Pw.mSetSub, Pw.subOut, Pw.mSetFld, Pw.fldOut, Pw.putD, Pw.Ct.toD, Pw.gtD, Pw.ltD, Pw.addD, Pw.subD, Pw.mulD, Pw.fdivD, Pw.modD, Pw.negD, Pw.absD, Pw.intD, Pw.lenD, Pw.mRaise, Pw.mJs, Pw.mFmt, Pw.fmtOut, Pw.idxA, Pw.isDctD, Pw.inA, Pw.notInA, Pw.lenA, Pw.isDcts, Pw.mulA, Pw.isLstD, Pw.listA, Pw.mChainI, Pw.mParF, Pw.mSetSubA, Pw.subOutA, Pw.mNewD, Pw.mWAny, Pw.wkStr, Pw.conV, Pw.dlenD, Pw.mMeth, Pw.methOut, Pw.isTy, Pw.mMut, Pw.mMut0, Pw.isLst, Pw.mutOut, Pw.gAppend, Pw.mLc, Pw.okOwn, Pw.lockE, Pw.unlockE, Pw.wipeE, Pw.restE, Pw.mYes, Pw.Out.bind_ok, nums_nil, nums_v, nums_o, mWEnum, enumOut, isTupR, wkOf, wkVal, mFor_eq, SO.mapE, e, e1]
theorem v_sinit_ok {ps : List (PySem.Str × Int)} (hps : ∀ p ∈ ps, PySem.PyData.strOk p.1 = true) {nodes : Int} (h : 0 ≤ nodes ∧ nodes ≤ 60) {gs : List GRow} (hl : ∀ r ∈ gs, r.2.2.length ≤ 1000) (hs : gs.length ≤ 900) (hb : firstBad ps nodes 0 gs = none) : f_sinit [Z0, .val (schD ps), I nodes, grs gs] = .ok (.val .non) [.own true false (shC ps nodes (addAll [] gs)), .val (schD ps), I nodes, grs gs] := by
  have e := v_isnum nodes 0 60
  rw [decide_eq_true h.1, decide_eq_true h.2] at e
  obtain ⟨a, b, c, d, e1⟩ := (for_sinit (ps := ps) (nodes := nodes) (S := Z0) (R := grs gs) hps gs 0 [] .none .none .none .none hl (by simpa using hs) (by simp) rfl rfl rfl rfl).1 hb
  have e2 := keys_rows (addAll [] gs)
  have e3 := sort_rows (addAll [] gs) (by have := len_addAll gs []; simp only [List.length_nil] at this; omega)
  have e4 := sortR_map (addAll [] gs)
  rw [show rowsDct [] = [] from rfl] at e1
  simp [f_sinit, c_sinit_eq, c_sinit_0, c_sinit_1, c_sinit_2, c_sinit_3, c_sinit_4, c_sinit_5, c_sinit_6, Pw.runF, Pw.startE, Pw.mSeq, Pw.mSkip, Pw.mExpr, Pw.mRet, Pw.mRetN, Pw.mIfS, Pw.mSet, Pw.setSlot, Pw.mPar, Pw.mPar3, Pw.mAsgT, Pw.tgOut_nm, Pw.tgOut_tp2, Pw.tgOut_tp3, Pw.tgSet_nm, Pw.tgSet_tp2, Pw.mCons, Pw.mNil, Pw.mC, Pw.mVar, Pw.mOp2, Pw.mOp, Pw.mUn, Pw.mUn2, Pw.unBoth, Pw.unOwn, Pw.unOut, Pw.opOut, Pw.opBoth, Pw.opOwn, Pw.opFind, Pw.resOut, Pw.opArgs, Pw.tyD, Pw.isObjR, Pw.mTst, Pw.mTru, Pw.truOut, Pw.truD, Pw.boolOut, Pw.mIf, Pw.mAndT, Pw.mOrT, Pw.mNotT, Pw.mAndV, Pw.mOrV, Pw.mNotV, Pw.norm, Pw.view, Pw.views, Pw.callOut, Pw.mCallB, Pw.mCallO, Pw.call1Both, Pw.chkAny, Pw.share, Pw.shareAll, Pw.putSlot, Pw.fs_val, Pw.fs_none, Pw.fs_own, Pw.retOut, Pw.mergeP, Pw.isOwn, Pw.mCall, Pw.callD, Pw.callOn, Pw.prep, Pw.prep1, Pw.agOk, Pw.penv, Pw.agSlot, Pw.callEnd, Pw.back, Pw.retB, Pw.mMake, Pw.makeD, Pw.makeOn, Pw.makeEnd, Pw.mAttr, Pw.attrOut, Pw.noExn, Pw.mMethO, Pw.methO, Pw.mStatic, Pw.statOut, Pw.mIsi, Pw.isiOut, Pw.isD, Pw.mTup, Pw.mLst, Pw.mSetSub, Pw.subOut, Pw.mSetFld, Pw.fldOut, Pw.putD, Pw.Ct.toD, Pw.gtD, Pw.ltD, Pw.addD, Pw.subD, Pw.mulD, Pw.fdivD, Pw.modD, Pw.negD, Pw.absD, Pw.intD, Pw.lenD, Pw.mRaise, Pw.mJs, Pw.mFmt, Pw.fmtOut, Pw.idxA, Pw.isDctD, Pw.inA, Pw.notInA, Pw.lenA, Pw.isDcts, Pw.mulA, Pw.isLstD, Pw.listA, Pw.mChainI, Pw.mParF, Pw.mSetSubA, Pw.subOutA, Pw.mNewD, Pw.mWAny, Pw.wkStr, Pw.conV, Pw.dlenD, Pw.mMeth, Pw.methOut, Pw.isTy, Pw.mMut, Pw.mMut0, Pw.isLst, Pw.mutOut, Pw.gAppend, Pw.mLc, Pw.okOwn, Pw.lockE, Pw.unlockE, Pw.wipeE, Pw.restE, Pw.mYes, Pw.Out.bind_ok, nums_nil, nums_v, nums_o, mWEnum, enumOut, isTupR, wkOf, wkVal, mFor_eq, SO.mapE, e, e1, a_plan, a_many, a_row_list, a_known_rows, Pw.dlistD, e2, sortedD, e3, e4, Pw.tupleD, n12, n13, n14, n23, n24, n34]

end K07

set_option maxHeartbeats 8000000
/-! K07j: what a shape tells; like; rows. -/
namespace K07
open Pw Lw Lx Ly
/-! ### what a shape tells; like; rows drawn -/
theorem lk_plan (p m r k : D) : List.lookup (PySem.Str.ofString "plan") ([("plan", p), ("many", m), ("row_list", r), ("known_rows", k)] : List (PySem.Str × D)) = some p := rfl
theorem lk_many (p m r k : D) : List.lookup (PySem.Str.ofString "many") ([("plan", p), ("many", m), ("row_list", r), ("known_rows", k)] : List (PySem.Str × D)) = some m := rfl
theorem lk_rows (p m r k : D) : List.lookup (PySem.Str.ofString "row_list") ([("plan", p), ("many", m), ("row_list", r), ("known_rows", k)] : List (PySem.Str × D)) = some r := rfl
theorem at_fld {I : AtI} {f c : PySem.Str} {fs : List (PySem.Str × D)} {d : D} {e : En} (h1 : I.props.lookup c = none) (h2 : I.flds.contains c = true) (h3 : fs.lookup f = some d) : attrOut I f (.val (.obj c fs)) e = .ok (.val d) e := by
  unfold attrOut
  rw [view]
  dsimp only
  rw [h1]
  dsimp only
  rw [if_pos h2, h3]
section
variable {p m r k : D} {e : En}
theorem at_p : attrOut a_plan "plan" (.val (.obj "Shape" [("plan", p), ("many", m), ("row_list", r), ("known_rows", k)])) e = .ok (.val p) e := at_fld rfl (by decide) (lk_plan p m r k)
theorem at_m : attrOut a_many "many" (.val (.obj "Shape" [("plan", p), ("many", m), ("row_list", r), ("known_rows", k)])) e = .ok (.val m) e := at_fld rfl (by decide) (lk_many p m r k)
theorem at_r : attrOut a_row_list "row_list" (.val (.obj "Shape" [("plan", p), ("many", m), ("row_list", r), ("known_rows", k)])) e = .ok (.val r) e := at_fld rfl (by decide) (lk_rows p m r k)
end
theorem attr_step {I : AtI} {f : PySem.Str} {m : ME} {x d : D} {e : En} (h : m e = .ok (.val x) e) (h2 : attrOut I f (.val x) e = .ok (.val d) e) : mAttr I f m e = .ok (.val d) e := by
  unfold mAttr
  rw [h, Out.bind_ok, h2]
section
variable {ps : List (PySem.Str × Int)} {nodes : Int} {seen : List Row}
theorem v_rows : f_rows [.val (shD ps nodes seen)] = .ok (.fresh (.lst ((sortR seen).map RD))) [.val (shD ps nodes seen)] := by
  simp [f_rows, m_rows, Pw.runF, Pw.startE, Pw.mSeq, Pw.mSkip, Pw.mExpr, Pw.mRet, Pw.mRetN, Pw.mIfS, Pw.mSet, Pw.setSlot, Pw.mPar, Pw.mPar3, Pw.mAsgT, Pw.tgOut_nm, Pw.tgOut_tp2, Pw.tgOut_tp3, Pw.tgSet_nm, Pw.tgSet_tp2, Pw.mCons, Pw.mNil, Pw.mC, Pw.mVar, Pw.mOp2, Pw.mOp, Pw.mUn, Pw.mUn2, Pw.unBoth, Pw.unOwn, Pw.unOut, Pw.opOut, Pw.opBoth, Pw.opOwn, Pw.opFind, Pw.resOut, Pw.opArgs, Pw.tyD, Pw.isObjR, Pw.mTst, Pw.mTru, Pw.truOut, Pw.truD, Pw.boolOut, Pw.mIf, Pw.mAndT, Pw.mOrT, Pw.mNotT, Pw.mAndV, Pw.mOrV, Pw.mNotV, Pw.norm, Pw.view, Pw.views, Pw.callOut, Pw.mCallB, Pw.mCallO, Pw.call1Both, Pw.chkAny, Pw.share, Pw.shareAll, Pw.putSlot, Pw.fs_val, Pw.fs_none, Pw.fs_own, Pw.retOut, Pw.mergeP, Pw.isOwn, Pw.mCall, Pw.callD, Pw.callOn, Pw.prep, Pw.prep1, Pw.agOk, Pw.penv, Pw.agSlot, Pw.callEnd, Pw.back, Pw.retB, Pw.mMake, Pw.makeD, Pw.makeOn, Pw.makeEnd, Pw.mAttr, Pw.noExn, Pw.mMethO, Pw.methO, Pw.mStatic, Pw.statOut, Pw.mIsi, Pw.isiOut, Pw.isD, Pw.mTup, Pw.mLst, Pw.mSetSub, Pw.subOut, Pw.mSetFld, Pw.fldOut, Pw.putD, Pw.Ct.toD, Pw.gtD, Pw.ltD, Pw.addD, Pw.subD, Pw.mulD, Pw.fdivD, Pw.modD, Pw.negD, Pw.absD, Pw.intD, Pw.lenD, Pw.mRaise, Pw.mJs, Pw.mFmt, Pw.fmtOut, Pw.idxA, Pw.isDctD, Pw.inA, Pw.notInA, Pw.lenA, Pw.isDcts, Pw.mulA, Pw.isLstD, Pw.listA, Pw.mChainI, Pw.mParF, Pw.mSetSubA, Pw.subOutA, Pw.mNewD, Pw.mWAny, Pw.wkStr, Pw.conV, Pw.dlenD, Pw.mMeth, Pw.methOut, Pw.isTy, Pw.mMut, Pw.mMut0, Pw.isLst, Pw.mutOut, Pw.gAppend, Pw.mLc, Pw.okOwn, Pw.lockE, Pw.unlockE, Pw.wipeE, Pw.restE, Pw.mYes, Pw.Out.bind_ok, nums_nil, nums_v, nums_o, at_r, Pw.listD]
theorem v_key : f_key [.val (shD ps nodes seen)] = .ok (.val (.tup [.int nodes, .tup ((sortR seen).map RD)])) [.val (shD ps nodes seen)] := by
  have z2 : (2 : Nat) ≤ PySem.sizeLine := by decide
  simp [f_key, m_key, Pw.runF, Pw.startE, Pw.mSeq, Pw.mSkip, Pw.mExpr, Pw.mRet, Pw.mRetN, Pw.mIfS, Pw.mSet, Pw.setSlot, Pw.mPar, Pw.mPar3, Pw.mAsgT, Pw.tgOut_nm, Pw.tgOut_tp2, Pw.tgOut_tp3, Pw.tgSet_nm, Pw.tgSet_tp2, Pw.mCons, Pw.mNil, Pw.mC, Pw.mVar, Pw.mOp2, Pw.mOp, Pw.mUn, Pw.mUn2, Pw.unBoth, Pw.unOwn, Pw.unOut, Pw.opOut, Pw.opBoth, Pw.opOwn, Pw.opFind, Pw.resOut, Pw.opArgs, Pw.tyD, Pw.isObjR, Pw.mTst, Pw.mTru, Pw.truOut, Pw.truD, Pw.boolOut, Pw.mIf, Pw.mAndT, Pw.mOrT, Pw.mNotT, Pw.mAndV, Pw.mOrV, Pw.mNotV, Pw.norm, Pw.view, Pw.views, Pw.callOut, Pw.mCallB, Pw.mCallO, Pw.call1Both, Pw.chkAny, Pw.share, Pw.shareAll, Pw.putSlot, Pw.fs_val, Pw.fs_none, Pw.fs_own, Pw.retOut, Pw.mergeP, Pw.isOwn, Pw.mCall, Pw.callD, Pw.callOn, Pw.prep, Pw.prep1, Pw.agOk, Pw.penv, Pw.agSlot, Pw.callEnd, Pw.back, Pw.retB, Pw.mMake, Pw.makeD, Pw.makeOn, Pw.makeEnd, Pw.mAttr, Pw.noExn, Pw.mMethO, Pw.methO, Pw.mStatic, Pw.statOut, Pw.mIsi, Pw.isiOut, Pw.isD, Pw.mTup, Pw.mLst, Pw.mSetSub, Pw.subOut, Pw.mSetFld, Pw.fldOut, Pw.putD, Pw.Ct.toD, Pw.gtD, Pw.ltD, Pw.addD, Pw.subD, Pw.mulD, Pw.fdivD, Pw.modD, Pw.negD, Pw.absD, Pw.intD, Pw.lenD, Pw.mRaise, Pw.mJs, Pw.mFmt, Pw.fmtOut, Pw.idxA, Pw.isDctD, Pw.inA, Pw.notInA, Pw.lenA, Pw.isDcts, Pw.mulA, Pw.isLstD, Pw.listA, Pw.mChainI, Pw.mParF, Pw.mSetSubA, Pw.subOutA, Pw.mNewD, Pw.mWAny, Pw.wkStr, Pw.conV, Pw.dlenD, Pw.mMeth, Pw.methOut, Pw.isTy, Pw.mMut, Pw.mMut0, Pw.isLst, Pw.mutOut, Pw.gAppend, Pw.mLc, Pw.okOwn, Pw.lockE, Pw.unlockE, Pw.wipeE, Pw.restE, Pw.mYes, Pw.Out.bind_ok, nums_nil, nums_v, nums_o, at_r, at_m, z2]
theorem v_nodes : f_nodes [.val (shD ps nodes seen)] = .ok (.val (.int nodes)) [.val (shD ps nodes seen)] := by
  simp [f_nodes, m_nodes, Pw.runF, Pw.startE, Pw.mSeq, Pw.mSkip, Pw.mExpr, Pw.mRet, Pw.mRetN, Pw.mIfS, Pw.mSet, Pw.setSlot, Pw.mPar, Pw.mPar3, Pw.mAsgT, Pw.tgOut_nm, Pw.tgOut_tp2, Pw.tgOut_tp3, Pw.tgSet_nm, Pw.tgSet_tp2, Pw.mCons, Pw.mNil, Pw.mC, Pw.mVar, Pw.mOp2, Pw.mOp, Pw.mUn, Pw.mUn2, Pw.unBoth, Pw.unOwn, Pw.unOut, Pw.opOut, Pw.opBoth, Pw.opOwn, Pw.opFind, Pw.resOut, Pw.opArgs, Pw.tyD, Pw.isObjR, Pw.mTst, Pw.mTru, Pw.truOut, Pw.truD, Pw.boolOut, Pw.mIf, Pw.mAndT, Pw.mOrT, Pw.mNotT, Pw.mAndV, Pw.mOrV, Pw.mNotV, Pw.norm, Pw.view, Pw.views, Pw.callOut, Pw.mCallB, Pw.mCallO, Pw.call1Both, Pw.chkAny, Pw.share, Pw.shareAll, Pw.putSlot, Pw.fs_val, Pw.fs_none, Pw.fs_own, Pw.retOut, Pw.mergeP, Pw.isOwn, Pw.mCall, Pw.callD, Pw.callOn, Pw.prep, Pw.prep1, Pw.agOk, Pw.penv, Pw.agSlot, Pw.callEnd, Pw.back, Pw.retB, Pw.mMake, Pw.makeD, Pw.makeOn, Pw.makeEnd, Pw.mAttr, Pw.noExn, Pw.mMethO, Pw.methO, Pw.mStatic, Pw.statOut, Pw.mIsi, Pw.isiOut, Pw.isD, Pw.mTup, Pw.mLst, Pw.mSetSub, Pw.subOut, Pw.mSetFld, Pw.fldOut, Pw.putD, Pw.Ct.toD, Pw.gtD, Pw.ltD, Pw.addD, Pw.subD, Pw.mulD, Pw.fdivD, Pw.modD, Pw.negD, Pw.absD, Pw.intD, Pw.lenD, Pw.mRaise, Pw.mJs, Pw.mFmt, Pw.fmtOut, Pw.idxA, Pw.isDctD, Pw.inA, Pw.notInA, Pw.lenA, Pw.isDcts, Pw.mulA, Pw.isLstD, Pw.listA, Pw.mChainI, Pw.mParF, Pw.mSetSubA, Pw.subOutA, Pw.mNewD, Pw.mWAny, Pw.wkStr, Pw.conV, Pw.dlenD, Pw.mMeth, Pw.methOut, Pw.isTy, Pw.mMut, Pw.mMut0, Pw.isLst, Pw.mutOut, Pw.gAppend, Pw.mLc, Pw.okOwn, Pw.lockE, Pw.unlockE, Pw.wipeE, Pw.restE, Pw.mYes, Pw.Out.bind_ok, nums_nil, nums_v, nums_o, at_m]
theorem v_schema : f_schema [.val (shD ps nodes seen)] = .ok (.val (schD ps)) [.val (shD ps nodes seen)] := by
  simp [f_schema, m_schema, Pw.runF, Pw.startE, Pw.mSeq, Pw.mSkip, Pw.mExpr, Pw.mRet, Pw.mRetN, Pw.mIfS, Pw.mSet, Pw.setSlot, Pw.mPar, Pw.mPar3, Pw.mAsgT, Pw.tgOut_nm, Pw.tgOut_tp2, Pw.tgOut_tp3, Pw.tgSet_nm, Pw.tgSet_tp2, Pw.mCons, Pw.mNil, Pw.mC, Pw.mVar, Pw.mOp2, Pw.mOp, Pw.mUn, Pw.mUn2, Pw.unBoth, Pw.unOwn, Pw.unOut, Pw.opOut, Pw.opBoth, Pw.opOwn, Pw.opFind, Pw.resOut, Pw.opArgs, Pw.tyD, Pw.isObjR, Pw.mTst, Pw.mTru, Pw.truOut, Pw.truD, Pw.boolOut, Pw.mIf, Pw.mAndT, Pw.mOrT, Pw.mNotT, Pw.mAndV, Pw.mOrV, Pw.mNotV, Pw.norm, Pw.view, Pw.views, Pw.callOut, Pw.mCallB, Pw.mCallO, Pw.call1Both, Pw.chkAny, Pw.share, Pw.shareAll, Pw.putSlot, Pw.fs_val, Pw.fs_none, Pw.fs_own, Pw.retOut, Pw.mergeP, Pw.isOwn, Pw.mCall, Pw.callD, Pw.callOn, Pw.prep, Pw.prep1, Pw.agOk, Pw.penv, Pw.agSlot, Pw.callEnd, Pw.back, Pw.retB, Pw.mMake, Pw.makeD, Pw.makeOn, Pw.makeEnd, Pw.mAttr, Pw.noExn, Pw.mMethO, Pw.methO, Pw.mStatic, Pw.statOut, Pw.mIsi, Pw.isiOut, Pw.isD, Pw.mTup, Pw.mLst, Pw.mSetSub, Pw.subOut, Pw.mSetFld, Pw.fldOut, Pw.putD, Pw.Ct.toD, Pw.gtD, Pw.ltD, Pw.addD, Pw.subD, Pw.mulD, Pw.fdivD, Pw.modD, Pw.negD, Pw.absD, Pw.intD, Pw.lenD, Pw.mRaise, Pw.mJs, Pw.mFmt, Pw.fmtOut, Pw.idxA, Pw.isDctD, Pw.inA, Pw.notInA, Pw.lenA, Pw.isDcts, Pw.mulA, Pw.isLstD, Pw.listA, Pw.mChainI, Pw.mParF, Pw.mSetSubA, Pw.subOutA, Pw.mNewD, Pw.mWAny, Pw.wkStr, Pw.conV, Pw.dlenD, Pw.mMeth, Pw.methOut, Pw.isTy, Pw.mMut, Pw.mMut0, Pw.isLst, Pw.mutOut, Pw.gAppend, Pw.mLc, Pw.okOwn, Pw.lockE, Pw.unlockE, Pw.wipeE, Pw.restE, Pw.mYes, Pw.Out.bind_ok, nums_nil, nums_v, nums_o, at_p]
end
theorem hits_self (b : List (D × D)) : ∀ a : List (PySem.Str × Int), (∀ p ∈ a, dGet b (.str p.1) = some (.int p.2)) → hitsD b (dctOf a) = some true
  | [], _ => rfl
  | p :: a, h => by
    have ih := hits_self b a fun q hq => h q (by simp [hq])
    have h1 := h p (by simp)
    have e : valEq (.int p.2) (.int p.2) = some true := by
      unfold valEq
      simp only [D.toP]
      rw [if_pos (by rfl)]
      simp [PySem.PyData.eqv]
    show hitsD b ((.str p.1, .int p.2) :: dctOf a) = some true
    unfold hitsD
    rw [h1]
    dsimp only
    rw [e, ih]
    rfl
theorem get_nodup : ∀ {ps : List (PySem.Str × Int)}, (ps.map (·.1)).Nodup → ∀ p ∈ ps, dGet (dctOf ps) (.str p.1) = some (.int p.2)
  | [], _, p, hp => (List.not_mem_nil hp).elim
  | q :: ps, hn, p, hp => by
    rw [List.map_cons, List.nodup_cons] at hn
    rw [dget_col, colOf, List.find?_cons]
    rcases List.mem_cons.mp hp with rfl | hp
    · rw [decide_eq_true rfl]; rfl
    · have : ¬ q.1 = p.1 := fun e => hn.1 (e ▸ List.mem_map_of_mem hp)
      rw [decide_eq_false this]
      have ih := get_nodup hn.2 p hp
      rw [dget_col, colOf] at ih
      exact ih
theorem v_eq {ps : List (PySem.Str × Int)} (hn : (ps.map (·.1)).Nodup) (h : isAny isTab (.inr "Schema") [.inr "Schema"] = some true) : f_eq [.val (schD ps), .val (schD ps)] = .ok (.val (.bl true)) [.val (schD ps), .val (schD ps)] := by
  have e1 : eqDct (.dct (dctOf ps)) (.dct (dctOf ps)) = .val (.bl true) := by
    unfold eqDct
    dsimp only
    rw [flat_dct, if_pos (show (true && true) = true from rfl), if_pos rfl, hits_self _ ps (get_nodup hn)]
  simp [f_eq, m_eq, Pw.runF, Pw.startE, Pw.mSeq, Pw.mSkip, Pw.mExpr, Pw.mRet, Pw.mRetN, Pw.mIfS, Pw.mSet, Pw.setSlot, Pw.mPar, Pw.mPar3, Pw.mAsgT, Pw.tgOut_nm, Pw.tgOut_tp2, Pw.tgOut_tp3, Pw.tgSet_nm, Pw.tgSet_tp2, Pw.mCons, Pw.mNil, Pw.mC, Pw.mVar, Pw.mOp2, Pw.mOp, Pw.mUn, Pw.mUn2, Pw.unBoth, Pw.unOwn, Pw.unOut, Pw.opOut, Pw.opBoth, Pw.opOwn, Pw.opFind, Pw.resOut, Pw.opArgs, Pw.tyD, Pw.isObjR, Pw.mTst, Pw.mTru, Pw.truOut, Pw.truD, Pw.boolOut, Pw.mIf, Pw.mAndT, Pw.mOrT, Pw.mNotT, Pw.mAndV, Pw.mOrV, Pw.mNotV, Pw.norm, Pw.view, Pw.views, Pw.callOut, Pw.mCallB, Pw.mCallO, Pw.call1Both, Pw.chkAny, Pw.share, Pw.shareAll, Pw.putSlot, Pw.fs_val, Pw.fs_none, Pw.fs_own, Pw.retOut, Pw.mergeP, Pw.isOwn, Pw.mCall, Pw.callD, Pw.callOn, Pw.prep, Pw.prep1, Pw.agOk, Pw.penv, Pw.agSlot, Pw.callEnd, Pw.back, Pw.retB, Pw.mMake, Pw.makeD, Pw.makeOn, Pw.makeEnd, Pw.mAttr, Pw.attrOut, Pw.noExn, Pw.mMethO, Pw.methO, Pw.mStatic, Pw.statOut, Pw.mIsi, Pw.isiOut, Pw.isD, Pw.mTup, Pw.mLst, Pw.mSetSub, Pw.subOut, Pw.mSetFld, Pw.fldOut, Pw.putD, Pw.Ct.toD, Pw.gtD, Pw.ltD, Pw.addD, Pw.subD, Pw.mulD, Pw.fdivD, Pw.modD, Pw.negD, Pw.absD, Pw.intD, Pw.lenD, Pw.mRaise, Pw.mJs, Pw.mFmt, Pw.fmtOut, Pw.idxA, Pw.isDctD, Pw.inA, Pw.notInA, Pw.lenA, Pw.isDcts, Pw.mulA, Pw.isLstD, Pw.listA, Pw.mChainI, Pw.mParF, Pw.mSetSubA, Pw.subOutA, Pw.mNewD, Pw.mWAny, Pw.wkStr, Pw.conV, Pw.dlenD, Pw.mMeth, Pw.methOut, Pw.isTy, Pw.mMut, Pw.mMut0, Pw.isLst, Pw.mutOut, Pw.gAppend, Pw.mLc, Pw.okOwn, Pw.lockE, Pw.unlockE, Pw.wipeE, Pw.restE, Pw.mYes, Pw.Out.bind_ok, nums_nil, nums_v, nums_o, eqA, a_by_name, List.lookup, h, e1]
theorem ti_sch : isAny isTab (.inr "Schema") [.inr "Schema"] = some true := by decide +kernel
theorem find_eq (ps qs : List (PySem.Str × Int)) : opFind eqT (schD ps) (schD qs) = some ⟨false, false, f_eq⟩ := by
  simp [opFind, eqT, eqTab, tyD]
theorem own_eq {ps : List (PySem.Str × Int)} (hn : (ps.map (·.1)).Nodup) (e : En) : opBoth Pw.eqD eqT (.val (schD ps)) (.val (schD ps)) e = .ok (.val (.bl true)) e := by
  unfold opBoth
  rw [if_pos (by rfl)]
  unfold opOwn
  simp only [share, Out.bind_ok]
  rw [find_eq]
  show resOut false (callD 2 [] f_eq [] [.val (schD ps), .val (schD ps)] e) = _
  rw [call_ni (v_eq hn ti_sch)]
  rfl

end K07

set_option maxHeartbeats 8000000
/-! K07k: like. -/
namespace K07
open Pw Lw Lx Ly
/-! ### like -/
theorem ti_ll : isAny isTab (.inl "list") [.inl "list", .inl "tuple"] = some true := by decide +kernel
theorem ti_l1 : isAny isTab (.inl "list") [.inl "list"] = some true := by decide +kernel
theorem ti_l2 : isAny isTab (.inl "list") [.inl "tuple"] = some false := by decide +kernel
theorem ti_tt : isAny isTab (.inl "tuple") [.inl "list", .inl "tuple"] = some true := by decide +kernel
theorem ti_t1 : isAny isTab (.inl "tuple") [.inl "list"] = some false := by decide +kernel
theorem ti_t2 : isAny isTab (.inl "tuple") [.inl "tuple"] = some true := by decide +kernel
theorem ti_it : isAny isTab (.inl "int") [.inl "list", .inl "tuple"] = some false := by decide +kernel
theorem ti_st : isAny isTab (.inl "str") [.inl "list", .inl "tuple"] = some false := by decide +kernel
theorem ti_sb : isAny isTab (.inl "str") [.inl "bool"] = some false := by decide +kernel
theorem like_int (rec : Fn) (a : Int) : f__law_like rec [I a, I a] = .ok (.val (.bl true)) [I a, I a] := by
  have e : Pw.eqD (.int a) (.int a) = .val (.bl true) := by rw [eqD_int, decide_eq_true rfl]
  have e2 : Pw.neD (.bl false) (.bl false) = .val (.bl false) := rfl
  simp [f__law_like, m__law_like, Pw.runF, Pw.startE, Pw.mSeq, Pw.mSkip, Pw.mExpr, Pw.mRet, Pw.mRetN, Pw.mIfS, Pw.mSet, Pw.setSlot, Pw.mPar, Pw.mPar3, Pw.mAsgT, Pw.tgOut_nm, Pw.tgOut_tp2, Pw.tgOut_tp3, Pw.tgSet_nm, Pw.tgSet_tp2, Pw.mCons, Pw.mNil, Pw.mC, Pw.mVar, Pw.mOp2, Pw.mOp, Pw.mUn, Pw.mUn2, Pw.unBoth, Pw.unOwn, Pw.unOut, Pw.opOut, Pw.opBoth, Pw.opOwn, Pw.opFind, Pw.resOut, Pw.opArgs, Pw.tyD, Pw.isObjR, Pw.mTst, Pw.mTru, Pw.truOut, Pw.truD, Pw.boolOut, Pw.mIf, Pw.mAndT, Pw.mOrT, Pw.mNotT, Pw.mAndV, Pw.mOrV, Pw.mNotV, Pw.norm, Pw.view, Pw.views, Pw.callOut, Pw.mCallB, Pw.mCallO, Pw.call1Both, Pw.chkAny, Pw.share, Pw.shareAll, Pw.putSlot, Pw.fs_val, Pw.fs_none, Pw.fs_own, Pw.retOut, Pw.mergeP, Pw.isOwn, Pw.mCall, Pw.callD, Pw.callOn, Pw.prep, Pw.prep1, Pw.agOk, Pw.penv, Pw.agSlot, Pw.callEnd, Pw.back, Pw.retB, Pw.mMake, Pw.makeD, Pw.makeOn, Pw.makeEnd, Pw.mAttr, Pw.attrOut, Pw.noExn, Pw.mMethO, Pw.methO, Pw.mStatic, Pw.statOut, Pw.mIsi, Pw.isiOut, Pw.isD, Pw.mTup, Pw.mLst, Pw.mSetSub, Pw.subOut, Pw.mSetFld, Pw.fldOut, Pw.putD, Pw.Ct.toD, Pw.gtD, Pw.ltD, Pw.addD, Pw.subD, Pw.mulD, Pw.fdivD, Pw.modD, Pw.negD, Pw.absD, Pw.intD, Pw.lenD, Pw.mRaise, Pw.mJs, Pw.mFmt, Pw.fmtOut, Pw.idxA, Pw.isDctD, Pw.inA, Pw.notInA, Pw.lenA, Pw.isDcts, Pw.mulA, Pw.isLstD, Pw.listA, Pw.mChainI, Pw.mParF, Pw.mSetSubA, Pw.subOutA, Pw.mNewD, Pw.mWAny, Pw.wkStr, Pw.conV, Pw.dlenD, Pw.mMeth, Pw.methOut, Pw.isTy, Pw.mMut, Pw.mMut0, Pw.isLst, Pw.mutOut, Pw.gAppend, Pw.mLc, Pw.okOwn, Pw.lockE, Pw.unlockE, Pw.wipeE, Pw.restE, Pw.mYes, Pw.Out.bind_ok, nums_nil, nums_v, nums_o, ti_it, ti_ib, e, e2]
theorem like_str (rec : Fn) {s : PySem.Str} (h : PySem.PyData.strOk s = true) : f__law_like rec [.val (.str s), .val (.str s)] = .ok (.val (.bl true)) [.val (.str s), .val (.str s)] := by
  have e : Pw.eqD (.str s) (.str s) = .val (.bl true) := eqD_self (n := 0) (okN_str h) (by decide)
  have e2 : Pw.neD (.bl false) (.bl false) = .val (.bl false) := rfl
  simp [f__law_like, m__law_like, Pw.runF, Pw.startE, Pw.mSeq, Pw.mSkip, Pw.mExpr, Pw.mRet, Pw.mRetN, Pw.mIfS, Pw.mSet, Pw.setSlot, Pw.mPar, Pw.mPar3, Pw.mAsgT, Pw.tgOut_nm, Pw.tgOut_tp2, Pw.tgOut_tp3, Pw.tgSet_nm, Pw.tgSet_tp2, Pw.mCons, Pw.mNil, Pw.mC, Pw.mVar, Pw.mOp2, Pw.mOp, Pw.mUn, Pw.mUn2, Pw.unBoth, Pw.unOwn, Pw.unOut, Pw.opOut, Pw.opBoth, Pw.opOwn, Pw.opFind, Pw.resOut, Pw.opArgs, Pw.tyD, Pw.isObjR, Pw.mTst, Pw.mTru, Pw.truOut, Pw.truD, Pw.boolOut, Pw.mIf, Pw.mAndT, Pw.mOrT, Pw.mNotT, Pw.mAndV, Pw.mOrV, Pw.mNotV, Pw.norm, Pw.view, Pw.views, Pw.callOut, Pw.mCallB, Pw.mCallO, Pw.call1Both, Pw.chkAny, Pw.share, Pw.shareAll, Pw.putSlot, Pw.fs_val, Pw.fs_none, Pw.fs_own, Pw.retOut, Pw.mergeP, Pw.isOwn, Pw.mCall, Pw.callD, Pw.callOn, Pw.prep, Pw.prep1, Pw.agOk, Pw.penv, Pw.agSlot, Pw.callEnd, Pw.back, Pw.retB, Pw.mMake, Pw.makeD, Pw.makeOn, Pw.makeEnd, Pw.mAttr, Pw.attrOut, Pw.noExn, Pw.mMethO, Pw.methO, Pw.mStatic, Pw.statOut, Pw.mIsi, Pw.isiOut, Pw.isD, Pw.mTup, Pw.mLst, Pw.mSetSub, Pw.subOut, Pw.mSetFld, Pw.fldOut, Pw.putD, Pw.Ct.toD, Pw.gtD, Pw.ltD, Pw.addD, Pw.subD, Pw.mulD, Pw.fdivD, Pw.modD, Pw.negD, Pw.absD, Pw.intD, Pw.lenD, Pw.mRaise, Pw.mJs, Pw.mFmt, Pw.fmtOut, Pw.idxA, Pw.isDctD, Pw.inA, Pw.notInA, Pw.lenA, Pw.isDcts, Pw.mulA, Pw.isLstD, Pw.listA, Pw.mChainI, Pw.mParF, Pw.mSetSubA, Pw.subOutA, Pw.mNewD, Pw.mWAny, Pw.wkStr, Pw.conV, Pw.dlenD, Pw.mMeth, Pw.methOut, Pw.isTy, Pw.mMut, Pw.mMut0, Pw.isLst, Pw.mutOut, Pw.gAppend, Pw.mLc, Pw.okOwn, Pw.lockE, Pw.unlockE, Pw.wipeE, Pw.restE, Pw.mYes, Pw.Out.bind_ok, nums_nil, nums_v, nums_o, ti_st, ti_sb, e, e2]
theorem lc_like {rec : Fn} {L : D} {ds : List D} (hL : ∀ (k : Nat) (d : D), ds[k]? = some d → Pw.idxA L (.int k) = .val d) (hr : ∀ d ∈ ds, rec [.val d, .val d] = .ok (.val (.bl true)) [.val d, .val d]) :
    ∀ (ks : List Nat) (acc : List D), (∀ k ∈ ks, k < ds.length) → acc.length + ks.length ≤ 1000 → lcL (.nm 2) mYes (mCall 2 [] rec [] (mCons (mOp Pw.idxA (mVar 0) (mVar 2)) (mCons (mOp Pw.idxA (mVar 1) (mVar 2)) (mNil)))) [2] (ks.map fun k => D.int (k : Nat)) acc [.val L, .val L, .none] = some (acc ++ ks.map fun _ => D.bl true, [.val L, .val L, .none])
  | [], acc, _, _ => by simp [lcL]
  | k :: ks, acc, hk, h => by
    have ih := lc_like hL hr ks (acc ++ [.bl true]) (fun x hx => hk x (by simp [hx])) (by simp only [List.length_append, List.length_cons, List.length_nil] at h ⊢; omega)
    have hz : acc.length < PySem.sizeLine := smallt (by simp only [List.length_cons] at h; omega)
    have hk1 : k < ds.length := hk k (by simp)
    have e1 := hL k ds[k] (List.getElem?_eq_getElem hk1)
    have e2 := hr ds[k] (List.getElem_mem hk1)
    generalize hd : ds[k] = d at e1 e2
    simp only [List.append_assoc, List.cons_append, List.nil_append] at ih
    simp [lcL, Pw.runF, Pw.startE, Pw.mSeq, Pw.mSkip, Pw.mExpr, Pw.mRet, Pw.mRetN, Pw.mIfS, Pw.mSet, Pw.setSlot, Pw.mPar, Pw.mPar3, Pw.mAsgT, Pw.tgOut_nm, Pw.tgOut_tp2, Pw.tgOut_tp3, Pw.tgSet_nm, Pw.tgSet_tp2, Pw.mCons, Pw.mNil, Pw.mC, Pw.mVar, Pw.mOp2, Pw.mOp, Pw.mUn, Pw.mUn2, Pw.unBoth, Pw.unOwn, Pw.unOut, Pw.opOut, Pw.opBoth, Pw.opOwn, Pw.opFind, Pw.resOut, Pw.opArgs, Pw.tyD, Pw.isObjR, Pw.mTst, Pw.mTru, Pw.truOut, Pw.truD, Pw.boolOut, Pw.mIf, Pw.mAndT, Pw.mOrT, Pw.mNotT, Pw.mAndV, Pw.mOrV, Pw.mNotV, Pw.norm, Pw.view, Pw.views, Pw.callOut, Pw.mCallB, Pw.mCallO, Pw.call1Both, Pw.chkAny, Pw.share, Pw.shareAll, Pw.putSlot, Pw.fs_val, Pw.fs_none, Pw.fs_own, Pw.retOut, Pw.mergeP, Pw.isOwn, Pw.mCall, Pw.callD, Pw.callOn, Pw.prep, Pw.prep1, Pw.agOk, Pw.penv, Pw.agSlot, Pw.callEnd, Pw.back, Pw.retB, Pw.mMake, Pw.makeD, Pw.makeOn, Pw.makeEnd, Pw.mAttr, Pw.attrOut, Pw.noExn, Pw.mMethO, Pw.methO, Pw.mStatic, Pw.statOut, Pw.mIsi, Pw.isiOut, Pw.isD, Pw.mTup, Pw.mLst, Pw.mSetSub, Pw.subOut, Pw.mSetFld, Pw.fldOut, Pw.putD, Pw.Ct.toD, Pw.gtD, Pw.ltD, Pw.addD, Pw.subD, Pw.mulD, Pw.fdivD, Pw.modD, Pw.negD, Pw.absD, Pw.intD, Pw.lenD, Pw.mRaise, Pw.mJs, Pw.mFmt, Pw.fmtOut, Pw.isDctD, Pw.inA, Pw.notInA, Pw.lenA, Pw.isDcts, Pw.mulA, Pw.isLstD, Pw.listA, Pw.mChainI, Pw.mParF, Pw.mSetSubA, Pw.subOutA, Pw.mNewD, Pw.mWAny, Pw.wkStr, Pw.conV, Pw.dlenD, Pw.mMeth, Pw.methOut, Pw.isTy, Pw.mMut, Pw.mMut0, Pw.isLst, Pw.mutOut, Pw.gAppend, Pw.mLc, Pw.okOwn, Pw.lockE, Pw.unlockE, Pw.wipeE, Pw.restE, Pw.mYes, Pw.Out.bind_ok, nums_nil, nums_v, nums_o, hz, e1, e2, ih]
theorem like_of {rec : Fn} {L : D} {i : Int} {b c : Bool} {bs rs : List D} (h1 : Pw.isD isTab [.inl "list", .inl "tuple"] L = some true) (h2 : Pw.isD isTab [.inl "list"] L = some b) (h3 : Pw.isD isTab [.inl "tuple"] L = some c)
    (e2 : Pw.neD (.bl b) (.bl b) = .val (.bl false)) (e3 : Pw.neD (.bl c) (.bl c) = .val (.bl false)) (hl : Pw.lenA [L] = .val (.int i)) (he : Pw.eqD (.int i) (.int i) = .val (.bl true)) (ok : okRng i) (hg : rngD 0 i.toNat = rs)
    (hc : lcL (.nm 2) mYes (mCall 2 [] rec [] (mCons (mOp Pw.idxA (mVar 0) (mVar 2)) (mCons (mOp Pw.idxA (mVar 1) (mVar 2)) (mNil)))) [2] rs [] [.val L, .val L, .none] = some (bs, [.val L, .val L, .none])) (ha : Pw.allD [.lst bs] = .val (.bl true)) :
    f__law_like rec [.val L, .val L] = .ok (.val (.bl true)) [.val L, .val L] := by
  simp [f__law_like, m__law_like, Pw.runF, Pw.startE, Pw.mSeq, Pw.mSkip, Pw.mExpr, Pw.mRet, Pw.mRetN, Pw.mIfS, Pw.mSet, Pw.setSlot, Pw.mPar, Pw.mPar3, Pw.mAsgT, Pw.tgOut_nm, Pw.tgOut_tp2, Pw.tgOut_tp3, Pw.tgSet_nm, Pw.tgSet_tp2, Pw.mCons, Pw.mNil, Pw.mC, Pw.mVar, Pw.mOp2, Pw.mOp, Pw.mUn, Pw.mUn2, Pw.unBoth, Pw.unOwn, Pw.unOut, Pw.opOut, Pw.opBoth, Pw.opOwn, Pw.opFind, Pw.resOut, Pw.opArgs, Pw.tyD, Pw.isObjR, Pw.mTst, Pw.mTru, Pw.truOut, Pw.truD, Pw.boolOut, Pw.mIf, Pw.mAndT, Pw.mOrT, Pw.mNotT, Pw.mAndV, Pw.mOrV, Pw.mNotV, Pw.norm, Pw.view, Pw.views, Pw.callOut, Pw.mCallB, Pw.mCallO, Pw.call1Both, Pw.chkAny, Pw.share, Pw.shareAll, Pw.putSlot, Pw.fs_val, Pw.fs_none, Pw.fs_own, Pw.retOut, Pw.mergeP, Pw.isOwn, Pw.mCall, Pw.callD, Pw.callOn, Pw.prep, Pw.prep1, Pw.agOk, Pw.penv, Pw.agSlot, Pw.callEnd, Pw.back, Pw.retB, Pw.mMake, Pw.makeD, Pw.makeOn, Pw.makeEnd, Pw.mAttr, Pw.attrOut, Pw.noExn, Pw.mMethO, Pw.methO, Pw.mStatic, Pw.statOut, Pw.mIsi, Pw.isiOut, Pw.mTup, Pw.mLst, Pw.mSetSub, Pw.subOut, Pw.mSetFld, Pw.fldOut, Pw.putD, Pw.Ct.toD, Pw.gtD, Pw.ltD, Pw.addD, Pw.subD, Pw.mulD, Pw.fdivD, Pw.modD, Pw.negD, Pw.absD, Pw.intD, Pw.mRaise, Pw.mJs, Pw.mFmt, Pw.fmtOut, Pw.isDctD, Pw.inA, Pw.notInA, Pw.isDcts, Pw.mulA, Pw.isLstD, Pw.listA, Pw.mChainI, Pw.mParF, Pw.mSetSubA, Pw.subOutA, Pw.mNewD, Pw.mWAny, Pw.wkStr, Pw.conV, Pw.dlenD, Pw.mMeth, Pw.methOut, Pw.mMut, Pw.mMut0, Pw.isLst, Pw.mutOut, Pw.gAppend, Pw.mLc, Pw.okOwn, Pw.lockE, Pw.unlockE, Pw.wipeE, Pw.restE, Pw.mYes, Pw.Out.bind_ok, nums_nil, nums_v, nums_o, h1, h2, h3, e2, e3, hl, he, mWRng1, rngOut1, ok, hg, hc, ha]
theorem rng_nat (n : Nat) : rngD 0 ((n : Nat) : Int).toNat = (List.range n).map fun k => D.int (k : Nat) := by
  rw [Int.toNat_natCast, rngD]
  apply List.map_congr_left
  intro k _
  rw [Int.zero_add]
theorem all_true {α : Type} (l : List α) : Pw.allD [.lst (l.map fun _ => D.bl true)] = .val (.bl true) := by
  have e := bools_map (fun _ : α => true) l
  unfold Pw.allD
  dsimp only
  rw [e]
  simp
theorem idx_at {ds : List D} {k : Nat} {d : D} (h : ds[k]? = some d) : Pw.idxD (.lst ds) (.int k) = .val d := idx_lst (by omega) (by rw [Int.toNat_natCast]; exact h)
theorem idx_att {ds : List D} {k : Nat} {d : D} (h : ds[k]? = some d) : Pw.idxD (.tup ds) (.int k) = .val d := idx_tup (by omega) (by rw [Int.toNat_natCast]; exact h)
theorem like_tup {rec : Fn} {ds : List D} (hz : ds.length ≤ 1000) (hr : ∀ d ∈ ds, rec [.val d, .val d] = .ok (.val (.bl true)) [.val d, .val d]) : f__law_like rec [.val (.tup ds), .val (.tup ds)] = .ok (.val (.bl true)) [.val (.tup ds), .val (.tup ds)] := by
  have hc := lc_like (L := .tup ds) (fun k d h => by rw [idxA, if_neg (show ¬ isDctD (.tup ds) = true from fun z => nomatch z)]; exact idx_att h) hr (List.range ds.length) [] (fun k hk => List.mem_range.mp hk) (by simpa using hz)
  rw [List.nil_append] at hc
  exact like_of (b := false) (c := true) ti_tt ti_t1 ti_t2 rfl rfl rfl (by rw [eqD_int, decide_eq_true rfl]) (okRng_small (by omega) (by omega)) (rng_nat _) hc (all_true _)
theorem like_lst {rec : Fn} {ds : List D} (hz : ds.length ≤ 1000) (hr : ∀ d ∈ ds, rec [.val d, .val d] = .ok (.val (.bl true)) [.val d, .val d]) : f__law_like rec [.val (.lst ds), .val (.lst ds)] = .ok (.val (.bl true)) [.val (.lst ds), .val (.lst ds)] := by
  have hc := lc_like (L := .lst ds) (fun k d h => by rw [idxA, if_neg (show ¬ isDctD (.lst ds) = true from fun z => nomatch z)]; exact idx_at h) hr (List.range ds.length) [] (fun k hk => List.mem_range.mp hk) (by simpa using hz)
  rw [List.nil_append] at hc
  exact like_of (b := true) (c := false) ti_ll ti_l1 ti_l2 rfl rfl rfl (by rw [eqD_int, decide_eq_true rfl]) (okRng_small (by omega) (by omega)) (rng_nat _) hc (all_true _)
def Same (rec : Fn) (d : D) : Prop := rec [.val d, .val d] = .ok (.val (.bl true)) [.val d, .val d]
theorem like_row {rec : Fn} {r : Row} (h : PySem.PyData.strOk r.1 = true) (hx : r.2.length ≤ 1000) : Same (f__law_like (f__law_like (f__law_like rec))) (RD r) :=
  like_tup (by simp) fun d hd => by
    simp only [List.mem_cons, List.not_mem_nil, or_false] at hd
    rcases hd with rfl | rfl
    · exact like_str _ h
    · exact like_tup (by simpa using hx) fun d hd => by
        obtain ⟨x, _, rfl⟩ := List.mem_map.mp hd
        exact like_int _ x
theorem like_key {rs : List Row} {n : Int} (hs : rs.length ≤ 1000) (h : ∀ r ∈ rs, PySem.PyData.strOk r.1 = true ∧ r.2.length ≤ 1000) : Same r__law_like (.tup [.int n, .tup (rs.map RD)]) :=
  like_tup (by simp) fun d hd => by
    simp only [List.mem_cons, List.not_mem_nil, or_false] at hd
    rcases hd with rfl | rfl
    · exact like_int _ n
    · exact like_tup (by simpa using hs) fun d hd => by
        obtain ⟨r, hr, rfl⟩ := List.mem_map.mp hd
        exact like_row (h r hr).1 (h r hr).2
theorem like_rows {rs : List Row} (hs : rs.length ≤ 1000) (h : ∀ r ∈ rs, PySem.PyData.strOk r.1 = true ∧ r.2.length ≤ 1000) : Same r__law_like (.lst (rs.map RD)) :=
  like_lst (by simpa using hs) fun d hd => by
    obtain ⟨r, hr, rfl⟩ := List.mem_map.mp hd
    exact like_row (rec := f__law_like fun _ => .stuck) (h r hr).1 (h r hr).2

end K07

set_option maxHeartbeats 8000000
/-! K07l: is_shape. -/
namespace K07
open Pw Lw Lx Ly
/-! ### is_shape -/
theorem call1_v {fn : Fn} {x r : D} {e : En} (h : fn [.val x] = .ok (.val r) [.val x]) : callD 1 [] fn [] [.val x] e = .ok (.val r) e := by
  simp [Pw.runF, Pw.startE, Pw.mSeq, Pw.mSkip, Pw.mExpr, Pw.mRet, Pw.mRetN, Pw.mIfS, Pw.mSet, Pw.setSlot, Pw.mPar, Pw.mPar3, Pw.mAsgT, Pw.tgOut_nm, Pw.tgOut_tp2, Pw.tgOut_tp3, Pw.tgSet_nm, Pw.tgSet_tp2, Pw.mCons, Pw.mNil, Pw.mC, Pw.mVar, Pw.mOp2, Pw.mOp, Pw.mUn, Pw.mUn2, Pw.unBoth, Pw.unOwn, Pw.unOut, Pw.opOut, Pw.opBoth, Pw.opOwn, Pw.opFind, Pw.resOut, Pw.opArgs, Pw.tyD, Pw.isObjR, Pw.mTst, Pw.mTru, Pw.truOut, Pw.truD, Pw.boolOut, Pw.mIf, Pw.mAndT, Pw.mOrT, Pw.mNotT, Pw.mAndV, Pw.mOrV, Pw.mNotV, Pw.norm, Pw.view, Pw.views, Pw.callOut, Pw.mCallB, Pw.mCallO, Pw.call1Both, Pw.chkAny, Pw.share, Pw.shareAll, Pw.putSlot, Pw.fs_val, Pw.fs_none, Pw.fs_own, Pw.retOut, Pw.mergeP, Pw.isOwn, Pw.mCall, Pw.callD, Pw.callOn, Pw.prep, Pw.prep1, Pw.agOk, Pw.penv, Pw.agSlot, Pw.callEnd, Pw.back, Pw.retB, Pw.mMake, Pw.makeD, Pw.makeOn, Pw.makeEnd, Pw.mAttr, Pw.attrOut, Pw.noExn, Pw.mMethO, Pw.methO, Pw.mStatic, Pw.statOut, Pw.mIsi, Pw.isiOut, Pw.isD, Pw.mTup, Pw.mLst, Pw.mSetSub, Pw.subOut, Pw.mSetFld, Pw.fldOut, Pw.putD, Pw.Ct.toD, Pw.gtD, Pw.ltD, Pw.addD, Pw.subD, Pw.mulD, Pw.fdivD, Pw.modD, Pw.negD, Pw.absD, Pw.intD, Pw.lenD, Pw.mRaise, Pw.mJs, Pw.mFmt, Pw.fmtOut, Pw.idxA, Pw.isDctD, Pw.inA, Pw.notInA, Pw.lenA, Pw.isDcts, Pw.mulA, Pw.isLstD, Pw.listA, Pw.mChainI, Pw.mParF, Pw.mSetSubA, Pw.subOutA, Pw.mNewD, Pw.mWAny, Pw.wkStr, Pw.conV, Pw.dlenD, Pw.mMeth, Pw.methOut, Pw.isTy, Pw.mMut, Pw.mMut0, Pw.isLst, Pw.mutOut, Pw.gAppend, Pw.mLc, Pw.okOwn, Pw.lockE, Pw.unlockE, Pw.wipeE, Pw.restE, Pw.mYes, Pw.Out.bind_ok, nums_nil, nums_v, nums_o, h]
theorem call1_f {fn : Fn} {x : D} {c : Ct} {e : En} (h : fn [.val x] = .ok (.fresh c) [.val x]) : callD 1 [] fn [] [.val x] e = .ok (.fresh c) e := by
  simp [Pw.runF, Pw.startE, Pw.mSeq, Pw.mSkip, Pw.mExpr, Pw.mRet, Pw.mRetN, Pw.mIfS, Pw.mSet, Pw.setSlot, Pw.mPar, Pw.mPar3, Pw.mAsgT, Pw.tgOut_nm, Pw.tgOut_tp2, Pw.tgOut_tp3, Pw.tgSet_nm, Pw.tgSet_tp2, Pw.mCons, Pw.mNil, Pw.mC, Pw.mVar, Pw.mOp2, Pw.mOp, Pw.mUn, Pw.mUn2, Pw.unBoth, Pw.unOwn, Pw.unOut, Pw.opOut, Pw.opBoth, Pw.opOwn, Pw.opFind, Pw.resOut, Pw.opArgs, Pw.tyD, Pw.isObjR, Pw.mTst, Pw.mTru, Pw.truOut, Pw.truD, Pw.boolOut, Pw.mIf, Pw.mAndT, Pw.mOrT, Pw.mNotT, Pw.mAndV, Pw.mOrV, Pw.mNotV, Pw.norm, Pw.view, Pw.views, Pw.callOut, Pw.mCallB, Pw.mCallO, Pw.call1Both, Pw.chkAny, Pw.share, Pw.shareAll, Pw.putSlot, Pw.fs_val, Pw.fs_none, Pw.fs_own, Pw.retOut, Pw.mergeP, Pw.isOwn, Pw.mCall, Pw.callD, Pw.callOn, Pw.prep, Pw.prep1, Pw.agOk, Pw.penv, Pw.agSlot, Pw.callEnd, Pw.back, Pw.retB, Pw.mMake, Pw.makeD, Pw.makeOn, Pw.makeEnd, Pw.mAttr, Pw.attrOut, Pw.noExn, Pw.mMethO, Pw.methO, Pw.mStatic, Pw.statOut, Pw.mIsi, Pw.isiOut, Pw.isD, Pw.mTup, Pw.mLst, Pw.mSetSub, Pw.subOut, Pw.mSetFld, Pw.fldOut, Pw.putD, Pw.Ct.toD, Pw.gtD, Pw.ltD, Pw.addD, Pw.subD, Pw.mulD, Pw.fdivD, Pw.modD, Pw.negD, Pw.absD, Pw.intD, Pw.lenD, Pw.mRaise, Pw.mJs, Pw.mFmt, Pw.fmtOut, Pw.idxA, Pw.isDctD, Pw.inA, Pw.notInA, Pw.lenA, Pw.isDcts, Pw.mulA, Pw.isLstD, Pw.listA, Pw.mChainI, Pw.mParF, Pw.mSetSubA, Pw.subOutA, Pw.mNewD, Pw.mWAny, Pw.wkStr, Pw.conV, Pw.dlenD, Pw.mMeth, Pw.methOut, Pw.isTy, Pw.mMut, Pw.mMut0, Pw.isLst, Pw.mutOut, Pw.gAppend, Pw.mLc, Pw.okOwn, Pw.lockE, Pw.unlockE, Pw.wipeE, Pw.restE, Pw.mYes, Pw.Out.bind_ok, nums_nil, nums_v, nums_o, h]
theorem callT_v {fn : Fn} {x r : D} {e : En} (h : fn [.val x] = .ok (.val r) [.val x]) : callD 1 [true] fn [] [.val x] e = .ok (.val r) e := by
  simp [Pw.runF, Pw.startE, Pw.mSeq, Pw.mSkip, Pw.mExpr, Pw.mRet, Pw.mRetN, Pw.mIfS, Pw.mSet, Pw.setSlot, Pw.mPar, Pw.mPar3, Pw.mAsgT, Pw.tgOut_nm, Pw.tgOut_tp2, Pw.tgOut_tp3, Pw.tgSet_nm, Pw.tgSet_tp2, Pw.mCons, Pw.mNil, Pw.mC, Pw.mVar, Pw.mOp2, Pw.mOp, Pw.mUn, Pw.mUn2, Pw.unBoth, Pw.unOwn, Pw.unOut, Pw.opOut, Pw.opBoth, Pw.opOwn, Pw.opFind, Pw.resOut, Pw.opArgs, Pw.tyD, Pw.isObjR, Pw.mTst, Pw.mTru, Pw.truOut, Pw.truD, Pw.boolOut, Pw.mIf, Pw.mAndT, Pw.mOrT, Pw.mNotT, Pw.mAndV, Pw.mOrV, Pw.mNotV, Pw.norm, Pw.view, Pw.views, Pw.callOut, Pw.mCallB, Pw.mCallO, Pw.call1Both, Pw.chkAny, Pw.share, Pw.shareAll, Pw.putSlot, Pw.fs_val, Pw.fs_none, Pw.fs_own, Pw.retOut, Pw.mergeP, Pw.isOwn, Pw.mCall, Pw.callD, Pw.callOn, Pw.prep, Pw.prep1, Pw.agOk, Pw.penv, Pw.agSlot, Pw.callEnd, Pw.back, Pw.retB, Pw.mMake, Pw.makeD, Pw.makeOn, Pw.makeEnd, Pw.mAttr, Pw.attrOut, Pw.noExn, Pw.mMethO, Pw.methO, Pw.mStatic, Pw.statOut, Pw.mIsi, Pw.isiOut, Pw.isD, Pw.mTup, Pw.mLst, Pw.mSetSub, Pw.subOut, Pw.mSetFld, Pw.fldOut, Pw.putD, Pw.Ct.toD, Pw.gtD, Pw.ltD, Pw.addD, Pw.subD, Pw.mulD, Pw.fdivD, Pw.modD, Pw.negD, Pw.absD, Pw.intD, Pw.lenD, Pw.mRaise, Pw.mJs, Pw.mFmt, Pw.fmtOut, Pw.idxA, Pw.isDctD, Pw.inA, Pw.notInA, Pw.lenA, Pw.isDcts, Pw.mulA, Pw.isLstD, Pw.listA, Pw.mChainI, Pw.mParF, Pw.mSetSubA, Pw.subOutA, Pw.mNewD, Pw.mWAny, Pw.wkStr, Pw.conV, Pw.dlenD, Pw.mMeth, Pw.methOut, Pw.isTy, Pw.mMut, Pw.mMut0, Pw.isLst, Pw.mutOut, Pw.gAppend, Pw.mLc, Pw.okOwn, Pw.lockE, Pw.unlockE, Pw.wipeE, Pw.restE, Pw.mYes, Pw.Out.bind_ok, nums_nil, nums_v, nums_o, h]
theorem cons2 {a b : ME} {ra rb : RV} {e : En} (ha : a e = .ok ra e) (hb : b e = .ok rb e) : mCons a (mCons b mNil) e = .ok [norm ra, norm rb] e := by
  simp only [mCons, ha, hb, Out.bind_ok, mNil]
theorem call2_step {fn : Fn} {ma : MA} {x y r : D} {e : En} (hm : ma e = .ok [.val x, .val y] e) (h : fn [.val x, .val y] = .ok (.val r) [.val x, .val y]) : mCall 2 [] fn [] ma e = .ok (.val r) e := by
  unfold mCall
  rw [hm, Out.bind_ok]
  exact call_ni h
theorem meth0 {cs : List (PySem.Str × MtI)} {m : PySem.Str} {mo : ME} {i : MtI} {x : D} {r : RV} {e : En} (ho : mo e = .ok (.val x) e) (hm : methO cs m (.val x) e = some i) (hc : callD i.n i.modes i.fn i.dfs [.val x] e = .ok r e) : mMethO cs m mo mNil e = .ok r e := by
  unfold mMethO
  rw [ho, Out.bind_ok, hm]
  dsimp only
  rw [mNil, Out.bind_ok]
  exact hc
theorem nk1 : (PySem.Str.ofString "key" == PySem.Str.ofString "plan") = false := by decide
theorem nk2 : (PySem.Str.ofString "key" == PySem.Str.ofString "many") = false := by decide
theorem nk3 : (PySem.Str.ofString "key" == PySem.Str.ofString "row_list") = false := by decide
theorem nk4 : (PySem.Str.ofString "key" == PySem.Str.ofString "known_rows") = false := by decide
theorem nr1 : (PySem.Str.ofString "rows" == PySem.Str.ofString "plan") = false := by decide
theorem nr2 : (PySem.Str.ofString "rows" == PySem.Str.ofString "many") = false := by decide
theorem nr3 : (PySem.Str.ofString "rows" == PySem.Str.ofString "row_list") = false := by decide
theorem nr4 : (PySem.Str.ofString "rows" == PySem.Str.ofString "known_rows") = false := by decide
theorem at_prop {I : AtI} {f c : PySem.Str} {fs : List (PySem.Str × D)} {fn : Fn} {d : D} {e : En} (h1 : I.props.lookup c = some fn) (h : fn [.val (.obj c fs)] = .ok (.val d) [.val (.obj c fs)]) : attrOut I f (.val (.obj c fs)) e = .ok (.val d) e := by
  unfold attrOut
  rw [view]
  dsimp only
  rw [h1]
  dsimp only
  show noExn (callD 1 [true] fn [] [.val (.obj c fs)] e) = _
  rw [callT_v h]
  rfl
section
variable {ps : List (PySem.Str × Int)} {nodes : Int} {seen : List Row} {e : En}
theorem lk_key : methO o_key "key" (.val (shD ps nodes seen)) e = some i_key := by
  simp [methO, view, o_key, List.lookup, nk1, nk2, nk3, nk4]
theorem lk_rows_ : methO o_rows "rows" (.val (shD ps nodes seen)) e = some i_rows := by
  simp [methO, view, o_rows, List.lookup, nr1, nr2, nr3, nr4]
theorem meth_key {mo : ME} (h : mo e = .ok (.val (shD ps nodes seen)) e) : mMethO o_key "key" mo mNil e = .ok (.val (.tup [.int nodes, .tup ((sortR seen).map RD)])) e := meth0 h lk_key (call1_v v_key)
theorem meth_rows {mo : ME} (h : mo e = .ok (.val (shD ps nodes seen)) e) : mMethO o_rows "rows" mo mNil e = .ok (.fresh (.lst ((sortR seen).map RD))) e := meth0 h lk_rows_ (call1_f v_rows)
theorem at_nodes_ : attrOut a_nodes "nodes" (.val (shD ps nodes seen)) e = .ok (.val (.int nodes)) e := at_prop rfl v_nodes
theorem at_schema_ : attrOut a_schema "schema" (.val (shD ps nodes seen)) e = .ok (.val (schD ps)) e := at_prop rfl v_schema
end
noncomputable def c__law_is_shape_0 : MS := mIfS (mOrT (mNotT (mTru (mIsi isTab [.inr "Shape"] (mVar 0)))) (mOrT (mNotT (mTru (mCall 2 [] r__law_like [] (mCons (mMethO o_key "key" (mVar 0) (mNil)) (mCons (mVar 2) (mNil)))))) (mTst (mOp2 (opOut Pw.neD) (mAttr a_nodes "nodes" (mVar 0)) (mOp idxA (mVar 2) (mC (.int 0))))))) (mSeq (mRet (mC (.bl false))) (mSkip)) (mSkip)
noncomputable def c__law_is_shape_1 : MS := mRet (mAndV (mCall 2 [] r__law_like [] (mCons (mMethO o_rows "rows" (mVar 0) (mNil)) (mCons (mCallB listA (mCons (mOp idxA (mVar 2) (mC (.int 1))) (mNil))) (mNil)))) (mOp2 (opBoth Pw.eqD eqT) (mAttr a_schema "schema" (mVar 0)) (mVar 1)))
theorem c__law_is_shape_eq : m__law_is_shape = mSeq c__law_is_shape_0 ( mSeq c__law_is_shape_1 (mSkip)) := rfl
noncomputable def isA : ME := mCall 2 [] r__law_like [] (mCons (mMethO o_key "key" (mVar 0) (mNil)) (mCons (mVar 2) (mNil)))
noncomputable def isB : ME := mOp2 (opOut Pw.neD) (mAttr a_nodes "nodes" (mVar 0)) (mOp Pw.idxA (mVar 2) (mC (.int 0)))
noncomputable def isC : ME := mCall 2 [] r__law_like [] (mCons (mMethO o_rows "rows" (mVar 0) (mNil)) (mCons (mCallB listA (mCons (mOp Pw.idxA (mVar 2) (mC (.int 1))) (mNil))) (mNil)))
noncomputable def isE : ME := mOp2 (opBoth Pw.eqD eqT) (mAttr a_schema "schema" (mVar 0)) (mVar 1)
theorem is_shape_0 : c__law_is_shape_0 = mIfS (mOrT (mNotT (mTru (mIsi isTab [.inr "Shape"] (mVar 0)))) (mOrT (mNotT (mTru isA)) (mTst isB))) (mSeq (mRet (mC (.bl false))) (mSkip)) (mSkip) := rfl
theorem is_shape_1 : c__law_is_shape_1 = mRet (mAndV isC isE) := rfl
theorem ti_sh : isAny isTab (.inr "Shape") [.inr "Shape"] = some true := by decide +kernel
section
variable {ps : List (PySem.Str × Int)} {nodes : Int} {seen : List Row}
abbrev keyD (nodes : Int) (rs : List Row) : D := .tup [.int nodes, .tup (rs.map RD)]
abbrev E3 (ps : List (PySem.Str × Int)) (nodes : Int) (seen : List Row) : En := [.val (shD ps nodes seen), .val (schD ps), .val (keyD nodes (sortR seen))]
theorem mv0 : mVar 0 (E3 ps nodes seen) = .ok (.val (shD ps nodes seen)) (E3 ps nodes seen) := rfl
theorem mv2 : mVar 2 (E3 ps nodes seen) = .ok (.val (keyD nodes (sortR seen))) (E3 ps nodes seen) := rfl
theorem isA_v (h : Same r__law_like (keyD nodes (sortR seen))) : isA (E3 ps nodes seen) = .ok (.val (.bl true)) (E3 ps nodes seen) :=
  call2_step (cons2 (meth_key mv0) mv2) h
theorem isB_v : isB (E3 ps nodes seen) = .ok (.val (.bl false)) (E3 ps nodes seen) := by
  have e : Pw.neD (.int nodes) (.int nodes) = .val (.bl false) := by rw [neD_int, decide_eq_true rfl]; rfl
  have e2 : Pw.idxA (keyD nodes (sortR seen)) (.int 0) = .val (.int nodes) := rfl
  have h := attr_step (I := a_nodes) (f := "nodes") (m := mVar 0) (e := E3 ps nodes seen) (x := shD ps nodes seen) (d := .int nodes) mv0 at_nodes_
  simp [isB, Pw.runF, Pw.startE, Pw.mSeq, Pw.mSkip, Pw.mExpr, Pw.mRet, Pw.mRetN, Pw.mIfS, Pw.mSet, Pw.setSlot, Pw.mPar, Pw.mPar3, Pw.mAsgT, Pw.tgOut_nm, Pw.tgOut_tp2, Pw.tgOut_tp3, Pw.tgSet_nm, Pw.tgSet_tp2, Pw.mCons, Pw.mNil, Pw.mC, Pw.mVar, Pw.mOp2, Pw.mOp, Pw.mUn, Pw.mUn2, Pw.unBoth, Pw.unOwn, Pw.unOut, Pw.opOut, Pw.opBoth, Pw.opOwn, Pw.opFind, Pw.resOut, Pw.opArgs, Pw.tyD, Pw.isObjR, Pw.mTst, Pw.mTru, Pw.truOut, Pw.truD, Pw.boolOut, Pw.mIf, Pw.mAndT, Pw.mOrT, Pw.mNotT, Pw.mAndV, Pw.mOrV, Pw.mNotV, Pw.norm, Pw.view, Pw.views, Pw.callOut, Pw.mCallB, Pw.mCallO, Pw.call1Both, Pw.chkAny, Pw.share, Pw.shareAll, Pw.putSlot, Pw.fs_val, Pw.fs_none, Pw.fs_own, Pw.retOut, Pw.mergeP, Pw.isOwn, Pw.mCall, Pw.callD, Pw.callOn, Pw.prep, Pw.prep1, Pw.agOk, Pw.penv, Pw.agSlot, Pw.callEnd, Pw.back, Pw.retB, Pw.mMake, Pw.makeD, Pw.makeOn, Pw.makeEnd, Pw.noExn, Pw.mMethO, Pw.methO, Pw.mStatic, Pw.statOut, Pw.mIsi, Pw.isiOut, Pw.isD, Pw.mTup, Pw.mLst, Pw.mSetSub, Pw.subOut, Pw.mSetFld, Pw.fldOut, Pw.putD, Pw.Ct.toD, Pw.gtD, Pw.ltD, Pw.addD, Pw.subD, Pw.mulD, Pw.fdivD, Pw.modD, Pw.negD, Pw.absD, Pw.intD, Pw.lenD, Pw.mRaise, Pw.mJs, Pw.mFmt, Pw.fmtOut, Pw.isDctD, Pw.inA, Pw.notInA, Pw.lenA, Pw.isDcts, Pw.mulA, Pw.isLstD, Pw.listA, Pw.mChainI, Pw.mParF, Pw.mSetSubA, Pw.subOutA, Pw.mNewD, Pw.mWAny, Pw.wkStr, Pw.conV, Pw.dlenD, Pw.mMeth, Pw.methOut, Pw.isTy, Pw.mMut, Pw.mMut0, Pw.isLst, Pw.mutOut, Pw.gAppend, Pw.mLc, Pw.okOwn, Pw.lockE, Pw.unlockE, Pw.wipeE, Pw.restE, Pw.mYes, Pw.Out.bind_ok, nums_nil, nums_v, nums_o, h, e, e2]
theorem isC_v (h : Same r__law_like (.lst ((sortR seen).map RD))) : isC (E3 ps nodes seen) = .ok (.val (.bl true)) (E3 ps nodes seen) := by
  have e2 : Pw.idxA (keyD nodes (sortR seen)) (.int 1) = .val (.tup ((sortR seen).map RD)) := rfl
  have hb : mCallB listA (mCons (mOp Pw.idxA (mVar 2) (mC (.int 1))) (mNil)) (E3 ps nodes seen) = .ok (.fresh (.lst ((sortR seen).map RD))) (E3 ps nodes seen) := by
    simp [Pw.runF, Pw.startE, Pw.mSeq, Pw.mSkip, Pw.mExpr, Pw.mRet, Pw.mRetN, Pw.mIfS, Pw.mSet, Pw.setSlot, Pw.mPar, Pw.mPar3, Pw.mAsgT, Pw.tgOut_nm, Pw.tgOut_tp2, Pw.tgOut_tp3, Pw.tgSet_nm, Pw.tgSet_tp2, Pw.mCons, Pw.mNil, Pw.mC, Pw.mVar, Pw.mOp2, Pw.mOp, Pw.mUn, Pw.mUn2, Pw.unBoth, Pw.unOwn, Pw.unOut, Pw.opOut, Pw.opBoth, Pw.opOwn, Pw.opFind, Pw.resOut, Pw.opArgs, Pw.tyD, Pw.isObjR, Pw.mTst, Pw.mTru, Pw.truOut, Pw.truD, Pw.boolOut, Pw.mIf, Pw.mAndT, Pw.mOrT, Pw.mNotT, Pw.mAndV, Pw.mOrV, Pw.mNotV, Pw.norm, Pw.view, Pw.views, Pw.callOut, Pw.mCallB, Pw.mCallO, Pw.call1Both, Pw.chkAny, Pw.share, Pw.shareAll, Pw.putSlot, Pw.fs_val, Pw.fs_none, Pw.fs_own, Pw.retOut, Pw.mergeP, Pw.isOwn, Pw.mCall, Pw.callD, Pw.callOn, Pw.prep, Pw.prep1, Pw.agOk, Pw.penv, Pw.agSlot, Pw.callEnd, Pw.back, Pw.retB, Pw.mMake, Pw.makeD, Pw.makeOn, Pw.makeEnd, Pw.mAttr, Pw.attrOut, Pw.noExn, Pw.mMethO, Pw.methO, Pw.mStatic, Pw.statOut, Pw.mIsi, Pw.isiOut, Pw.isD, Pw.mTup, Pw.mLst, Pw.mSetSub, Pw.subOut, Pw.mSetFld, Pw.fldOut, Pw.putD, Pw.Ct.toD, Pw.gtD, Pw.ltD, Pw.addD, Pw.subD, Pw.mulD, Pw.fdivD, Pw.modD, Pw.negD, Pw.absD, Pw.intD, Pw.lenD, Pw.mRaise, Pw.mJs, Pw.mFmt, Pw.fmtOut, Pw.isDctD, Pw.inA, Pw.notInA, Pw.lenA, Pw.isDcts, Pw.mulA, Pw.isLstD, Pw.listA, Pw.mChainI, Pw.mParF, Pw.mSetSubA, Pw.subOutA, Pw.mNewD, Pw.mWAny, Pw.wkStr, Pw.conV, Pw.dlenD, Pw.mMeth, Pw.methOut, Pw.isTy, Pw.mMut, Pw.mMut0, Pw.isLst, Pw.mutOut, Pw.gAppend, Pw.mLc, Pw.okOwn, Pw.lockE, Pw.unlockE, Pw.wipeE, Pw.restE, Pw.mYes, Pw.Out.bind_ok, nums_nil, nums_v, nums_o, e2, Pw.listD]
  exact call2_step (cons2 (meth_rows mv0) hb) h
theorem isE_v (hn : (ps.map (·.1)).Nodup) : isE (E3 ps nodes seen) = .ok (.val (.bl true)) (E3 ps nodes seen) := by
  have h := attr_step (I := a_schema) (f := "schema") (m := mVar 0) (e := E3 ps nodes seen) (x := shD ps nodes seen) (d := schD ps) mv0 at_schema_
  unfold isE
  simp only [mOp2, h, Out.bind_ok, norm, mVar, List.getElem?_cons_succ, List.getElem?_cons_zero]
  exact own_eq hn _
theorem v_is_shape (hn : (ps.map (·.1)).Nodup) (h1 : Same r__law_like (keyD nodes (sortR seen))) (h2 : Same r__law_like (.lst ((sortR seen).map RD))) : f__law_is_shape (E3 ps nodes seen) = .ok (.val (.bl true)) (E3 ps nodes seen) := by
  have a1 := isA_v (ps := ps) h1
  have a2 := isB_v (ps := ps) (nodes := nodes) (seen := seen)
  have a3 := isC_v (ps := ps) (nodes := nodes) h2
  have a4 := isE_v (nodes := nodes) (seen := seen) hn
  simp [f__law_is_shape, c__law_is_shape_eq, is_shape_0, is_shape_1, Pw.runF, Pw.startE, Pw.mSeq, Pw.mSkip, Pw.mExpr, Pw.mRet, Pw.mRetN, Pw.mIfS, Pw.mSet, Pw.setSlot, Pw.mPar, Pw.mPar3, Pw.mAsgT, Pw.tgOut_nm, Pw.tgOut_tp2, Pw.tgOut_tp3, Pw.tgSet_nm, Pw.tgSet_tp2, Pw.mCons, Pw.mNil, Pw.mC, Pw.mVar, Pw.mOp2, Pw.mOp, Pw.mUn, Pw.mUn2, Pw.unBoth, Pw.unOwn, Pw.unOut, Pw.opOut, Pw.opBoth, Pw.opOwn, Pw.opFind, Pw.resOut, Pw.opArgs, Pw.tyD, Pw.isObjR, Pw.mTst, Pw.mTru, Pw.truOut, Pw.truD, Pw.boolOut, Pw.mIf, Pw.mAndT, Pw.mOrT, Pw.mNotT, Pw.mAndV, Pw.mOrV, Pw.mNotV, Pw.norm, Pw.view, Pw.views, Pw.callOut, Pw.mCallB, Pw.mCallO, Pw.call1Both, Pw.chkAny, Pw.share, Pw.shareAll, Pw.putSlot, Pw.fs_val, Pw.fs_none, Pw.fs_own, Pw.retOut, Pw.mergeP, Pw.isOwn, Pw.mCall, Pw.callD, Pw.callOn, Pw.prep, Pw.prep1, Pw.agOk, Pw.penv, Pw.agSlot, Pw.callEnd, Pw.back, Pw.retB, Pw.mMake, Pw.makeD, Pw.makeOn, Pw.makeEnd, Pw.mAttr, Pw.attrOut, Pw.noExn, Pw.mMethO, Pw.methO, Pw.mStatic, Pw.statOut, Pw.mIsi, Pw.isiOut, Pw.isD, Pw.mTup, Pw.mLst, Pw.mSetSub, Pw.subOut, Pw.mSetFld, Pw.fldOut, Pw.putD, Pw.Ct.toD, Pw.gtD, Pw.ltD, Pw.addD, Pw.subD, Pw.mulD, Pw.fdivD, Pw.modD, Pw.negD, Pw.absD, Pw.intD, Pw.lenD, Pw.mRaise, Pw.mJs, Pw.mFmt, Pw.fmtOut, Pw.idxA, Pw.isDctD, Pw.inA, Pw.notInA, Pw.lenA, Pw.isDcts, Pw.mulA, Pw.isLstD, Pw.listA, Pw.mChainI, Pw.mParF, Pw.mSetSubA, Pw.subOutA, Pw.mNewD, Pw.mWAny, Pw.wkStr, Pw.conV, Pw.dlenD, Pw.mMeth, Pw.methOut, Pw.isTy, Pw.mMut, Pw.mMut0, Pw.isLst, Pw.mutOut, Pw.gAppend, Pw.mLc, Pw.okOwn, Pw.lockE, Pw.unlockE, Pw.wipeE, Pw.restE, Pw.mYes, Pw.Out.bind_ok, nums_nil, nums_v, nums_o, ti_sh, a1, a2, a3, a4]
end

end K07

set_option maxHeartbeats 8000000
/-! K07m: with_rows refused; rows drawn. -/
namespace K07
open Pw Lw Lx Ly
/-! ### with_rows refused; rows drawn -/
noncomputable def c_with_rows_0_0 : MS := mIfS (mNotT (mTru (mCall 3 [] f_is_row [] (mCons (mAttr a_plan "plan" (mVar 0)) (mCons (mAttr a_many "many" (mVar 0)) (mCons (mVar 3) (mNil))))))) (mSeq (mRaise "InvalidRow" 1 fl_InvalidRow (mCons (mVar 2) (mNil))) (mSkip)) (mSkip)
noncomputable def c_with_rows_0b : MS := mSeq c_with_rows_0_0 (mSkip)
noncomputable def c_with_rows_0 : MS := mFor (.tp [.nm 2, .nm 3]) (mWEnum (mCons (mVar 1) (mNil))) c_with_rows_0b
noncomputable def c_with_rows_1 : MS := mRet (mMake "Shape" k_Shape_3.n k_Shape_3.modes k_Shape_3.fn k_Shape_3.dfs (mCons (mAttr a_plan "plan" (mVar 0)) (mCons (mAttr a_many "many" (mVar 0)) (mCons (mOp2 (opOut Pw.addD) (mCallB listA (mCons (mAttr a_row_list "row_list" (mVar 0)) (mNil))) (mCallB listA (mCons (mVar 1) (mNil)))) (mNil)))))
theorem c_with_rows_eq : m_with_rows = mSeq c_with_rows_0 ( mSeq c_with_rows_1 (mSkip)) := rfl
noncomputable def c__law_rows_0 : MS := mSet 4 (mLst (mNil))
noncomputable def c__law_rows_1_0 : MS := mAsgT (.tp [.nm 7, .nm 8]) (mCall 2 [true] f__law_any [] (mCons (mVar 0) (mCons (mVar 1) (mNil))))
noncomputable def c__law_rows_1_1 : MS := mSet 6 (mTup (mCons (mVar 7) (mCons (mCallB tupleD (mCons (mLc [9] (.nm 9) (mWRng1 (mCons (mVar 8) (mNil))) (mYes) (mCall 2 [true] f__law_draw [] (mCons (mVar 0) (mCons (mVar 2) (mNil))))) (mNil))) (mNil))))
noncomputable def c__law_rows_1_2 : MS := mIfS (mTst (mOp2 (opOut notInA) (mVar 6) (mVar 4))) (mSeq (mExpr (mMut gAppend (mVar 4) (mCons (mVar 6) (mNil)))) (mSkip)) (mSkip)
noncomputable def c__law_rows_1b : MS := mSeq c__law_rows_1_0 ( mSeq c__law_rows_1_1 ( mSeq c__law_rows_1_2 (mSkip)))
noncomputable def c__law_rows_1 : MS := mFor (.nm 5) (mWRng1 (mCons (mIf (mTst (mOp2 (opOut Pw.gtD) (mVar 2) (mC (.int 0)))) (mCall 2 [true] f__law_draw [] (mCons (mVar 0) (mCons (mOp2 (opOut Pw.addD) (mVar 3) (mC (.int 1))) (mNil)))) (mC (.int 0))) (mNil))) c__law_rows_1b
noncomputable def c__law_rows_2 : MS := mRet (mCallB tupleD (mCons (mCallB sortedD (mCons (mVar 4) (mNil))) (mNil)))
theorem c__law_rows_eq : m__law_rows = mSeq c__law_rows_0 ( mSeq c__law_rows_1 ( mSeq c__law_rows_2 (mSkip))) := rfl
abbrev OW (ds : List D) : Sv := .own false false (.lst ds)
abbrev FO (c : Ct) : Sv := .own false false c
section
variable {ps : List (PySem.Str × Int)} {nodes : Int} {seen : List Row} {R a b : Sv}
theorem turn_wok {k : Nat} {r : GRow} (hx : r.2.2.length ≤ 1000) (h : okRow ps nodes r.1 r.2.2 = true) (ha : Fr a) (hb : Fr b) :
    turnF (.tp [.nm 2, .nm 3]) c_with_rows_0b (.tup [.int k, GD r]) [.val (shD ps nodes seen), R, a, b] = .next [.val (shD ps nodes seen), R, I k, .val (GD r)] := by
  have e1 := v_isrow (ps := ps) (nodes := nodes) r hx
  rw [h] at e1
  rw [turnF_at]
  simp [c_with_rows_0b, c_with_rows_0_0, Pw.runF, Pw.startE, Pw.mSeq, Pw.mSkip, Pw.mExpr, Pw.mRet, Pw.mRetN, Pw.mIfS, Pw.mSet, Pw.setSlot, Pw.mPar, Pw.mPar3, Pw.mAsgT, Pw.tgOut_nm, Pw.tgOut_tp2, Pw.tgOut_tp3, Pw.tgSet_nm, Pw.tgSet_tp2, Pw.mCons, Pw.mNil, Pw.mC, Pw.mVar, Pw.mOp2, Pw.mOp, Pw.mUn, Pw.mUn2, Pw.unBoth, Pw.unOwn, Pw.unOut, Pw.opOut, Pw.opBoth, Pw.opOwn, Pw.opFind, Pw.resOut, Pw.opArgs, Pw.tyD, Pw.isObjR, Pw.mTst, Pw.mTru, Pw.truOut, Pw.truD, Pw.boolOut, Pw.mIf, Pw.mAndT, Pw.mOrT, Pw.mNotT, Pw.mAndV, Pw.mOrV, Pw.mNotV, Pw.norm, Pw.view, Pw.views, Pw.callOut, Pw.mCallB, Pw.mCallO, Pw.call1Both, Pw.chkAny, Pw.share, Pw.shareAll, Pw.putSlot, Pw.fs_val, Pw.fs_none, Pw.fs_own, Pw.retOut, Pw.mergeP, Pw.isOwn, Pw.mCall, Pw.callD, Pw.callOn, Pw.prep, Pw.prep1, Pw.agOk, Pw.penv, Pw.agSlot, Pw.callEnd, Pw.back, Pw.retB, Pw.mMake, Pw.makeD, Pw.makeOn, Pw.makeEnd, Pw.mAttr, Pw.noExn, Pw.mMethO, Pw.methO, Pw.mStatic, Pw.statOut, Pw.mIsi, Pw.isiOut, Pw.isD, Pw.mTup, Pw.mLst, Pw.mSetSub, Pw.subOut, Pw.mSetFld, Pw.fldOut, Pw.putD, Pw.Ct.toD, Pw.gtD, Pw.ltD, Pw.addD, Pw.subD, Pw.mulD, Pw.fdivD, Pw.modD, Pw.negD, Pw.absD, Pw.intD, Pw.lenD, Pw.mRaise, Pw.mJs, Pw.mFmt, Pw.fmtOut, Pw.idxA, Pw.isDctD, Pw.inA, Pw.notInA, Pw.lenA, Pw.isDcts, Pw.mulA, Pw.isLstD, Pw.listA, Pw.mChainI, Pw.mParF, Pw.mSetSubA, Pw.subOutA, Pw.mNewD, Pw.mWAny, Pw.wkStr, Pw.conV, Pw.dlenD, Pw.mMeth, Pw.methOut, Pw.isTy, Pw.mMut, Pw.mMut0, Pw.isLst, Pw.mutOut, Pw.gAppend, Pw.mLc, Pw.okOwn, Pw.lockE, Pw.unlockE, Pw.wipeE, Pw.restE, Pw.mYes, Pw.Out.bind_ok, nums_nil, nums_v, nums_o, ha, hb, at_p, at_m, e1]
theorem turn_wbad {k : Nat} {r : GRow} (hx : r.2.2.length ≤ 1000) (h : okRow ps nodes r.1 r.2.2 = false) (ha : Fr a) (hb : Fr b) :
    turnF (.tp [.nm 2, .nm 3]) c_with_rows_0b (.tup [.int k, GD r]) [.val (shD ps nodes seen), R, a, b] = .exn (XRow k) [.val (shD ps nodes seen), R, I k, .val (GD r)] := by
  have e1 := v_isrow (ps := ps) (nodes := nodes) r hx
  rw [h] at e1
  rw [turnF_at]
  simp [c_with_rows_0b, c_with_rows_0_0, Pw.runF, Pw.startE, Pw.mSeq, Pw.mSkip, Pw.mExpr, Pw.mRet, Pw.mRetN, Pw.mIfS, Pw.mSet, Pw.setSlot, Pw.mPar, Pw.mPar3, Pw.mAsgT, Pw.tgOut_nm, Pw.tgOut_tp2, Pw.tgOut_tp3, Pw.tgSet_nm, Pw.tgSet_tp2, Pw.mCons, Pw.mNil, Pw.mC, Pw.mVar, Pw.mOp2, Pw.mOp, Pw.mUn, Pw.mUn2, Pw.unBoth, Pw.unOwn, Pw.unOut, Pw.opOut, Pw.opBoth, Pw.opOwn, Pw.opFind, Pw.resOut, Pw.opArgs, Pw.tyD, Pw.isObjR, Pw.mTst, Pw.mTru, Pw.truOut, Pw.truD, Pw.boolOut, Pw.mIf, Pw.mAndT, Pw.mOrT, Pw.mNotT, Pw.mAndV, Pw.mOrV, Pw.mNotV, Pw.norm, Pw.view, Pw.views, Pw.callOut, Pw.mCallB, Pw.mCallO, Pw.call1Both, Pw.chkAny, Pw.share, Pw.shareAll, Pw.putSlot, Pw.fs_val, Pw.fs_none, Pw.fs_own, Pw.retOut, Pw.mergeP, Pw.isOwn, Pw.mCall, Pw.callD, Pw.callOn, Pw.prep, Pw.prep1, Pw.agOk, Pw.penv, Pw.agSlot, Pw.callEnd, Pw.back, Pw.retB, Pw.mMake, Pw.makeD, Pw.makeOn, Pw.makeEnd, Pw.mAttr, Pw.noExn, Pw.mMethO, Pw.methO, Pw.mStatic, Pw.statOut, Pw.mIsi, Pw.isiOut, Pw.isD, Pw.mTup, Pw.mLst, Pw.mSetSub, Pw.subOut, Pw.mSetFld, Pw.fldOut, Pw.putD, Pw.Ct.toD, Pw.gtD, Pw.ltD, Pw.addD, Pw.subD, Pw.mulD, Pw.fdivD, Pw.modD, Pw.negD, Pw.absD, Pw.intD, Pw.lenD, Pw.mRaise, Pw.mJs, Pw.mFmt, Pw.fmtOut, Pw.idxA, Pw.isDctD, Pw.inA, Pw.notInA, Pw.lenA, Pw.isDcts, Pw.mulA, Pw.isLstD, Pw.listA, Pw.mChainI, Pw.mParF, Pw.mSetSubA, Pw.subOutA, Pw.mNewD, Pw.mWAny, Pw.wkStr, Pw.conV, Pw.dlenD, Pw.mMeth, Pw.methOut, Pw.isTy, Pw.mMut, Pw.mMut0, Pw.isLst, Pw.mutOut, Pw.gAppend, Pw.mLc, Pw.okOwn, Pw.lockE, Pw.unlockE, Pw.wipeE, Pw.restE, Pw.mYes, Pw.Out.bind_ok, nums_nil, nums_v, nums_o, ha, hb, at_p, at_m, e1, fl_row]
end
theorem for_with {ps : List (PySem.Str × Int)} {nodes : Int} {seen : List Row} {R : Sv} : ∀ (gs : List GRow) (k : Nat) (a b : Sv), (∀ r ∈ gs, r.2.2.length ≤ 1000) → Fr a → Fr b →
    ∀ j, firstBad ps nodes k gs = some j → ∃ e, forL (turnF (.tp [.nm 2, .nm 3]) c_with_rows_0b) (enumD k (gs.map GD)) [.val (shD ps nodes seen), R, a, b] = .exn (XRow j) (.val (shD ps nodes seen) :: R :: e)
  | [], k, a, b, _, _, _, j, h => by cases h
  | r :: gs, k, a, b, hl, ha, hb, j, hj => by
    have h1 := hl r (by simp)
    cases q : okRow ps nodes r.1 r.2.2 with
    | true =>
      have e := turn_wok (seen := seen) (R := R) (k := k) h1 q ha hb
      rw [firstBad, if_pos q] at hj
      rw [List.map_cons, enumD, forL_next e]
      exact for_with gs (k + 1) _ _ (fun x hx => hl x (by simp [hx])) rfl rfl j hj
    | false =>
      have e := turn_wbad (seen := seen) (R := R) (k := k) h1 q ha hb
      rw [firstBad, if_neg (by rw [q]; decide)] at hj
      cases hj
      refine ⟨[I k, .val (GD r)], ?_⟩
      rw [List.map_cons, enumD]
      show (match turnF (.tp [.nm 2, .nm 3]) c_with_rows_0b (.tup [.int k, GD r]) [.val (shD ps nodes seen), R, a, b] with | .next e1 => forL _ _ e1 | .cont e1 => forL _ _ e1 | .brk e1 => .next e1 | .ret r e1 => .ret r e1 | .exn x e1 => .exn x e1 | .stuck => .stuck) = _
      rw [e]
theorem v_with_bad {ps : List (PySem.Str × Int)} {nodes : Int} {seen : List Row} {gs : List GRow} (hl : ∀ r ∈ gs, r.2.2.length ≤ 1000) {j : Nat} (hb : firstBad ps nodes 0 gs = some j) : f_with_rows [.val (shD ps nodes seen), grs gs] = .exn (XRow j) [.val (shD ps nodes seen), grs gs] := by
  obtain ⟨e0, e1⟩ := for_with (ps := ps) (nodes := nodes) (seen := seen) (R := grs gs) gs 0 .none .none hl rfl rfl j hb
  simp [f_with_rows, c_with_rows_eq, c_with_rows_0, Pw.runF, Pw.startE, Pw.mSeq, Pw.mSkip, Pw.mExpr, Pw.mRet, Pw.mRetN, Pw.mIfS, Pw.mSet, Pw.setSlot, Pw.mPar, Pw.mPar3, Pw.mAsgT, Pw.tgOut_nm, Pw.tgOut_tp2, Pw.tgOut_tp3, Pw.tgSet_nm, Pw.tgSet_tp2, Pw.mCons, Pw.mNil, Pw.mC, Pw.mVar, Pw.mOp2, Pw.mOp, Pw.mUn, Pw.mUn2, Pw.unBoth, Pw.unOwn, Pw.unOut, Pw.opOut, Pw.opBoth, Pw.opOwn, Pw.opFind, Pw.resOut, Pw.opArgs, Pw.tyD, Pw.isObjR, Pw.mTst, Pw.mTru, Pw.truOut, Pw.truD, Pw.boolOut, Pw.mIf, Pw.mAndT, Pw.mOrT, Pw.mNotT, Pw.mAndV, Pw.mOrV, Pw.mNotV, Pw.norm, Pw.view, Pw.views, Pw.callOut, Pw.mCallB, Pw.mCallO, Pw.call1Both, Pw.chkAny, Pw.share, Pw.shareAll, Pw.putSlot, Pw.fs_val, Pw.fs_none, Pw.fs_own, Pw.retOut, Pw.mergeP, Pw.isOwn, Pw.mCall, Pw.callD, Pw.callOn, Pw.prep, Pw.prep1, Pw.agOk, Pw.penv, Pw.agSlot, Pw.callEnd, Pw.back, Pw.retB, Pw.mMake, Pw.makeD, Pw.makeOn, Pw.makeEnd, Pw.mAttr, Pw.attrOut, Pw.noExn, Pw.mMethO, Pw.methO, Pw.mStatic, Pw.statOut, Pw.mIsi, Pw.isiOut, Pw.isD, Pw.mTup, Pw.mLst, Pw.mSetSub, Pw.subOut, Pw.mSetFld, Pw.fldOut, Pw.putD, Pw.Ct.toD, Pw.gtD, Pw.ltD, Pw.addD, Pw.subD, Pw.mulD, Pw.fdivD, Pw.modD, Pw.negD, Pw.absD, Pw.intD, Pw.lenD, Pw.mRaise, Pw.mJs, Pw.mFmt, Pw.fmtOut, Pw.idxA, Pw.isDctD, Pw.inA, Pw.notInA, Pw.lenA, Pw.isDcts, Pw.mulA, Pw.isLstD, Pw.listA, Pw.mChainI, Pw.mParF, Pw.mSetSubA, Pw.subOutA, Pw.mNewD, Pw.mWAny, Pw.wkStr, Pw.conV, Pw.dlenD, Pw.mMeth, Pw.methOut, Pw.isTy, Pw.mMut, Pw.mMut0, Pw.isLst, Pw.mutOut, Pw.gAppend, Pw.mLc, Pw.okOwn, Pw.lockE, Pw.unlockE, Pw.wipeE, Pw.restE, Pw.mYes, Pw.Out.bind_ok, nums_nil, nums_v, nums_o, mWEnum, enumOut, isTupR, wkOf, wkVal, mFor_eq, SO.mapE, e1]
theorem e_feed : f__law_feed = Lw.f__law_feed := rfl
theorem e_draw : f__law_draw = Lw.f__law_draw := rfl
theorem e_any : f__law_any = Lw.f__law_any := rfl
theorem e_pairs : f__law_pairs = Lx.f__law_pairs := rfl
theorem lc_draws {T2 T3 T4 T5 T6 T7 T8 T1 : Sv} {nodes : Int} (h0 : 0 < nodes) (h1 : okDiv nodes) : ∀ (ks : List D) (acc : List D) (fd : Ct), acc.length + ks.length ≤ 900 → Fd fd → ∃ (xs : List Int) (fd' : Ct), Fd fd' ∧ xs.length = ks.length ∧ (∀ x ∈ xs, 0 ≤ x ∧ x < nodes) ∧
    lcL (.nm 9) mYes (mCall 2 [true] f__law_draw [] (mCons (mVar 0) (mCons (mVar 2) (mNil)))) [9] ks acc [.own true false fd, T1, I nodes, T3, T4, T5, T6, T7, T8, .none] = some (acc ++ xs.map D.int, [.own true false fd', T1, I nodes, T3, T4, T5, T6, T7, T8, .none])
  | [], acc, fd, _, hf => ⟨[], fd, hf, rfl, by simp, by simp [lcL]⟩
  | w :: ws, acc, fd, hs, hf => by
    obtain ⟨r, fd1, a0, a1, hf1, e1⟩ := v_draw hf (many := nodes) h0 h1
    simp only [List.length_cons] at hs
    obtain ⟨xs, fd2, hf2, g1, g2, g3⟩ := lc_draws (T2 := T2) (T3 := T3) (T4 := T4) (T5 := T5) (T6 := T6) (T7 := T7) (T8 := T8) (T1 := T1) h0 h1 ws (acc ++ [.int r]) fd1 (by simp; omega) hf1
    have hz : acc.length < PySem.sizeLine := smallt (by omega)
    refine ⟨r :: xs, fd2, hf2, by simp [g1], fun x hx => ?_, ?_⟩
    · rcases List.mem_cons.mp hx with rfl | hx
      · exact ⟨a0, a1⟩
      · exact g2 x hx
    · simp only [e_draw, List.append_assoc, List.cons_append, List.nil_append] at g3
      rw [List.map_cons]
      simp only [lcL]
      simp [lcL, Pw.runF, Pw.startE, Pw.mSeq, Pw.mSkip, Pw.mExpr, Pw.mRet, Pw.mRetN, Pw.mIfS, Pw.mSet, Pw.setSlot, Pw.mPar, Pw.mPar3, Pw.mAsgT, Pw.tgOut_nm, Pw.tgOut_tp2, Pw.tgOut_tp3, Pw.tgSet_nm, Pw.tgSet_tp2, Pw.mCons, Pw.mNil, Pw.mC, Pw.mVar, Pw.mOp2, Pw.mOp, Pw.mUn, Pw.mUn2, Pw.unBoth, Pw.unOwn, Pw.unOut, Pw.opOut, Pw.opBoth, Pw.opOwn, Pw.opFind, Pw.resOut, Pw.opArgs, Pw.tyD, Pw.isObjR, Pw.mTst, Pw.mTru, Pw.truOut, Pw.truD, Pw.boolOut, Pw.mIf, Pw.mAndT, Pw.mOrT, Pw.mNotT, Pw.mAndV, Pw.mOrV, Pw.mNotV, Pw.norm, Pw.view, Pw.views, Pw.callOut, Pw.mCallB, Pw.mCallO, Pw.call1Both, Pw.chkAny, Pw.share, Pw.shareAll, Pw.putSlot, Pw.fs_val, Pw.fs_none, Pw.fs_own, Pw.retOut, Pw.mergeP, Pw.isOwn, Pw.mCall, Pw.callD, Pw.callOn, Pw.prep, Pw.prep1, Pw.agOk, Pw.penv, Pw.agSlot, Pw.callEnd, Pw.back, Pw.retB, Pw.mMake, Pw.makeD, Pw.makeOn, Pw.makeEnd, Pw.mAttr, Pw.attrOut, Pw.noExn, Pw.mMethO, Pw.methO, Pw.mStatic, Pw.statOut, Pw.mIsi, Pw.isiOut, Pw.isD, Pw.mTup, Pw.mLst, Pw.mSetSub, Pw.subOut, Pw.mSetFld, Pw.fldOut, Pw.putD, Pw.Ct.toD, Pw.gtD, Pw.ltD, Pw.addD, Pw.subD, Pw.mulD, Pw.fdivD, Pw.modD, Pw.negD, Pw.absD, Pw.intD, Pw.lenD, Pw.mRaise, Pw.mJs, Pw.mFmt, Pw.fmtOut, Pw.idxA, Pw.isDctD, Pw.inA, Pw.notInA, Pw.lenA, Pw.isDcts, Pw.mulA, Pw.isLstD, Pw.listA, Pw.mChainI, Pw.mParF, Pw.mSetSubA, Pw.subOutA, Pw.mNewD, Pw.mWAny, Pw.wkStr, Pw.conV, Pw.dlenD, Pw.mMeth, Pw.methOut, Pw.isTy, Pw.mMut, Pw.mMut0, Pw.isLst, Pw.mutOut, Pw.gAppend, Pw.mLc, Pw.okOwn, Pw.lockE, Pw.unlockE, Pw.wipeE, Pw.restE, Pw.mYes, Pw.Out.bind_ok, nums_nil, nums_v, nums_o, e_draw, e1, hz, g3]
theorem col_nodup {ps : List (PySem.Str × Int)} (hn : (ps.map (·.1)).Nodup) {p : PySem.Str × Int} (hp : p ∈ ps) : colOf ps p.1 = some p.2 := by
  have e := get_nodup hn p hp
  rw [dget_col] at e
  cases hc : colOf ps p.1 with
  | none => rw [hc] at e; cases e
  | some c => rw [hc] at e; cases e; rfl
theorem turn_rows {ps : List (PySem.Str × Int)} {rs : List Row} {fd fd1 fd2 : Ct} {nodes : Int} {top t r n c : Sv} {p : PySem.Str × Int} {xs : List Int} {d : D} {b : Bool} (ht : Fr t) (hr : Fr r) (hn : Fr n) (hc : Fr c)
    (e1 : Lw.f__law_any [.own true false fd, rel ps] = .ok (.val (P2 p)) [.own true false fd1, rel ps])
    (ok : okRng p.2) (e2 : lcL (.nm 9) mYes (mCall 2 [true] Lw.f__law_draw [] (mCons (mVar 0) (mCons (mVar 2) (mNil)))) [9] (rngD 0 p.2.toNat) [] [.own true false fd1, rel ps, I nodes, top, OW (rs.map RD), .val d, r, .val (.str p.1), I p.2, .none] = some (xs.map D.int, [.own true false fd2, rel ps, I nodes, top, OW (rs.map RD), .val d, r, .val (.str p.1), I p.2, .none]))
    (e3 : inB (RD (p.1, xs)) (.lst (rs.map RD)) = some b) (hz : rs.length < PySem.sizeLine) :
    turnF (.nm 5) c__law_rows_1b d [.own true false fd, rel ps, I nodes, top, OW (rs.map RD), t, r, n, c, .none] = .next [.own true false fd2, rel ps, I nodes, top, OW (if b = true then rs.map RD else rs.map RD ++ [RD (p.1, xs)]), .val d, .val (RD (p.1, xs)), .val (.str p.1), I p.2, .none] := by
  have z2 : (2 : Nat) ≤ PySem.sizeLine := by decide
  have e4 : Pw.notInD (RD (p.1, xs)) (.lst (rs.map RD)) = .val (.bl (!b)) := by unfold Pw.notInD; rw [e3]
  rw [turnF_at]
  cases b <;> simp [c__law_rows_1b, c__law_rows_1_0, c__law_rows_1_1, c__law_rows_1_2, Pw.runF, Pw.startE, Pw.mSeq, Pw.mSkip, Pw.mExpr, Pw.mRet, Pw.mRetN, Pw.mIfS, Pw.mSet, Pw.setSlot, Pw.mPar, Pw.mPar3, Pw.mAsgT, Pw.tgOut_nm, Pw.tgOut_tp2, Pw.tgOut_tp3, Pw.tgSet_nm, Pw.tgSet_tp2, Pw.mCons, Pw.mNil, Pw.mC, Pw.mVar, Pw.mOp2, Pw.mOp, Pw.mUn, Pw.mUn2, Pw.unBoth, Pw.unOwn, Pw.unOut, Pw.opOut, Pw.opBoth, Pw.opOwn, Pw.opFind, Pw.resOut, Pw.opArgs, Pw.tyD, Pw.isObjR, Pw.mTst, Pw.mTru, Pw.truOut, Pw.truD, Pw.boolOut, Pw.mIf, Pw.mAndT, Pw.mOrT, Pw.mNotT, Pw.mAndV, Pw.mOrV, Pw.mNotV, Pw.norm, Pw.view, Pw.views, Pw.callOut, Pw.mCallB, Pw.mCallO, Pw.call1Both, Pw.chkAny, Pw.share, Pw.shareAll, Pw.putSlot, Pw.fs_val, Pw.fs_none, Pw.fs_own, Pw.retOut, Pw.mergeP, Pw.isOwn, Pw.mCall, Pw.callD, Pw.callOn, Pw.prep, Pw.prep1, Pw.agOk, Pw.penv, Pw.agSlot, Pw.callEnd, Pw.back, Pw.retB, Pw.mMake, Pw.makeD, Pw.makeOn, Pw.makeEnd, Pw.mAttr, Pw.attrOut, Pw.noExn, Pw.mMethO, Pw.methO, Pw.mStatic, Pw.statOut, Pw.mIsi, Pw.isiOut, Pw.isD, Pw.mTup, Pw.mLst, Pw.mSetSub, Pw.subOut, Pw.mSetFld, Pw.fldOut, Pw.putD, Pw.Ct.toD, Pw.gtD, Pw.ltD, Pw.addD, Pw.subD, Pw.mulD, Pw.fdivD, Pw.modD, Pw.negD, Pw.absD, Pw.intD, Pw.lenD, Pw.mRaise, Pw.mJs, Pw.mFmt, Pw.fmtOut, Pw.idxA, Pw.isDctD, Pw.inA, Pw.notInA, Pw.lenA, Pw.isDcts, Pw.mulA, Pw.isLstD, Pw.listA, Pw.mChainI, Pw.mParF, Pw.mSetSubA, Pw.subOutA, Pw.mNewD, Pw.mWAny, Pw.wkStr, Pw.conV, Pw.dlenD, Pw.mMeth, Pw.methOut, Pw.isTy, Pw.mMut, Pw.mMut0, Pw.isLst, Pw.mutOut, Pw.gAppend, Pw.mLc, Pw.okOwn, Pw.lockE, Pw.unlockE, Pw.wipeE, Pw.restE, Pw.mYes, Pw.Out.bind_ok, nums_nil, nums_v, nums_o, ht, hr, hn, hc, e_draw, e_any, e1, ok, e2, e4, z2, hz, mWRng1, rngOut1, Pw.tupleD]
theorem loop_rows {ps : List (PySem.Str × Int)} (hn : (ps.map (·.1)).Nodup) (hso : ∀ p ∈ ps, PySem.PyData.strOk p.1 = true) (hcol : ∀ p ∈ ps, okCol p.2) (hp0 : 0 < ps.length) (hp1 : ps.length ≤ 100) {nodes : Int} (h0 : 0 < nodes) (h1 : okDiv nodes) {top : Sv} : ∀ (ds : List D) (rs : List Row) (fd : Ct) (t r n c : Sv), rs.length + ds.length ≤ 800 → (∀ x ∈ rs, okRow ps nodes x.1 x.2 = true) → rs.Nodup → Fr t → Fr r → Fr n → Fr c → Fd fd →
    ∃ (rs' : List Row) (fd' : Ct) (t' r' n' c' : Sv), Fd fd' ∧ rs'.length ≤ rs.length + ds.length ∧ (∀ x ∈ rs', okRow ps nodes x.1 x.2 = true) ∧ rs'.Nodup ∧
      forL (turnF (.nm 5) c__law_rows_1b) ds [.own true false fd, rel ps, I nodes, top, OW (rs.map RD), t, r, n, c, .none] = .next [.own true false fd', rel ps, I nodes, top, OW (rs'.map RD), t', r', n', c', .none]
  | [], rs, fd, t, r, n, c, _, hok, hnd, _, _, _, _, hf => ⟨rs, fd, t, r, n, c, hf, by simp, hok, hnd, by simp [forL]⟩
  | d :: ds, rs, fd, t, r, n, c, hs, hok, hnd, ht, hr, hnn, hc, hf => by
    simp only [List.length_cons] at hs
    obtain ⟨x, fd1, hx, hf1, e1⟩ := v_any hf (ps.map P2) (by rw [List.length_map]; exact hp0) (by rw [List.length_map]; omega)
    obtain ⟨p, hp, rfl⟩ := List.mem_map.mp hx
    have hc3 : 0 ≤ p.2 ∧ p.2 ≤ 3 := by rcases hcol p hp with e | e | e <;> omega
    have hl3 : (rngD 0 p.2.toNat).length = p.2.toNat := by simp [rngD]
    obtain ⟨xs, fd2, hf2, g1, g2, g3⟩ := lc_draws (T2 := .none) (T1 := rel ps) (T3 := top) (T4 := OW (rs.map RD)) (T5 := .val d) (T6 := r) (T7 := .val (.str p.1)) (T8 := I p.2) h0 h1 (rngD 0 p.2.toNat) [] fd1 (by rw [hl3]; simp; omega) hf1
    rw [List.nil_append, e_draw] at g3
    have hin := in_rows (rs := rs) (r := (p.1, xs)) (hso p hp) (fun y hy => ok_name hso (hok y hy))
    have hz : rs.length < PySem.sizeLine := smallt (by omega)
    have e := turn_rows (top := top) (d := d) ht hr hnn hc e1 (okRng_small (by omega) (by omega)) g3 hin hz
    have e5 : (if decide ((p.1, xs) ∈ rs) = true then rs.map RD else rs.map RD ++ [RD (p.1, xs)]) = (addR rs (p.1, xs)).map RD := by
      unfold addR
      by_cases q : (p.1, xs) ∈ rs
      · rw [if_pos (decide_eq_true q), if_pos q]
      · rw [if_neg (by rw [decide_eq_false q]; decide), if_neg q]; simp
    rw [e5] at e
    have hok1 : okRow ps nodes p.1 xs = true := by
      unfold okRow
      rw [col_nodup hn hp]
      simp only [Bool.and_eq_true, decide_eq_true_eq, okSpots, List.all_eq_true]
      refine ⟨by rw [g1, hl3]; omega, fun x hx => ?_⟩
      have := g2 x hx
      omega
    have hl := len_addR rs (p.1, xs)
    obtain ⟨rs', fd', t', r', n', c', k1, k2, k3, k4, k5⟩ := loop_rows hn hso hcol hp0 hp1 h0 h1 (top := top) ds (addR rs (p.1, xs)) fd2 (.val d) (.val (RD (p.1, xs))) (.val (.str p.1)) (I p.2) (by omega) (fun y hy => (mem_addR.mp hy).elim (hok y) fun e => e ▸ hok1) (nodup_addR _ hnd) rfl rfl rfl rfl hf2
    exact ⟨rs', fd', t', r', n', c', k1, by rw [List.length_cons]; omega, k3, k4, by rw [forL_next e]; exact k5⟩

end K07

set_option maxHeartbeats 8000000
/-! K07n: rows drawn; the law's pieces. -/
namespace K07
open Pw Lw Lx Ly
theorem v_lrows {ps : List (PySem.Str × Int)} (hn : (ps.map (·.1)).Nodup) (hso : ∀ p ∈ ps, PySem.PyData.strOk p.1 = true) (hcol : ∀ p ∈ ps, okCol p.2) (hp0 : 0 < ps.length) (hp1 : ps.length ≤ 100) {nodes top : Int} (h0 : 0 ≤ nodes) (h1 : nodes ≤ 1000) (t0 : 0 ≤ top) (t1 : top ≤ 100) {fd : Ct} (hf : Fd fd) :
    ∃ (rs : List Row) (fd' : Ct), Fd fd' ∧ (rs.length : Int) ≤ top ∧ (∀ x ∈ rs, okRow ps nodes x.1 x.2 = true) ∧ rs.Nodup ∧ sortR rs = rs ∧ f__law_rows [.own true false fd, rel ps, I nodes, I top] = .ok (.val (.tup (rs.map RD))) [.own true false fd', rel ps, I nodes, I top] := by
  have dv : ∀ m : Int, 0 < m → m ≤ 1000 → okDiv m := fun m a b => ⟨a, by
    have : m.natAbs ≠ 0 := by omega
    have := (Nat.log2_lt this).mpr (show m.natAbs < 2 ^ 64 by omega)
    omega⟩
  by_cases hc : 0 < nodes
  · obtain ⟨r, fd1, a0, a1, hf1, e1⟩ := v_draw hf (many := top + 1) (by omega) (dv _ (by omega) (by omega))
    have hl : (rngD 0 r.toNat).length = r.toNat := by simp [rngD]
    obtain ⟨rs, fd2, t', r', n', c', k1, k2, k3, k4, k5⟩ := loop_rows hn hso hcol hp0 hp1 hc (dv _ hc h1) (top := I top) (rngD 0 r.toNat) [] fd1 .none .none .none .none (by rw [hl]; simp; omega) (by simp) (by simp) rfl rfl rfl rfl hf1
    have ok : okRng r := okRng_small (by omega) (by omega)
    have s1 := sort_rows rs (by rw [hl] at k2; simp only [List.length_nil] at k2; omega)
    have s2 := sortR_map rs
    have sp := sortR_perm rs
    have eg : Pw.gtD (.int nodes) (.int 0) = .val (.bl true) := by unfold Pw.gtD; dsimp only; rw [decide_eq_true hc]
    rw [List.map_nil] at k5
    refine ⟨sortR rs, fd2, k1, ?_, fun x hx => k3 x (sp.mem_iff.mp hx), sp.nodup_iff.mpr k4, sortR_idem rs, ?_⟩
    · rw [sp.length_eq]
      rw [hl] at k2
      simp only [List.length_nil] at k2
      omega
    · simp [f__law_rows, c__law_rows_eq, c__law_rows_0, c__law_rows_1, c__law_rows_2, Pw.runF, Pw.startE, Pw.mSeq, Pw.mSkip, Pw.mExpr, Pw.mRet, Pw.mRetN, Pw.mIfS, Pw.mSet, Pw.setSlot, Pw.mPar, Pw.mPar3, Pw.mAsgT, Pw.tgOut_nm, Pw.tgOut_tp2, Pw.tgOut_tp3, Pw.tgSet_nm, Pw.tgSet_tp2, Pw.mCons, Pw.mNil, Pw.mC, Pw.mVar, Pw.mOp2, Pw.mOp, Pw.mUn, Pw.mUn2, Pw.unBoth, Pw.unOwn, Pw.unOut, Pw.opOut, Pw.opBoth, Pw.opOwn, Pw.opFind, Pw.resOut, Pw.opArgs, Pw.tyD, Pw.isObjR, Pw.mTst, Pw.mTru, Pw.truOut, Pw.truD, Pw.boolOut, Pw.mIf, Pw.mAndT, Pw.mOrT, Pw.mNotT, Pw.mAndV, Pw.mOrV, Pw.mNotV, Pw.norm, Pw.view, Pw.views, Pw.callOut, Pw.mCallB, Pw.mCallO, Pw.call1Both, Pw.chkAny, Pw.share, Pw.shareAll, Pw.putSlot, Pw.fs_val, Pw.fs_none, Pw.fs_own, Pw.retOut, Pw.mergeP, Pw.isOwn, Pw.mCall, Pw.callD, Pw.callOn, Pw.prep, Pw.prep1, Pw.agOk, Pw.penv, Pw.agSlot, Pw.callEnd, Pw.back, Pw.retB, Pw.mMake, Pw.makeD, Pw.makeOn, Pw.makeEnd, Pw.mAttr, Pw.attrOut, Pw.noExn, Pw.mMethO, Pw.methO, Pw.mStatic, Pw.statOut, Pw.mIsi, Pw.isiOut, Pw.isD, Pw.mTup, Pw.mLst, Pw.mSetSub, Pw.subOut, Pw.mSetFld, Pw.fldOut, Pw.putD, Pw.Ct.toD, Pw.ltD, Pw.addD, Pw.subD, Pw.mulD, Pw.fdivD, Pw.modD, Pw.negD, Pw.absD, Pw.intD, Pw.lenD, Pw.mRaise, Pw.mJs, Pw.mFmt, Pw.fmtOut, Pw.idxA, Pw.isDctD, Pw.inA, Pw.notInA, Pw.lenA, Pw.isDcts, Pw.mulA, Pw.isLstD, Pw.listA, Pw.mChainI, Pw.mParF, Pw.mSetSubA, Pw.subOutA, Pw.mNewD, Pw.mWAny, Pw.wkStr, Pw.conV, Pw.dlenD, Pw.mMeth, Pw.methOut, Pw.isTy, Pw.mMut, Pw.mMut0, Pw.isLst, Pw.mutOut, Pw.gAppend, Pw.mLc, Pw.okOwn, Pw.lockE, Pw.unlockE, Pw.wipeE, Pw.restE, Pw.mYes, Pw.Out.bind_ok, nums_nil, nums_v, nums_o, e_draw, eg, e1, mWRng1, rngOut1, ok, mFor_eq, SO.mapE, k5, sortedD, s1, s2, Pw.tupleD]
  · have hz : nodes = 0 := by omega
    subst hz
    have ok : okRng 0 := by decide
    have s1 := sort_rows [] (by simp)
    have s2 := sortR_map []
    have s3 : sortR [] = [] := List.Perm.eq_nil (sortR_perm [])
    rw [List.map_nil] at s1 s2
    rw [s3, List.map_nil] at s2
    refine ⟨[], fd, hf, by simpa using t0, by simp, by simp, s3, ?_⟩
    simp [f__law_rows, c__law_rows_eq, c__law_rows_0, c__law_rows_1, c__law_rows_2, Pw.runF, Pw.startE, Pw.mSeq, Pw.mSkip, Pw.mExpr, Pw.mRet, Pw.mRetN, Pw.mIfS, Pw.mSet, Pw.setSlot, Pw.mPar, Pw.mPar3, Pw.mAsgT, Pw.tgOut_nm, Pw.tgOut_tp2, Pw.tgOut_tp3, Pw.tgSet_nm, Pw.tgSet_tp2, Pw.mCons, Pw.mNil, Pw.mC, Pw.mVar, Pw.mOp2, Pw.mOp, Pw.mUn, Pw.mUn2, Pw.unBoth, Pw.unOwn, Pw.unOut, Pw.opOut, Pw.opBoth, Pw.opOwn, Pw.opFind, Pw.resOut, Pw.opArgs, Pw.tyD, Pw.isObjR, Pw.mTst, Pw.mTru, Pw.truOut, Pw.truD, Pw.boolOut, Pw.mIf, Pw.mAndT, Pw.mOrT, Pw.mNotT, Pw.mAndV, Pw.mOrV, Pw.mNotV, Pw.norm, Pw.view, Pw.views, Pw.callOut, Pw.mCallB, Pw.mCallO, Pw.call1Both, Pw.chkAny, Pw.share, Pw.shareAll, Pw.putSlot, Pw.fs_val, Pw.fs_none, Pw.fs_own, Pw.retOut, Pw.mergeP, Pw.isOwn, Pw.mCall, Pw.callD, Pw.callOn, Pw.prep, Pw.prep1, Pw.agOk, Pw.penv, Pw.agSlot, Pw.callEnd, Pw.back, Pw.retB, Pw.mMake, Pw.makeD, Pw.makeOn, Pw.makeEnd, Pw.mAttr, Pw.attrOut, Pw.noExn, Pw.mMethO, Pw.methO, Pw.mStatic, Pw.statOut, Pw.mIsi, Pw.isiOut, Pw.isD, Pw.mTup, Pw.mLst, Pw.mSetSub, Pw.subOut, Pw.mSetFld, Pw.fldOut, Pw.putD, Pw.Ct.toD, Pw.gtD, Pw.ltD, Pw.addD, Pw.subD, Pw.mulD, Pw.fdivD, Pw.modD, Pw.negD, Pw.absD, Pw.intD, Pw.lenD, Pw.mRaise, Pw.mJs, Pw.mFmt, Pw.fmtOut, Pw.idxA, Pw.isDctD, Pw.inA, Pw.notInA, Pw.lenA, Pw.isDcts, Pw.mulA, Pw.isLstD, Pw.listA, Pw.mChainI, Pw.mParF, Pw.mSetSubA, Pw.subOutA, Pw.mNewD, Pw.mWAny, Pw.wkStr, Pw.conV, Pw.dlenD, Pw.mMeth, Pw.methOut, Pw.isTy, Pw.mMut, Pw.mMut0, Pw.isLst, Pw.mutOut, Pw.gAppend, Pw.mLc, Pw.okOwn, Pw.lockE, Pw.unlockE, Pw.wipeE, Pw.restE, Pw.mYes, Pw.Out.bind_ok, nums_nil, nums_v, nums_o, mWRng1, rngOut1, ok, mFor_eq, SO.mapE, rngD, forL, sortedD, s1, s2, Pw.tupleD]

end K07

set_option maxHeartbeats 8000000
/-! K07x: the law's steps. -/
namespace K07
open Pw Lw Lx Ly
noncomputable def c_law_0 : MS := mSet 1 (mCall 1 [] f__law_feed [] (mCons (mVar 0) (mNil)))
noncomputable def c_law_1 : MS := mSet 2 (mCall 2 [true] f__law_pairs [] (mCons (mVar 1) (mCons (mC (.int 4)) (mNil))))
noncomputable def c_law_2 : MS := mSet 3 (mMake "Schema" k_Schema_1.n k_Schema_1.modes k_Schema_1.fn k_Schema_1.dfs (mCons (mVar 2) (mNil)))
noncomputable def c_law_3_0 : MS := mSet 5 (mCall 2 [true] f__law_any [] (mCons (mVar 1) (mCons (mLst (mCons (mC (.int 0)) (mCons (mC (.int 1)) (mCons (mC (.int 3)) (mCons (mC (.int 60)) (mNil)))))) (mNil))))
noncomputable def c_law_3_1 : MS := mSet 6 (mCallB listA (mCons (mCall 4 [true] f__law_rows [] (mCons (mVar 1) (mCons (mVar 2) (mCons (mVar 5) (mCons (mC (.int 6)) (mNil)))))) (mNil)))
noncomputable def c_law_3_2 : MS := mAsgT (.tp [.nm 11, .nm 12]) (mCall 2 [true] f__law_any [] (mCons (mVar 1) (mCons (mVar 2) (mNil))))
noncomputable def c_law_3_3 : MS := mSet 7 (mLst (mCons (mTup (mCons (mVar 11) (mCons (mOp2 (opOut mulB) (mTup (mCons (mC (.int 0)) (mNil))) (mOp2 (opOut Pw.addD) (mVar 12) (mC (.int 1)))) (mNil)))) (mCons (mTup (mCons (mVar 11) (mCons (mTup (mNil)) (mNil)))) (mCons (mTup (mCons (mC (.str "G")) (mCons (mTup (mCons (mC (.int 0)) (mNil))) (mNil)))) (mCons (mTup (mCons (mVar 11) (mCons (mOp2 (opOut mulB) (mTup (mCons (mVar 5) (mNil))) (mVar 12)) (mNil)))) (mCons (mTup (mCons (mC (.str "")) (mCons (mTup (mNil)) (mNil)))) (mNil)))))))
noncomputable def c_law_3_4 : MS := mSet 7 (mOp2 (opOut Pw.addD) (mVar 7) (mLst (mCons (mTup (mCons (mVar 11) (mCons (mOp2 (opOut Pw.addD) (mOp2 (opOut mulB) (mTup (mCons (mC (.int 0)) (mNil))) (mOp2 (opOut Pw.subD) (mVar 12) (mC (.int 1)))) (mTup (mCons (mUn Pw.negD (mC (.int 1))) (mNil)))) (mNil)))) (mCons (mTup (mCons (mVar 11) (mCons (mOp2 (opOut mulB) (mTup (mCons (mOp2 (opOut Pw.addD) (mVar 5) (mCall 2 [true] f__law_draw [] (mCons (mVar 1) (mCons (mOp2 (opOut Pw.powD) (mC (.int 10)) (mC (.int 9))) (mNil))))) (mNil))) (mVar 12)) (mNil)))) (mNil)))))
noncomputable def c_law_3_5 : MS := mSet 7 (mOp2 (opOut Pw.addD) (mVar 7) (mLst (mCons (mTup (mCons (mVar 11) (mCons (mOp2 (opOut mulB) (mLst (mCons (mC (.int 0)) (mNil))) (mOp2 (opOut Pw.addD) (mVar 12) (mC (.int 2)))) (mNil)))) (mNil))))
noncomputable def c_law_3_6 : MS := mPar 13 14 (mCons (mCall 2 [true] f__law_any [] (mCons (mVar 1) (mCons (mVar 7) (mNil)))) (mCons (mCall 2 [true] f__law_draw [] (mCons (mVar 1) (mCons (mOp2 (opOut Pw.addD) (mCallB lenA (mCons (mVar 6) (mNil))) (mC (.int 1))) (mNil)))) (mNil)))
noncomputable def c_law_3_7 : MS := mSet 8 (mOp2 (opOut Pw.addD) (mOp2 (opOut Pw.addD) (mSlice (mVar 6) (mNoP) (mPart (mVar 14))) (mLst (mCons (mVar 13) (mNil)))) (mSlice (mVar 6) (mPart (mVar 14)) (mNoP)))
noncomputable def c_law_3_8 : MS := mIfS (mTst (mOp2 (opOut Pw.neD) (mTold ["InvalidSize", "InvalidRow"] (mMake "Shape" k_Shape_3.n k_Shape_3.modes k_Shape_3.fn k_Shape_3.dfs (mCons (mVar 3) (mCons (mVar 5) (mCons (mVar 8) (mNil)))))) (mTup (mCons (mC (.str "no")) (mCons (mC (.str "InvalidRow")) (mCons (mVar 14) (mNil))))))) (mSeq (mRet (mC (.bl false))) (mSkip)) (mSkip)
noncomputable def c_law_3_9 : MS := mSet 9 (mMake "Shape" k_Shape_3.n k_Shape_3.modes k_Shape_3.fn k_Shape_3.dfs (mCons (mVar 3) (mCons (mVar 5) (mCons (mVar 6) (mNil)))))
noncomputable def c_law_3_10 : MS := mIfS (mTst (mOp2 (opOut Pw.neD) (mTold ["InvalidSize", "InvalidRow"] (mMethO o_with_rows "with_rows" (mVar 9) (mCons (mVar 8) (mNil)))) (mTup (mCons (mC (.str "no")) (mCons (mC (.str "InvalidRow")) (mCons (mVar 14) (mNil))))))) (mSeq (mRet (mC (.bl false))) (mSkip)) (mSkip)
noncomputable def c_law_3_11 : MS := mIfS (mNotT (mTru (mCall 3 [] f__law_is_shape [] (mCons (mVar 9) (mCons (mVar 3) (mCons (mTup (mCons (mVar 5) (mCons (mCallB tupleD (mCons (mVar 6) (mNil))) (mNil)))) (mNil))))))) (mSeq (mRet (mC (.bl false))) (mSkip)) (mSkip)
noncomputable def c_law_3_12 : MS := mSet 10 (mCall 2 [true] f__law_any [] (mCons (mVar 1) (mCons (mLst (mCons (mC (.int 61)) (mCons (mUn Pw.negD (mC (.int 1))) (mCons (mOp2 (opOut Pw.addD) (mC (.int 62)) (mCall 2 [true] f__law_draw [] (mCons (mVar 1) (mCons (mOp2 (opOut Pw.powD) (mC (.int 10)) (mC (.int 9))) (mNil))))) (mCons (mOp2 (opOut Pw.subD) (mUn Pw.negD (mC (.int 2))) (mCall 2 [true] f__law_draw [] (mCons (mVar 1) (mCons (mOp2 (opOut Pw.powD) (mC (.int 10)) (mC (.int 9))) (mNil))))) (mNil)))))) (mNil))))
noncomputable def c_law_3_13 : MS := mIfS (mTst (mOp2 (opOut Pw.neD) (mTold ["InvalidSize", "InvalidRow"] (mMake "Shape" k_Shape_3.n k_Shape_3.modes k_Shape_3.fn k_Shape_3.dfs (mCons (mVar 3) (mCons (mVar 10) (mCons (mVar 8) (mNil)))))) (mTup (mCons (mC (.str "no")) (mCons (mC (.str "InvalidSize")) (mCons (mVar 10) (mNil))))))) (mSeq (mRet (mC (.bl false))) (mSkip)) (mSkip)
noncomputable def c_law_3_14 : MS := mIfS (mTst (mOp2 (opOut Pw.neD) (mTold ["InvalidSize", "InvalidRow"] (mMake "Shape" k_Shape_2.n k_Shape_2.modes k_Shape_2.fn k_Shape_2.dfs (mCons (mVar 3) (mCons (mVar 10) (mNil))))) (mTup (mCons (mC (.str "no")) (mCons (mC (.str "InvalidSize")) (mCons (mVar 10) (mNil))))))) (mSeq (mRet (mC (.bl false))) (mSkip)) (mSkip)
noncomputable def c_law_3b : MS := mSeq c_law_3_0 ( mSeq c_law_3_1 ( mSeq c_law_3_2 ( mSeq c_law_3_3 ( mSeq c_law_3_4 ( mSeq c_law_3_5 ( mSeq c_law_3_6 ( mSeq c_law_3_7 ( mSeq c_law_3_8 ( mSeq c_law_3_9 ( mSeq c_law_3_10 ( mSeq c_law_3_11 ( mSeq c_law_3_12 ( mSeq c_law_3_13 ( mSeq c_law_3_14 (mSkip)))))))))))))))
noncomputable def c_law_3 : MS := mFor (.nm 4) (mWRng1 (mCons (mC (.int 3)) (mNil))) c_law_3b
noncomputable def c_law_4 : MS := mRet (mC (.bl true))
theorem c_law_eq : m_law = mSeq c_law_0 ( mSeq c_law_1 ( mSeq c_law_2 ( mSeq c_law_3 ( mSeq c_law_4 (mSkip))))) := rfl
theorem rep_flat (x : Int) : ∀ m : Nat, (List.replicate m [D.int x]).flatten = (List.replicate m x).map D.int
  | 0 => rfl
  | m + 1 => by rw [List.replicate_succ, List.flatten_cons, rep_flat x m]; rfl
theorem rep_t (x k : Int) (h0 : -1000 ≤ k) (h1 : k ≤ 1000) : Pw.mulB (.tup [.int x]) (.int k) = .val (.tup ((List.replicate k.toNat x).map D.int)) := by
  have e : Pw.mulB (.tup [.int x]) (.int k) = Pw.repTD (.tup [.int x]) (.int k) := rfl
  rw [e, Pw.repTD, if_pos (show okRepT [.int x] k from ⟨by simp, h1, by omega⟩), rep_flat]
theorem rep_l (x k : Int) (h0 : -1000 ≤ k) (h1 : k ≤ 1000) : Pw.mulB (.lst [.int x]) (.int k) = .fresh (.lst ((List.replicate k.toNat x).map D.int)) := by
  have e : Pw.mulB (.lst [.int x]) (.int k) = Pw.repD (.lst [.int x]) (.int k) := rfl
  rw [e, Pw.repD, if_pos (show okRep [.int x] k from ⟨by omega, by omega, by
    have : (1 : Nat) * k.toNat ≤ 1000 := by omega
    exact small this⟩), rep_flat]
abbrev rp (k x : Int) : List Int := List.replicate k.toNat x
def O1 (n : PySem.Str) (c m : Int) : List GRow := [(n, false, rp (c + 1) 0), (n, false, []), ("G", false, [0]), (n, false, rp c m), ("", false, [])]
def O2 (n : PySem.Str) (c m q : Int) : List GRow := [(n, false, rp (c - 1) 0 ++ [-1]), (n, false, rp c (m + q))]
def O3 (n : PySem.Str) (c : Int) : List GRow := [(n, true, rp (c + 2) 0)]
section
variable {S t2 t3 t4 t5 t6 t7 t8 t9 t10 t11 t12 t13 t14 : Sv} {fd fd' : Ct} {ps : List (PySem.Str × Int)}
theorem w0 {ns : List Int} (h : Lw.f__law_feed [.val (.scr ns)] = .ok (.fresh fd) [.val (.scr ns)]) : c_law_0 [.val (.scr ns), .none, t2, t3, t4, t5, t6, t7, t8, t9, t10, t11, t12, t13, t14] = .next [.val (.scr ns), FO fd, t2, t3, t4, t5, t6, t7, t8, t9, t10, t11, t12, t13, t14] := by
  simp [c_law_0, Pw.runF, Pw.startE, Pw.mSeq, Pw.mSkip, Pw.mExpr, Pw.mRet, Pw.mRetN, Pw.mIfS, Pw.mSet, Pw.setSlot, Pw.mPar, Pw.mPar3, Pw.mAsgT, Pw.tgOut_nm, Pw.tgOut_tp2, Pw.tgOut_tp3, Pw.tgSet_nm, Pw.tgSet_tp2, Pw.mCons, Pw.mNil, Pw.mC, Pw.mVar, Pw.mOp2, Pw.mOp, Pw.mUn, Pw.mUn2, Pw.unBoth, Pw.unOwn, Pw.unOut, Pw.opOut, Pw.opBoth, Pw.opOwn, Pw.opFind, Pw.resOut, Pw.opArgs, Pw.tyD, Pw.isObjR, Pw.mTst, Pw.mTru, Pw.truOut, Pw.truD, Pw.boolOut, Pw.mIf, Pw.mAndT, Pw.mOrT, Pw.mNotT, Pw.mAndV, Pw.mOrV, Pw.mNotV, Pw.norm, Pw.view, Pw.views, Pw.callOut, Pw.mCallB, Pw.mCallO, Pw.call1Both, Pw.chkAny, Pw.share, Pw.shareAll, Pw.putSlot, Pw.fs_val, Pw.fs_none, Pw.fs_own, Pw.retOut, Pw.mergeP, Pw.isOwn, Pw.mCall, Pw.callD, Pw.callOn, Pw.prep, Pw.prep1, Pw.agOk, Pw.penv, Pw.agSlot, Pw.callEnd, Pw.back, Pw.retB, Pw.mMake, Pw.makeD, Pw.makeOn, Pw.makeEnd, Pw.mAttr, Pw.attrOut, Pw.noExn, Pw.mMethO, Pw.methO, Pw.mStatic, Pw.statOut, Pw.mIsi, Pw.isiOut, Pw.isD, Pw.mTup, Pw.mLst, Pw.mSetSub, Pw.subOut, Pw.mSetFld, Pw.fldOut, Pw.putD, Pw.Ct.toD, Pw.gtD, Pw.ltD, Pw.addD, Pw.subD, Pw.mulD, Pw.fdivD, Pw.modD, Pw.negD, Pw.absD, Pw.intD, Pw.lenD, Pw.mRaise, Pw.mJs, Pw.mFmt, Pw.fmtOut, Pw.idxA, Pw.isDctD, Pw.inA, Pw.notInA, Pw.lenA, Pw.isDcts, Pw.mulA, Pw.isLstD, Pw.listA, Pw.mChainI, Pw.mParF, Pw.mSetSubA, Pw.subOutA, Pw.mNewD, Pw.mWAny, Pw.wkStr, Pw.conV, Pw.dlenD, Pw.mMeth, Pw.methOut, Pw.isTy, Pw.mMut, Pw.mMut0, Pw.isLst, Pw.mutOut, Pw.gAppend, Pw.mLc, Pw.okOwn, Pw.lockE, Pw.unlockE, Pw.wipeE, Pw.restE, Pw.mYes, Pw.Out.bind_ok, nums_nil, nums_v, nums_o, e_feed, h]
theorem w1 {ds : List D} (h : Lx.f__law_pairs [.own true false fd, I 4] = .ok (.fresh (.lst ds)) [.own true false fd', I 4]) (h2 : Fr t2) : c_law_1 [S, FO fd, t2, t3, t4, t5, t6, t7, t8, t9, t10, t11, t12, t13, t14] = .next [S, FO fd', OW ds, t3, t4, t5, t6, t7, t8, t9, t10, t11, t12, t13, t14] := by
  simp [c_law_1, Pw.runF, Pw.startE, Pw.mSeq, Pw.mSkip, Pw.mExpr, Pw.mRet, Pw.mRetN, Pw.mIfS, Pw.mSet, Pw.setSlot, Pw.mPar, Pw.mPar3, Pw.mAsgT, Pw.tgOut_nm, Pw.tgOut_tp2, Pw.tgOut_tp3, Pw.tgSet_nm, Pw.tgSet_tp2, Pw.mCons, Pw.mNil, Pw.mC, Pw.mVar, Pw.mOp2, Pw.mOp, Pw.mUn, Pw.mUn2, Pw.unBoth, Pw.unOwn, Pw.unOut, Pw.opOut, Pw.opBoth, Pw.opOwn, Pw.opFind, Pw.resOut, Pw.opArgs, Pw.tyD, Pw.isObjR, Pw.mTst, Pw.mTru, Pw.truOut, Pw.truD, Pw.boolOut, Pw.mIf, Pw.mAndT, Pw.mOrT, Pw.mNotT, Pw.mAndV, Pw.mOrV, Pw.mNotV, Pw.norm, Pw.view, Pw.views, Pw.callOut, Pw.mCallB, Pw.mCallO, Pw.call1Both, Pw.chkAny, Pw.share, Pw.shareAll, Pw.putSlot, Pw.fs_val, Pw.fs_none, Pw.fs_own, Pw.retOut, Pw.mergeP, Pw.isOwn, Pw.mCall, Pw.callD, Pw.callOn, Pw.prep, Pw.prep1, Pw.agOk, Pw.penv, Pw.agSlot, Pw.callEnd, Pw.back, Pw.retB, Pw.mMake, Pw.makeD, Pw.makeOn, Pw.makeEnd, Pw.mAttr, Pw.attrOut, Pw.noExn, Pw.mMethO, Pw.methO, Pw.mStatic, Pw.statOut, Pw.mIsi, Pw.isiOut, Pw.isD, Pw.mTup, Pw.mLst, Pw.mSetSub, Pw.subOut, Pw.mSetFld, Pw.fldOut, Pw.putD, Pw.Ct.toD, Pw.gtD, Pw.ltD, Pw.addD, Pw.subD, Pw.mulD, Pw.fdivD, Pw.modD, Pw.negD, Pw.absD, Pw.intD, Pw.lenD, Pw.mRaise, Pw.mJs, Pw.mFmt, Pw.fmtOut, Pw.idxA, Pw.isDctD, Pw.inA, Pw.notInA, Pw.lenA, Pw.isDcts, Pw.mulA, Pw.isLstD, Pw.listA, Pw.mChainI, Pw.mParF, Pw.mSetSubA, Pw.subOutA, Pw.mNewD, Pw.mWAny, Pw.wkStr, Pw.conV, Pw.dlenD, Pw.mMeth, Pw.methOut, Pw.isTy, Pw.mMut, Pw.mMut0, Pw.isLst, Pw.mutOut, Pw.gAppend, Pw.mLc, Pw.okOwn, Pw.lockE, Pw.unlockE, Pw.wipeE, Pw.restE, Pw.mYes, Pw.Out.bind_ok, nums_nil, nums_v, nums_o, e_pairs, h, h2]
theorem w2 (h : f_init [S0, rel ps] = .ok (.val .non) [.own true false (schC ps), rel ps]) (h3 : Fr t3) : c_law_2 [S, FO fd, OW (ps.map P2), t3, t4, t5, t6, t7, t8, t9, t10, t11, t12, t13, t14] = .next [S, FO fd, rel ps, FO (schC ps), t4, t5, t6, t7, t8, t9, t10, t11, t12, t13, t14] := by
  simp [c_law_2, Pw.runF, Pw.startE, Pw.mSeq, Pw.mSkip, Pw.mExpr, Pw.mRet, Pw.mRetN, Pw.mIfS, Pw.mSet, Pw.setSlot, Pw.mPar, Pw.mPar3, Pw.mAsgT, Pw.tgOut_nm, Pw.tgOut_tp2, Pw.tgOut_tp3, Pw.tgSet_nm, Pw.tgSet_tp2, Pw.mCons, Pw.mNil, Pw.mC, Pw.mVar, Pw.mOp2, Pw.mOp, Pw.mUn, Pw.mUn2, Pw.unBoth, Pw.unOwn, Pw.unOut, Pw.opOut, Pw.opBoth, Pw.opOwn, Pw.opFind, Pw.resOut, Pw.opArgs, Pw.tyD, Pw.isObjR, Pw.mTst, Pw.mTru, Pw.truOut, Pw.truD, Pw.boolOut, Pw.mIf, Pw.mAndT, Pw.mOrT, Pw.mNotT, Pw.mAndV, Pw.mOrV, Pw.mNotV, Pw.norm, Pw.view, Pw.views, Pw.callOut, Pw.mCallB, Pw.mCallO, Pw.call1Both, Pw.chkAny, Pw.share, Pw.shareAll, Pw.putSlot, Pw.fs_val, Pw.fs_none, Pw.fs_own, Pw.retOut, Pw.mergeP, Pw.isOwn, Pw.mCall, Pw.callD, Pw.callOn, Pw.prep, Pw.prep1, Pw.agOk, Pw.penv, Pw.agSlot, Pw.callEnd, Pw.back, Pw.retB, Pw.mMake, Pw.makeD, Pw.makeOn, Pw.makeEnd, Pw.mAttr, Pw.attrOut, Pw.noExn, Pw.mMethO, Pw.methO, Pw.mStatic, Pw.statOut, Pw.mIsi, Pw.isiOut, Pw.isD, Pw.mTup, Pw.mLst, Pw.mSetSub, Pw.subOut, Pw.mSetFld, Pw.fldOut, Pw.putD, Pw.Ct.toD, Pw.gtD, Pw.ltD, Pw.addD, Pw.subD, Pw.mulD, Pw.fdivD, Pw.modD, Pw.negD, Pw.absD, Pw.intD, Pw.lenD, Pw.mRaise, Pw.mJs, Pw.mFmt, Pw.fmtOut, Pw.idxA, Pw.isDctD, Pw.inA, Pw.notInA, Pw.lenA, Pw.isDcts, Pw.mulA, Pw.isLstD, Pw.listA, Pw.mChainI, Pw.mParF, Pw.mSetSubA, Pw.subOutA, Pw.mNewD, Pw.mWAny, Pw.wkStr, Pw.conV, Pw.dlenD, Pw.mMeth, Pw.methOut, Pw.isTy, Pw.mMut, Pw.mMut0, Pw.isLst, Pw.mutOut, Pw.gAppend, Pw.mLc, Pw.okOwn, Pw.lockE, Pw.unlockE, Pw.wipeE, Pw.restE, Pw.mYes, Pw.Out.bind_ok, nums_nil, nums_v, nums_o, k_Schema_1, h, h3]
theorem x0 {nodes : Int} (h : Lw.f__law_any [.own true false fd, .val (.lst [.int 0, .int 1, .int 3, .int 60])] = .ok (.val (.int nodes)) [.own true false fd', .val (.lst [.int 0, .int 1, .int 3, .int 60])]) (h5 : Fr t5) : c_law_3_0 [S, FO fd, t2, t3, t4, t5, t6, t7, t8, t9, t10, t11, t12, t13, t14] = .next [S, FO fd', t2, t3, t4, I nodes, t6, t7, t8, t9, t10, t11, t12, t13, t14] := by
  have z4 : (4 : Nat) ≤ PySem.sizeLine := by decide
  simp [c_law_3_0, Pw.runF, Pw.startE, Pw.mSeq, Pw.mSkip, Pw.mExpr, Pw.mRet, Pw.mRetN, Pw.mIfS, Pw.mSet, Pw.setSlot, Pw.mPar, Pw.mPar3, Pw.mAsgT, Pw.tgOut_nm, Pw.tgOut_tp2, Pw.tgOut_tp3, Pw.tgSet_nm, Pw.tgSet_tp2, Pw.mCons, Pw.mNil, Pw.mC, Pw.mVar, Pw.mOp2, Pw.mOp, Pw.mUn, Pw.mUn2, Pw.unBoth, Pw.unOwn, Pw.unOut, Pw.opOut, Pw.opBoth, Pw.opOwn, Pw.opFind, Pw.resOut, Pw.opArgs, Pw.tyD, Pw.isObjR, Pw.mTst, Pw.mTru, Pw.truOut, Pw.truD, Pw.boolOut, Pw.mIf, Pw.mAndT, Pw.mOrT, Pw.mNotT, Pw.mAndV, Pw.mOrV, Pw.mNotV, Pw.norm, Pw.view, Pw.views, Pw.callOut, Pw.mCallB, Pw.mCallO, Pw.call1Both, Pw.chkAny, Pw.share, Pw.shareAll, Pw.putSlot, Pw.fs_val, Pw.fs_none, Pw.fs_own, Pw.retOut, Pw.mergeP, Pw.isOwn, Pw.mCall, Pw.callD, Pw.callOn, Pw.prep, Pw.prep1, Pw.agOk, Pw.penv, Pw.agSlot, Pw.callEnd, Pw.back, Pw.retB, Pw.mMake, Pw.makeD, Pw.makeOn, Pw.makeEnd, Pw.mAttr, Pw.attrOut, Pw.noExn, Pw.mMethO, Pw.methO, Pw.mStatic, Pw.statOut, Pw.mIsi, Pw.isiOut, Pw.isD, Pw.mTup, Pw.mLst, Pw.mSetSub, Pw.subOut, Pw.mSetFld, Pw.fldOut, Pw.putD, Pw.Ct.toD, Pw.gtD, Pw.ltD, Pw.addD, Pw.subD, Pw.mulD, Pw.fdivD, Pw.modD, Pw.negD, Pw.absD, Pw.intD, Pw.lenD, Pw.mRaise, Pw.mJs, Pw.mFmt, Pw.fmtOut, Pw.idxA, Pw.isDctD, Pw.inA, Pw.notInA, Pw.lenA, Pw.isDcts, Pw.mulA, Pw.isLstD, Pw.listA, Pw.mChainI, Pw.mParF, Pw.mSetSubA, Pw.subOutA, Pw.mNewD, Pw.mWAny, Pw.wkStr, Pw.conV, Pw.dlenD, Pw.mMeth, Pw.methOut, Pw.isTy, Pw.mMut, Pw.mMut0, Pw.isLst, Pw.mutOut, Pw.gAppend, Pw.mLc, Pw.okOwn, Pw.lockE, Pw.unlockE, Pw.wipeE, Pw.restE, Pw.mYes, Pw.Out.bind_ok, nums_nil, nums_v, nums_o, e_any, h, h5, z4]
theorem x1 {nodes : Int} {ds : List D} (h : f__law_rows [.own true false fd, rel ps, I nodes, I 6] = .ok (.val (.tup ds)) [.own true false fd', rel ps, I nodes, I 6]) (h6 : Fr t6) : c_law_3_1 [S, FO fd, rel ps, t3, t4, I nodes, t6, t7, t8, t9, t10, t11, t12, t13, t14] = .next [S, FO fd', rel ps, t3, t4, I nodes, OW ds, t7, t8, t9, t10, t11, t12, t13, t14] := by
  simp [c_law_3_1, Pw.runF, Pw.startE, Pw.mSeq, Pw.mSkip, Pw.mExpr, Pw.mRet, Pw.mRetN, Pw.mIfS, Pw.mSet, Pw.setSlot, Pw.mPar, Pw.mPar3, Pw.mAsgT, Pw.tgOut_nm, Pw.tgOut_tp2, Pw.tgOut_tp3, Pw.tgSet_nm, Pw.tgSet_tp2, Pw.mCons, Pw.mNil, Pw.mC, Pw.mVar, Pw.mOp2, Pw.mOp, Pw.mUn, Pw.mUn2, Pw.unBoth, Pw.unOwn, Pw.unOut, Pw.opOut, Pw.opBoth, Pw.opOwn, Pw.opFind, Pw.resOut, Pw.opArgs, Pw.tyD, Pw.isObjR, Pw.mTst, Pw.mTru, Pw.truOut, Pw.truD, Pw.boolOut, Pw.mIf, Pw.mAndT, Pw.mOrT, Pw.mNotT, Pw.mAndV, Pw.mOrV, Pw.mNotV, Pw.norm, Pw.view, Pw.views, Pw.callOut, Pw.mCallB, Pw.mCallO, Pw.call1Both, Pw.chkAny, Pw.share, Pw.shareAll, Pw.putSlot, Pw.fs_val, Pw.fs_none, Pw.fs_own, Pw.retOut, Pw.mergeP, Pw.isOwn, Pw.mCall, Pw.callD, Pw.callOn, Pw.prep, Pw.prep1, Pw.agOk, Pw.penv, Pw.agSlot, Pw.callEnd, Pw.back, Pw.retB, Pw.mMake, Pw.makeD, Pw.makeOn, Pw.makeEnd, Pw.mAttr, Pw.attrOut, Pw.noExn, Pw.mMethO, Pw.methO, Pw.mStatic, Pw.statOut, Pw.mIsi, Pw.isiOut, Pw.isD, Pw.mTup, Pw.mLst, Pw.mSetSub, Pw.subOut, Pw.mSetFld, Pw.fldOut, Pw.putD, Pw.Ct.toD, Pw.gtD, Pw.ltD, Pw.addD, Pw.subD, Pw.mulD, Pw.fdivD, Pw.modD, Pw.negD, Pw.absD, Pw.intD, Pw.lenD, Pw.mRaise, Pw.mJs, Pw.mFmt, Pw.fmtOut, Pw.idxA, Pw.isDctD, Pw.inA, Pw.notInA, Pw.lenA, Pw.isDcts, Pw.mulA, Pw.isLstD, Pw.listA, Pw.mChainI, Pw.mParF, Pw.mSetSubA, Pw.subOutA, Pw.mNewD, Pw.mWAny, Pw.wkStr, Pw.conV, Pw.dlenD, Pw.mMeth, Pw.methOut, Pw.isTy, Pw.mMut, Pw.mMut0, Pw.isLst, Pw.mutOut, Pw.gAppend, Pw.mLc, Pw.okOwn, Pw.lockE, Pw.unlockE, Pw.wipeE, Pw.restE, Pw.mYes, Pw.Out.bind_ok, nums_nil, nums_v, nums_o, h, h6, Pw.listD]
theorem x2 {p : PySem.Str × Int} (h : Lw.f__law_any [.own true false fd, rel ps] = .ok (.val (P2 p)) [.own true false fd', rel ps]) (h11 : Fr t11) (h12 : Fr t12) : c_law_3_2 [S, FO fd, rel ps, t3, t4, t5, t6, t7, t8, t9, t10, t11, t12, t13, t14] = .next [S, FO fd', rel ps, t3, t4, t5, t6, t7, t8, t9, t10, .val (.str p.1), I p.2, t13, t14] := by
  simp [c_law_3_2, Pw.runF, Pw.startE, Pw.mSeq, Pw.mSkip, Pw.mExpr, Pw.mRet, Pw.mRetN, Pw.mIfS, Pw.mSet, Pw.setSlot, Pw.mPar, Pw.mPar3, Pw.mAsgT, Pw.tgOut_nm, Pw.tgOut_tp2, Pw.tgOut_tp3, Pw.tgSet_nm, Pw.tgSet_tp2, Pw.mCons, Pw.mNil, Pw.mC, Pw.mVar, Pw.mOp2, Pw.mOp, Pw.mUn, Pw.mUn2, Pw.unBoth, Pw.unOwn, Pw.unOut, Pw.opOut, Pw.opBoth, Pw.opOwn, Pw.opFind, Pw.resOut, Pw.opArgs, Pw.tyD, Pw.isObjR, Pw.mTst, Pw.mTru, Pw.truOut, Pw.truD, Pw.boolOut, Pw.mIf, Pw.mAndT, Pw.mOrT, Pw.mNotT, Pw.mAndV, Pw.mOrV, Pw.mNotV, Pw.norm, Pw.view, Pw.views, Pw.callOut, Pw.mCallB, Pw.mCallO, Pw.call1Both, Pw.chkAny, Pw.share, Pw.shareAll, Pw.putSlot, Pw.fs_val, Pw.fs_none, Pw.fs_own, Pw.retOut, Pw.mergeP, Pw.isOwn, Pw.mCall, Pw.callD, Pw.callOn, Pw.prep, Pw.prep1, Pw.agOk, Pw.penv, Pw.agSlot, Pw.callEnd, Pw.back, Pw.retB, Pw.mMake, Pw.makeD, Pw.makeOn, Pw.makeEnd, Pw.mAttr, Pw.attrOut, Pw.noExn, Pw.mMethO, Pw.methO, Pw.mStatic, Pw.statOut, Pw.mIsi, Pw.isiOut, Pw.isD, Pw.mTup, Pw.mLst, Pw.mSetSub, Pw.subOut, Pw.mSetFld, Pw.fldOut, Pw.putD, Pw.Ct.toD, Pw.gtD, Pw.ltD, Pw.addD, Pw.subD, Pw.mulD, Pw.fdivD, Pw.modD, Pw.negD, Pw.absD, Pw.intD, Pw.lenD, Pw.mRaise, Pw.mJs, Pw.mFmt, Pw.fmtOut, Pw.idxA, Pw.isDctD, Pw.inA, Pw.notInA, Pw.lenA, Pw.isDcts, Pw.mulA, Pw.isLstD, Pw.listA, Pw.mChainI, Pw.mParF, Pw.mSetSubA, Pw.subOutA, Pw.mNewD, Pw.mWAny, Pw.wkStr, Pw.conV, Pw.dlenD, Pw.mMeth, Pw.methOut, Pw.isTy, Pw.mMut, Pw.mMut0, Pw.isLst, Pw.mutOut, Pw.gAppend, Pw.mLc, Pw.okOwn, Pw.lockE, Pw.unlockE, Pw.wipeE, Pw.restE, Pw.mYes, Pw.Out.bind_ok, nums_nil, nums_v, nums_o, e_any, h, h11, h12]
theorem x3 {n : PySem.Str} {c m : Int} (hc0 : 0 ≤ c) (hc1 : c ≤ 900) (h7 : Fr t7) : c_law_3_3 [S, t1, t2, t3, t4, I m, t6, t7, t8, t9, t10, .val (.str n), I c, t13, t14] = .next [S, t1, t2, t3, t4, I m, t6, OW ((O1 n c m).map GD), t8, t9, t10, .val (.str n), I c, t13, t14] := by
  have z0 : (0 : Nat) ≤ PySem.sizeLine := Nat.zero_le _
  have z1 : (1 : Nat) ≤ PySem.sizeLine := by decide
  have z2 : (2 : Nat) ≤ PySem.sizeLine := by decide
  have z5 : (5 : Nat) ≤ PySem.sizeLine := by decide
  have r1 := rep_t 0 (c + 1) (by omega) (by omega)
  have r2 := rep_t m c (by omega) (by omega)
  simp [c_law_3_3, Pw.runF, Pw.startE, Pw.mSeq, Pw.mSkip, Pw.mExpr, Pw.mRet, Pw.mRetN, Pw.mIfS, Pw.mSet, Pw.setSlot, Pw.mPar, Pw.mPar3, Pw.mAsgT, Pw.tgOut_nm, Pw.tgOut_tp2, Pw.tgOut_tp3, Pw.tgSet_nm, Pw.tgSet_tp2, Pw.mCons, Pw.mNil, Pw.mC, Pw.mVar, Pw.mOp2, Pw.mOp, Pw.mUn, Pw.mUn2, Pw.unBoth, Pw.unOwn, Pw.unOut, Pw.opOut, Pw.opBoth, Pw.opOwn, Pw.opFind, Pw.resOut, Pw.opArgs, Pw.tyD, Pw.isObjR, Pw.mTst, Pw.mTru, Pw.truOut, Pw.truD, Pw.boolOut, Pw.mIf, Pw.mAndT, Pw.mOrT, Pw.mNotT, Pw.mAndV, Pw.mOrV, Pw.mNotV, Pw.norm, Pw.view, Pw.views, Pw.callOut, Pw.mCallB, Pw.mCallO, Pw.call1Both, Pw.chkAny, Pw.share, Pw.shareAll, Pw.putSlot, Pw.fs_val, Pw.fs_none, Pw.fs_own, Pw.retOut, Pw.mergeP, Pw.isOwn, Pw.mCall, Pw.callD, Pw.callOn, Pw.prep, Pw.prep1, Pw.agOk, Pw.penv, Pw.agSlot, Pw.callEnd, Pw.back, Pw.retB, Pw.mMake, Pw.makeD, Pw.makeOn, Pw.makeEnd, Pw.mAttr, Pw.attrOut, Pw.noExn, Pw.mMethO, Pw.methO, Pw.mStatic, Pw.statOut, Pw.mIsi, Pw.isiOut, Pw.isD, Pw.mTup, Pw.mLst, Pw.mSetSub, Pw.subOut, Pw.mSetFld, Pw.fldOut, Pw.putD, Pw.Ct.toD, Pw.gtD, Pw.ltD, Pw.addD, Pw.subD, Pw.mulD, Pw.fdivD, Pw.modD, Pw.negD, Pw.absD, Pw.intD, Pw.lenD, Pw.mRaise, Pw.mJs, Pw.mFmt, Pw.fmtOut, Pw.idxA, Pw.isDctD, Pw.inA, Pw.notInA, Pw.lenA, Pw.isDcts, Pw.mulA, Pw.isLstD, Pw.listA, Pw.mChainI, Pw.mParF, Pw.mSetSubA, Pw.subOutA, Pw.mNewD, Pw.mWAny, Pw.wkStr, Pw.conV, Pw.dlenD, Pw.mMeth, Pw.methOut, Pw.isTy, Pw.mMut, Pw.mMut0, Pw.isLst, Pw.mutOut, Pw.gAppend, Pw.mLc, Pw.okOwn, Pw.lockE, Pw.unlockE, Pw.wipeE, Pw.restE, Pw.mYes, Pw.Out.bind_ok, nums_nil, nums_v, nums_o, z0, z1, z2, z5, r1, r2, O1, GD, spD, h7]
theorem x4 {n : PySem.Str} {c m q : Int} (hc0 : 0 ≤ c) (hc1 : c ≤ 900) (hp : okPow 10 9) (h : Lw.f__law_draw [.own true false fd, I 1000000000] = .ok (.val (.int q)) [.own true false fd', I 1000000000]) : c_law_3_4 [S, FO fd, t2, t3, t4, I m, t6, OW ((O1 n c m).map GD), t8, t9, t10, .val (.str n), I c, t13, t14] = .next [S, FO fd', t2, t3, t4, I m, t6, OW ((O1 n c m ++ O2 n c m q).map GD), t8, t9, t10, .val (.str n), I c, t13, t14] := by
  have z1 : (1 : Nat) ≤ PySem.sizeLine := by decide
  have z2 : (2 : Nat) ≤ PySem.sizeLine := by decide
  have z7 : (7 : Nat) ≤ PySem.sizeLine := by decide
  have zc : c.toNat - 1 + 1 ≤ PySem.sizeLine := small (by omega)
  have r1 := rep_t 0 (c - 1) (by omega) (by omega)
  have r2 := rep_t (m + q) c (by omega) (by omega)
  simp [c_law_3_4, Pw.runF, Pw.startE, Pw.mSeq, Pw.mSkip, Pw.mExpr, Pw.mRet, Pw.mRetN, Pw.mIfS, Pw.mSet, Pw.setSlot, Pw.mPar, Pw.mPar3, Pw.mAsgT, Pw.tgOut_nm, Pw.tgOut_tp2, Pw.tgOut_tp3, Pw.tgSet_nm, Pw.tgSet_tp2, Pw.mCons, Pw.mNil, Pw.mC, Pw.mVar, Pw.mOp2, Pw.mOp, Pw.mUn, Pw.mUn2, Pw.unBoth, Pw.unOwn, Pw.unOut, Pw.opOut, Pw.opBoth, Pw.opOwn, Pw.opFind, Pw.resOut, Pw.opArgs, Pw.tyD, Pw.isObjR, Pw.mTst, Pw.mTru, Pw.truOut, Pw.truD, Pw.boolOut, Pw.mIf, Pw.mAndT, Pw.mOrT, Pw.mNotT, Pw.mAndV, Pw.mOrV, Pw.mNotV, Pw.norm, Pw.view, Pw.views, Pw.callOut, Pw.mCallB, Pw.mCallO, Pw.call1Both, Pw.chkAny, Pw.share, Pw.shareAll, Pw.putSlot, Pw.fs_val, Pw.fs_none, Pw.fs_own, Pw.retOut, Pw.mergeP, Pw.isOwn, Pw.mCall, Pw.callD, Pw.callOn, Pw.prep, Pw.prep1, Pw.agOk, Pw.penv, Pw.agSlot, Pw.callEnd, Pw.back, Pw.retB, Pw.mMake, Pw.makeD, Pw.makeOn, Pw.makeEnd, Pw.mAttr, Pw.attrOut, Pw.noExn, Pw.mMethO, Pw.methO, Pw.mStatic, Pw.statOut, Pw.mIsi, Pw.isiOut, Pw.isD, Pw.mTup, Pw.mLst, Pw.mSetSub, Pw.subOut, Pw.mSetFld, Pw.fldOut, Pw.putD, Pw.Ct.toD, Pw.gtD, Pw.ltD, Pw.addD, Pw.subD, Pw.mulD, Pw.fdivD, Pw.modD, Pw.negD, Pw.absD, Pw.intD, Pw.lenD, Pw.mRaise, Pw.mJs, Pw.mFmt, Pw.fmtOut, Pw.idxA, Pw.isDctD, Pw.inA, Pw.notInA, Pw.lenA, Pw.isDcts, Pw.mulA, Pw.isLstD, Pw.listA, Pw.mChainI, Pw.mParF, Pw.mSetSubA, Pw.subOutA, Pw.mNewD, Pw.mWAny, Pw.wkStr, Pw.conV, Pw.dlenD, Pw.mMeth, Pw.methOut, Pw.isTy, Pw.mMut, Pw.mMut0, Pw.isLst, Pw.mutOut, Pw.gAppend, Pw.mLc, Pw.okOwn, Pw.lockE, Pw.unlockE, Pw.wipeE, Pw.restE, Pw.mYes, Pw.Out.bind_ok, nums_nil, nums_v, nums_o, e_draw, powD, hp, h, z1, z2, z7, zc, r1, r2, O1, O2, GD, spD]
theorem x5 {n : PySem.Str} {c m q : Int} (hc0 : 0 ≤ c) (hc1 : c ≤ 900) : c_law_3_5 [S, FO fd, t2, t3, t4, t5, t6, OW ((O1 n c m ++ O2 n c m q).map GD), t8, t9, t10, .val (.str n), I c, t13, t14] = .next [S, FO fd, t2, t3, t4, t5, t6, OW ((O1 n c m ++ O2 n c m q ++ O3 n c).map GD), t8, t9, t10, .val (.str n), I c, t13, t14] := by
  have z1 : (1 : Nat) ≤ PySem.sizeLine := by decide
  have z2 : (2 : Nat) ≤ PySem.sizeLine := by decide
  have z8 : (8 : Nat) ≤ PySem.sizeLine := by decide
  have r1 := rep_l 0 (c + 2) (by omega) (by omega)
  simp [c_law_3_5, Pw.runF, Pw.startE, Pw.mSeq, Pw.mSkip, Pw.mExpr, Pw.mRet, Pw.mRetN, Pw.mIfS, Pw.mSet, Pw.setSlot, Pw.mPar, Pw.mPar3, Pw.mAsgT, Pw.tgOut_nm, Pw.tgOut_tp2, Pw.tgOut_tp3, Pw.tgSet_nm, Pw.tgSet_tp2, Pw.mCons, Pw.mNil, Pw.mC, Pw.mVar, Pw.mOp2, Pw.mOp, Pw.mUn, Pw.mUn2, Pw.unBoth, Pw.unOwn, Pw.unOut, Pw.opOut, Pw.opBoth, Pw.opOwn, Pw.opFind, Pw.resOut, Pw.opArgs, Pw.tyD, Pw.isObjR, Pw.mTst, Pw.mTru, Pw.truOut, Pw.truD, Pw.boolOut, Pw.mIf, Pw.mAndT, Pw.mOrT, Pw.mNotT, Pw.mAndV, Pw.mOrV, Pw.mNotV, Pw.norm, Pw.view, Pw.views, Pw.callOut, Pw.mCallB, Pw.mCallO, Pw.call1Both, Pw.chkAny, Pw.share, Pw.shareAll, Pw.putSlot, Pw.fs_val, Pw.fs_none, Pw.fs_own, Pw.retOut, Pw.mergeP, Pw.isOwn, Pw.mCall, Pw.callD, Pw.callOn, Pw.prep, Pw.prep1, Pw.agOk, Pw.penv, Pw.agSlot, Pw.callEnd, Pw.back, Pw.retB, Pw.mMake, Pw.makeD, Pw.makeOn, Pw.makeEnd, Pw.mAttr, Pw.attrOut, Pw.noExn, Pw.mMethO, Pw.methO, Pw.mStatic, Pw.statOut, Pw.mIsi, Pw.isiOut, Pw.isD, Pw.mTup, Pw.mLst, Pw.mSetSub, Pw.subOut, Pw.mSetFld, Pw.fldOut, Pw.putD, Pw.Ct.toD, Pw.gtD, Pw.ltD, Pw.addD, Pw.subD, Pw.mulD, Pw.fdivD, Pw.modD, Pw.negD, Pw.absD, Pw.intD, Pw.lenD, Pw.mRaise, Pw.mJs, Pw.mFmt, Pw.fmtOut, Pw.idxA, Pw.isDctD, Pw.inA, Pw.notInA, Pw.lenA, Pw.isDcts, Pw.mulA, Pw.isLstD, Pw.listA, Pw.mChainI, Pw.mParF, Pw.mSetSubA, Pw.subOutA, Pw.mNewD, Pw.mWAny, Pw.wkStr, Pw.conV, Pw.dlenD, Pw.mMeth, Pw.methOut, Pw.isTy, Pw.mMut, Pw.mMut0, Pw.isLst, Pw.mutOut, Pw.gAppend, Pw.mLc, Pw.okOwn, Pw.lockE, Pw.unlockE, Pw.wipeE, Pw.restE, Pw.mYes, Pw.Out.bind_ok, nums_nil, nums_v, nums_o, z1, z2, z8, r1, O1, O2, O3, GD, spD]
theorem x6 {od ds : List D} {d : D} {a : Int} {fd2 : Ct} (h1 : Lw.f__law_any [.own true false fd, .val (.lst od)] = .ok (.val d) [.own true false fd', .val (.lst od)]) (h2 : Lw.f__law_draw [.own true false fd', I ((ds.length : Int) + 1)] = .ok (.val (.int a)) [.own true false fd2, I ((ds.length : Int) + 1)]) (h13 : Fr t13) (h14 : Fr t14) :
    c_law_3_6 [S, FO fd, t2, t3, t4, t5, OW ds, OW od, t8, t9, t10, t11, t12, t13, t14] = .next [S, FO fd2, t2, t3, t4, t5, OW ds, .val (.lst od), t8, t9, t10, t11, t12, .val d, I a] := by
  simp [c_law_3_6, Pw.runF, Pw.startE, Pw.mSeq, Pw.mSkip, Pw.mExpr, Pw.mRet, Pw.mRetN, Pw.mIfS, Pw.mSet, Pw.setSlot, Pw.mPar, Pw.mPar3, Pw.mAsgT, Pw.tgOut_nm, Pw.tgOut_tp2, Pw.tgOut_tp3, Pw.tgSet_nm, Pw.tgSet_tp2, Pw.mCons, Pw.mNil, Pw.mC, Pw.mVar, Pw.mOp2, Pw.mOp, Pw.mUn, Pw.mUn2, Pw.unBoth, Pw.unOwn, Pw.unOut, Pw.opOut, Pw.opBoth, Pw.opOwn, Pw.opFind, Pw.resOut, Pw.opArgs, Pw.tyD, Pw.isObjR, Pw.mTst, Pw.mTru, Pw.truOut, Pw.truD, Pw.boolOut, Pw.mIf, Pw.mAndT, Pw.mOrT, Pw.mNotT, Pw.mAndV, Pw.mOrV, Pw.mNotV, Pw.norm, Pw.view, Pw.views, Pw.callOut, Pw.mCallB, Pw.mCallO, Pw.call1Both, Pw.chkAny, Pw.share, Pw.shareAll, Pw.putSlot, Pw.fs_val, Pw.fs_none, Pw.fs_own, Pw.retOut, Pw.mergeP, Pw.isOwn, Pw.mCall, Pw.callD, Pw.callOn, Pw.prep, Pw.prep1, Pw.agOk, Pw.penv, Pw.agSlot, Pw.callEnd, Pw.back, Pw.retB, Pw.mMake, Pw.makeD, Pw.makeOn, Pw.makeEnd, Pw.mAttr, Pw.attrOut, Pw.noExn, Pw.mMethO, Pw.methO, Pw.mStatic, Pw.statOut, Pw.mIsi, Pw.isiOut, Pw.isD, Pw.mTup, Pw.mLst, Pw.mSetSub, Pw.subOut, Pw.mSetFld, Pw.fldOut, Pw.putD, Pw.Ct.toD, Pw.gtD, Pw.ltD, Pw.addD, Pw.subD, Pw.mulD, Pw.fdivD, Pw.modD, Pw.negD, Pw.absD, Pw.intD, Pw.lenD, Pw.mRaise, Pw.mJs, Pw.mFmt, Pw.fmtOut, Pw.idxA, Pw.isDctD, Pw.inA, Pw.notInA, Pw.lenA, Pw.isDcts, Pw.mulA, Pw.isLstD, Pw.listA, Pw.mChainI, Pw.mParF, Pw.mSetSubA, Pw.subOutA, Pw.mNewD, Pw.mWAny, Pw.wkStr, Pw.conV, Pw.dlenD, Pw.mMeth, Pw.methOut, Pw.isTy, Pw.mMut, Pw.mMut0, Pw.isLst, Pw.mutOut, Pw.gAppend, Pw.mLc, Pw.okOwn, Pw.lockE, Pw.unlockE, Pw.wipeE, Pw.restE, Pw.mYes, Pw.Out.bind_ok, nums_nil, nums_v, nums_o, e_any, e_draw, lenD, h1, h2, h13, h14]
theorem x7 {ds : List D} {d : D} {a : Int} (h0 : 0 ≤ a) (h1 : ds.length ≤ 900) (h8 : Fr t8) :
    c_law_3_7 [S, FO fd, t2, t3, t4, t5, OW ds, t7, t8, t9, t10, t11, t12, .val d, I a] = .next [S, FO fd, t2, t3, t4, t5, OW ds, t7, OW (ds.take a.toNat ++ [d] ++ ds.drop a.toNat), t9, t10, t11, t12, .val d, I a] := by
  have z1 : (1 : Nat) ≤ PySem.sizeLine := by decide
  have l1 : (ds.take a.toNat).length ≤ ds.length := by rw [List.length_take]; exact Nat.min_le_right _ _
  have s1 : (ds.take a.toNat).length + 1 ≤ PySem.sizeLine := small (by omega)
  have s2 : (ds.take a.toNat).length + 1 + (ds.drop a.toNat).length ≤ PySem.sizeLine := by
    have : (ds.take a.toNat).length + (ds.drop a.toNat).length = ds.length := by rw [← List.length_append, List.take_append_drop]
    exact small (by omega)
  rw [List.length_take] at s1
  rw [List.length_take, List.length_drop] at s2
  simp [c_law_3_7, Pw.runF, Pw.startE, Pw.mSeq, Pw.mSkip, Pw.mExpr, Pw.mRet, Pw.mRetN, Pw.mIfS, Pw.mSet, Pw.setSlot, Pw.mPar, Pw.mPar3, Pw.mAsgT, Pw.tgOut_nm, Pw.tgOut_tp2, Pw.tgOut_tp3, Pw.tgSet_nm, Pw.tgSet_tp2, Pw.mCons, Pw.mNil, Pw.mC, Pw.mVar, Pw.mOp2, Pw.mOp, Pw.mUn, Pw.mUn2, Pw.unBoth, Pw.unOwn, Pw.unOut, Pw.opOut, Pw.opBoth, Pw.opOwn, Pw.opFind, Pw.resOut, Pw.opArgs, Pw.tyD, Pw.isObjR, Pw.mTst, Pw.mTru, Pw.truOut, Pw.truD, Pw.boolOut, Pw.mIf, Pw.mAndT, Pw.mOrT, Pw.mNotT, Pw.mAndV, Pw.mOrV, Pw.mNotV, Pw.norm, Pw.view, Pw.views, Pw.callOut, Pw.mCallB, Pw.mCallO, Pw.call1Both, Pw.chkAny, Pw.share, Pw.shareAll, Pw.putSlot, Pw.fs_val, Pw.fs_none, Pw.fs_own, Pw.retOut, Pw.mergeP, Pw.isOwn, Pw.mCall, Pw.callD, Pw.callOn, Pw.prep, Pw.prep1, Pw.agOk, Pw.penv, Pw.agSlot, Pw.callEnd, Pw.back, Pw.retB, Pw.mMake, Pw.makeD, Pw.makeOn, Pw.makeEnd, Pw.mAttr, Pw.attrOut, Pw.noExn, Pw.mMethO, Pw.methO, Pw.mStatic, Pw.statOut, Pw.mIsi, Pw.isiOut, Pw.isD, Pw.mTup, Pw.mLst, Pw.mSetSub, Pw.subOut, Pw.mSetFld, Pw.fldOut, Pw.putD, Pw.Ct.toD, Pw.gtD, Pw.ltD, Pw.addD, Pw.subD, Pw.mulD, Pw.fdivD, Pw.modD, Pw.negD, Pw.absD, Pw.intD, Pw.lenD, Pw.mRaise, Pw.mJs, Pw.mFmt, Pw.fmtOut, Pw.idxA, Pw.isDctD, Pw.inA, Pw.notInA, Pw.lenA, Pw.isDcts, Pw.mulA, Pw.isLstD, Pw.listA, Pw.mChainI, Pw.mParF, Pw.mSetSubA, Pw.subOutA, Pw.mNewD, Pw.mWAny, Pw.wkStr, Pw.conV, Pw.dlenD, Pw.mMeth, Pw.methOut, Pw.isTy, Pw.mMut, Pw.mMut0, Pw.isLst, Pw.mutOut, Pw.gAppend, Pw.mLc, Pw.okOwn, Pw.lockE, Pw.unlockE, Pw.wipeE, Pw.restE, Pw.mYes, Pw.Out.bind_ok, nums_nil, nums_v, nums_o, mSlice, mPart, mNoP, sliceD, cut_take _ h0, cut_drop _ h0, z1, h8, s1, s2]
theorem tolR (k : Int) : toldX (XRow k) = some [.str "InvalidRow", .int k] := by first | rfl | (unfold toldX; simp [List.lookup, pickD, fldG, hit, L2.inV])
theorem tolS (k : Int) : toldX (XSize k) = some [.str "InvalidSize", .int k] := by first | rfl | (unfold toldX; simp [List.lookup, pickD, fldG, hit, L2.inV])
theorem cnR : (["InvalidSize", "InvalidRow"] : List PySem.Str).contains "InvalidRow" = true := by decide +kernel
theorem cnS : (["InvalidSize", "InvalidRow"] : List PySem.Str).contains "InvalidSize" = true := by decide +kernel
theorem nn_ (x : PySem.Str) (hx : PySem.PyData.strOk x = true) (k : Int) : Pw.neD (.tup [.str "no", .str x, .int k]) (.tup [.str "no", .str x, .int k]) = .val (.bl false) :=
  neD_self (n := 1) (okN_tup fun d hd => by
    simp only [List.mem_cons, List.not_mem_nil, or_false] at hd
    rcases hd with rfl | rfl | rfl
    · exact okN_str (by decide +kernel)
    · exact okN_str hx
    · exact okN_int _ _) (by decide)
theorem nnR (k : Int) : Pw.neD (.tup [.str "no", .str "InvalidRow", .int k]) (.tup [.str "no", .str "InvalidRow", .int k]) = .val (.bl false) := nn_ "InvalidRow" (by decide +kernel) k
theorem nnS (k : Int) : Pw.neD (.tup [.str "no", .str "InvalidSize", .int k]) (.tup [.str "no", .str "InvalidSize", .int k]) = .val (.bl false) := nn_ "InvalidSize" (by decide +kernel) k
theorem z3 : (3 : Nat) ≤ PySem.sizeLine := by decide
theorem x8 {H : Sv} (hH : H = FO (schC ps) ∨ H = .val (schD ps)) {nodes a : Int} {ds : List D} (h : f_sinit [Z0, .val (schD ps), I nodes, .val (.lst ds)] = .exn (XRow a) [Z0, .val (schD ps), I nodes, .val (.lst ds)]) :
    c_law_3_8 [S, FO fd, t2, H, t4, I nodes, t6, t7, OW ds, t9, t10, t11, t12, t13, I a] = .next [S, FO fd, t2, .val (schD ps), t4, I nodes, t6, t7, .val (.lst ds), t9, t10, t11, t12, t13, I a] := by
  rcases hH with rfl | rfl <;> simp [c_law_3_8, Pw.runF, Pw.startE, Pw.mSeq, Pw.mSkip, Pw.mExpr, Pw.mRet, Pw.mRetN, Pw.mIfS, Pw.mSet, Pw.setSlot, Pw.mPar, Pw.mPar3, Pw.mAsgT, Pw.tgOut_nm, Pw.tgOut_tp2, Pw.tgOut_tp3, Pw.tgSet_nm, Pw.tgSet_tp2, Pw.mCons, Pw.mNil, Pw.mC, Pw.mVar, Pw.mOp2, Pw.mOp, Pw.mUn, Pw.mUn2, Pw.unBoth, Pw.unOwn, Pw.unOut, Pw.opOut, Pw.opBoth, Pw.opOwn, Pw.opFind, Pw.resOut, Pw.opArgs, Pw.tyD, Pw.isObjR, Pw.mTst, Pw.mTru, Pw.truOut, Pw.truD, Pw.boolOut, Pw.mIf, Pw.mAndT, Pw.mOrT, Pw.mNotT, Pw.mAndV, Pw.mOrV, Pw.mNotV, Pw.norm, Pw.view, Pw.views, Pw.callOut, Pw.mCallB, Pw.mCallO, Pw.call1Both, Pw.chkAny, Pw.share, Pw.shareAll, Pw.putSlot, Pw.fs_val, Pw.fs_none, Pw.fs_own, Pw.retOut, Pw.mergeP, Pw.isOwn, Pw.mCall, Pw.callD, Pw.callOn, Pw.prep, Pw.prep1, Pw.agOk, Pw.penv, Pw.agSlot, Pw.callEnd, Pw.back, Pw.retB, Pw.mMake, Pw.makeD, Pw.makeOn, Pw.makeEnd, Pw.mAttr, Pw.attrOut, Pw.noExn, Pw.mMethO, Pw.methO, Pw.mStatic, Pw.statOut, Pw.mIsi, Pw.isiOut, Pw.isD, Pw.mTup, Pw.mLst, Pw.mSetSub, Pw.subOut, Pw.mSetFld, Pw.fldOut, Pw.putD, Pw.Ct.toD, Pw.gtD, Pw.ltD, Pw.addD, Pw.subD, Pw.mulD, Pw.fdivD, Pw.modD, Pw.negD, Pw.absD, Pw.intD, Pw.lenD, Pw.mRaise, Pw.mJs, Pw.mFmt, Pw.fmtOut, Pw.idxA, Pw.isDctD, Pw.inA, Pw.notInA, Pw.lenA, Pw.isDcts, Pw.mulA, Pw.isLstD, Pw.listA, Pw.mChainI, Pw.mParF, Pw.mSetSubA, Pw.subOutA, Pw.mNewD, Pw.mWAny, Pw.wkStr, Pw.conV, Pw.dlenD, Pw.mMeth, Pw.methOut, Pw.isTy, Pw.mMut, Pw.mMut0, Pw.isLst, Pw.mutOut, Pw.gAppend, Pw.mLc, Pw.okOwn, Pw.lockE, Pw.unlockE, Pw.wipeE, Pw.restE, Pw.mYes, Pw.Out.bind_ok, nums_nil, nums_v, nums_o, mTold, k_Shape_3, h, cnR, tolR, nnR, z3]
theorem x9 {nodes : Int} {rs : List Row} {ds : List D} (h : f_sinit [Z0, .val (schD ps), I nodes, .val (.lst ds)] = .ok (.val .non) [.own true false (shC ps nodes rs), .val (schD ps), I nodes, .val (.lst ds)]) (h9 : Fr t9) :
    c_law_3_9 [S, FO fd, t2, .val (schD ps), t4, I nodes, OW ds, t7, t8, t9, t10, t11, t12, t13, t14] = .next [S, FO fd, t2, .val (schD ps), t4, I nodes, .val (.lst ds), t7, t8, FO (shC ps nodes rs), t10, t11, t12, t13, t14] := by
  simp [c_law_3_9, Pw.runF, Pw.startE, Pw.mSeq, Pw.mSkip, Pw.mExpr, Pw.mRet, Pw.mRetN, Pw.mIfS, Pw.mSet, Pw.setSlot, Pw.mPar, Pw.mPar3, Pw.mAsgT, Pw.tgOut_nm, Pw.tgOut_tp2, Pw.tgOut_tp3, Pw.tgSet_nm, Pw.tgSet_tp2, Pw.mCons, Pw.mNil, Pw.mC, Pw.mVar, Pw.mOp2, Pw.mOp, Pw.mUn, Pw.mUn2, Pw.unBoth, Pw.unOwn, Pw.unOut, Pw.opOut, Pw.opBoth, Pw.opOwn, Pw.opFind, Pw.resOut, Pw.opArgs, Pw.tyD, Pw.isObjR, Pw.mTst, Pw.mTru, Pw.truOut, Pw.truD, Pw.boolOut, Pw.mIf, Pw.mAndT, Pw.mOrT, Pw.mNotT, Pw.mAndV, Pw.mOrV, Pw.mNotV, Pw.norm, Pw.view, Pw.views, Pw.callOut, Pw.mCallB, Pw.mCallO, Pw.call1Both, Pw.chkAny, Pw.share, Pw.shareAll, Pw.putSlot, Pw.fs_val, Pw.fs_none, Pw.fs_own, Pw.retOut, Pw.mergeP, Pw.isOwn, Pw.mCall, Pw.callD, Pw.callOn, Pw.prep, Pw.prep1, Pw.agOk, Pw.penv, Pw.agSlot, Pw.callEnd, Pw.back, Pw.retB, Pw.mMake, Pw.makeD, Pw.makeOn, Pw.makeEnd, Pw.mAttr, Pw.attrOut, Pw.noExn, Pw.mMethO, Pw.methO, Pw.mStatic, Pw.statOut, Pw.mIsi, Pw.isiOut, Pw.isD, Pw.mTup, Pw.mLst, Pw.mSetSub, Pw.subOut, Pw.mSetFld, Pw.fldOut, Pw.putD, Pw.Ct.toD, Pw.gtD, Pw.ltD, Pw.addD, Pw.subD, Pw.mulD, Pw.fdivD, Pw.modD, Pw.negD, Pw.absD, Pw.intD, Pw.lenD, Pw.mRaise, Pw.mJs, Pw.mFmt, Pw.fmtOut, Pw.idxA, Pw.isDctD, Pw.inA, Pw.notInA, Pw.lenA, Pw.isDcts, Pw.mulA, Pw.isLstD, Pw.listA, Pw.mChainI, Pw.mParF, Pw.mSetSubA, Pw.subOutA, Pw.mNewD, Pw.mWAny, Pw.wkStr, Pw.conV, Pw.dlenD, Pw.mMeth, Pw.methOut, Pw.isTy, Pw.mMut, Pw.mMut0, Pw.isLst, Pw.mutOut, Pw.gAppend, Pw.mLc, Pw.okOwn, Pw.lockE, Pw.unlockE, Pw.wipeE, Pw.restE, Pw.mYes, Pw.Out.bind_ok, nums_nil, nums_v, nums_o, k_Shape_3, h, h9]
end
end K07

set_option maxHeartbeats 8000000
/-! K07y: law k07 in plain Lean. -/
namespace K07
open Pw Lw Lx Ly
theorem nw1 : (PySem.Str.ofString "with_rows" == PySem.Str.ofString "plan") = false := by decide
theorem nw2 : (PySem.Str.ofString "with_rows" == PySem.Str.ofString "many") = false := by decide
theorem nw3 : (PySem.Str.ofString "with_rows" == PySem.Str.ofString "row_list") = false := by decide
theorem nw4 : (PySem.Str.ofString "with_rows" == PySem.Str.ofString "known_rows") = false := by decide
section
variable {S t2 t3 t4 t5 t6 t7 t8 t9 t10 t11 t12 t13 t14 : Sv} {fd fd' : Ct} {ps : List (PySem.Str × Int)}
theorem x10 {nodes a : Int} {rs : List Row} {ds : List D} (h : f_with_rows [.val (shD ps nodes rs), .val (.lst ds)] = .exn (XRow a) [.val (shD ps nodes rs), .val (.lst ds)]) :
    c_law_3_10 [S, FO fd, t2, t3, t4, t5, t6, t7, .val (.lst ds), FO (shC ps nodes rs), t10, t11, t12, t13, I a] = .next [S, FO fd, t2, t3, t4, t5, t6, t7, .val (.lst ds), .val (shD ps nodes rs), t10, t11, t12, t13, I a] := by
  simp [c_law_3_10, Pw.runF, Pw.startE, Pw.mSeq, Pw.mSkip, Pw.mExpr, Pw.mRet, Pw.mRetN, Pw.mIfS, Pw.mSet, Pw.setSlot, Pw.mPar, Pw.mPar3, Pw.mAsgT, Pw.tgOut_nm, Pw.tgOut_tp2, Pw.tgOut_tp3, Pw.tgSet_nm, Pw.tgSet_tp2, Pw.mCons, Pw.mNil, Pw.mC, Pw.mVar, Pw.mOp2, Pw.mOp, Pw.mUn, Pw.mUn2, Pw.unBoth, Pw.unOwn, Pw.unOut, Pw.opOut, Pw.opBoth, Pw.opOwn, Pw.opFind, Pw.resOut, Pw.opArgs, Pw.tyD, Pw.isObjR, Pw.mTst, Pw.mTru, Pw.truOut, Pw.truD, Pw.boolOut, Pw.mIf, Pw.mAndT, Pw.mOrT, Pw.mNotT, Pw.mAndV, Pw.mOrV, Pw.mNotV, Pw.norm, Pw.view, Pw.views, Pw.callOut, Pw.mCallB, Pw.mCallO, Pw.call1Both, Pw.chkAny, Pw.share, Pw.shareAll, Pw.putSlot, Pw.fs_val, Pw.fs_none, Pw.fs_own, Pw.retOut, Pw.mergeP, Pw.isOwn, Pw.mCall, Pw.callD, Pw.callOn, Pw.prep, Pw.prep1, Pw.agOk, Pw.penv, Pw.agSlot, Pw.callEnd, Pw.back, Pw.retB, Pw.mMake, Pw.makeD, Pw.makeOn, Pw.makeEnd, Pw.mAttr, Pw.attrOut, Pw.noExn, Pw.mMethO, Pw.methO, Pw.mStatic, Pw.statOut, Pw.mIsi, Pw.isiOut, Pw.isD, Pw.mTup, Pw.mLst, Pw.mSetSub, Pw.subOut, Pw.mSetFld, Pw.fldOut, Pw.putD, Pw.Ct.toD, Pw.gtD, Pw.ltD, Pw.addD, Pw.subD, Pw.mulD, Pw.fdivD, Pw.modD, Pw.negD, Pw.absD, Pw.intD, Pw.lenD, Pw.mRaise, Pw.mJs, Pw.mFmt, Pw.fmtOut, Pw.idxA, Pw.isDctD, Pw.inA, Pw.notInA, Pw.lenA, Pw.isDcts, Pw.mulA, Pw.isLstD, Pw.listA, Pw.mChainI, Pw.mParF, Pw.mSetSubA, Pw.subOutA, Pw.mNewD, Pw.mWAny, Pw.wkStr, Pw.conV, Pw.dlenD, Pw.mMeth, Pw.methOut, Pw.isTy, Pw.mMut, Pw.mMut0, Pw.isLst, Pw.mutOut, Pw.gAppend, Pw.mLc, Pw.okOwn, Pw.lockE, Pw.unlockE, Pw.wipeE, Pw.restE, Pw.mYes, Pw.Out.bind_ok, nums_nil, nums_v, nums_o, mTold, List.lookup, o_with_rows, i_with_rows, nw1, nw2, nw3, nw4, h, cnR, tolR, nnR, z3]
theorem x11 {b s : D} {nodes : Int} {ds : List D} (h : f__law_is_shape [.val b, .val s, .val (.tup [.int nodes, .tup ds])] = .ok (.val (.bl true)) [.val b, .val s, .val (.tup [.int nodes, .tup ds])]) :
    c_law_3_11 [S, FO fd, t2, .val s, t4, I nodes, .val (.lst ds), t7, t8, .val b, t10, t11, t12, t13, t14] = .next [S, FO fd, t2, .val s, t4, I nodes, .val (.lst ds), t7, t8, .val b, t10, t11, t12, t13, t14] := by
  have z2 : (2 : Nat) ≤ PySem.sizeLine := by decide
  simp [c_law_3_11, Pw.runF, Pw.startE, Pw.mSeq, Pw.mSkip, Pw.mExpr, Pw.mRet, Pw.mRetN, Pw.mIfS, Pw.mSet, Pw.setSlot, Pw.mPar, Pw.mPar3, Pw.mAsgT, Pw.tgOut_nm, Pw.tgOut_tp2, Pw.tgOut_tp3, Pw.tgSet_nm, Pw.tgSet_tp2, Pw.mCons, Pw.mNil, Pw.mC, Pw.mVar, Pw.mOp2, Pw.mOp, Pw.mUn, Pw.mUn2, Pw.unBoth, Pw.unOwn, Pw.unOut, Pw.opOut, Pw.opBoth, Pw.opOwn, Pw.opFind, Pw.resOut, Pw.opArgs, Pw.tyD, Pw.isObjR, Pw.mTst, Pw.mTru, Pw.truOut, Pw.truD, Pw.boolOut, Pw.mIf, Pw.mAndT, Pw.mOrT, Pw.mNotT, Pw.mAndV, Pw.mOrV, Pw.mNotV, Pw.norm, Pw.view, Pw.views, Pw.callOut, Pw.mCallB, Pw.mCallO, Pw.call1Both, Pw.chkAny, Pw.share, Pw.shareAll, Pw.putSlot, Pw.fs_val, Pw.fs_none, Pw.fs_own, Pw.retOut, Pw.mergeP, Pw.isOwn, Pw.mCall, Pw.callD, Pw.callOn, Pw.prep, Pw.prep1, Pw.agOk, Pw.penv, Pw.agSlot, Pw.callEnd, Pw.back, Pw.retB, Pw.mMake, Pw.makeD, Pw.makeOn, Pw.makeEnd, Pw.mAttr, Pw.attrOut, Pw.noExn, Pw.mMethO, Pw.methO, Pw.mStatic, Pw.statOut, Pw.mIsi, Pw.isiOut, Pw.isD, Pw.mTup, Pw.mLst, Pw.mSetSub, Pw.subOut, Pw.mSetFld, Pw.fldOut, Pw.putD, Pw.Ct.toD, Pw.gtD, Pw.ltD, Pw.addD, Pw.subD, Pw.mulD, Pw.fdivD, Pw.modD, Pw.negD, Pw.absD, Pw.intD, Pw.lenD, Pw.mRaise, Pw.mJs, Pw.mFmt, Pw.fmtOut, Pw.idxA, Pw.isDctD, Pw.inA, Pw.notInA, Pw.lenA, Pw.isDcts, Pw.mulA, Pw.isLstD, Pw.listA, Pw.mChainI, Pw.mParF, Pw.mSetSubA, Pw.subOutA, Pw.mNewD, Pw.mWAny, Pw.wkStr, Pw.conV, Pw.dlenD, Pw.mMeth, Pw.methOut, Pw.isTy, Pw.mMut, Pw.mMut0, Pw.isLst, Pw.mutOut, Pw.gAppend, Pw.mLc, Pw.okOwn, Pw.lockE, Pw.unlockE, Pw.wipeE, Pw.restE, Pw.mYes, Pw.Out.bind_ok, nums_nil, nums_v, nums_o, Pw.tupleD, z2, h]
theorem x12 {q1 q2 size : Int} {fd1 fd2 fd3 : Ct} (hp : okPow 10 9) (h1 : Lw.f__law_draw [.own true false fd, I 1000000000] = .ok (.val (.int q1)) [.own true false fd1, I 1000000000]) (h2 : Lw.f__law_draw [.own true false fd1, I 1000000000] = .ok (.val (.int q2)) [.own true false fd2, I 1000000000])
    (h3 : Lw.f__law_any [.own true false fd2, .val (.lst [.int 61, .int (-1), .int (62 + q1), .int (-2 - q2)])] = .ok (.val (.int size)) [.own true false fd3, .val (.lst [.int 61, .int (-1), .int (62 + q1), .int (-2 - q2)])]) (h10 : Fr t10) :
    c_law_3_12 [S, FO fd, t2, t3, t4, t5, t6, t7, t8, t9, t10, t11, t12, t13, t14] = .next [S, FO fd3, t2, t3, t4, t5, t6, t7, t8, t9, I size, t11, t12, t13, t14] := by
  have z4 : (4 : Nat) ≤ PySem.sizeLine := by decide
  simp [c_law_3_12, Pw.runF, Pw.startE, Pw.mSeq, Pw.mSkip, Pw.mExpr, Pw.mRet, Pw.mRetN, Pw.mIfS, Pw.mSet, Pw.setSlot, Pw.mPar, Pw.mPar3, Pw.mAsgT, Pw.tgOut_nm, Pw.tgOut_tp2, Pw.tgOut_tp3, Pw.tgSet_nm, Pw.tgSet_tp2, Pw.mCons, Pw.mNil, Pw.mC, Pw.mVar, Pw.mOp2, Pw.mOp, Pw.mUn, Pw.mUn2, Pw.unBoth, Pw.unOwn, Pw.unOut, Pw.opOut, Pw.opBoth, Pw.opOwn, Pw.opFind, Pw.resOut, Pw.opArgs, Pw.tyD, Pw.isObjR, Pw.mTst, Pw.mTru, Pw.truOut, Pw.truD, Pw.boolOut, Pw.mIf, Pw.mAndT, Pw.mOrT, Pw.mNotT, Pw.mAndV, Pw.mOrV, Pw.mNotV, Pw.norm, Pw.view, Pw.views, Pw.callOut, Pw.mCallB, Pw.mCallO, Pw.call1Both, Pw.chkAny, Pw.share, Pw.shareAll, Pw.putSlot, Pw.fs_val, Pw.fs_none, Pw.fs_own, Pw.retOut, Pw.mergeP, Pw.isOwn, Pw.mCall, Pw.callD, Pw.callOn, Pw.prep, Pw.prep1, Pw.agOk, Pw.penv, Pw.agSlot, Pw.callEnd, Pw.back, Pw.retB, Pw.mMake, Pw.makeD, Pw.makeOn, Pw.makeEnd, Pw.mAttr, Pw.attrOut, Pw.noExn, Pw.mMethO, Pw.methO, Pw.mStatic, Pw.statOut, Pw.mIsi, Pw.isiOut, Pw.isD, Pw.mTup, Pw.mLst, Pw.mSetSub, Pw.subOut, Pw.mSetFld, Pw.fldOut, Pw.putD, Pw.Ct.toD, Pw.gtD, Pw.ltD, Pw.addD, Pw.subD, Pw.mulD, Pw.fdivD, Pw.modD, Pw.negD, Pw.absD, Pw.intD, Pw.lenD, Pw.mRaise, Pw.mJs, Pw.mFmt, Pw.fmtOut, Pw.idxA, Pw.isDctD, Pw.inA, Pw.notInA, Pw.lenA, Pw.isDcts, Pw.mulA, Pw.isLstD, Pw.listA, Pw.mChainI, Pw.mParF, Pw.mSetSubA, Pw.subOutA, Pw.mNewD, Pw.mWAny, Pw.wkStr, Pw.conV, Pw.dlenD, Pw.mMeth, Pw.methOut, Pw.isTy, Pw.mMut, Pw.mMut0, Pw.isLst, Pw.mutOut, Pw.gAppend, Pw.mLc, Pw.okOwn, Pw.lockE, Pw.unlockE, Pw.wipeE, Pw.restE, Pw.mYes, Pw.Out.bind_ok, nums_nil, nums_v, nums_o, e_draw, e_any, powD, hp, h1, h2, h3, z4, h10]
theorem x13 {s : D} {size : Int} {ds : List D} (h : f_sinit [Z0, .val s, I size, .val (.lst ds)] = .exn (XSize size) [Z0, .val s, I size, .val (.lst ds)]) :
    c_law_3_13 [S, FO fd, t2, .val s, t4, t5, t6, t7, .val (.lst ds), t9, I size, t11, t12, t13, t14] = .next [S, FO fd, t2, .val s, t4, t5, t6, t7, .val (.lst ds), t9, I size, t11, t12, t13, t14] := by
  simp [c_law_3_13, Pw.runF, Pw.startE, Pw.mSeq, Pw.mSkip, Pw.mExpr, Pw.mRet, Pw.mRetN, Pw.mIfS, Pw.mSet, Pw.setSlot, Pw.mPar, Pw.mPar3, Pw.mAsgT, Pw.tgOut_nm, Pw.tgOut_tp2, Pw.tgOut_tp3, Pw.tgSet_nm, Pw.tgSet_tp2, Pw.mCons, Pw.mNil, Pw.mC, Pw.mVar, Pw.mOp2, Pw.mOp, Pw.mUn, Pw.mUn2, Pw.unBoth, Pw.unOwn, Pw.unOut, Pw.opOut, Pw.opBoth, Pw.opOwn, Pw.opFind, Pw.resOut, Pw.opArgs, Pw.tyD, Pw.isObjR, Pw.mTst, Pw.mTru, Pw.truOut, Pw.truD, Pw.boolOut, Pw.mIf, Pw.mAndT, Pw.mOrT, Pw.mNotT, Pw.mAndV, Pw.mOrV, Pw.mNotV, Pw.norm, Pw.view, Pw.views, Pw.callOut, Pw.mCallB, Pw.mCallO, Pw.call1Both, Pw.chkAny, Pw.share, Pw.shareAll, Pw.putSlot, Pw.fs_val, Pw.fs_none, Pw.fs_own, Pw.retOut, Pw.mergeP, Pw.isOwn, Pw.mCall, Pw.callD, Pw.callOn, Pw.prep, Pw.prep1, Pw.agOk, Pw.penv, Pw.agSlot, Pw.callEnd, Pw.back, Pw.retB, Pw.mMake, Pw.makeD, Pw.makeOn, Pw.makeEnd, Pw.mAttr, Pw.attrOut, Pw.noExn, Pw.mMethO, Pw.methO, Pw.mStatic, Pw.statOut, Pw.mIsi, Pw.isiOut, Pw.isD, Pw.mTup, Pw.mLst, Pw.mSetSub, Pw.subOut, Pw.mSetFld, Pw.fldOut, Pw.putD, Pw.Ct.toD, Pw.gtD, Pw.ltD, Pw.addD, Pw.subD, Pw.mulD, Pw.fdivD, Pw.modD, Pw.negD, Pw.absD, Pw.intD, Pw.lenD, Pw.mRaise, Pw.mJs, Pw.mFmt, Pw.fmtOut, Pw.idxA, Pw.isDctD, Pw.inA, Pw.notInA, Pw.lenA, Pw.isDcts, Pw.mulA, Pw.isLstD, Pw.listA, Pw.mChainI, Pw.mParF, Pw.mSetSubA, Pw.subOutA, Pw.mNewD, Pw.mWAny, Pw.wkStr, Pw.conV, Pw.dlenD, Pw.mMeth, Pw.methOut, Pw.isTy, Pw.mMut, Pw.mMut0, Pw.isLst, Pw.mutOut, Pw.gAppend, Pw.mLc, Pw.okOwn, Pw.lockE, Pw.unlockE, Pw.wipeE, Pw.restE, Pw.mYes, Pw.Out.bind_ok, nums_nil, nums_v, nums_o, mTold, k_Shape_3, h, cnS, tolS, nnS, z3]
theorem x14 {s : D} {size : Int} (h : f_sinit [Z0, .val s, I size, .val (.tup [])] = .exn (XSize size) [Z0, .val s, I size, .val (.tup [])]) :
    c_law_3_14 [S, FO fd, t2, .val s, t4, t5, t6, t7, t8, t9, I size, t11, t12, t13, t14] = .next [S, FO fd, t2, .val s, t4, t5, t6, t7, t8, t9, I size, t11, t12, t13, t14] := by
  simp [c_law_3_14, Pw.runF, Pw.startE, Pw.mSeq, Pw.mSkip, Pw.mExpr, Pw.mRet, Pw.mRetN, Pw.mIfS, Pw.mSet, Pw.setSlot, Pw.mPar, Pw.mPar3, Pw.mAsgT, Pw.tgOut_nm, Pw.tgOut_tp2, Pw.tgOut_tp3, Pw.tgSet_nm, Pw.tgSet_tp2, Pw.mCons, Pw.mNil, Pw.mC, Pw.mVar, Pw.mOp2, Pw.mOp, Pw.mUn, Pw.mUn2, Pw.unBoth, Pw.unOwn, Pw.unOut, Pw.opOut, Pw.opBoth, Pw.opOwn, Pw.opFind, Pw.resOut, Pw.opArgs, Pw.tyD, Pw.isObjR, Pw.mTst, Pw.mTru, Pw.truOut, Pw.truD, Pw.boolOut, Pw.mIf, Pw.mAndT, Pw.mOrT, Pw.mNotT, Pw.mAndV, Pw.mOrV, Pw.mNotV, Pw.norm, Pw.view, Pw.views, Pw.callOut, Pw.mCallB, Pw.mCallO, Pw.call1Both, Pw.chkAny, Pw.share, Pw.shareAll, Pw.putSlot, Pw.fs_val, Pw.fs_none, Pw.fs_own, Pw.retOut, Pw.mergeP, Pw.isOwn, Pw.mCall, Pw.callD, Pw.callOn, Pw.prep, Pw.prep1, Pw.agOk, Pw.penv, Pw.agSlot, Pw.callEnd, Pw.back, Pw.retB, Pw.mMake, Pw.makeD, Pw.makeOn, Pw.makeEnd, Pw.mAttr, Pw.attrOut, Pw.noExn, Pw.mMethO, Pw.methO, Pw.mStatic, Pw.statOut, Pw.mIsi, Pw.isiOut, Pw.isD, Pw.mTup, Pw.mLst, Pw.mSetSub, Pw.subOut, Pw.mSetFld, Pw.fldOut, Pw.putD, Pw.Ct.toD, Pw.gtD, Pw.ltD, Pw.addD, Pw.subD, Pw.mulD, Pw.fdivD, Pw.modD, Pw.negD, Pw.absD, Pw.intD, Pw.lenD, Pw.mRaise, Pw.mJs, Pw.mFmt, Pw.fmtOut, Pw.idxA, Pw.isDctD, Pw.inA, Pw.notInA, Pw.lenA, Pw.isDcts, Pw.mulA, Pw.isLstD, Pw.listA, Pw.mChainI, Pw.mParF, Pw.mSetSubA, Pw.subOutA, Pw.mNewD, Pw.mWAny, Pw.wkStr, Pw.conV, Pw.dlenD, Pw.mMeth, Pw.methOut, Pw.isTy, Pw.mMut, Pw.mMut0, Pw.isLst, Pw.mutOut, Pw.gAppend, Pw.mLc, Pw.okOwn, Pw.lockE, Pw.unlockE, Pw.wipeE, Pw.restE, Pw.mYes, Pw.Out.bind_ok, nums_nil, nums_v, nums_o, mTold, k_Shape_2, h, cnS, tolS, nnS, z3]
end
/-! ### valid relations -/
structure Good (ps : List (PySem.Str × Int)) : Prop where
  word : ∀ p ∈ ps, wordB p.1 LG 3 = true ∧ p.1.length ≤ 1000 ∧ PySem.PyData.strOk p.1 = true
  col : ∀ p ∈ ps, okCol p.2
  nodup : (ps.map (·.1)).Nodup
theorem bad_good : ∀ (ps : List (PySem.Str × Int)) (k : Nat) (seen rest : List (PySem.Str × Int)), k + ps.length ≤ 4 → (∀ p ∈ ps, wordB p.1 LG 3 = true) → (∀ p ∈ ps, okCol p.2) → ((seen ++ ps).map (·.1)).Nodup → bad k seen (ps ++ rest) = bad (k + ps.length) (seen ++ ps) rest
  | [], k, seen, rest, _, _, _, _ => by simp
  | p :: ps, k, seen, rest, h, hw, hc, hn => by
    simp only [List.length_cons] at h
    have h1 := hw p (by simp)
    have h2 : 1 ≤ p.2 ∧ p.2 ≤ 3 := by rcases hc p (by simp) with z | z | z <;> omega
    have h3 : p.1 ∉ seen.map (·.1) := by
      rw [List.map_append, List.map_cons, List.nodup_append] at hn
      intro hm
      exact hn.2.2 _ hm _ (by simp) rfl
    have hk : k ≠ 4 := by omega
    have q : okAt k seen p = true := by simp only [okAt, h1, decide_eq_true hk, decide_eq_false h3, decide_eq_true h2.1, decide_eq_true h2.2]; rfl
    have ih := bad_good ps (k + 1) (seen ++ [p]) rest (by omega) (fun x hx => hw x (by simp [hx])) (fun x hx => hc x (by simp [hx])) (by simpa using hn)
    rw [List.cons_append, bad, if_pos q, ih]
    simp only [List.append_assoc, List.cons_append, List.nil_append, List.length_cons]
    congr 1
    omega
theorem bad_none {ps : List (PySem.Str × Int)} (g : Good ps) (h : ps.length ≤ 4) : bad 0 [] ps = none := by
  have := bad_good ps 0 [] [] (by simpa using h) (fun p hp => (g.word p hp).1) g.col (by simpa using g.nodup)
  rw [List.append_nil] at this
  rw [this]; rfl
theorem Good.sub {ps qs : List (PySem.Str × Int)} (g : Good ps) (h : qs.Sublist ps) : Good qs := ⟨fun p hp => g.word p (h.subset hp), fun p hp => g.col p (h.subset hp), g.nodup.sublist (h.map _)⟩
theorem Good.perm {ps qs : List (PySem.Str × Int)} (g : Good ps) (h : qs.Perm ps) : Good qs := ⟨fun p hp => g.word p (h.mem_iff.mp hp), fun p hp => g.col p (h.mem_iff.mp hp), (h.map _).nodup_iff.mpr g.nodup⟩
theorem w8_ok : ∀ w ∈ W8, wordB w LG 3 = true ∧ w.length ≤ 1000 ∧ PySem.PyData.strOk w = true := by decide +kernel
theorem w8_nodup : W8.Nodup := by decide +kernel
theorem good_pairs {ps : List (PySem.Str × Int)} {ws : List PySem.Str} (h : (ps.map (·.1) ++ ws).Perm W8) (hc : ∀ p ∈ ps, okCol p.2) : Good ps :=
  ⟨fun p hp => w8_ok _ (h.mem_iff.mp (by simp; exact .inl ⟨_, hp⟩)), hc, (List.nodup_append.mp (h.nodup_iff.mpr w8_nodup)).1⟩

/-! ### rows refused -/
abbrev toG (r : Row) : GRow := (r.1, false, r.2)
theorem map_toG (rs : List Row) : (rs.map toG).map GD = rs.map RD := by
  rw [List.map_map]
  exact List.map_congr_left fun r _ => rfl
theorem row_odd {ps : List (PySem.Str × Int)} {m c : Int} {n : PySem.Str} {xs : List Int} (hc : colOf ps n = some c) (h : ¬ (xs.length : Int) = c ∨ ∃ x ∈ xs, ¬ (0 ≤ x ∧ x ≤ m - 1)) : okRow ps m n xs = false := by
  unfold okRow
  rw [hc]
  dsimp only
  rcases h with h | ⟨x, hx, h⟩
  · rw [decide_eq_false h]; rfl
  · have : okSpots m xs = false := by
      unfold okSpots
      rw [List.all_eq_false]
      refine ⟨x, hx, ?_⟩
      simp only [Bool.and_eq_true, decide_eq_true_eq]
      exact h
    rw [this, Bool.and_false]
theorem row_none {ps : List (PySem.Str × Int)} {m : Int} {n : PySem.Str} {xs : List Int} (hc : colOf ps n = none) : okRow ps m n xs = false := by
  unfold okRow
  rw [hc]
theorem odd_bad {ps : List (PySem.Str × Int)} {n : PySem.Str} {c m q : Int} (hc : colOf ps n = some c) (h1 : 1 ≤ c) (h2 : c ≤ 3) (hm : 0 ≤ m) (hq : 0 ≤ q) (hG : colOf ps "G" = none) (hE : colOf ps "" = none) :
    ∀ g ∈ O1 n c m ++ O2 n c m q ++ O3 n c, okRow ps m g.1 g.2.2 = false ∧ g.2.2.length ≤ 1000 := by
  intro g hg
  simp only [O1, O2, O3, List.cons_append, List.nil_append, List.mem_cons, List.not_mem_nil, or_false] at hg
  rcases hg with rfl | rfl | rfl | rfl | rfl | rfl | rfl | rfl
  · exact ⟨row_odd hc (.inl (by rw [List.length_replicate]; omega)), by show (List.replicate _ _).length ≤ 1000; rw [List.length_replicate]; omega⟩
  · exact ⟨row_odd hc (.inl (by simp; omega)), by simp⟩
  · exact ⟨row_none hG, by simp⟩
  · exact ⟨row_odd hc (.inr ⟨m, List.mem_replicate.mpr ⟨by omega, rfl⟩, by omega⟩), by show (List.replicate _ _).length ≤ 1000; rw [List.length_replicate]; omega⟩
  · exact ⟨row_none hE, by simp⟩
  · exact ⟨row_odd hc (.inr ⟨-1, by simp, by omega⟩), by show (List.replicate _ _ ++ [_]).length ≤ 1000; rw [List.length_append, List.length_replicate]; simp; omega⟩
  · exact ⟨row_odd hc (.inr ⟨m + q, List.mem_replicate.mpr ⟨by omega, rfl⟩, by omega⟩), by show (List.replicate _ _).length ≤ 1000; rw [List.length_replicate]; omega⟩
  · exact ⟨row_odd hc (.inl (by rw [List.length_replicate]; omega)), by show (List.replicate _ _).length ≤ 1000; rw [List.length_replicate]; omega⟩
theorem fb_good {ps : List (PySem.Str × Int)} {m : Int} : ∀ (rs : List Row) (k : Nat) (rest : List GRow), (∀ r ∈ rs, okRow ps m r.1 r.2 = true) → firstBad ps m k (rs.map toG ++ rest) = firstBad ps m (k + rs.length) rest
  | [], k, rest, _ => by simp
  | r :: rs, k, rest, h => by
    have ih := fb_good rs (k + 1) rest fun x hx => h x (by simp [hx])
    have h1 : okRow ps m (toG r).1 (toG r).2.2 = true := h r (by simp)
    rw [List.map_cons, List.cons_append, firstBad, if_pos h1, ih, List.length_cons]
    congr 1
    omega
theorem fb_mid {ps : List (PySem.Str × Int)} {m : Int} {rs : List Row} (h : ∀ r ∈ rs, okRow ps m r.1 r.2 = true) {a : Nat} (ha : a ≤ rs.length) {g : GRow} (hg : okRow ps m g.1 g.2.2 = false) : firstBad ps m 0 ((rs.take a).map toG ++ [g] ++ (rs.drop a).map toG) = some a := by
  have l1 : (rs.take a).length = a := by rw [List.length_take]; omega
  rw [List.append_assoc, fb_good _ _ _ fun x hx => h x (List.mem_of_mem_take hx), l1, Nat.zero_add, List.singleton_append, firstBad, if_neg (by rw [hg]; decide)]
theorem add_good : ∀ (rs seen : List Row), (seen ++ rs).Nodup → addAll seen (rs.map toG) = seen ++ rs
  | [], seen, _ => by simp [addAll]
  | r :: rs, seen, h => by
    have hr : r ∉ seen := fun z => by
      rw [List.nodup_append] at h
      exact h.2.2 r z r (by simp) rfl
    have e : addR seen (rowOf (toG r)) = seen ++ [r] := by
      show addR seen r = _
      unfold addR
      rw [if_neg hr]
    rw [List.map_cons, addAll, e, add_good rs (seen ++ [r]) (by simpa using h)]
    simp
theorem len_ok {ps : List (PySem.Str × Int)} {m : Int} (hcol : ∀ p ∈ ps, okCol p.2) {n : PySem.Str} {xs : List Int} (h : okRow ps m n xs = true) : xs.length ≤ 1000 := by
  unfold okRow at h
  cases hc : colOf ps n with
  | none => rw [hc] at h; cases h
  | some c =>
    rw [hc] at h
    have h1 := of_decide_eq_true (Bool.and_eq_true_iff.mp h).1
    unfold colOf at hc
    cases hf : ps.find? fun p => decide (p.1 = n) with
    | none => rw [hf] at hc; cases hc
    | some p =>
      rw [hf] at hc
      have hc' : p.2 = c := Option.some.inj hc
      have := hcol p (List.mem_of_find?_eq_some hf)
      rcases this with e | e | e <;> omega
theorem col_off {ps : List (PySem.Str × Int)} {ws : List PySem.Str} (h : (ps.map (·.1) ++ ws).Perm W8) {n : PySem.Str} (hn : n ∉ W8) : colOf ps n = none := by
  have e := col_some (ps := ps) (n := n)
  rw [decide_eq_false fun z => hn (h.mem_iff.mp (List.mem_append_left _ z))] at e
  cases q : colOf ps n with
  | none => rfl
  | some c => rw [q] at e; cases e
theorem offG : ("G" : PySem.Str) ∉ W8 := by decide +kernel
theorem offE : ("" : PySem.Str) ∉ W8 := by decide +kernel
end K07

set_option maxHeartbeats 8000000
/-! K07w: law k07 in plain Lean: the turn, the law. -/
namespace K07
open Pw Lw Lx Ly
theorem seq_at {x y : MS} {e e1 : En} (h : x e = .next e1) : mSeq x y e = y e1 := by
  show (x e).seq y = _
  rw [h]; rfl
theorem seq_ret {x y : MS} {e e1 : En} {r : RV} (h : x e = .ret r e1) : mSeq x y e = .ret r e1 := by
  show (x e).seq y = _
  rw [h]; rfl
theorem seq_next {b : MS} {e : En} : (SO.next e).seq b = b e := rfl
theorem p10_9 : okPow 10 9 := by decide
theorem dv9 : okDiv 1000000000 := by decide
structure Ps (ps : List (PySem.Str × Int)) : Prop where
  good : Good ps
  pos : 0 < ps.length
  le : ps.length ≤ 4
  offG : colOf ps "G" = none
  offE : colOf ps "" = none
/-- the frame at the head of a turn -/
def LI (S : Sv) (ps : List (PySem.Str × Int)) (e : En) : Prop := ∃ (fd : Ct) (H t4 t5 t6 t7 t8 t9 t10 t11 t12 t13 t14 : Sv), Fd fd ∧ (H = FO (schC ps) ∨ H = .val (schD ps)) ∧ Fr t4 ∧ Fr t5 ∧ Fr t6 ∧ Fr t7 ∧ Fr t8 ∧ Fr t9 ∧ Fr t10 ∧ Fr t11 ∧ Fr t12 ∧ Fr t13 ∧ Fr t14 ∧ e = [S, FO fd, rel ps, H, t4, t5, t6, t7, t8, t9, t10, t11, t12, t13, t14]
theorem body_at {S : Sv} {fd : Ct} {H d t5 t6 t7 t8 t9 t10 t11 t12 t13 t14 : Sv} {ps : List (PySem.Str × Int)} (P : Ps ps) (hf : Fd fd) (hH : H = FO (schC ps) ∨ H = .val (schD ps)) (h5 : Fr t5) (h6 : Fr t6) (h7 : Fr t7) (h8 : Fr t8) (h9 : Fr t9) (h10 : Fr t10) (h11 : Fr t11) (h12 : Fr t12) (h13 : Fr t13) (h14 : Fr t14) (hd : Fr d) :
    ∃ e', c_law_3b [S, FO fd, rel ps, H, d, t5, t6, t7, t8, t9, t10, t11, t12, t13, t14] = .next e' ∧ LI S ps e' := by
  have hn := P.good.nodup
  have hso : ∀ p ∈ ps, PySem.PyData.strOk p.1 = true := fun p hp => (P.good.word p hp).2.2
  have hcol := P.good.col
  have hp0 := P.pos
  have hp1 := P.le
  obtain ⟨d0, fd1, m0, hf1, e0⟩ := v_any hf [.int 0, .int 1, .int 3, .int 60] (by decide) (by decide)
  obtain ⟨nodes, rfl, hm0, hm1⟩ : ∃ nodes : Int, d0 = .int nodes ∧ 0 ≤ nodes ∧ nodes ≤ 60 := by
    simp only [List.mem_cons, List.not_mem_nil, or_false] at m0
    rcases m0 with rfl | rfl | rfl | rfl
    · exact ⟨0, rfl, by decide, by decide⟩
    · exact ⟨1, rfl, by decide, by decide⟩
    · exact ⟨3, rfl, by decide, by decide⟩
    · exact ⟨60, rfl, by decide, by decide⟩
  obtain ⟨rs, fd2, hf2, k1, k2, k3, k4, e1⟩ := v_lrows hn hso hcol hp0 (by omega) hm0 (show nodes ≤ 1000 by omega) (top := 6) (by decide) (by decide) hf1
  have hrl : rs.length ≤ 6 := by omega
  obtain ⟨d2, fd3, m2, hf3, e2⟩ := v_any hf2 (ps.map P2) (by rw [List.length_map]; exact hp0) (by rw [List.length_map]; omega)
  obtain ⟨p, hp, rfl⟩ := List.mem_map.mp m2
  obtain ⟨n, c⟩ := p
  have hc : colOf ps n = some c := col_nodup hn hp
  have hc3 : 1 ≤ c ∧ c ≤ 3 := by rcases hcol _ hp with e | e | e <;> dsimp only at e <;> omega
  obtain ⟨q, fd4, q0, q1, hf4, e4⟩ := v_draw hf3 (many := 1000000000) (by decide) dv9
  have ho := odd_bad (m := nodes) (q := q) hc hc3.1 hc3.2 hm0 q0 P.offG P.offE
  have hol : (O1 n c nodes ++ O2 n c nodes q ++ O3 n c).length = 8 := rfl
  generalize hod : O1 n c nodes ++ O2 n c nodes q ++ O3 n c = od at ho hol
  obtain ⟨d6, fd5, m6, hf5, e5⟩ := v_any hf4 (od.map GD) (by rw [List.length_map]; omega) (by rw [List.length_map]; omega)
  obtain ⟨g, hg, rfl⟩ := List.mem_map.mp m6
  have hb := ho g hg
  have lm : (rs.map RD).length = rs.length := List.length_map _
  obtain ⟨a, fd6, a0, a1, hf6, e6⟩ := v_draw hf5 (many := ((rs.map RD).length : Int) + 1) (by omega) (by
    have := okDiv_nat (n := (rs.map RD).length + 1) (by omega) (by omega)
    simpa using this)
  obtain ⟨k, rfl⟩ := Int.eq_ofNat_of_zero_le a0
  have hk : k ≤ rs.length := by omega
  have eb : (rs.map RD).take k ++ [GD g] ++ (rs.map RD).drop k = ((rs.take k).map toG ++ [g] ++ (rs.drop k).map toG).map GD := by
    rw [List.map_append, List.map_append, map_toG, map_toG, List.map_take, List.map_drop]
    rfl
  have hwl : ∀ r ∈ (rs.take k).map toG ++ [g] ++ (rs.drop k).map toG, r.2.2.length ≤ 1000 := fun r hr => by
    simp only [List.append_assoc, List.mem_append, List.mem_map, List.mem_singleton] at hr
    rcases hr with ⟨x, hx, rfl⟩ | rfl | ⟨x, hx, rfl⟩
    · exact len_ok hcol (k2 x (List.mem_of_mem_take hx))
    · exact hb.2
    · exact len_ok hcol (k2 x (List.mem_of_mem_drop hx))
  have hws : ((rs.take k).map toG ++ [g] ++ (rs.drop k).map toG).length ≤ 900 := by
    simp only [List.length_append, List.length_map, List.length_take, List.length_drop, List.length_cons, List.length_nil]; omega
  have fb := fb_mid (a := k) k2 hk hb.1
  have i8 := v_sinit_bad (nodes := nodes) hso ⟨hm0, hm1⟩ hwl hws fb
  have fg : firstBad ps nodes 0 (rs.map toG) = none := by
    have := fb_good rs 0 [] k2
    rw [List.append_nil] at this
    exact this
  have i9 := v_sinit_ok (nodes := nodes) hso ⟨hm0, hm1⟩ (gs := rs.map toG) (fun r hr => by
    obtain ⟨x, hx, rfl⟩ := List.mem_map.mp hr
    exact len_ok hcol (k2 x hx)) (by rw [List.length_map]; omega) fg
  rw [add_good rs [] (by simpa using k3), List.nil_append] at i9
  have i10 := v_with_bad (seen := rs) hwl fb
  simp only [grs, map_toG] at i9
  simp only [grs] at i8 i10
  generalize hwr : ((rs.take k).map toG ++ [g] ++ (rs.drop k).map toG).map GD = wr at i8 i10 eb
  have hrow : ∀ r ∈ sortR rs, PySem.PyData.strOk r.1 = true ∧ r.2.length ≤ 1000 := fun r hr => by
    rw [k4] at hr
    exact ⟨ok_name hso (k2 r hr), len_ok hcol (k2 r hr)⟩
  have hsl : (sortR rs).length ≤ 1000 := by rw [k4]; omega
  have i11 := v_is_shape (nodes := nodes) (seen := rs) hn (like_key hsl hrow) (like_rows hsl hrow)
  have i11' : f__law_is_shape [.val (shD ps nodes rs), .val (schD ps), .val (.tup [.int nodes, .tup (rs.map RD)])] = .ok (.val (.bl true)) [.val (shD ps nodes rs), .val (schD ps), .val (.tup [.int nodes, .tup (rs.map RD)])] := by
    have : (.tup [.int nodes, .tup (rs.map RD)] : D) = keyD nodes (sortR rs) := by rw [k4]
    rw [this]
    exact i11
  obtain ⟨u1, fd7, u10, u11, hf7, e7⟩ := v_draw hf6 (many := 1000000000) (by decide) dv9
  obtain ⟨u2, fd8, u20, u21, hf8, e8⟩ := v_draw hf7 (many := 1000000000) (by decide) dv9
  obtain ⟨d9, fd9, m9, hf9, e9⟩ := v_any hf8 [.int 61, .int (-1), .int (62 + u1), .int (-2 - u2)] (by simp) (by simp)
  obtain ⟨size, rfl, hsz⟩ : ∃ size : Int, d9 = .int size ∧ ¬ (0 ≤ size ∧ size ≤ 60) := by
    simp only [List.mem_cons, List.not_mem_nil, or_false] at m9
    rcases m9 with rfl | rfl | rfl | rfl
    · exact ⟨61, rfl, by omega⟩
    · exact ⟨-1, rfl, by omega⟩
    · exact ⟨62 + u1, rfl, by omega⟩
    · exact ⟨-2 - u2, rfl, by omega⟩
  have i13 := v_sinit_size (p := schD ps) (r := .lst wr) hsz
  have i14 := v_sinit_size (p := schD ps) (r := .tup []) hsz
  have g7 := x7 (S := S) (fd := fd6) (t2 := rel ps) (t3 := H) (t4 := d) (t5 := I nodes) (t7 := .val (.lst (od.map GD))) (t8 := t8) (t9 := t9) (t10 := t10) (t11 := .val (.str n)) (t12 := I c) (ds := rs.map RD) (d := GD g) (a := (k : Int)) (by omega) (by omega) h8
  rw [Int.toNat_natCast, eb] at g7
  have g5 := x5 (S := S) (fd := fd4) (t2 := rel ps) (t3 := H) (t4 := d) (t5 := I nodes) (t6 := OW (rs.map RD)) (t8 := t8) (t9 := t9) (t10 := t10) (n := n) (c := c) (m := nodes) (q := q) (t13 := t13) (t14 := t14) (by omega) (by omega)
  rw [hod] at g5
  refine ⟨[S, FO fd9, rel ps, .val (schD ps), d, I nodes, .val (.lst (rs.map RD)), .val (.lst (od.map GD)), .val (.lst wr), .val (shD ps nodes rs), I size, .val (.str n), I c, .val (GD g), I k], ?_, fd9, _, _, _, _, _, _, _, _, _, _, _, _, hf9, .inr rfl, hd, rfl, rfl, rfl, rfl, rfl, rfl, rfl, rfl, rfl, rfl, rfl⟩
  unfold c_law_3b
  rw [seq_at (x0 e0 h5), seq_at (x1 e1 h6), seq_at (x2 e2 h11 h12), seq_at (x3 (by omega) (by omega) h7), seq_at (x4 (by omega) (by omega) p10_9 e4), seq_at g5, seq_at (x6 e5 e6 h13 h14), seq_at g7, seq_at (x8 hH i8), seq_at (x9 i9 h9), seq_at (x10 i10), seq_at (x11 i11'), seq_at (x12 p10_9 e7 e8 e9 h10), seq_at (x13 i13), seq_at (x14 i14)]
  rfl
theorem turn_law {S : Sv} {ps : List (PySem.Str × Int)} (P : Ps ps) {e : En} (h : LI S ps e) (d : D) : ∃ e', turnF (.nm 4) c_law_3b d e = .next e' ∧ LI S ps e' := by
  obtain ⟨fd, H, t4, t5, t6, t7, t8, t9, t10, t11, t12, t13, t14, hf, hH, h4, h5, h6, h7, h8, h9, h10, h11, h12, h13, h14, rfl⟩ := h
  obtain ⟨e', h1, h2⟩ := body_at (S := S) (d := .val d) P hf hH h5 h6 h7 h8 h9 h10 h11 h12 h13 h14 rfl
  refine ⟨e', ?_, h2⟩
  rw [turnF_at]
  have hp : tgOut (.nm 4) d [S, FO fd, rel ps, H, t4, t5, t6, t7, t8, t9, t10, t11, t12, t13, t14] = .next [S, FO fd, rel ps, H, .val d, t5, t6, t7, t8, t9, t10, t11, t12, t13, t14] := by
    rw [tgOut_nm, putSlot, if_pos (show freeSlot ([S, FO fd, rel ps, H, t4, t5, t6, t7, t8, t9, t10, t11, t12, t13, t14] : En)[4]? = true from h4)]
    rfl
  rw [hp, seq_next, h1]
theorem loop_law {S : Sv} {ps : List (PySem.Str × Int)} (P : Ps ps) : ∀ (ds : List D) (e : En), LI S ps e → ∃ e', forL (turnF (.nm 4) c_law_3b) ds e = .next e' ∧ LI S ps e'
  | [], e, h => ⟨e, by simp [forL], h⟩
  | d :: ds, e, h => by
    obtain ⟨e1, h1, h2⟩ := turn_law P h d
    obtain ⟨e2, h3, h4⟩ := loop_law P ds e1 h2
    exact ⟨e2, by rw [forL_next h1]; exact h3, h4⟩
theorem w3 {e e' : En} (h : forL (turnF (.nm 4) c_law_3b) (rngD 0 3) e = .next e') : c_law_3 e = .next e' := by
  have ok : okRng 3 := by decide
  have e3 : (3 : Int).toNat = 3 := rfl
  simp [c_law_3, Pw.runF, Pw.startE, Pw.mSeq, Pw.mSkip, Pw.mExpr, Pw.mRet, Pw.mRetN, Pw.mIfS, Pw.mSet, Pw.setSlot, Pw.mPar, Pw.mPar3, Pw.mAsgT, Pw.tgOut_nm, Pw.tgOut_tp2, Pw.tgOut_tp3, Pw.tgSet_nm, Pw.tgSet_tp2, Pw.mCons, Pw.mNil, Pw.mC, Pw.mVar, Pw.mOp2, Pw.mOp, Pw.mUn, Pw.mUn2, Pw.unBoth, Pw.unOwn, Pw.unOut, Pw.opOut, Pw.opBoth, Pw.opOwn, Pw.opFind, Pw.resOut, Pw.opArgs, Pw.tyD, Pw.isObjR, Pw.mTst, Pw.mTru, Pw.truOut, Pw.truD, Pw.boolOut, Pw.mIf, Pw.mAndT, Pw.mOrT, Pw.mNotT, Pw.mAndV, Pw.mOrV, Pw.mNotV, Pw.norm, Pw.view, Pw.views, Pw.callOut, Pw.mCallB, Pw.mCallO, Pw.call1Both, Pw.chkAny, Pw.share, Pw.shareAll, Pw.putSlot, Pw.fs_val, Pw.fs_none, Pw.fs_own, Pw.retOut, Pw.mergeP, Pw.isOwn, Pw.mCall, Pw.callD, Pw.callOn, Pw.prep, Pw.prep1, Pw.agOk, Pw.penv, Pw.agSlot, Pw.callEnd, Pw.back, Pw.retB, Pw.mMake, Pw.makeD, Pw.makeOn, Pw.makeEnd, Pw.mAttr, Pw.attrOut, Pw.noExn, Pw.mMethO, Pw.methO, Pw.mStatic, Pw.statOut, Pw.mIsi, Pw.isiOut, Pw.isD, Pw.mTup, Pw.mLst, Pw.mSetSub, Pw.subOut, Pw.mSetFld, Pw.fldOut, Pw.putD, Pw.Ct.toD, Pw.gtD, Pw.ltD, Pw.addD, Pw.subD, Pw.mulD, Pw.fdivD, Pw.modD, Pw.negD, Pw.absD, Pw.intD, Pw.lenD, Pw.mRaise, Pw.mJs, Pw.mFmt, Pw.fmtOut, Pw.idxA, Pw.isDctD, Pw.inA, Pw.notInA, Pw.lenA, Pw.isDcts, Pw.mulA, Pw.isLstD, Pw.listA, Pw.mChainI, Pw.mParF, Pw.mSetSubA, Pw.subOutA, Pw.mNewD, Pw.mWAny, Pw.wkStr, Pw.conV, Pw.dlenD, Pw.mMeth, Pw.methOut, Pw.isTy, Pw.mMut, Pw.mMut0, Pw.isLst, Pw.mutOut, Pw.gAppend, Pw.mLc, Pw.okOwn, Pw.lockE, Pw.unlockE, Pw.wipeE, Pw.restE, Pw.mYes, Pw.Out.bind_ok, nums_nil, nums_v, nums_o, mWRng1, rngOut1, ok, mFor_eq, SO.mapE, e3, h]
theorem v_law (ns : List Int) (hn : ns.length ≤ 63) : f_law [.val (.scr ns)] = .ok (.val (.bl true)) [.val (.scr ns)] := by
  obtain ⟨fd, hf, e0⟩ := v_feed ns hn
  obtain ⟨ps, ws, fd1, hf1, p1, p2, p3, p4, e1⟩ := v_pairs hf (top := 4) (by decide) (by decide)
  have g := good_pairs p3 p4
  have P : Ps ps := ⟨g, by omega, by omega, col_off p3 offG, col_off p3 offE⟩
  have i2 := v_init_ok ps (fun p hp => (g.word p hp).2.1) (by omega) (fun z => by subst z; simp at p1) (bad_none g (by omega))
  obtain ⟨e', h1, fd9, H, t4, t5, t6, t7, t8, t9, t10, t11, t12, t13, t14, _, _, _, _, _, _, _, _, _, _, _, _, _, rfl⟩ := loop_law (S := .val (.scr ns)) P (rngD 0 3) [.val (.scr ns), FO fd1, rel ps, FO (schC ps), .none, .none, .none, .none, .none, .none, .none, .none, .none, .none, .none] ⟨fd1, _, _, _, _, _, _, _, _, _, _, _, _, hf1, .inl rfl, rfl, rfl, rfl, rfl, rfl, rfl, rfl, rfl, rfl, rfl, rfl, rfl⟩
  have hm : m_law (startE N_law.length [.val (.scr ns)]) = .ret (.val (.bl true)) [.val (.scr ns), FO fd9, rel ps, H, t4, t5, t6, t7, t8, t9, t10, t11, t12, t13, t14] := by
    rw [c_law_eq]
    show (mSeq c_law_0 _) [.val (.scr ns), .none, .none, .none, .none, .none, .none, .none, .none, .none, .none, .none, .none, .none, .none] = _
    rw [seq_at (w0 e0), seq_at (w1 e1 rfl), seq_at (w2 i2 rfl), seq_at (w3 h1)]
    exact seq_ret (by simp [c_law_4, Pw.runF, Pw.startE, Pw.mSeq, Pw.mSkip, Pw.mExpr, Pw.mRet, Pw.mRetN, Pw.mIfS, Pw.mSet, Pw.setSlot, Pw.mPar, Pw.mPar3, Pw.mAsgT, Pw.tgOut_nm, Pw.tgOut_tp2, Pw.tgOut_tp3, Pw.tgSet_nm, Pw.tgSet_tp2, Pw.mCons, Pw.mNil, Pw.mC, Pw.mVar, Pw.mOp2, Pw.mOp, Pw.mUn, Pw.mUn2, Pw.unBoth, Pw.unOwn, Pw.unOut, Pw.opOut, Pw.opBoth, Pw.opOwn, Pw.opFind, Pw.resOut, Pw.opArgs, Pw.tyD, Pw.isObjR, Pw.mTst, Pw.mTru, Pw.truOut, Pw.truD, Pw.boolOut, Pw.mIf, Pw.mAndT, Pw.mOrT, Pw.mNotT, Pw.mAndV, Pw.mOrV, Pw.mNotV, Pw.norm, Pw.view, Pw.views, Pw.callOut, Pw.mCallB, Pw.mCallO, Pw.call1Both, Pw.chkAny, Pw.share, Pw.shareAll, Pw.putSlot, Pw.fs_val, Pw.fs_none, Pw.fs_own, Pw.retOut, Pw.mergeP, Pw.isOwn, Pw.mCall, Pw.callD, Pw.callOn, Pw.prep, Pw.prep1, Pw.agOk, Pw.penv, Pw.agSlot, Pw.callEnd, Pw.back, Pw.retB, Pw.mMake, Pw.makeD, Pw.makeOn, Pw.makeEnd, Pw.mAttr, Pw.attrOut, Pw.noExn, Pw.mMethO, Pw.methO, Pw.mStatic, Pw.statOut, Pw.mIsi, Pw.isiOut, Pw.isD, Pw.mTup, Pw.mLst, Pw.mSetSub, Pw.subOut, Pw.mSetFld, Pw.fldOut, Pw.putD, Pw.Ct.toD, Pw.gtD, Pw.ltD, Pw.addD, Pw.subD, Pw.mulD, Pw.fdivD, Pw.modD, Pw.negD, Pw.absD, Pw.intD, Pw.lenD, Pw.mRaise, Pw.mJs, Pw.mFmt, Pw.fmtOut, Pw.idxA, Pw.isDctD, Pw.inA, Pw.notInA, Pw.lenA, Pw.isDcts, Pw.mulA, Pw.isLstD, Pw.listA, Pw.mChainI, Pw.mParF, Pw.mSetSubA, Pw.subOutA, Pw.mNewD, Pw.mWAny, Pw.wkStr, Pw.conV, Pw.dlenD, Pw.mMeth, Pw.methOut, Pw.isTy, Pw.mMut, Pw.mMut0, Pw.isLst, Pw.mutOut, Pw.gAppend, Pw.mLc, Pw.okOwn, Pw.lockE, Pw.unlockE, Pw.wipeE, Pw.restE, Pw.mYes, Pw.Out.bind_ok])
  unfold f_law runF
  rw [hm]
  rfl
end K07

set_option maxHeartbeats 0
open PySem PySem.W PySem.Calls PyProof.Rows
theorem K07.run (w : World) : HandSHeadRun.RunEq K07.rowA (PySem.W.view K07.rowA.prog [28]) K07.hk K07.ob 9000 K07.loose w := by
  intro os
  kernel_rfl
theorem PySem.Challenge.cw_countgives_k07_shapes_refused_holds : PySem.Challenge.rw_countgives_k07_shapes_refused.Holds := by
  w_on; o_law
  refine HandSHeadRun.head_any (r := K07.rowA) (q := view K07.rowA.prog [28]) (H := K07.hk) (ob := K07.ob) (M := 9000) (loose := K07.loose) (d := HandSHeadRun.topDef K07.rowA.prog 28) (kwd := []) K07.ob_eq
    (by kernel_rfl) (fun s => by kernel_rfl) K07.run (by kernel_rfl) (by kernel_rfl) (by kernel_rfl) (by rfl) (by first | assumption | decide +kernel) (by decide +kernel) ⟨rfl, rfl, rfl, rfl, rfl, by decide +kernel⟩ ?hw ?hc
  case hw => w_witness2
  case hc => exact Pw.end_walkT (l := PySem.Challenge.rw_countgives_k07_shapes_refused) (k := 53) (x := "_law_script") (ca := K07.cad) (fn := K07.f_law) (tf := K07.tf) rfl (by kernel_rfl) ⟨rfl, by decide, by decide⟩ (by kernel_rfl) (fun _ _ => rfl) K07.glo_law (fun w K h mg => K07.asm) fun ns hn _ => K07.v_law ns hn

