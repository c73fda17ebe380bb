import PyProof.Rows.All
import Wide.All
import OpenK.AllK
import Wide.FinOn
import HandS.ForMost
import HandS.HeadHook1
import HandS.TupAny
import HandS.Flow
import HandS.Deep
import HandS.Style
import HandS.More
import HandS.ForExc
import HandS.Defaults
import HandS.CallSlots
import HandS.Property
import HandS.Star
import HandS.Small
import HandS.NoneIn
import KE.KUnpackStar
import HandS.IsInst
import HandS.Strs
import HandS.SetIn
import HandS.Zip
import KE.GoesEnum
import HandS.Conv
import HandS.RevRange
import KE.KStateDown
import Lean
import HandS.Base
import HandS.Call
import HandS.Ends
import HandS.Words
import HandS.WordsExc
import HandS.Head0
import HandS.Head1
import HandS.Head2
import HandS.HeadEnd
import HandS.EndBits
import HandS.HeadHook2
import PyProof.ReprBulk
import PySem.Challenge.RW_sworntypes_k14_forms_of_hooks
set_option Elab.async false
set_option linter.all false
set_option maxRecDepth 100000
set_option maxHeartbeats 4000000
/-! Y1: plain data D, a store of mutable cells, how the hand layer's heap bears them. -/
namespace Y
open PySem PySem.Spec PyProof.Rows L2

/-- plain data; cell n: a mutable object of the store; adr: a class or def of the module -/
inductive D where
  | non | bl (b : Bool) | int (i : Int) | str (x : Str)
  | lst (xs : List D) | tup (xs : List D) | xl (xs : List D) | xt (xs : List D)
  | dic (kvs : List (D × D)) | dit (kvs : List (D × D))
  | cell (n : Nat) | adr (a : Addr) | ty (n : String)
  | glo (x : Str) | obj (c : Str) (fs : List (Str × D))
  deriving Inhabited
/-- a mutable object; an instance with its class's name -/
inductive O where
  | lst (xs : List D) | dic (kvs : List (D × D)) | dit (kvs : List (D × D)) | ins (c : Str) (fs : List (Str × D))
  | dicl (ob : Obj) (vs : List (Key × V)) (kvs : List (D × D))
  deriving Inhabited
abbrev S := Nat → Option O
def S.set (s : S) (n : Nat) (o : O) : S := fun m => if m = n then some o else s m
def S.del (s : S) (n : Nat) : S := fun m => if m = n then none else s m
theorem S.set_same {s : S} {n : Nat} {o : O} : s.set n o n = some o := by unfold S.set; rw [if_pos rfl]
theorem S.set_ne {s : S} {n m : Nat} {o : O} (h : m ≠ n) : s.set n o m = s m := by unfold S.set; rw [if_neg h]
theorem S.del_same {s : S} {n : Nat} : s.del n n = none := by unfold S.del; rw [if_pos rfl]
theorem S.del_ne {s : S} {n m : Nat} (h : m ≠ n) : s.del n m = s m := by unfold S.del; rw [if_neg h]
theorem S.set_set {s : S} {n : Nat} {o u : O} : (s.set n o).set n u = s.set n u := by
  funext m; unfold S.set; split <;> rfl
/-- which addresses are settled for good, which are held as they stand for someone around, where the cells stand -/
structure Wd where
  F : Addr → Prop
  Z : Addr → Prop
  r : Nat → Option Addr
  nx : Nat
def core : HO → HO
  | .frz _ (.dK k) => .dK k
  | .frz _ (.dT k) => .dT k
  | o => o
/-- it stays; or a dict was locked -/
def Kp (o o' : Option HO) : Prop := o' = o ∨ ∃ ob u, o = some u ∧ o' = some (.frz ob u) ∧ core (.frz ob u) = u
theorem Kp.of {o o' : Option HO} (h : o' = o) : Kp o o' := .inl h
theorem Kp.core {o o' : Option HO} (h : Kp o o') : o'.map Y.core = o.map Y.core := by
  rcases h with h | ⟨ob, u, h1, h2, h3⟩
  · rw [h]
  · rw [h1, h2]
    show some (Y.core (.frz ob u)) = some (Y.core u)
    rw [h3]
    cases u with
    | dK k => rfl
    | dT k => rfl
    | _ => cases h3
theorem Kp.trans {o o' o2 : Option HO} (h : Kp o o') (h' : Kp o' o2) : Kp o o2 := by
  rcases h with h | ⟨ob, u, h1, h2, h3⟩
  · subst h; exact h'
  · rcases h' with h' | ⟨ob', u', q1, q2, q3⟩
    · exact .inr ⟨ob, u, h1, h'.trans h2, h3⟩
    · rw [h2] at q1
      cases q1
      cases q3
theorem Kp.frz {o o' : Option HO} {ob : Obj} {u : HO} (h : Kp o o') (e : o = some (.frz ob u)) : o' = some (.frz ob u) := by
  rcases h with h | ⟨ob', u', h1, h2, h3⟩
  · rw [h, e]
  · rw [e] at h1
    cases h1
    cases h3
def Keep (W : Wd) (H H' : Hp) : Prop := ∀ a, W.F a → Kp (H a) (H' a)
structure Sub (W : Wd) (H : Hp) (W' : Wd) (H' : Hp) : Prop where
  f : ∀ a, W.F a → W'.F a
  r : ∀ n a, W.r n = some a → W'.r n = some a
  k : Keep W H H'
structure Ext (W : Wd) (H : Hp) (W' : Wd) (H' : Hp) : Prop extends Sub W H W' H' where
  z : W'.Z = W.Z
  kz : ∀ a, W.Z a → H' a = H a
theorem Ext.refl (W : Wd) (H : Hp) : Ext W H W H := ⟨⟨fun _ h => h, fun _ _ h => h, fun _ _ => Kp.of rfl⟩, rfl, fun _ _ => rfl⟩
theorem Ext.trans {W W1 W2 : Wd} {H H1 H2 : Hp} (a : Ext W H W1 H1) (b : Ext W1 H1 W2 H2) : Ext W H W2 H2 :=
  ⟨⟨fun x h => b.f x (a.f x h), fun n x h => b.r n x (a.r n x h), fun x h => (a.k x h).trans (b.k x (a.f x h))⟩, b.z.trans a.z, fun x h => (b.kz x (by rw [a.z]; exact h)).trans (a.kz x h)⟩
theorem core_lst {o : Option HO} {xs : List V} (h : o.map core = some (.lst xs)) : o = some (.lst xs) := by
  cases o with
  | none => cases h
  | some u =>
    have h' : core u = .lst xs := Option.some.inj h
    cases u with
    | frz o u => cases u <;> cases h'
    | _ => exact congrArg some h'
theorem core_tup {o : Option HO} {xs : List V} (h : o.map core = some (.tup xs)) : o = some (.tup xs) := by
  cases o with
  | none => cases h
  | some u =>
    have h' : core u = .tup xs := Option.some.inj h
    cases u with
    | frz o u => cases u <;> cases h'
    | _ => exact congrArg some h'
theorem core_frzl {o : Option HO} {ob : Obj} {xs : List V} (h : o.map core = some (.frz ob (.lst xs))) : o = some (.frz ob (.lst xs)) := by
  cases o with
  | none => cases h
  | some u =>
    have h' : core u = .frz ob (.lst xs) := Option.some.inj h
    cases u with
    | frz o u => cases u <;> first | (cases h'; done) | (cases h'; rfl)
    | _ => cases h'
theorem Keep.lst {W : Wd} {H H' : Hp} {a : Addr} {xs : List V} (k : Keep W H H') (f : W.F a) (h : H a = some (.lst xs)) : H' a = some (.lst xs) :=
  core_lst ((k a f).core.trans (by rw [h]; rfl))
theorem Keep.tup {W : Wd} {H H' : Hp} {a : Addr} {xs : List V} (k : Keep W H H') (f : W.F a) (h : H a = some (.tup xs)) : H' a = some (.tup xs) :=
  core_tup ((k a f).core.trans (by rw [h]; rfl))
theorem Keep.frzl {W : Wd} {H H' : Hp} {a : Addr} {ob : Obj} {xs : List V} (k : Keep W H H') (f : W.F a) (h : H a = some (.frz ob (.lst xs))) : H' a = some (.frz ob (.lst xs)) :=
  core_frzl ((k a f).core.trans (by rw [h]; rfl))

theorem core_ins {o : Option HO} {C dx : Addr} {fs : List (Str × V)} (h : o.map core = some (.ins C dx fs)) : o = some (.ins C dx fs) := by
  cases o with
  | none => cases h
  | some u =>
    have h' : core u = .ins C dx fs := Option.some.inj h
    cases u with
    | frz o u => cases u <;> cases h'
    | _ => exact congrArg some h'
theorem Keep.ins {W : Wd} {H H' : Hp} {a C dx : Addr} {fs : List (Str × V)} (k : Keep W H H') (f : W.F a) (h : H a = some (.ins C dx fs)) : H' a = some (.ins C dx fs) :=
  core_ins ((k a f).core.trans (by rw [h]; rfl))

/-- what is known of a class of the module -/
structure CI (K : PySem.W.Frag) (c : Str) : Prop where
  cl : Cls K (He.ga K c)
  ha : PySem.W.findIn K (.ref (He.ga K c)) "__class__" = some (some (.builtin "object.__class__"))
  hn : PySem.W.specialIn K (.builtin "object.__class__") "__get__" = some (some (.builtin "getset_descriptor.__get__"))
  ht : PySem.W.takesIn K (.builtin "object.__class__") = some true
  hm : PySem.W.mroIn K (He.ga K c) (.type "object") = some true
/-- its names are no attributes of the class -/
def NA (K : PySem.W.Frag) (c : Str) (fs : List (Str × D)) : Prop := ∀ p ∈ fs, NoAttr K (He.ga K c) p.1
/-- a key as data -/
def kD : Key → D
  | .inl i => .int i
  | .inr x => .str x
/-- a list, a tuple that stands for good from outside -/
def XL (K : PySem.W.Frag) (W : Wd) (H : Hp) (a : Addr) (vs : List V) : Prop := (W.F a ∧ (H a = some (.lst vs) ∨ ∃ o, H a = some (.frz o (.lst vs)))) ∨ SqL K (fun _ => none) a vs
def XT (K : PySem.W.Frag) (W : Wd) (H : Hp) (a : Addr) (vs : List V) : Prop := (W.F a ∧ H a = some (.tup vs)) ∨ SqT K (fun _ => none) a vs
mutual
/-- at the heap H the value v stands for the data d -/
inductive Rep (K : PySem.W.Frag) (W : Wd) (H : Hp) : V → D → Prop
  | non : Rep K W H .non .non
  | bl (b : Bool) : Rep K W H (.bl b) (.bl b)
  | int (i : Int) : Rep K W H (.int i) (.int i)
  | str (x : Str) : Rep K W H (.str x) (.str x)
  | lst {a : Addr} {vs : List V} {ds : List D} : W.F a → H a = some (.lst vs) → Reps K W H vs ds → Rep K W H (.ref a) (.lst ds)
  | tup {a : Addr} {vs : List V} {ds : List D} : W.F a → H a = some (.tup vs) → Reps K W H vs ds → Rep K W H (.ref a) (.tup ds)
  | xl {a : Addr} {vs : List V} {ds : List D} : XL K W H a vs → Reps K W H vs ds → Rep K W H (.ref a) (.xl ds)
  | xt {a : Addr} {vs : List V} {ds : List D} : XT K W H a vs → Reps K W H vs ds → Rep K W H (.ref a) (.xt ds)
  | dK {a : Addr} {kvs : List (Key × V)} {ds : List (D × D)} : W.F a → (H a).map core = some (.dK kvs) → RepK K W H kvs ds → Rep K W H (.ref a) (.dic ds)
  | dT {a : Addr} {kvs : List (List Key × V)} {ds : List (D × D)} : W.F a → (H a).map core = some (.dT kvs) → RepT K W H kvs ds → Rep K W H (.ref a) (.dit ds)
  | cell {n : Nat} {a : Addr} : W.r n = some a → Rep K W H (.ref a) (.cell n)
  | adr (a : Addr) : Rep K W H (.ref a) (.adr a)
  | ty (n : String) : Rep K W H (.ty n) (.ty n)
  | glo (x : Str) : Rep K W H (.ref (He.ga K x)) (.glo x)
  | obj {a dx : Addr} {c : Str} {fv : List (Str × V)} {fs : List (Str × D)} : W.F a → H a = some (.ins (He.ga K c) dx fv) → RepF K W H fv fs → CI K c → NA K c fs → Rep K W H (.ref a) (.obj c fs)
inductive Reps (K : PySem.W.Frag) (W : Wd) (H : Hp) : List V → List D → Prop
  | nil : Reps K W H [] []
  | cons {v : V} {vs : List V} {d : D} {ds : List D} : Rep K W H v d → Reps K W H vs ds → Reps K W H (v :: vs) (d :: ds)
inductive RepK (K : PySem.W.Frag) (W : Wd) (H : Hp) : List (Key × V) → List (D × D) → Prop
  | nil : RepK K W H [] []
  | cons {k : Key} {v : V} {d : D} {kvs : List (Key × V)} {ds : List (D × D)} : Rep K W H v d → RepK K W H kvs ds → RepK K W H ((k, v) :: kvs) ((kD k, d) :: ds)
inductive RepT (K : PySem.W.Frag) (W : Wd) (H : Hp) : List (List Key × V) → List (D × D) → Prop
  | nil : RepT K W H [] []
  | cons {k : List Key} {v : V} {d : D} {kvs : List (List Key × V)} {ds : List (D × D)} : Rep K W H v d → RepT K W H kvs ds → RepT K W H ((k, v) :: kvs) ((.tup (k.map kD), d) :: ds)
inductive RepF (K : PySem.W.Frag) (W : Wd) (H : Hp) : List (Str × V) → List (Str × D) → Prop
  | nil : RepF K W H [] []
  | cons {f : Str} {v : V} {d : D} {fv : List (Str × V)} {fs : List (Str × D)} : Rep K W H v d → RepF K W H fv fs → RepF K W H ((f, v) :: fv) ((f, d) :: fs)
end
def RepO (K : PySem.W.Frag) (W : Wd) (H : Hp) (a : Addr) : O → Prop
  | .lst ds => ∃ vs, H a = some (.lst vs) ∧ Reps K W H vs ds
  | .dic ds => ∃ kvs, H a = some (.dK kvs) ∧ RepK K W H kvs ds
  | .dit ds => ∃ kvs, H a = some (.dT kvs) ∧ RepT K W H kvs ds
  | .dicl ob vs ds => H a = some (.frz ob (.dK vs)) ∧ RepK K W H vs ds
  | .ins c fs => ∃ dx fv, H a = some (.ins (He.ga K c) dx fv) ∧ RepF K W H fv fs ∧ CI K c ∧ NA K c fs
/-- the store is borne -/
structure Rel (K : PySem.W.Frag) (W : Wd) (s : S) (H : Hp) : Prop where
  cells : ∀ n o, s n = some o → ∃ a, W.r n = some a ∧ (¬ W.F a ∧ ¬ W.Z a) ∧ RepO K W H a o
  inj : ∀ n m a, W.r n = some a → W.r m = some a → s n ≠ none → s m ≠ none → n = m
  nx : ∀ n a, W.r n = some a → n < W.nx
  fr : ∀ a, W.F a → ∃ o, H a = some o
  zf : ∀ a, W.Z a → ¬ W.F a ∧ ∃ o, H a = some o
section
variable {K : PySem.W.Frag} {W W' : Wd} {H H' : Hp} {s : S}
theorem XL.sub {a : Addr} {vs : List V} (e : Sub W H W' H') (h : XL K W H a vs) : XL K W' H' a vs := by
  rcases h with ⟨f, h | ⟨o, h⟩⟩ | h
  · exact .inl ⟨e.f _ f, .inl (e.k.lst f h)⟩
  · exact .inl ⟨e.f _ f, .inr ⟨o, e.k.frzl f h⟩⟩
  · exact .inr h
theorem XT.sub {a : Addr} {vs : List V} (e : Sub W H W' H') (h : XT K W H a vs) : XT K W' H' a vs := by
  rcases h with ⟨f, h⟩ | h
  · exact .inl ⟨e.f _ f, e.k.tup f h⟩
  · exact .inr h
mutual
theorem Rep.sub {v : V} {d : D} (e : Sub W H W' H') : Rep K W H v d → Rep K W' H' v d
  | .non => .non
  | .bl b => .bl b
  | .int i => .int i
  | .str x => .str x
  | .lst f h r => .lst (e.f _ f) (e.k.lst f h) (Reps.sub e r)
  | .tup f h r => .tup (e.f _ f) (e.k.tup f h) (Reps.sub e r)
  | .xl h r => .xl (h.sub e) (Reps.sub e r)
  | .xt h r => .xt (h.sub e) (Reps.sub e r)
  | .dK f h r => .dK (e.f _ f) ((e.k _ f).core.trans h) (RepK.sub e r)
  | .dT f h r => .dT (e.f _ f) ((e.k _ f).core.trans h) (RepT.sub e r)
  | .cell h => .cell (e.r _ _ h)
  | .adr a => .adr a
  | .ty n => .ty n
  | .glo x => .glo x
  | .obj f h r ci na => .obj (e.f _ f) (e.k.ins f h) (RepF.sub e r) ci na
theorem Reps.sub {vs : List V} {ds : List D} (e : Sub W H W' H') : Reps K W H vs ds → Reps K W' H' vs ds
  | .nil => .nil
  | .cons r rs => .cons (Rep.sub e r) (Reps.sub e rs)
theorem RepK.sub {vs : List (Key × V)} {ds : List (D × D)} (e : Sub W H W' H') : RepK K W H vs ds → RepK K W' H' vs ds
  | .nil => .nil
  | .cons r rs => .cons (Rep.sub e r) (RepK.sub e rs)
theorem RepT.sub {vs : List (List Key × V)} {ds : List (D × D)} (e : Sub W H W' H') : RepT K W H vs ds → RepT K W' H' vs ds
  | .nil => .nil
  | .cons r rs => .cons (Rep.sub e r) (RepT.sub e rs)
theorem RepF.sub {vs : List (Str × V)} {ds : List (Str × D)} (e : Sub W H W' H') : RepF K W H vs ds → RepF K W' H' vs ds
  | .nil => .nil
  | .cons r rs => .cons (Rep.sub e r) (RepF.sub e rs)
end
theorem Rep.mono {v : V} {d : D} (e : Ext W H W' H') (h : Rep K W H v d) : Rep K W' H' v d := h.sub e.toSub
theorem Reps.mono {vs : List V} {ds : List D} (e : Ext W H W' H') (h : Reps K W H vs ds) : Reps K W' H' vs ds := h.sub e.toSub
theorem RepK.mono {vs : List (Key × V)} {ds : List (D × D)} (e : Ext W H W' H') (h : RepK K W H vs ds) : RepK K W' H' vs ds := h.sub e.toSub
theorem RepT.mono {vs : List (List Key × V)} {ds : List (D × D)} (e : Ext W H W' H') (h : RepT K W H vs ds) : RepT K W' H' vs ds := h.sub e.toSub
theorem RepF.mono {fv : List (Str × V)} {fs : List (Str × D)} (e : Ext W H W' H') (h : RepF K W H fv fs) : RepF K W' H' fv fs := h.sub e.toSub
/-- an object's description, where its own address keeps its content -/
theorem RepO.sub {a : Addr} {o : O} (e : Sub W H W' H') (ha : H' a = H a) (h : RepO K W H a o) : RepO K W' H' a o := by
  cases o with
  | lst ds => obtain ⟨vs, h1, h2⟩ := h; exact ⟨vs, ha.trans h1, h2.sub e⟩
  | dic ds => obtain ⟨vs, h1, h2⟩ := h; exact ⟨vs, ha.trans h1, h2.sub e⟩
  | dit ds => obtain ⟨vs, h1, h2⟩ := h; exact ⟨vs, ha.trans h1, h2.sub e⟩
  | dicl ob vs ds => obtain ⟨h1, h2⟩ := h; exact ⟨ha.trans h1, h2.sub e⟩
  | ins C fs => obtain ⟨dx, fv, h1, h2, h3⟩ := h; exact ⟨dx, fv, ha.trans h1, h2.sub e, h3⟩
theorem RepO.mono {a : Addr} {o : O} (e : Ext W H W' H') (ha : H' a = H a) (h : RepO K W H a o) : RepO K W' H' a o := h.sub e.toSub ha
theorem RepO.there {a : Addr} {o : O} (h : RepO K W H a o) : ∃ u, H a = some u := by
  cases o with
  | lst ds => obtain ⟨vs, h1, h2⟩ := h; exact ⟨_, h1⟩
  | dic ds => obtain ⟨vs, h1, h2⟩ := h; exact ⟨_, h1⟩
  | dit ds => obtain ⟨vs, h1, h2⟩ := h; exact ⟨_, h1⟩
  | dicl ob vs ds => obtain ⟨h1, h2⟩ := h; exact ⟨_, h1⟩
  | ins C fs => obtain ⟨dx, fv, h1, h2⟩ := h; exact ⟨_, h1⟩
theorem Reps.length {vs : List V} {ds : List D} (h : Reps K W H vs ds) : vs.length = ds.length := by
  induction vs generalizing ds with
  | nil => cases h; rfl
  | cons v vs ih => cases h with | cons _ r => simp [ih r]
theorem Reps.app {vs us : List V} {ds es : List D} (h : Reps K W H vs ds) (h' : Reps K W H us es) : Reps K W H (vs ++ us) (ds ++ es) := by
  induction vs generalizing ds with
  | nil => cases h; exact h'
  | cons v vs ih => cases h with | cons a r => exact .cons a (ih r)
theorem Reps.get {vs : List V} {ds : List D} {i : Nat} {d : D} (h : Reps K W H vs ds) (e : ds[i]? = some d) : ∃ v, vs[i]? = some v ∧ Rep K W H v d := by
  induction vs generalizing ds i with
  | nil => cases h; simp at e
  | cons v vs ih =>
    cases h with
    | cons a r =>
      cases i with
      | zero => simp at e; subst e; exact ⟨v, rfl, a⟩
      | succ i =>
        obtain ⟨w, e1, e2⟩ := ih r (i := i) (by simpa using e)
        exact ⟨w, by simpa using e1, e2⟩
theorem Reps.getV {vs : List V} {ds : List D} {i : Nat} {v : V} (h : Reps K W H vs ds) (e : vs[i]? = some v) : ∃ d, ds[i]? = some d ∧ Rep K W H v d := by
  induction vs generalizing ds i with
  | nil => cases h; simp at e
  | cons v' vs ih =>
    cases h with
    | cons a r =>
      cases i with
      | zero => simp at e; subst e; exact ⟨_, rfl, a⟩
      | succ i =>
        obtain ⟨w, e1, e2⟩ := ih r (i := i) (by simpa using e)
        exact ⟨w, by simpa using e1, e2⟩
theorem Reps.take {vs : List V} {ds : List D} (n : Nat) (h : Reps K W H vs ds) : Reps K W H (vs.take n) (ds.take n) := by
  induction vs generalizing ds n with
  | nil => cases h; simp; exact .nil
  | cons v vs ih =>
    cases h with
    | cons a r =>
      cases n with
      | zero => exact .nil
      | succ n => exact .cons a (ih n r)
theorem Reps.drop {vs : List V} {ds : List D} (n : Nat) (h : Reps K W H vs ds) : Reps K W H (vs.drop n) (ds.drop n) := by
  induction vs generalizing ds n with
  | nil => cases h; simp; exact .nil
  | cons v vs ih =>
    cases h with
    | cons a r =>
      cases n with
      | zero => exact .cons a r
      | succ n => exact ih n r
theorem Reps.set {vs : List V} {ds : List D} {i : Nat} {v : V} {d : D} (h : Reps K W H vs ds) (q : Rep K W H v d) : Reps K W H (vs.set i v) (ds.set i d) := by
  induction vs generalizing ds i with
  | nil => cases h; exact .nil
  | cons v vs ih =>
    cases h with
    | cons a r =>
      cases i with
      | zero => exact .cons q r
      | succ i => exact .cons a (ih r)
theorem Reps.reverse {vs : List V} {ds : List D} (h : Reps K W H vs ds) : Reps K W H vs.reverse ds.reverse := by
  induction vs generalizing ds with
  | nil => cases h; exact .nil
  | cons v vs ih =>
    cases h with
    | cons a r =>
      simp only [List.reverse_cons]
      exact (ih r).app (.cons a .nil)
theorem Reps.eraseIdx {vs : List V} {ds : List D} {i : Nat} (h : Reps K W H vs ds) : Reps K W H (vs.eraseIdx i) (ds.eraseIdx i) := by
  induction vs generalizing ds i with
  | nil => cases h; exact .nil
  | cons v vs ih =>
    cases h with
    | cons a r =>
      cases i with
      | zero => exact r
      | succ i => exact .cons a (ih r)

/-! ### steps of the state -/
/-- a new settled object -/
def Wd.add (W : Wd) (p : Addr) : Wd := { W with F := fun a => W.F a ∨ a = p }
theorem Ext.add {p : Addr} {u : HO} (R : Rel K W s H) (hp : H p = none) : Ext W H (W.add p) (upd H p u) :=
  ⟨⟨fun _ h => .inl h, fun _ _ h => h, fun a f => Kp.of (by
    obtain ⟨o, e⟩ := R.fr a f
    rw [upd_ne (ne_of_none e hp)])⟩, rfl, fun a z => by
    obtain ⟨_, o, e⟩ := R.zf a z
    rw [upd_ne (ne_of_none e hp)]⟩
theorem Rel.add {p : Addr} {u : HO} (R : Rel K W s H) (hp : H p = none) : Rel K (W.add p) s (upd H p u) := by
  refine ⟨fun n o e => ?_, R.inj, R.nx, fun a f => ?_, fun a z => ?_⟩
  · obtain ⟨a, h1, h2, h3⟩ := R.cells n o e
    obtain ⟨v, hv⟩ := h3.there
    have ne : a ≠ p := ne_of_none hv hp
    refine ⟨a, h1, ⟨fun z => ?_, h2.2⟩, h3.mono (Ext.add R hp) (upd_ne ne)⟩
    rcases z with z | z
    · exact h2.1 z
    · exact ne z
  · rcases f with f | f
    · obtain ⟨o, e⟩ := R.fr a f
      exact ⟨o, by rw [upd_ne (ne_of_none e hp)]; exact e⟩
    · subst f; exact ⟨u, upd_same⟩
  · obtain ⟨h1, o, e⟩ := R.zf a z
    have ne : a ≠ p := ne_of_none e hp
    refine ⟨fun q => ?_, o, by rw [upd_ne ne]; exact e⟩
    rcases q with q | q
    · exact h1 q
    · exact ne q
/-- a new cell -/
def Wd.new (W : Wd) (p : Addr) : Wd := { W with r := fun n => if n = W.nx then some p else W.r n, nx := W.nx + 1 }
theorem Rel.nxr (R : Rel K W s H) : W.r W.nx = none := by
  cases e : W.r W.nx with
  | none => rfl
  | some a => exact absurd (R.nx _ _ e) (Nat.lt_irrefl _)
theorem Rel.nxs (R : Rel K W s H) : s W.nx = none := by
  cases e : s W.nx with
  | none => rfl
  | some o =>
    obtain ⟨a, h1, _⟩ := R.cells _ _ e
    rw [R.nxr] at h1; cases h1
theorem Ext.new {p : Addr} {H' : Hp} (R : Rel K W s H) (hk : ∀ a u, H a = some u → H' a = some u) : Ext W H (W.new p) H' :=
  ⟨⟨fun _ h => h, fun n a h => by
    show (if n = W.nx then some p else W.r n) = some a
    rw [if_neg (fun e => by subst e; rw [R.nxr] at h; cases h)]; exact h, fun a f => Kp.of (by
    obtain ⟨u, e⟩ := R.fr a f
    rw [hk a u e, e])⟩, rfl, fun a z => by
    obtain ⟨_, u, e⟩ := R.zf a z
    rw [hk a u e, e]⟩
/-- the new object at p; other addresses may have come beside it (an instance's own dict) -/
theorem Rel.new {p : Addr} {o : O} {H' : Hp} (R : Rel K W s H) (hp : H p = none) (hk : ∀ a u, H a = some u → H' a = some u) (ho : RepO K (W.new p) H' p o) : Rel K (W.new p) (s.set W.nx o) H' := by
  have kp := hk
  have nZ : ¬ W.Z p := fun z => by
    obtain ⟨_, u, e⟩ := R.zf p z
    rw [hp] at e; cases e
  have nF : ¬ W.F p := fun z => by
    obtain ⟨u, e⟩ := R.fr p z
    rw [hp] at e; cases e
  refine ⟨fun n o' e => ?_, fun n m a h1 h2 l1 l2 => ?_, fun n a h => ?_, fun a f => ?_, fun a z => ?_⟩
  · by_cases hn : n = W.nx
    · subst hn
      rw [S.set_same] at e; cases e
      exact ⟨p, by show (if W.nx = W.nx then some p else _) = some p; rw [if_pos rfl], ⟨nF, nZ⟩, ho⟩
    · rw [S.set_ne hn] at e
      obtain ⟨a, h1, h2, h3⟩ := R.cells n o' e
      obtain ⟨v, hv⟩ := h3.there
      exact ⟨a, (Ext.new R kp).r _ _ h1, h2, h3.mono (Ext.new R kp) ((hk a v hv).trans hv.symm)⟩
  · have live : ∀ n, n ≠ W.nx → s.set W.nx o n ≠ none → W.r n = some a → a ≠ p := fun n hn l h => by
      rw [S.set_ne hn] at l
      cases e : s n with
      | none => exact absurd e l
      | some o' =>
        obtain ⟨b, q1, q2, q3⟩ := R.cells n o' e
        rw [h] at q1; cases q1
        obtain ⟨v, hv⟩ := q3.there
        exact ne_of_none hv hp
    have u1 : (if n = W.nx then some p else W.r n) = some a := h1
    have u2 : (if m = W.nx then some p else W.r m) = some a := h2
    by_cases hn : n = W.nx
    · by_cases hm : m = W.nx
      · rw [hn, hm]
      · rw [if_pos hn] at u1
        rw [if_neg hm] at u2
        cases u1
        exact absurd rfl (live m hm l2 u2)
    · by_cases hm : m = W.nx
      · rw [if_neg hn] at u1
        rw [if_pos hm] at u2
        cases u2
        exact absurd rfl (live n hn l1 u1)
      · rw [if_neg hn] at u1
        rw [if_neg hm] at u2
        rw [S.set_ne hn] at l1
        rw [S.set_ne hm] at l2
        exact R.inj n m a u1 u2 l1 l2
  · have u1 : (if n = W.nx then some p else W.r n) = some a := h
    show n < W.nx + 1
    by_cases hn : n = W.nx
    · omega
    · rw [if_neg hn] at u1
      have := R.nx n a u1
      omega
  · obtain ⟨u, e⟩ := R.fr a f
    exact ⟨u, hk a u e⟩
  · obtain ⟨h1, u, e⟩ := R.zf a z
    exact ⟨h1, u, hk a u e⟩
theorem Wd.new_r (W : Wd) (p : Addr) : (W.new p).r W.nx = some p := by show (if W.nx = W.nx then some p else _) = some p; rw [if_pos rfl]
/-- a cell is written -/
theorem Ext.write {n : Nat} {o : O} {a : Addr} {u : HO} (R : Rel K W s H) (hn : s n = some o) (ha : W.r n = some a) : Ext W H W (upd H a u) :=
  ⟨⟨fun _ h => h, fun _ _ h => h, fun b f => Kp.of (by
    obtain ⟨c, h1, h2, _⟩ := R.cells n o hn
    rw [ha] at h1; cases h1
    rw [upd_ne (by intro z; subst z; exact h2.1 f)])⟩, rfl, fun b z => by
    obtain ⟨c, h1, h2, _⟩ := R.cells n o hn
    rw [ha] at h1; cases h1
    rw [upd_ne (by intro q; subst q; exact h2.2 z)]⟩
theorem Rel.write {n : Nat} {o o' : O} {a : Addr} {u : HO} (R : Rel K W s H) (hn : s n = some o) (ha : W.r n = some a) (ho : RepO K W (upd H a u) a o') : Rel K W (s.set n o') (upd H a u) := by
  obtain ⟨c, q1, q2, _⟩ := R.cells n o hn
  rw [ha] at q1; cases q1
  refine ⟨fun m o1 e => ?_, fun m k b h1 h2 l1 l2 => R.inj m k b h1 h2 ?_ ?_, R.nx, fun b f => ?_, fun b z => ?_⟩
  · by_cases hm : m = n
    · subst hm
      rw [S.set_same] at e; cases e
      exact ⟨a, ha, q2, ho⟩
    · rw [S.set_ne hm] at e
      obtain ⟨b, h1, h2, h3⟩ := R.cells m o1 e
      refine ⟨b, h1, h2, h3.mono (Ext.write R hn ha) (upd_ne fun z => ?_)⟩
      subst z
      exact hm (R.inj m n b h1 ha (by rw [e]; simp) (by rw [hn]; simp))
  · by_cases hm : m = n
    · subst hm; rw [hn]; simp
    · rw [S.set_ne hm] at l1; exact l1
  · by_cases hm : k = n
    · subst hm; rw [hn]; simp
    · rw [S.set_ne hm] at l2; exact l2
  · obtain ⟨v, e⟩ := R.fr b f
    exact ⟨v, by rw [upd_ne (by intro z; subst z; exact q2.1 f)]; exact e⟩
  · obtain ⟨h1, v, e⟩ := R.zf b z
    exact ⟨h1, v, by rw [upd_ne (by intro q; subst q; exact q2.2 z)]; exact e⟩
/-- a cell is settled -/
theorem Ext.fix (a : Addr) : Ext W H (W.add a) H := ⟨⟨fun _ h => .inl h, fun _ _ h => h, fun _ _ => Kp.of rfl⟩, rfl, fun _ _ => rfl⟩
theorem Rel.fix {n : Nat} {o : O} {a : Addr} (R : Rel K W s H) (hn : s n = some o) (ha : W.r n = some a) : Rel K (W.add a) (s.del n) H := by
  obtain ⟨c, q1, q2, q3⟩ := R.cells n o hn
  rw [ha] at q1; cases q1
  refine ⟨fun m o1 e => ?_, fun m k b h1 h2 l1 l2 => R.inj m k b h1 h2 ?_ ?_, R.nx, fun b f => ?_, fun b z => ?_⟩
  · by_cases hm : m = n
    · subst hm
      rw [S.del_same] at e; cases e
    · rw [S.del_ne hm] at e
      obtain ⟨b, h1, h2, h3⟩ := R.cells m o1 e
      refine ⟨b, h1, ⟨fun z => ?_, h2.2⟩, h3.mono (Ext.fix a) rfl⟩
      rcases z with z | z
      · exact h2.1 z
      · subst z
        exact hm (R.inj m n b h1 ha (by rw [e]; simp) (by rw [hn]; simp))
  · by_cases hm : m = n
    · subst hm; rw [hn]; simp
    · rw [S.del_ne hm] at l1; exact l1
  · by_cases hm : k = n
    · subst hm; rw [hn]; simp
    · rw [S.del_ne hm] at l2; exact l2
  · rcases f with f | f
    · exact R.fr b f
    · subst f; exact q3.there
  · obtain ⟨h1, v, e⟩ := R.zf b z
    refine ⟨fun q => ?_, v, e⟩
    rcases q with q | q
    · exact h1 q
    · subst q; exact q2.2 z
/-- a settled dict is locked -/
theorem Ext.lock {a : Addr} {ob : Obj} {u : HO} (R : Rel K W s H) (f : W.F a) (e : H a = some u) (c : core (.frz ob u) = u) : Ext W H W (upd H a (.frz ob u)) :=
  ⟨⟨fun _ h => h, fun _ _ h => h, fun b _ => by
    by_cases z : b = a
    · subst z
      exact .inr ⟨ob, u, e, upd_same, c⟩
    · exact Kp.of (upd_ne z)⟩, rfl, fun b z => upd_ne (by intro q; subst q; exact (R.zf _ z).1 f)⟩
theorem Rel.lock {a : Addr} {ob : Obj} {u : HO} (R : Rel K W s H) (f : W.F a) (e : H a = some u) (c : core (.frz ob u) = u) : Rel K W s (upd H a (.frz ob u)) := by
  refine ⟨fun n o q => ?_, R.inj, R.nx, fun b g => ?_, fun b z => ?_⟩
  · obtain ⟨b, h1, h2, h3⟩ := R.cells n o q
    have ne : b ≠ a := by intro z; subst z; exact h2.1 f
    exact ⟨b, h1, h2, h3.mono (Ext.lock R f e c) (upd_ne ne)⟩
  · by_cases z : b = a
    · subst z; exact ⟨_, upd_same⟩
    · obtain ⟨o, q⟩ := R.fr b g
      exact ⟨o, by rw [upd_ne z]; exact q⟩
  · obtain ⟨h1, o, q⟩ := R.zf b z
    exact ⟨h1, o, by rw [upd_ne (by intro y; subst y; exact h1 f)]; exact q⟩
/-! ### an object that is held -/
def Wd.hold (W : Wd) (p : Addr) : Wd := { W with Z := fun a => W.Z a ∨ a = p }
def Wd.wz (W : Wd) (Z : Addr → Prop) : Wd := { W with Z := Z }
theorem Sub.hold {p : Addr} {u : HO} (R : Rel K W s H) (hp : H p = none) : Sub W H (W.hold p) (upd H p u) :=
  ⟨fun _ h => h, fun _ _ h => h, (Ext.add R hp).k⟩
theorem Rel.hold {p : Addr} {u : HO} (R : Rel K W s H) (hp : H p = none) : Rel K (W.hold p) s (upd H p u) := by
  refine ⟨fun n o e => ?_, R.inj, R.nx, fun a f => ?_, fun a z => ?_⟩
  · obtain ⟨a, h1, h2, h3⟩ := R.cells n o e
    obtain ⟨v, hv⟩ := h3.there
    have ne : a ≠ p := ne_of_none hv hp
    exact ⟨a, h1, ⟨h2.1, fun z => z.elim h2.2 ne⟩, h3.sub (Sub.hold R hp) (upd_ne ne)⟩
  · obtain ⟨o, e⟩ := R.fr a f
    exact ⟨o, by rw [upd_ne (ne_of_none e hp)]; exact e⟩
  · rcases z with z | z
    · obtain ⟨h1, o, e⟩ := R.zf a z
      exact ⟨h1, o, by rw [upd_ne (ne_of_none e hp)]; exact e⟩
    · subst z
      refine ⟨fun f => ?_, u, upd_same⟩
      obtain ⟨o, e⟩ := R.fr _ f
      rw [hp] at e; cases e
/-- a held object is changed -/
theorem Sub.rehold {p : Addr} {u : HO} (R : Rel K W s H) (hz : W.Z p) : Sub W H W (upd H p u) :=
  ⟨fun _ h => h, fun _ _ h => h, fun a f => Kp.of (by rw [upd_ne (by intro z; subst z; exact (R.zf _ hz).1 f)])⟩
theorem Rel.rehold {p : Addr} {u : HO} (R : Rel K W s H) (hz : W.Z p) : Rel K W s (upd H p u) := by
  refine ⟨fun n o e => ?_, R.inj, R.nx, fun a f => ?_, fun a z => ?_⟩
  · obtain ⟨a, h1, h2, h3⟩ := R.cells n o e
    have ne : a ≠ p := by intro z; subst z; exact h2.2 hz
    exact ⟨a, h1, h2, h3.sub (Sub.rehold R hz) (upd_ne ne)⟩
  · obtain ⟨o, e⟩ := R.fr a f
    exact ⟨o, by rw [upd_ne (by intro z; subst z; exact (R.zf _ hz).1 f)]; exact e⟩
  · obtain ⟨h1, o, e⟩ := R.zf a z
    by_cases hp : a = p
    · exact ⟨h1, u, by rw [hp]; exact upd_same⟩
    · exact ⟨h1, o, by rw [upd_ne hp]; exact e⟩
/-- what is held alters nothing of what values stand for -/
theorem Sub.wz (Z : Addr → Prop) : Sub W H (W.wz Z) H := ⟨fun _ h => h, fun _ _ h => h, fun _ _ => Kp.of rfl⟩
theorem Rel.wz {Z : Addr → Prop} (R : Rel K W s H) (h : ∀ a, Z a → W.Z a) : Rel K (W.wz Z) s H :=
  ⟨fun n o e => let ⟨a, h1, h2, h3⟩ := R.cells n o e; ⟨a, h1, ⟨h2.1, fun z => h2.2 (h a z)⟩, h3.sub (Sub.wz Z) rfl⟩, R.inj, R.nx, R.fr, fun a z => R.zf a (h a z)⟩
end
end Y


set_option autoImplicit false
/-! Y2: readings over plain data, lifted to the hand layer's readings; operators, comparisons, subscripts. -/
namespace Y
open PySem PySem.Spec PyProof.Rows L2

abbrev St := L2.St
abbrev Nv := List (Option D)
structure RelE (K : PySem.W.Frag) (W : Wd) (H : Hp) (e : Nv) (σ : St) : Prop where
  len : e.length = σ.length
  at_ : ∀ (i : Nat) (d : D), e[i]? = some (some d) → ∃ v, σ[i]? = some (some v) ∧ Rep K W H v d
abbrev DTE := Nv → S → (D → S → Prop) → Prop
abbrev DTT := Nv → S → (Bool → S → Prop) → Prop
abbrev DTA := Nv → S → (List D → S → Prop) → Prop
/-- what every state is known to lie behind -/
structure Lk where
  p : Wd → Hp → Prop
  up : ∀ {W H W' H'}, p W H → Ext W H W' H' → p W' H'
/-- a state -/
structure Stt (K : PySem.W.Frag) (L : Lk) (W : Wd) (e : Nv) (s : S) (σ : St) (H : Hp) : Prop where
  ext : L.p W H
  env : RelE K W H e σ
  rel : Rel K W s H
theorem RelE.mono {K : PySem.W.Frag} {W W' : Wd} {H H' : Hp} {e : Nv} {σ : St} (h : RelE K W H e σ) (x : Ext W H W' H') : RelE K W' H' e σ :=
  ⟨h.len, fun i d q => let ⟨v, a, b⟩ := h.at_ i d q; ⟨v, a, b.mono x⟩⟩
theorem RelE.set {K : PySem.W.Frag} {W : Wd} {H : Hp} {e : Nv} {σ : St} {i : Nat} {v : V} {d : D} (h : RelE K W H e σ) (r : Rep K W H v d) : RelE K W H (e.set i (some d)) (σ.set i (some v)) := by
  refine ⟨by simp [h.len], fun j c q => ?_⟩
  by_cases hj : i = j
  · subst hj
    by_cases hl : i < e.length
    · rw [List.getElem?_set_self hl] at q
      cases q
      exact ⟨v, by rw [List.getElem?_set_self (by rw [← h.len]; exact hl)], r⟩
    · rw [List.getElem?_eq_none (by simpa using hl)] at q; cases q
  · rw [List.getElem?_set_ne hj] at q
    obtain ⟨w, a, b⟩ := h.at_ j c q
    exact ⟨w, by rw [List.getElem?_set_ne hj]; exact a, b⟩
theorem Stt.after {K : PySem.W.Frag} {L : Lk} {W W' : Wd} {e : Nv} {s s' : S} {σ : St} {H H' : Hp} (h : Stt K L W e s σ H) (x : Ext W H W' H') (r : Rel K W' s' H') : Stt K L W' e s' σ H' := ⟨L.up h.ext x, h.env.mono x, r⟩
def lift (K : PySem.W.Frag) (L : Lk) (t : DTE) : TE := fun σ H Q => ∃ W e s Qd, Stt K L W e s σ H ∧ t e s Qd ∧ ∀ d s' W' v H', Qd d s' → Ext W H W' H' → Rel K W' s' H' → Rep K W' H' v d → Q v H'
def liftT (K : PySem.W.Frag) (L : Lk) (t : DTT) : TT := fun σ H Q => ∃ W e s Qd, Stt K L W e s σ H ∧ t e s Qd ∧ ∀ d s' W' H', Qd d s' → Ext W H W' H' → Rel K W' s' H' → Q d H'
def liftA (K : PySem.W.Frag) (L : Lk) (t : DTA) : TA := fun σ H Q => ∃ W e s Qd, Stt K L W e s σ H ∧ t e s Qd ∧ ∀ ds s' W' vs H', Qd ds s' → Ext W H W' H' → Rel K W' s' H' → Reps K W' H' vs ds → Q vs H'
theorem _root_.L2.PE.wk {X : Cx} {e : Expr} {t t' : TE} (h : PE X e t) (w : ∀ σ H Q, t' σ H Q → t σ H Q) : PE X e t' := ⟨fun pins s σ H Q I q => h.run pins s σ H Q I (w σ H Q q)⟩
theorem _root_.L2.PT.wk {X : Cx} {e : Expr} {t t' : TT} (h : PT X e t) (w : ∀ σ H Q, t' σ H Q → t σ H Q) : PT X e t' := ⟨fun pins s σ H Q I q => h.run pins s σ H Q I (w σ H Q q)⟩
theorem _root_.L2.PW.wk {X : Cx} {e : Expr} {t t' : TT} (h : PW X e t) (w : ∀ σ H Q, t' σ H Q → t σ H Q) : PW X e t' := ⟨fun wh pins s σ H Q I q => h.run wh pins s σ H Q I (w σ H Q q)⟩
theorem _root_.L2.PA.wk {X : Cx} {e : List Expr} {t t' : TA} (h : PA X e t) (w : ∀ σ H Q, t' σ H Q → t σ H Q) : PA X e t' := ⟨fun pos pins s σ H Q I q => h.run pos pins s σ H Q I (w σ H Q q)⟩
theorem _root_.L2.PS.wk {X : Cx} {e : Stmt} {t t' : TS} (h : PS X e t) (w : ∀ D σ H, t' D σ H → t D σ H) : PS X e t' := ⟨fun pins s σ H D I q => h.run pins s σ H D I (w D σ H q)⟩
theorem _root_.L2.PSs.wk {X : Cx} {e : List Stmt} {t t' : TS} (h : PSs X e t) (w : ∀ D σ H, t' D σ H → t D σ H) : PSs X e t' := ⟨fun pins s σ H D I q => h.run pins s σ H D I (w D σ H q)⟩
theorem OpR.wk {X : Cx} {f : Value → Value → Sem Value} {r r' : R2} (h : OpR X f r) (w : ∀ x y H Q, r' x y H Q → r x y H Q) : OpR X f r' := fun pins s σ H x y v u Q I rx ry q => h pins s σ H x y v u Q I rx ry (w x y H Q q)
theorem CallR.wk {X : Cx} {f : Value} {r r' : List V → Hp → VK → Prop} (h : CallR X f r) (w : ∀ xs H Q, r' xs H Q → r xs H Q) : CallR X f r' := fun pins s σ H xs us Q I rx q => h pins s σ H xs us Q I rx (w xs H Q q)
theorem IxR.wk {X : Cx} {r r' : R2} (h : IxR X r) (w : ∀ x y H Q, r' x y H Q → r x y H Q) : IxR X r' := fun a b pins s σ H x y v u Q I rx ry q hs => h a b pins s σ H x y v u Q I rx ry (w x y H Q q) hs
theorem MtR.wk {X : Cx} {id : String} {r r' : V → List V → Hp → VK → Prop} (h : MtR X id r) (w : ∀ x xs H Q, r' x xs H Q → r x xs H Q) : MtR X id r' := fun pins s σ H x xs v us Q I rx rs q => h pins s σ H x xs v us Q I rx rs (w x xs H Q q)
theorem SlR.wk {X : Cx} {r r' : V → Option Int → Option Int → Hp → VK → Prop} (h : SlR X r) (w : ∀ x lo hi H Q, r' x lo hi H Q → r x lo hi H Q) : SlR X r' := fun pins s σ H x v vl vu lo hi sl Q I rx a b c q => h pins s σ H x v vl vu lo hi sl Q I rx a b c (w x lo hi H Q q)
theorem TruR.wk {X : Cx} {r r' : V → Hp → (Bool → Hp → Prop) → Prop} (h : TruR X r) (w : ∀ x H Q, r' x H Q → r x H Q) : TruR X r' := fun pins s σ H x v Q I rx q => h pins s σ H x v Q I rx (w x H Q q)

/-! ### what may be read -/
def lstOf : Option O → Option (List D)
  | some (.lst xs) => some xs
  | _ => none
theorem lstOf_some {o : Option O} {xs : List D} (h : lstOf o = some xs) : o = some (.lst xs) := by
  cases o with
  | none => cases h
  | some u => cases u with
    | lst ys => cases h; rfl
    | _ => cases h
/-- the items of a list that may be read | whose object is tracked | of a tuple -/
def seqL (s : S) : D → Option (List D)
  | .lst xs => some xs
  | .xl xs => some xs
  | .cell n => lstOf (s n)
  | _ => none
def dirL (s : S) : D → Option (List D)
  | .lst xs => some xs
  | .cell n => lstOf (s n)
  | _ => none
def seqT : D → Option (List D)
  | .tup xs => some xs
  | .xt xs => some xs
  | _ => none
section
variable {K : PySem.W.Frag} {W : Wd} {H : Hp} {s : S} {v : V} {d : D} {xs : List D}
theorem XL.sq {a : Addr} {vs : List V} (h : XL K W H a vs) : SqL K H a vs := by
  rcases h with ⟨_, h | ⟨o, h⟩⟩ | h
  · exact .inl (.inl h)
  · exact .inl (.inr ⟨o, h⟩)
  · rcases h with (h | ⟨o, h⟩) | h
    · cases h
    · cases h
    · exact .inr h
theorem XT.sq {a : Addr} {vs : List V} (h : XT K W H a vs) : SqT K H a vs := by
  rcases h with ⟨_, h⟩ | h
  · exact .inl (.inl h)
  · rcases h with (h | ⟨o, h⟩) | h
    · cases h
    · cases h
    · exact .inr h
theorem Rep.cellL {n : Nat} (R : Rel K W s H) (r : Rep K W H v (.cell n)) (e : s n = some (.lst xs)) : ∃ a vs, v = .ref a ∧ W.r n = some a ∧ H a = some (.lst vs) ∧ Reps K W H vs xs := by
  cases r with
  | cell h =>
    obtain ⟨a, h1, _, vs, h2, h3⟩ := R.cells n _ e
    rw [h] at h1; cases h1
    exact ⟨_, vs, rfl, h, h2, h3⟩
theorem dirL_ok (R : Rel K W s H) (r : Rep K W H v d) (e : dirL s d = some xs) : ∃ a vs, v = .ref a ∧ H a = some (.lst vs) ∧ Reps K W H vs xs := by
  cases d with
  | lst ys => cases e; cases r with | lst _ h2 h3 => exact ⟨_, _, rfl, h2, h3⟩
  | cell n =>
    obtain ⟨a, vs, h1, _, h2, h3⟩ := r.cellL R (lstOf_some e)
    exact ⟨a, vs, h1, h2, h3⟩
  | _ => cases e
theorem seqL_ok (R : Rel K W s H) (r : Rep K W H v d) (e : seqL s d = some xs) : ∃ a vs, v = .ref a ∧ SqL K H a vs ∧ Reps K W H vs xs := by
  cases d with
  | lst ys => cases e; cases r with | lst _ h2 h3 => exact ⟨_, _, rfl, SqL.of h2, h3⟩
  | xl ys => cases e; cases r with | xl h2 h3 => exact ⟨_, _, rfl, h2.sq, h3⟩
  | cell n =>
    obtain ⟨a, vs, h1, _, h2, h3⟩ := r.cellL R (lstOf_some e)
    exact ⟨a, vs, h1, SqL.of h2, h3⟩
  | _ => cases e
theorem seqT_ok (r : Rep K W H v d) (e : seqT d = some xs) : ∃ a vs, v = .ref a ∧ SqT K H a vs ∧ Reps K W H vs xs := by
  cases d with
  | tup ys => cases e; cases r with | tup _ h2 h3 => exact ⟨_, _, rfl, SqT.of h2, h3⟩
  | xt ys => cases e; cases r with | xt h2 h3 => exact ⟨_, _, rfl, h2.sq, h3⟩
  | _ => cases e
/-- a new list, a new tuple, settled at once -/
theorem new_lst {vs : List V} {p : Addr} (R : Rel K W s H) (hp : H p = none) (r : Reps K W H vs xs) : Rep K (W.add p) (upd H p (.lst vs)) (.ref p) (.lst xs) := .lst (.inr rfl) upd_same (r.mono (Ext.add R hp))
theorem new_tup {vs : List V} {p : Addr} (R : Rel K W s H) (hp : H p = none) (r : Reps K W H vs xs) : Rep K (W.add p) (upd H p (.tup vs)) (.ref p) (.tup xs) := .tup (.inr rfl) upd_same (r.mono (Ext.add R hp))
/-- a new list as a cell -/
theorem new_cell {vs : List V} {p : Addr} (R : Rel K W s H) (hp : H p = none) (r : Reps K W H vs xs) : Ext W H (W.new p) (upd H p (.lst vs)) ∧ Rel K (W.new p) (s.set W.nx (.lst xs)) (upd H p (.lst vs)) := by
  have kk : ∀ a u, H a = some u → upd H p (.lst vs) a = some u := fun a u e => by rw [upd_ne (ne_of_none e hp)]; exact e
  have x : Ext W H (W.new p) (upd H p (.lst vs)) := Ext.new R kk
  exact ⟨x, R.new hp kk ⟨vs, upd_same, r.mono x⟩⟩
end

/-! ### two-place operations -/
abbrev DR2 := D → D → S → (D → S → Prop) → Prop
def lift2 (K : PySem.W.Frag) (r : DR2) : R2 := fun x y H Q => ∃ W s dx dy Qd, Rel K W s H ∧ Rep K W H x dx ∧ Rep K W H y dy ∧ r dx dy s Qd ∧ ∀ d s' W' v H', Qd d s' → Ext W H W' H' → Rel K W' s' H' → Rep K W' H' v d → Q v H'
def dOp (r : DR2) (ta tb : DTE) : DTE := fun e s Q => ta e s fun x s1 => tb e s1 fun y s2 => r x y s2 Q
section
variable {X : Cx} {L : Lk} {a b c : Expr} {ta tb tc : DTE} {pos : Pos} {r r' : DR2}
theorem lift2_op {σ : St} {H : Hp} {Q : VK} (h : lift X.K L (dOp r ta tb) σ H Q) : tOp (lift2 X.K r) (lift X.K L ta) (lift X.K L tb) σ H Q := by
  obtain ⟨W, e, s, Qd, st, t, k⟩ := h
  refine ⟨W, e, s, _, st, t, fun d s1 W1 v H1 q1 x1 R1 p1 => ?_⟩
  refine ⟨W1, e, s1, _, st.after x1 R1, q1, fun d2 s2 W2 u H2 q2 x2 R2 p2 => ?_⟩
  exact ⟨W2, s2, d, d2, Qd, R2, p1.mono x2, p2, q2, fun d' s' W' v' H' q x' R' r' => k d' s' W' v' H' q (x1.trans (x2.trans x')) R' r'⟩
theorem de_op {op : Operator} (ho : OpR X (binaryOp op) (lift2 X.K r)) (ha : PE X a (lift X.K L ta)) (hb : PE X b (lift X.K L tb)) : PE X (.BinOp a op b pos) (lift X.K L (dOp r ta tb)) :=
  (pe_op ho ha hb).wk fun _ _ _ h => lift2_op h
theorem de_cmp {op : CmpOp} (ho : OpR X (compareOp op) (lift2 X.K r)) (ha : PE X a (lift X.K L ta)) (hb : PE X b (lift X.K L tb)) (hm : behindInMarks op b = false) : PE X (.Compare a [op] [b] pos) (lift X.K L (dOp r ta tb)) :=
  (pe_cmpR ho ha hb hm).wk fun _ _ _ h => lift2_op h
/-- a comparison as a test -/
def dTest (t : DTE) : DTT := fun e s Q => t e s fun x s1 => match x with | .bl k => Q k s1 | _ => False
theorem dt_cmp {op : CmpOp} (ho : OpR X (compareOp op) (lift2 X.K r)) (ha : PE X a (lift X.K L ta)) (hb : PE X b (lift X.K L tb)) (hm : behindInMarks op b = false) : PT X (.Compare a [op] [b] pos) (liftT X.K L (dTest (dOp r ta tb))) := by
  refine (pt_cmpR ho ha hb hm).wk fun σ H Q h => ?_
  obtain ⟨W, e, s, Qd, st, t, k⟩ := h
  refine lift2_op ⟨W, e, s, _, st, t, fun d s' W' v H' q x R p => ?_⟩
  cases p with
  | bl b => exact ⟨b, rfl, k b s' W' H' q x R⟩
  | _ => exact q.elim
/-- a op1 b op2 c -/
def dChain (r r' : DR2) (ta tb tc : DTE) : DTE := fun e s Q => ta e s fun x s1 => tb e s1 fun y s2 => r x y s2 fun z s3 => match z with
  | .bl k => if k = true then tc e s3 fun w s4 => r' y w s4 Q else Q (.bl false) s3
  | _ => False
theorem lift2_chain {σ : St} {H : Hp} {Q : VK} (h : lift X.K L (dChain r r' ta tb tc) σ H Q) : tChain (lift2 X.K r) (lift2 X.K r') (lift X.K L ta) (lift X.K L tb) (lift X.K L tc) σ H Q := by
  obtain ⟨W, e, s, Qd, st, t, k⟩ := h
  refine ⟨W, e, s, _, st, t, fun d s1 W1 v H1 q1 x1 R1 p1 => ?_⟩
  refine ⟨W1, e, s1, _, st.after x1 R1, q1, fun d2 s2 W2 u H2 q2 x2 R2 p2 => ?_⟩
  refine ⟨W2, s2, d, d2, _, R2, p1.mono x2, p2, q2, fun d3 s3 W3 z H3 q3 x3 R3 p3 => ?_⟩
  cases p3 with
  | bl b =>
    refine ⟨b, rfl, ?_⟩
    cases b with
    | false =>
      rw [if_neg Bool.false_ne_true]
      exact k (.bl false) s3 W3 _ H3 q3 (x1.trans (x2.trans x3)) R3 (.bl false)
    | true =>
      rw [if_pos rfl]
      have q3' : tc e s3 fun w s4 => r' d2 w s4 Qd := q3
      refine ⟨W3, e, s3, _, (st.after x1 R1).after (x2.trans x3) R3, q3', fun d4 s4 W4 w H4 q4 x4 R4 p4 => ?_⟩
      exact ⟨W4, s4, d2, d4, Qd, R4, p2.mono (x3.trans x4), p4, q4, fun d' s' W' v' H' q x' R' r' => k d' s' W' v' H' q (x1.trans (x2.trans (x3.trans (x4.trans x')))) R' r'⟩
  | _ => exact q3.elim
theorem de_chain {op op' : CmpOp} (ho : OpR X (compareOp op) (lift2 X.K r)) (ho' : OpR X (compareOp op') (lift2 X.K r')) (ha : PE X a (lift X.K L ta)) (hb : PE X b (lift X.K L tb)) (hc : PE X c (lift X.K L tc)) (hm : lastMarks [op, op'] [b, c] = false) :
    PE X (.Compare a [op, op'] [b, c] pos) (lift X.K L (dChain r r' ta tb tc)) := (pe_chain ho ho' ha hb hc hm).wk fun _ _ _ h => lift2_chain h
theorem dt_chain {op op' : CmpOp} (ho : OpR X (compareOp op) (lift2 X.K r)) (ho' : OpR X (compareOp op') (lift2 X.K r')) (ha : PE X a (lift X.K L ta)) (hb : PE X b (lift X.K L tb)) (hc : PE X c (lift X.K L tc)) (hm : lastMarks [op, op'] [b, c] = false) :
    PT X (.Compare a [op, op'] [b, c] pos) (liftT X.K L (dTest (dChain r r' ta tb tc))) := by
  refine (pt_chain ho ho' ha hb hc hm).wk fun σ H Q h => ?_
  obtain ⟨W, e, s, Qd, st, t, k⟩ := h
  refine lift2_chain ⟨W, e, s, _, st, t, fun d s' W' v H' q x R p => ?_⟩
  cases p with
  | bl b => exact ⟨b, rfl, k b s' W' H' q x R⟩
  | _ => exact q.elim
end

/-! ### arithmetic -/
def dAdd : DR2 := fun x y s Q => match x, y with
  | .int i, .int j => Q (.int (i + j)) s
  | .str a, .str b => a.length + b.length ≤ sizeLine ∧ Q (.str (a ++ b)) s
  | .tup a, .tup b => a.length + b.length ≤ sizeLine ∧ Q (.tup (a ++ b)) s
  | x, y => match dirL s x, dirL s y with
    | some a, some b => a.length + b.length ≤ sizeLine ∧ Q (.lst (a ++ b)) s
    | _, _ => False
def dSub : DR2 := fun x y s Q => match x, y with
  | .int i, .int j => Q (.int (i - j)) s
  | _, _ => False
def dMul : DR2 := fun x y s Q => match x, y with
  | .int i, .int j => CMul i j ∧ Q (.int (i * j)) s
  | x, .int k => match dirL s x with
    | some a => -(2 ^ 63) ≤ k ∧ k < 2 ^ 63 ∧ a.length * k.toNat ≤ sizeLine ∧ Q (.lst (List.replicate k.toNat a).flatten) s
    | none => False
  | _, _ => False
def dFdiv : DR2 := fun x y s Q => match x, y with
  | .int i, .int j => CDiv i j ∧ Q (.int (i / j)) s
  | _, _ => False
def dMod : DR2 := fun x y s Q => match x, y with
  | .int i, .int j => 0 < j ∧ Q (.int (i % j)) s
  | _, _ => False
def dPow : DR2 := fun x y s Q => match x, y with
  | .int i, .int j => CPow i j ∧ Q (.int (i ^ j.toNat)) s
  | _, _ => False
section
variable {X : Cx}
theorem o_sub : OpR X (binaryOp .Sub) (lift2 X.K dSub) := OpR.wk op_sub fun x y H Q h => by
  obtain ⟨W, s, dx, dy, Qd, R, rx, ry, h, k⟩ := h
  unfold dSub at h
  split at h
  · cases rx; cases ry; exact ⟨_, _, rfl, rfl, k _ _ W _ H h (Ext.refl W H) R (.int _)⟩
  · exact h.elim
theorem o_fdiv : OpR X (binaryOp .FloorDiv) (lift2 X.K dFdiv) := OpR.wk op_fdiv fun x y H Q h => by
  obtain ⟨W, s, dx, dy, Qd, R, rx, ry, h, k⟩ := h
  unfold dFdiv at h
  split at h
  · cases rx; cases ry; exact ⟨_, _, rfl, rfl, h.1, k _ _ W _ H h.2 (Ext.refl W H) R (.int _)⟩
  · exact h.elim
theorem o_mod : OpR X (binaryOp .Mod) (lift2 X.K dMod) := OpR.wk op_mod fun x y H Q h => by
  obtain ⟨W, s, dx, dy, Qd, R, rx, ry, h, k⟩ := h
  unfold dMod at h
  split at h
  · cases rx; cases ry; exact ⟨_, _, rfl, rfl, h.1, k _ _ W _ H h.2 (Ext.refl W H) R (.int _)⟩
  · exact h.elim
theorem o_pow : OpR X (binaryOp .Pow) (lift2 X.K dPow) := OpR.wk op_pow fun x y H Q h => by
  obtain ⟨W, s, dx, dy, Qd, R, rx, ry, h, k⟩ := h
  unfold dPow at h
  split at h
  · cases rx; cases ry; exact ⟨_, _, rfl, rfl, h.1, k _ _ W _ H h.2 (Ext.refl W H) R (.int _)⟩
  · exact h.elim
theorem Reps.rep {K : PySem.W.Frag} {W : Wd} {H : Hp} {vs : List V} {ds : List D} (r : Reps K W H vs ds) : ∀ n : Nat, Reps K W H (List.replicate n vs).flatten (List.replicate n ds).flatten
  | 0 => .nil
  | n + 1 => by
    rw [List.replicate_succ, List.replicate_succ, List.flatten_cons, List.flatten_cons]
    exact r.app (Reps.rep r n)
theorem o_add : OpR X (binaryOp .Add) (lift2 X.K dAdd) := OpR.wk (((op_add.or op_add_str).or op_catA).or op_cat) fun x y H Q h => by
  obtain ⟨W, s, dx, dy, Qd, R, rx, ry, h, k⟩ := h
  unfold dAdd at h
  split at h
  · cases rx; cases ry; exact .inl (.inl (.inl ⟨_, _, rfl, rfl, k _ _ W _ H h (Ext.refl W H) R (.int _)⟩))
  · cases rx; cases ry; exact .inl (.inl (.inr ⟨_, _, rfl, rfl, h.1, k _ _ W _ H h.2 (Ext.refl W H) R (.str _)⟩))
  · cases rx with
    | tup fa qa ra =>
      cases ry with
      | tup fb qb rb =>
        refine .inl (.inr ⟨_, _, _, _, rfl, rfl, SqT.of qa, SqT.of qb, by rw [ra.length, rb.length]; exact h.1, fun z => ?_, fun z z' => ?_, fun z z' p hp => ?_⟩)
        · subst z
          cases ra
          exact k _ _ W _ H h.2 (Ext.refl W H) R (.tup fb qb rb)
        · subst z'
          cases rb
          have e := h.2
          rw [List.append_nil] at e
          exact k _ _ W _ H e (Ext.refl W H) R (.tup fa qa ra)
        · exact k _ _ _ _ _ h.2 (Ext.add R hp) (Rel.add R hp) (new_tup R hp (ra.app rb))
  · split at h
    · rename_i ea eb
      obtain ⟨pa, va, rfl, qa, ra⟩ := dirL_ok R rx ea
      obtain ⟨pb, vb, rfl, qb, rb⟩ := dirL_ok R ry eb
      refine .inr ⟨pa, pb, va, vb, rfl, rfl, qa, qb, by rw [ra.length, rb.length]; exact h.1, fun p hp => ?_⟩
      exact k _ _ _ _ _ h.2 (Ext.add R hp) (Rel.add R hp) (new_lst R hp (ra.app rb))
    · exact h.elim
end

/-! ### dicts whose keys are ints and texts -/
def keyK : D → Option Key
  | .int i => some (.inl i)
  | .str x => some (.inr x)
  | _ => none
def dicOf : Option O → Option (List (D × D))
  | some (.dic kvs) => some kvs
  | some (.dicl _ _ kvs) => some kvs
  | _ => none
theorem dicOf_some {o : Option O} {xs : List (D × D)} (h : dicOf o = some xs) : o = some (.dic xs) ∨ ∃ ob vs, o = some (.dicl ob vs xs) := by
  cases o with
  | none => cases h
  | some u => cases u with
    | dic ys => cases h; exact .inl rfl
    | dicl ob vs ys => cases h; exact .inr ⟨ob, vs, rfl⟩
    | _ => cases h
def mapD (s : S) : D → Option (List (D × D))
  | .dic kvs => some kvs
  | .cell n => dicOf (s n)
  | _ => none
def valD (kvs : List (D × D)) (k : Key) : Option D := (kvs.find? fun p => decide (keyK p.1 = some k)).map (·.2)
def putD (kvs : List (D × D)) (k : Key) (d : D) : List (D × D) :=
  if (kvs.any fun p => decide (keyK p.1 = some k)) = true then kvs.map (fun p => if keyK p.1 = some k then (p.1, d) else p) else kvs ++ [(kD k, d)]
theorem keyK_kD (k : Key) : keyK (kD k) = some k := by cases k <;> rfl
theorem kD_keyK {d : D} {k : Key} (h : keyK d = some k) : d = kD k := by
  cases d with
  | int i => cases h; rfl
  | str x => cases h; rfl
  | _ => cases h
theorem Rep.key {K : PySem.W.Frag} {W : Wd} {H : Hp} {v : V} {d : D} {k : Key} (r : Rep K W H v d) (h : keyK d = some k) : v = kV k := by
  cases r with
  | int i => cases h; rfl
  | str x => cases h; rfl
  | _ => cases h
theorem Rep.ofKey {K : PySem.W.Frag} {W : Wd} {H : Hp} (k : Key) : Rep K W H (kV k) (kD k) := by
  cases k with
  | inl i => exact .int i
  | inr x => exact .str x
section
variable {K : PySem.W.Frag} {W : Wd} {H : Hp} {s : S}
theorem core_dK {o : Option HO} {xs : List (Key × V)} (h : o.map core = some (.dK xs)) : o = some (.dK xs) ∨ ∃ ob, o = some (.frz ob (.dK xs)) := by
  cases o with
  | none => cases h
  | some u =>
    have h' : core u = .dK xs := Option.some.inj h
    cases u with
    | frz o u =>
      cases u with
      | dK k =>
        cases (show HO.dK k = HO.dK xs from h')
        exact .inr ⟨o, rfl⟩
      | dT k => exact nomatch (show HO.dT k = HO.dK xs from h')
      | _ => cases h'
    | _ => exact .inl (congrArg some h')
theorem mapD_ok {v : V} {d : D} {kvs : List (D × D)} (R : Rel K W s H) (r : Rep K W H v d) (e : mapD s d = some kvs) : ∃ a vs, v = .ref a ∧ Rd H a (.dK vs) ∧ RepK K W H vs kvs := by
  cases d with
  | dic ys =>
    cases e
    cases r with
    | dK f h rk => exact ⟨_, _, rfl, core_dK h, rk⟩
  | cell n =>
    cases r with
    | cell h =>
      rcases dicOf_some e with e | ⟨ob, vs, e⟩
      · obtain ⟨a, h1, _, vs, h2, h3⟩ := R.cells n _ e
        rw [h] at h1; cases h1
        exact ⟨_, vs, rfl, .inl h2, h3⟩
      · obtain ⟨a, h1, _, h2, h3⟩ := R.cells n _ e
        rw [h] at h1; cases h1
        exact ⟨_, vs, rfl, .inr ⟨ob, h2⟩, h3⟩
  | _ => cases e
theorem cellD_ok {v : V} {n : Nat} {kvs : List (D × D)} (R : Rel K W s H) (r : Rep K W H v (.cell n)) (e : s n = some (.dic kvs)) : ∃ a vs, v = .ref a ∧ W.r n = some a ∧ H a = some (.dK vs) ∧ RepK K W H vs kvs := by
  obtain ⟨a, h1, _, vs, h2, h3⟩ := R.cells n _ e
  cases r with
  | cell h =>
    rw [h] at h1; cases h1
    exact ⟨_, vs, rfl, h, h2, h3⟩
theorem RepK.length {vs : List (Key × V)} {ds : List (D × D)} (r : RepK K W H vs ds) : vs.length = ds.length := by
  induction vs generalizing ds with
  | nil => cases r; rfl
  | cons v vs ih => cases r with | cons _ r => simp [ih r]
theorem RepK.val {vs : List (Key × V)} {ds : List (D × D)} (k : Key) (r : RepK K W H vs ds) : (∀ d, valD ds k = some d → ∃ v, valV vs k = some v ∧ Rep K W H v d) ∧ (valD ds k = none → valV vs k = none) := by
  induction vs generalizing ds with
  | nil => cases r; exact ⟨fun d e => (nomatch e), fun _ => rfl⟩
  | cons p vs ih =>
    cases r with
    | @cons j v d _ ds a r =>
      obtain ⟨i1, i2⟩ := ih r
      unfold valD at i1 i2 ⊢
      unfold valV at i1 i2 ⊢
      simp only [List.find?_cons, keyK_kD, Option.some.injEq]
      by_cases e : j = k
      · rw [decide_eq_true e]
        exact ⟨fun d' q => (by cases q; exact ⟨v, rfl, a⟩), fun q => (nomatch q)⟩
      · rw [decide_eq_false e]
        exact ⟨i1, i2⟩
theorem RepK.app {vs us : List (Key × V)} {ds es : List (D × D)} (h : RepK K W H vs ds) (h' : RepK K W H us es) : RepK K W H (vs ++ us) (ds ++ es) := by
  induction vs generalizing ds with
  | nil => cases h; exact h'
  | cons v vs ih => cases h with | cons a r => exact .cons a (ih r)
theorem RepK.any {vs : List (Key × V)} {ds : List (D × D)} (k : Key) (r : RepK K W H vs ds) : (vs.any fun p => decide (p.1 = k)) = ds.any fun p => decide (keyK p.1 = some k) := by
  induction vs generalizing ds with
  | nil => cases r; rfl
  | cons p vs ih =>
    cases r with
    | cons a r =>
      rw [List.any_cons, List.any_cons, ih r]
      simp only [keyK_kD, Option.some.injEq]
theorem RepK.upd {vs : List (Key × V)} {ds : List (D × D)} (k : Key) {v : V} {d : D} (q : Rep K W H v d) (r : RepK K W H vs ds) : RepK K W H (vs.map fun p => if p.1 = k then (p.1, v) else p) (ds.map fun p => if keyK p.1 = some k then (p.1, d) else p) := by
  induction vs generalizing ds with
  | nil => cases r; exact .nil
  | cons p vs ih =>
    cases r with
    | @cons j w e _ ds a r =>
      rw [List.map_cons, List.map_cons]
      simp only [keyK_kD, Option.some.injEq]
      by_cases e : j = k
      · rw [if_pos e, if_pos e]
        exact .cons q (ih r)
      · rw [if_neg e, if_neg e]
        exact .cons a (ih r)
theorem RepK.put {vs : List (Key × V)} {ds : List (D × D)} (k : Key) {v : V} {d : D} (q : Rep K W H v d) (r : RepK K W H vs ds) : RepK K W H (putK vs k v) (putD ds k d) := by
  unfold putK putD
  rw [r.any k]
  split
  · exact r.upd k q
  · exact r.app (.cons q .nil)
theorem RepK.keys {vs : List (Key × V)} {ds : List (D × D)} (r : RepK K W H vs ds) : ds.map (·.1) = vs.map fun p => kD p.1 := by
  induction vs generalizing ds with
  | nil => cases r; rfl
  | cons p vs ih => cases r with | cons a r => rw [List.map_cons, List.map_cons, ih r]
theorem new_dic {p : Addr} (R : Rel K W s H) (hp : H p = none) : RepO K (W.add p) (upd H p (.dK [])) p (.dic []) := ⟨[], upd_same, .nil⟩
end
end Y


/-! Y3: products, comparisons, subscripts, slices, displays. -/
namespace Y
open PySem PySem.Spec PyProof.Rows L2

/-! ### data without cells -/
mutual
def D.py : D → Option PyData
  | .non => some .none
  | .bl b => some (.bool b)
  | .int i => some (.int i)
  | .str x => some (.str x)
  | .lst xs => (D.pys xs).map PyData.list
  | .xl xs => (D.pys xs).map PyData.list
  | .tup xs => (D.pys xs).map PyData.tuple
  | .xt xs => (D.pys xs).map PyData.tuple
  | .dic _ => none
  | .dit _ => none
  | .cell _ => none
  | .adr _ => none
  | .ty _ => none
  | .glo _ => none
  | .obj _ _ => none
def D.pys : List D → Option (List PyData)
  | [] => some []
  | d :: ds => match D.py d, D.pys ds with
    | some p, some ps => some (p :: ps)
    | _, _ => none
end
def pyS (s : S) : D → Option PyData
  | .cell n => (lstOf (s n)).bind fun xs => (D.pys xs).map PyData.list
  | d => d.py
theorem pys_cons {d : D} {ds : List D} {qs : List PyData} (h : D.pys (d :: ds) = some qs) : ∃ p ps, d.py = some p ∧ D.pys ds = some ps ∧ qs = p :: ps := by
  rw [D.pys] at h
  split at h
  · rename_i p ps e1 e2
    exact ⟨p, ps, e1, e2, (Option.some.inj h).symm⟩
  · cases h
section
variable {K : PySem.W.Frag} {W : Wd} {H : Hp} {s : S}
mutual
theorem Rep.dp {v : V} {d : D} {p : PyData} : Rep K W H v d → d.py = some p → Dp K H v p
  | .non, e => by rw [D.py] at e; cases e; exact .non
  | .bl b, e => by rw [D.py] at e; cases e; exact .bl b
  | .int b, e => by rw [D.py] at e; cases e; exact .int b
  | .str b, e => by rw [D.py] at e; cases e; exact .str b
  | .lst (ds := ds) f h r, e => by
    rw [D.py] at e
    cases q : D.pys ds with
    | none => rw [q] at e; cases e
    | some ps => rw [q] at e; cases e; exact .lst (SqL.of h) (Reps.dp r q)
  | .xl (ds := ds) h r, e => by
    rw [D.py] at e
    cases q : D.pys ds with
    | none => rw [q] at e; cases e
    | some ps => rw [q] at e; cases e; exact .lst h.sq (Reps.dp r q)
  | .tup (ds := ds) f h r, e => by
    rw [D.py] at e
    cases q : D.pys ds with
    | none => rw [q] at e; cases e
    | some ps => rw [q] at e; cases e; exact .tup (SqT.of h) (Reps.dp r q)
  | .xt (ds := ds) h r, e => by
    rw [D.py] at e
    cases q : D.pys ds with
    | none => rw [q] at e; cases e
    | some ps => rw [q] at e; cases e; exact .tup h.sq (Reps.dp r q)
  | .dK _ _ _, e => by rw [D.py] at e; cases e
  | .dT _ _ _, e => by rw [D.py] at e; cases e
  | .cell _, e => by rw [D.py] at e; cases e
  | .adr _, e => by rw [D.py] at e; cases e
  | .ty _, e => by rw [D.py] at e; cases e
  | .glo _, e => by rw [D.py] at e; cases e
  | .obj _ _ _ _ _, e => by rw [D.py] at e; cases e
theorem Reps.dp {vs : List V} {ds : List D} {ps : List PyData} : Reps K W H vs ds → D.pys ds = some ps → DpAll K H vs ps
  | .nil, e => by rw [D.pys] at e; cases e; exact .nil
  | .cons r rs, e => by
    obtain ⟨p, qs, e1, e2, rfl⟩ := pys_cons e
    exact .cons (Rep.dp r e1) (Reps.dp rs e2)
end
theorem pyS_dp {v : V} {d : D} {p : PyData} (R : Rel K W s H) (r : Rep K W H v d) (e : pyS s d = some p) : Dp K H v p := by
  cases d with
  | cell n =>
    have e : ((lstOf (s n)).bind fun xs => (D.pys xs).map PyData.list) = some p := e
    cases q : lstOf (s n) with
    | none => rw [q] at e; cases e
    | some xs =>
      rw [q] at e
      have e' : (D.pys xs).map PyData.list = some p := e
      cases q2 : D.pys xs with
      | none => rw [q2] at e'; cases e'
      | some ps =>
        rw [q2] at e'; cases e'
        obtain ⟨a, vs, rfl, _, h2, h3⟩ := r.cellL R (lstOf_some q)
        exact .lst (SqL.of h2) (h3.dp q2)
  | _ => exact r.dp e
end

/-! ### products -/
section
variable {X : Cx}
theorem map_rep {α β : Type} (f : α → β) (n : Nat) (xs : List α) : ((List.replicate n xs).flatten).map f = (List.replicate n (xs.map f)).flatten := by
  induction n with
  | zero => rfl
  | succ n ih => rw [List.replicate_succ, List.replicate_succ, List.flatten_cons, List.flatten_cons, List.map_append, ih]
theorem o_mul : OpR X (binaryOp .Mult) (lift2 X.K dMul) := OpR.wk (op_mul.or op_rep) fun x y H Q h => by
  obtain ⟨W, s, dx, dy, Qd, R, rx, ry, h, k⟩ := h
  unfold dMul at h
  split at h
  · cases rx; cases ry; exact .inl ⟨_, _, rfl, rfl, h.1, k _ _ W _ H h.2 (Ext.refl W H) R (.int _)⟩
  · split at h
    · rename_i ea
      obtain ⟨h1, h2, h3, h4⟩ := h
      obtain ⟨pa, va, rfl, qa, ra⟩ := dirL_ok R rx ea
      cases ry
      exact .inr ⟨pa, _, va, rfl, rfl, qa, h1, h2, by rw [ra.length]; exact h3, fun p hp => k _ _ _ _ _ h4 (Ext.add R hp) (Rel.add R hp) (new_lst R hp (ra.rep _))⟩
    · exact h.elim
  · exact h.elim
end

/-! ### comparisons -/
/-- == of plain scalars -/
def eqS : D → D → Option Bool
  | .non, .non => some true
  | .non, .int _ => some false | .int _, .non => some false | .non, .bl _ => some false | .bl _, .non => some false | .non, .str _ => some false | .str _, .non => some false
  | .int i, .int j => some (decide (i = j))
  | .bl i, .bl j => some (decide (i = j))
  | .str i, .str j => some (decide (i = j))
  | .int _, .str _ => some false | .str _, .int _ => some false | .bl _, .str _ => some false | .str _, .bl _ => some false
  | _, _ => none
def dEqB (x y : D) (s : S) (Q : Bool → Prop) : Prop := match eqS x y with
  | some b => Q b
  | none => match y with
    | .lst [] => (match seqL s x with
      | some xs => Q xs.isEmpty
      | none => False)
    | .tup [] => (match seqT x with
      | some xs => Q xs.isEmpty
      | none => False)
    | _ => match pyS s x, pyS s y with
      | some p, some q => SeqAt.shaped p = true ∧ SeqAt.shaped q = true ∧ Q (PyData.eqv p q)
      | _, _ => False
def dEq : DR2 := fun x y s Q => dEqB x y s fun b => Q (.bl b) s
def dNe : DR2 := fun x y s Q => dEqB x y s fun b => Q (.bl (!b)) s
/-- a list beside an empty one, a tuple beside an empty one -/
def rEq0 (K : PySem.W.Frag) (neg : Bool) : R2 := fun x y H Q => ∃ a b xs, x = .ref a ∧ y = .ref b ∧ ((SqL K H a xs ∧ SqL K H b []) ∨ (SqT K H a xs ∧ SqT K H b [])) ∧ Q (.bl (if neg then !xs.isEmpty else xs.isEmpty)) H
section
variable {X : Cx}
theorem vals_nil {us : List Value} (h : Vals [] us) : us = [] := by cases h; rfl
theorem op_eq0 (hu : X.A.units < cLine) : OpR X (compareOp .Eq) (rEq0 X.K false) := by
  intro pins s σ H x y v u Q I rx ry h
  obtain ⟨a, b, xs, rfl, rfl, h, q⟩ := h
  cases rx; cases ry
  have fin : EP X pins σ Q (.bool xs.isEmpty) s := ⟨.bl _, H, I, rfl, q⟩
  rcases h with ⟨h1, h2⟩ | ⟨h1, h2⟩
  · obtain ⟨its, r1, p1, _⟩ := I.list h1
    obtain ⟨its2, r2, p2, _⟩ := I.list h2
    cases vals_nil r2
    cases xs with
    | nil =>
      cases vals_nil r1
      exact SeqAt.RcAt.lists p1.isList p2.isList rfl hu (e := fun _ => true) (fun j h1 => absurd h1 (by simp)) _ _ _ _ fin
    | cons x xs =>
      refine SeqAt.RcAt.lists_lengths p1.isList p2.isList ?_ hu _ _ _ _ fin
      have := r1.length
      cases its with
      | nil => cases this
      | cons _ _ => simp
  · obtain ⟨its, r1, p1, _⟩ := I.tuple h1
    obtain ⟨its2, r2, p2, _⟩ := I.tuple h2
    cases vals_nil r2
    refine SeqAt.RcAt.tuples (show s.heap.IsTuple a its.toArray from p1) (show s.heap.IsTuple b _ from p2) hu (e := fun _ => true) (fun j h1 h2 => absurd h2 (by simp)) _ _ _ _ ?_
    cases xs with
    | nil => cases vals_nil r1; exact fin
    | cons x xs =>
      have := r1.length
      cases its with
      | nil => cases this
      | cons i its => exact fin
theorem op_ne0 (hu : X.A.units < cLine) : OpR X (compareOp .NotEq) (rEq0 X.K true) := by
  intro pins s σ H x y v u Q I rx ry h
  obtain ⟨a, b, xs, rfl, rfl, h, q⟩ := h
  cases rx; cases ry
  have fin : EP X pins σ Q (.bool (!xs.isEmpty)) s := ⟨.bl _, H, I, rfl, q⟩
  rcases h with ⟨h1, h2⟩ | ⟨h1, h2⟩
  · obtain ⟨its, r1, p1, _⟩ := I.list h1
    obtain ⟨its2, r2, p2, _⟩ := I.list h2
    cases vals_nil r2
    cases xs with
    | nil =>
      cases vals_nil r1
      exact SeqAt.RcNeAt.lists p1.isList p2.isList rfl hu (e := fun _ => true) (fun j h1 => absurd h1 (by simp)) _ _ _ _ fin
    | cons x xs =>
      refine SeqAt.RcNeAt.lists_lengths p1.isList p2.isList ?_ hu _ _ _ _ fin
      have := r1.length
      cases its with
      | nil => cases this
      | cons _ _ => simp
  · obtain ⟨its, r1, p1, _⟩ := I.tuple h1
    obtain ⟨its2, r2, p2, _⟩ := I.tuple h2
    cases vals_nil r2
    refine SeqAt.RcNeAt.tuples (show s.heap.IsTuple a its.toArray from p1) (show s.heap.IsTuple b _ from p2) hu (e := fun _ => true) (fun j h1 h2 => absurd h2 (by simp)) _ _ _ _ ?_
    cases xs with
    | nil => cases vals_nil r1; exact fin
    | cons x xs =>
      have := r1.length
      cases its with
      | nil => cases this
      | cons i its => exact fin
theorem eqS_V {K : PySem.W.Frag} {W : Wd} {H : Hp} {x y : V} {dx dy : D} {b : Bool} (rx : Rep K W H x dx) (ry : Rep K W H y dy) (h : eqS dx dy = some b) : scal x y = true ∧ decide (x = y) = b := by
  cases rx <;> cases ry <;> first
    | (cases h; exact ⟨rfl, by simp⟩)
    | (cases h; exact ⟨rfl, rfl⟩)
    | cases h
theorem dEqB_ok {K : PySem.W.Frag} {W : Wd} {H : Hp} {s : S} {x y : V} {dx dy : D} {Q : Bool → Prop} (R : Rel K W s H) (rx : Rep K W H x dx) (ry : Rep K W H y dy) (h : dEqB dx dy s Q) :
    (∃ b, scal x y = true ∧ decide (x = y) = b ∧ Q b) ∨ (∃ a b xs, x = .ref a ∧ y = .ref b ∧ ((SqL K H a xs ∧ SqL K H b []) ∨ (SqT K H a xs ∧ SqT K H b [])) ∧ Q xs.isEmpty) ∨
      ∃ p q, Dp K H x p ∧ Dp K H y q ∧ SeqAt.shaped p = true ∧ SeqAt.shaped q = true ∧ Q (PyData.eqv p q) := by
  unfold dEqB at h
  split at h
  · rename_i b e
    obtain ⟨h1, h2⟩ := eqS_V rx ry e
    exact .inl ⟨b, h1, h2, h⟩
  · split at h
    · split at h
      · rename_i e
        obtain ⟨a, vs, rfl, h1, h2⟩ := seqL_ok R rx e
        cases ry with
        | lst f hb r =>
          cases r
          refine .inr (.inl ⟨a, _, vs, rfl, rfl, .inl ⟨h1, SqL.of hb⟩, ?_⟩)
          cases h2 <;> exact h
      · exact h.elim
    · split at h
      · rename_i e
        obtain ⟨a, vs, rfl, h1, h2⟩ := seqT_ok rx e
        cases ry with
        | tup f hb r =>
          cases r
          refine .inr (.inl ⟨a, _, vs, rfl, rfl, .inr ⟨h1, SqT.of hb⟩, ?_⟩)
          cases h2 <;> exact h
      · exact h.elim
    · split at h
      · rename_i p q e1 e2
        exact .inr (.inr ⟨p, q, pyS_dp R rx e1, pyS_dp R ry e2, h⟩)
      · exact h.elim
theorem o_eq (hu : X.A.units + 64 < cLine) : OpR X (compareOp .Eq) (lift2 X.K dEq) := OpR.wk ((op_eq.or (op_eq0 (by omega))).or (op_eqD hu)) fun x y H Q h => by
  obtain ⟨W, s, dx, dy, Qd, R, rx, ry, h, k⟩ := h
  have fin : ∀ b, Qd (.bl b) s → Q (.bl b) H := fun b q => k _ _ W _ H q (Ext.refl W H) R (.bl b)
  rcases dEqB_ok R rx ry h with ⟨b, h1, h2, h3⟩ | ⟨a, b, xs, h1, h2, h3, h4⟩ | ⟨p, q, h1, h2, h3, h4, h5⟩
  · exact .inl (.inl ⟨h1, by rw [h2]; exact fin b h3⟩)
  · exact .inl (.inr ⟨a, b, xs, h1, h2, h3, fin _ h4⟩)
  · exact .inr ⟨p, q, h1, h2, h3, h4, fin _ h5⟩
theorem o_ne (hu : X.A.units + 64 < cLine) : OpR X (compareOp .NotEq) (lift2 X.K dNe) := OpR.wk ((op_ne.or (op_ne0 (by omega))).or (op_neD hu)) fun x y H Q h => by
  obtain ⟨W, s, dx, dy, Qd, R, rx, ry, h, k⟩ := h
  have fin : ∀ b, Qd (.bl b) s → Q (.bl b) H := fun b q => k _ _ W _ H q (Ext.refl W H) R (.bl b)
  rcases dEqB_ok R rx ry h with ⟨b, h1, h2, h3⟩ | ⟨a, b, xs, h1, h2, h3, h4⟩ | ⟨p, q, h1, h2, h3, h4, h5⟩
  · exact .inl (.inl ⟨h1, by rw [h2]; exact fin _ h3⟩)
  · exact .inl (.inr ⟨a, b, xs, h1, h2, h3, fin _ h4⟩)
  · exact .inr ⟨p, q, h1, h2, h3, h4, fin _ h5⟩
def dOrd (p : Int → Int → Bool) : DR2 := fun x y s Q => match x, y with
  | .int i, .int j => Q (.bl (p i j)) s
  | _, _ => False
theorem ord_ok {f : Value → Value → Sem Value} {p : Int → Int → Bool} (h : OpR X f (rI0 fun i j => .bl (p i j))) : OpR X f (lift2 X.K (dOrd p)) := OpR.wk h fun x y H Q h => by
  obtain ⟨W, s, dx, dy, Qd, R, rx, ry, h, k⟩ := h
  unfold dOrd at h
  split at h
  · cases rx; cases ry; exact ⟨_, _, rfl, rfl, k _ _ W _ H h (Ext.refl W H) R (.bl _)⟩
  · exact h.elim
def dIsN : DR2 := fun x y s Q => match y, x with
  | .non, .non => Q (.bl true) s
  | .non, _ => Q (.bl false) s
  | .bl b, .bl a => Q (.bl (decide (a = b))) s
  | .bl _, .non => Q (.bl false) s
  | _, _ => False
def dNotN : DR2 := fun x y s Q => match y, x with
  | .non, .non => Q (.bl false) s
  | .non, _ => Q (.bl true) s
  | .bl b, .bl a => Q (.bl (!decide (a = b))) s
  | .bl _, .non => Q (.bl true) s
  | _, _ => False
theorem op_nonB : OpR X (compareOp .Is) (fun x y H Q => ∃ b, x = .non ∧ y = .bl b ∧ Q (.bl false) H) := by
  intro pins s σ H x y v u Q I rx ry h
  obtain ⟨b, rfl, rfl, q⟩ := h
  cases (show v = Value.none from rx)
  cases (show u = Value.bool b from ry)
  exact wpAny_is_other rfl (fun z => nomatch z) ⟨.bl false, H, I, rfl, q⟩
theorem op_notNonB : OpR X (compareOp .IsNot) (fun x y H Q => ∃ b, x = .non ∧ y = .bl b ∧ Q (.bl true) H) := by
  intro pins s σ H x y v u Q I rx ry h
  obtain ⟨b, rfl, rfl, q⟩ := h
  cases (show v = Value.none from rx)
  cases (show u = Value.bool b from ry)
  exact wpAny_isNot_other rfl (fun z => nomatch z) ⟨.bl true, H, I, rfl, q⟩
theorem o_is : OpR X (compareOp .Is) (lift2 X.K dIsN) := OpR.wk ((op_isN.or op_isBl).or op_nonB) fun x y H Q h => by
  obtain ⟨W, s, dx, dy, Qd, R, rx, ry, h, k⟩ := h
  unfold dIsN at h
  split at h
  · cases rx; cases ry; exact .inl (.inl ⟨rfl, k _ _ W _ H h (Ext.refl W H) R (.bl _)⟩)
  · cases ry
    refine .inl (.inl ⟨rfl, ?_⟩)
    have e : decide (x = V.non) = false := by
      refine decide_eq_false fun z => ?_
      subst z
      cases rx
      rename_i hh
      exact hh rfl
    rw [e]
    exact k _ _ W _ H h (Ext.refl W H) R (.bl _)
  · cases rx; cases ry; exact .inl (.inr ⟨_, _, rfl, rfl, k _ _ W _ H h (Ext.refl W H) R (.bl _)⟩)
  · cases rx; cases ry; exact .inr ⟨_, rfl, rfl, k _ _ W _ H h (Ext.refl W H) R (.bl _)⟩
  · exact h.elim
theorem o_isnot : OpR X (compareOp .IsNot) (lift2 X.K dNotN) := OpR.wk ((op_notN.or op_notBl).or op_notNonB) fun x y H Q h => by
  obtain ⟨W, s, dx, dy, Qd, R, rx, ry, h, k⟩ := h
  unfold dNotN at h
  split at h
  · cases rx; cases ry; exact .inl (.inl ⟨rfl, k _ _ W _ H h (Ext.refl W H) R (.bl _)⟩)
  · cases ry
    refine .inl (.inl ⟨rfl, ?_⟩)
    have e : decide (x = V.non) = false := by
      refine decide_eq_false fun z => ?_
      subst z
      cases rx
      rename_i hh
      exact hh rfl
    rw [e]
    exact k _ _ W _ H h (Ext.refl W H) R (.bl _)
  · cases rx; cases ry; exact .inl (.inr ⟨_, _, rfl, rfl, k _ _ W _ H h (Ext.refl W H) R (.bl _)⟩)
  · cases rx; cases ry; exact .inr ⟨_, rfl, rfl, k _ _ W _ H h (Ext.refl W H) R (.bl _)⟩
  · exact h.elim
end
end Y


/-! Y4: truth, and, or, not, names, subscripts, slices, displays, in. -/
namespace Y
open PySem PySem.Spec PyProof.Rows L2

/-! ### truth -/
def dTru (d : D) (s : S) (Q : Bool → Prop) : Prop := match d with
  | .non => Q false
  | .bl b => Q b
  | .int i => Q (i != 0)
  | .str x => x.length ≤ sizeLine ∧ Q ((x.length : Int) != 0)
  | d => match seqL s d with
    | some xs => Q (!xs.isEmpty)
    | none => match seqT d with
      | some xs => Q (!xs.isEmpty)
      | none => False
theorem isEmpty_reps {K : PySem.W.Frag} {W : Wd} {H : Hp} {vs : List V} {ds : List D} (r : Reps K W H vs ds) : vs.isEmpty = ds.isEmpty := by cases r <;> rfl
theorem dTru_ok {K : PySem.W.Frag} {W : Wd} {H : Hp} {s : S} {v : V} {d : D} {Q : Bool → Prop} (R : Rel K W s H) (r : Rep K W H v d) (h : dTru d s Q) : ∃ k, TruV K v H k ∧ Q k := by
  unfold dTru at h
  split at h
  · cases r; exact ⟨_, rfl, h⟩
  · cases r; exact ⟨_, rfl, h⟩
  · cases r; exact ⟨_, rfl, h⟩
  · cases r; exact ⟨_, ⟨h.1, rfl⟩, h.2⟩
  · split at h
    · rename_i e
      obtain ⟨a, vs, rfl, h1, h2⟩ := seqL_ok R r e
      exact ⟨_, .inl ⟨vs, h1, rfl⟩, by rw [isEmpty_reps h2]; exact h⟩
    · split at h
      · rename_i e
        obtain ⟨a, vs, rfl, h1, h2⟩ := seqT_ok r e
        exact ⟨_, .inr (.inl ⟨vs, h1, rfl⟩), by rw [isEmpty_reps h2]; exact h⟩
      · exact h.elim
section
variable {X : Cx} {L : Lk} {a b c : Expr} {ta tb tc : DTE} {u v : DTT} {pos : Pos} {rest : List Expr}
def dTruE (t : DTE) : DTT := fun e s Q => t e s fun x s1 => dTru x s1 fun k => Q k s1
theorem dt_tru (ha : PE X a (lift X.K L ta)) (he : ∀ whole, isTrue a X.env whole = (do let v ← whole; standAt a.pos; holding [v] (truthy v))) : PT X a (liftT X.K L (dTruE ta)) := by
  refine (pt_truth ha he).wk fun σ H Q h => ?_
  obtain ⟨W, e, s, Qd, st, t, k⟩ := h
  refine ⟨W, e, s, _, st, t, fun d s' W' w H' q x R p => ?_⟩
  obtain ⟨z, h1, h2⟩ := dTru_ok R p q
  exact ⟨z, h1, k z s' W' H' h2 x R⟩
def dAnd (u v : DTT) : DTT := fun e s Q => u e s fun c s1 => if c = true then v e s1 Q else Q false s1
def dOr (u v : DTT) : DTT := fun e s Q => u e s fun c s1 => if c = true then Q true s1 else v e s1 Q
def dNot (u : DTT) : DTT := fun e s Q => u e s fun c s1 => Q (!c) s1
theorem lift_and {σ : St} {H : Hp} {Q : Bool → Hp → Prop} (h : liftT X.K L (dAnd u v) σ H Q) : tAnd (liftT X.K L u) (liftT X.K L v) σ H Q := by
  obtain ⟨W, e, s, Qd, st, t, k⟩ := h
  refine ⟨W, e, s, _, st, t, fun d s1 W1 H1 q x R => ?_⟩
  cases d with
  | true =>
    rw [if_pos rfl] at q ⊢
    exact ⟨W1, e, s1, Qd, st.after x R, q, fun d2 s2 W2 H2 q2 x2 R2 => k d2 s2 W2 H2 q2 (x.trans x2) R2⟩
  | false =>
    rw [if_neg Bool.false_ne_true] at q ⊢
    exact k _ _ _ _ q x R
theorem lift_or {σ : St} {H : Hp} {Q : Bool → Hp → Prop} (h : liftT X.K L (dOr u v) σ H Q) : tOr (liftT X.K L u) (liftT X.K L v) σ H Q := by
  obtain ⟨W, e, s, Qd, st, t, k⟩ := h
  refine ⟨W, e, s, _, st, t, fun d s1 W1 H1 q x R => ?_⟩
  cases d with
  | false =>
    rw [if_neg Bool.false_ne_true] at q ⊢
    exact ⟨W1, e, s1, Qd, st.after x R, q, fun d2 s2 W2 H2 q2 x2 R2 => k d2 s2 W2 H2 q2 (x.trans x2) R2⟩
  | true =>
    rw [if_pos rfl] at q ⊢
    exact k _ _ _ _ q x R
theorem dw_and1 (ha : PT X a (liftT X.K L u)) : PW X (.BoolOp .And [a] pos) (liftT X.K L u) := pw_and1 ha
theorem dw_or1 (ha : PT X a (liftT X.K L u)) : PW X (.BoolOp .Or [a] pos) (liftT X.K L u) := pw_or1 ha
theorem dw_and (ha : PT X a (liftT X.K L u)) (hb : PW X (.BoolOp .And (b :: rest) pos) (liftT X.K L v)) : PW X (.BoolOp .And (a :: b :: rest) pos) (liftT X.K L (dAnd u v)) := (pw_and ha hb).wk fun _ _ _ h => lift_and h
theorem dw_or (ha : PT X a (liftT X.K L u)) (hb : PW X (.BoolOp .Or (b :: rest) pos) (liftT X.K L v)) : PW X (.BoolOp .Or (a :: b :: rest) pos) (liftT X.K L (dOr u v)) := (pw_or ha hb).wk fun _ _ _ h => lift_or h
theorem dt_not (ha : PT X a (liftT X.K L u)) : PT X (.UnaryOp .Not a pos) (liftT X.K L (dNot u)) := (pt_not ha).wk fun σ H Q h => by
  obtain ⟨W, e, s, Qd, st, t, k⟩ := h
  exact ⟨W, e, s, _, st, t, fun d s1 W1 H1 q x R => k _ _ _ _ q x R⟩
/-- a and b, a or b, not a as values, by truth -/
def dAndV (ta tb : DTE) : DTE := fun e s Q => ta e s fun x s1 => dTru x s1 fun k => if k = true then tb e s1 Q else Q x s1
def dOrV (ta tb : DTE) : DTE := fun e s Q => ta e s fun x s1 => dTru x s1 fun k => if k = true then Q x s1 else tb e s1 Q
def dNotV (ta : DTE) : DTE := fun e s Q => ta e s fun x s1 => dTru x s1 fun k => Q (.bl (!k)) s1
theorem de_and (ha : PE X a (lift X.K L ta)) (hb : PE X (.BoolOp .And (b :: rest) pos) (lift X.K L tb)) : PE X (.BoolOp .And (a :: b :: rest) pos) (lift X.K L (dAndV ta tb)) := (pe_andT ha hb).wk fun σ H Q h => by
  obtain ⟨W, e, s, Qd, st, t, k⟩ := h
  refine ⟨W, e, s, _, st, t, fun d s1 W1 w H1 q x R p => ?_⟩
  obtain ⟨z, h1, h2⟩ := dTru_ok R p q
  refine ⟨z, h1, ?_⟩
  cases z with
  | true =>
    rw [if_pos rfl] at h2 ⊢
    exact ⟨W1, e, s1, Qd, st.after x R, h2, fun d2 s2 W2 v2 H2 q2 x2 R2 p2 => k d2 s2 W2 v2 H2 q2 (x.trans x2) R2 p2⟩
  | false =>
    rw [if_neg Bool.false_ne_true] at h2 ⊢
    exact k _ _ _ _ _ h2 x R p
theorem de_or (ha : PE X a (lift X.K L ta)) (hb : PE X (.BoolOp .Or (b :: rest) pos) (lift X.K L tb)) : PE X (.BoolOp .Or (a :: b :: rest) pos) (lift X.K L (dOrV ta tb)) := (pe_orT ha hb).wk fun σ H Q h => by
  obtain ⟨W, e, s, Qd, st, t, k⟩ := h
  refine ⟨W, e, s, _, st, t, fun d s1 W1 w H1 q x R p => ?_⟩
  obtain ⟨z, h1, h2⟩ := dTru_ok R p q
  refine ⟨z, h1, ?_⟩
  cases z with
  | false =>
    rw [if_neg Bool.false_ne_true] at h2 ⊢
    exact ⟨W1, e, s1, Qd, st.after x R, h2, fun d2 s2 W2 v2 H2 q2 x2 R2 p2 => k d2 s2 W2 v2 H2 q2 (x.trans x2) R2 p2⟩
  | true =>
    rw [if_pos rfl] at h2 ⊢
    exact k _ _ _ _ _ h2 x R p
theorem de_not (ha : PE X a (lift X.K L ta)) : PE X (.UnaryOp .Not a pos) (lift X.K L (dNotV ta)) := (pe_notT ha).wk fun σ H Q h => by
  obtain ⟨W, e, s, Qd, st, t, k⟩ := h
  refine ⟨W, e, s, _, st, t, fun d s1 W1 w H1 q x R p => ?_⟩
  obtain ⟨z, h1, h2⟩ := dTru_ok R p q
  exact ⟨z, h1, k _ _ _ _ _ h2 x R (.bl _)⟩
def dIfE (u : DTT) (ta tb : DTE) : DTE := fun e s Q => u e s fun c s1 => if c = true then ta e s1 Q else tb e s1 Q
theorem de_ife (hc : PT X c (liftT X.K L u)) (ha : PE X a (lift X.K L ta)) (hb : PE X b (lift X.K L tb)) : PE X (.IfExp c a b pos) (lift X.K L (dIfE u ta tb)) := (pe_ifExp hc ha hb).wk fun σ H Q h => by
  obtain ⟨W, e, s, Qd, st, t, k⟩ := h
  refine ⟨W, e, s, _, st, t, fun d s1 W1 H1 q x R => ?_⟩
  cases d with
  | true =>
    rw [if_pos rfl] at q ⊢
    exact ⟨W1, e, s1, Qd, st.after x R, q, fun d2 s2 W2 v2 H2 q2 x2 R2 p2 => k d2 s2 W2 v2 H2 q2 (x.trans x2) R2 p2⟩
  | false =>
    rw [if_neg Bool.false_ne_true] at q ⊢
    exact ⟨W1, e, s1, Qd, st.after x R, q, fun d2 s2 W2 v2 H2 q2 x2 R2 p2 => k d2 s2 W2 v2 H2 q2 (x.trans x2) R2 p2⟩

/-! ### names, constants -/
def dVar (i : Nat) : DTE := fun e s Q => match e[i]? with
  | some (some d) => Q d s
  | _ => False
theorem lift_var {i : Nat} {σ : St} {H : Hp} {Q : VK} (h : lift X.K L (dVar i) σ H Q) : tVar i σ H Q := by
  obtain ⟨W, e, s, Qd, st, t, k⟩ := h
  unfold dVar at t
  split at t
  · rename_i d q
    obtain ⟨v, h1, h2⟩ := st.env.at_ i d q
    exact ⟨v, h1, k d s W v H t (Ext.refl W H) st.rel h2⟩
  · exact t.elim
def dC (d : D) : DTE := fun _ s Q => Q d s
theorem lift_c {v : V} {d : D} (hr : ∀ K W H, Rep K W H v d) {σ : St} {H : Hp} {Q : VK} (h : lift X.K L (dC d) σ H Q) : tC v σ H Q := by
  obtain ⟨W, e, s, Qd, st, t, k⟩ := h
  exact k d s W v H t (Ext.refl W H) st.rel (hr _ _ _)

/-! ### subscripts -/
def dIx : DR2 := fun x i s Q => match mapD s x with
  | some kvs => (match keyK i with
    | some κ => (match valD kvs κ with
      | some d => Q d s
      | none => False)
    | none => False)
  | none => match i with
  | .int k => (match seqL s x with
    | some xs => (match atI xs k with
      | some d => Q d s
      | none => False)
    | none => match seqT x with
      | some xs => (match atI xs k with
        | some d => Q d s
        | none => False)
      | none => match x with
        | .str z => z.length ≤ sizeLine ∧ (match atI z.cps.toList k with
          | some c => Q (.str ⟨#[c]⟩) s
          | none => False)
        | _ => False)
  | _ => False
theorem Reps.atI {K : PySem.W.Frag} {W : Wd} {H : Hp} {vs : List V} {ds : List D} {k : Int} {d : D} (r : Reps K W H vs ds) (h : L2.atI ds k = some d) : ∃ v, L2.atI vs k = some v ∧ Rep K W H v d := by
  unfold L2.atI at h ⊢
  rw [r.length]
  cases e : ixN ds.length k with
  | none => rw [e] at h; cases h
  | some j =>
    rw [e] at h
    exact r.get (i := j) h
theorem ix_dict (hu : X.A.units + 1 < cLine) : IxR X (fun x y H Q => ∃ a v, x = .ref a ∧ DGet H a y (some v) ∧ Q v H) := by
  intro value slice pins s σ H x y v u Q I rx ry h hs
  obtain ⟨a, z, rfl, g, q⟩ := h
  cases (show v = Value.ref a from rx)
  have hT := dict_typeIs I g
  have body : wpAny (model X.prog X.w) X.A (subscripted slice false (.ref a) u) (fun r t => wpAny (model X.prog X.w) X.A (letTemporaryGo value (.ref a) r >>= fun _ => pure r) (EP X pins σ Q) X.xe t) X.xe s := by
    rw [hs]
    exact wpAny_operating (d_getItem hu I g ry fun w' s1 I1 rw' => wpAny_bind (wpAny_letTemporaryGo (wpAny_pure ⟨z, H, I1, rw', q⟩)))
  unfold subscriptTail
  apply wpAny_bind
  rw [getitemInPython_of_ne hT.not_modules]
  apply wpAny_bind
  refine wpAny_specialOf hT PySem.F.slot_dict_getitem.lookup ?_
  first
    | exact wpAny_pure (wpAny_bind body)
    | exact wpAny_bind (wpAny_pure (wpAny_bind body))
    | exact wpAny_bind body
theorem x_ix (hu : X.A.units + 1 < cLine) : IxR X (lift2 X.K dIx) := IxR.wk (((ix_list.or ix_tup).or ix_str).or (ix_dict hu)) fun x y H Q h => by
  obtain ⟨W, s, dx, dy, Qd, R, rx, ry, h, k⟩ := h
  unfold dIx at h
  split at h
  · rename_i kvs em
    split at h
    · rename_i κ ek
      split at h
      · rename_i d ev
        obtain ⟨a, vs, rfl, h1, h2⟩ := mapD_ok R rx em
        obtain ⟨v, h3, h4⟩ := (h2.val κ).1 d ev
        cases ry.key ek
        exact .inr ⟨a, v, rfl, .inl ⟨vs, κ, h1, rfl, h3.symm⟩, k _ _ W _ H h (Ext.refl W H) R h4⟩
      · exact h.elim
    · exact h.elim
  refine .inl ?_
  split at h
  · cases ry
    split at h
    · rename_i e
      split at h
      · rename_i e2
        obtain ⟨a, vs, rfl, h1, h2⟩ := seqL_ok R rx e
        obtain ⟨v, h3, h4⟩ := h2.atI e2
        exact .inl (.inl ⟨a, vs, _, v, rfl, rfl, h1, h3, k _ _ W _ H h (Ext.refl W H) R h4⟩)
      · exact h.elim
    · split at h
      · rename_i e
        split at h
        · rename_i e2
          obtain ⟨a, vs, rfl, h1, h2⟩ := seqT_ok rx e
          obtain ⟨v, h3, h4⟩ := h2.atI e2
          exact .inl (.inr ⟨a, vs, _, v, rfl, rfl, h1, h3, k _ _ W _ H h (Ext.refl W H) R h4⟩)
        · exact h.elim
      · split at h
        · cases rx
          obtain ⟨h0, h⟩ := h
          split at h
          · rename_i e2
            exact .inr ⟨_, _, _, rfl, rfl, h0, e2, k _ _ W _ H h (Ext.refl W H) R (.str _)⟩
          · exact h.elim
        · exact h.elim
  · exact h.elim
theorem de_ix (hu : X.A.units + 1 < cLine) (ha : PE X a (lift X.K L ta)) (hb : PE X b (lift X.K L tb)) (hs : PlainIx b) : PE X (.Subscript a b pos) (lift X.K L (dOp dIx ta tb)) := (pe_ix (x_ix hu) ha hb hs).wk fun _ _ _ h => lift2_op h

/-! ### slices -/
def dcut {α : Type} (xs : List α) (lo hi : Option Int) : List α := (xs.drop (HT.sIx xs.length 0 lo)).take (HT.sIx xs.length xs.length hi - HT.sIx xs.length 0 lo)
abbrev DTO := Nv → S → (Option Int → S → Prop) → Prop
def dNoP : DTO := fun _ s Q => Q none s
def dPart (t : DTE) : DTO := fun e s Q => t e s fun x s1 => match x with
  | .int i => Q (some i) s1
  | _ => False
def liftO (K : PySem.W.Frag) (L : Lk) (t : DTO) : TO := fun σ H Q => ∃ W e s Qd, Stt K L W e s σ H ∧ t e s Qd ∧ ∀ d s' W' H', Qd d s' → Ext W H W' H' → Rel K W' s' H' → Q d H'
theorem _root_.L2.PO.wk {X : Cx} {e : Option Expr} {t t' : TO} (h : PO X e t) (w : ∀ σ H Q, t' σ H Q → t σ H Q) : PO X e t' := ⟨fun pins s σ H Q I q => h.run pins s σ H Q I (w σ H Q q)⟩
theorem do_none : PO X none (liftO X.K L dNoP) := po_none.wk fun σ H Q h => by
  obtain ⟨W, e, s, Qd, st, t, k⟩ := h
  exact k _ _ W H t (Ext.refl W H) st.rel
theorem do_some (h : PE X a (lift X.K L ta)) : PO X (some a) (liftO X.K L (dPart ta)) := (po_some h).wk fun σ H Q h => by
  obtain ⟨W, e, s, Qd, st, t, k⟩ := h
  refine ⟨W, e, s, _, st, t, fun d s1 W1 w H1 q x R p => ?_⟩
  cases p with
  | int i => exact ⟨i, rfl, k _ _ _ _ q x R⟩
  | _ => exact q.elim
def dSlR (x : D) (lo hi : Option Int) (s : S) (Q : D → S → Prop) : Prop := match x with
  | .str z => z.length ≤ sizeLine ∧ Q (.str (cutS z lo hi)) s
  | .tup xs => Q (.tup (dcut xs lo hi)) s
  | x => match seqL s x with
    | some xs => Q (.lst (dcut xs lo hi)) s
    | none => False
def dSl (te : DTE) (tl th : DTO) : DTE := fun e s Q => te e s fun x s1 => tl e s1 fun l s2 => th e s2 fun h s3 => dSlR x l h s3 Q
theorem Reps.cut {K : PySem.W.Frag} {W : Wd} {H : Hp} {vs : List V} {ds : List D} (lo hi : Option Int) (r : Reps K W H vs ds) : Reps K W H (cutV vs lo hi) (dcut ds lo hi) := by
  unfold cutV dcut
  rw [r.length]
  exact (r.drop _).take _
theorem cut_whole {α : Type} {xs : List α} {lo hi : Option Int} (h : HT.sIx xs.length 0 lo = 0 ∧ HT.sIx xs.length xs.length hi = xs.length) : dcut xs lo hi = xs := by
  unfold dcut
  rw [h.1, h.2]
  simp
theorem s_sl : SlR X (fun x lo hi H Q => ∃ W s dx Qd, Rel X.K W s H ∧ Rep X.K W H x dx ∧ dSlR dx lo hi s Qd ∧ ∀ d s' W' v H', Qd d s' → Ext W H W' H' → Rel X.K W' s' H' → Rep X.K W' H' v d → Q v H') := SlR.wk ((sl_list.or sl_tupA).or sl_str) fun x lo hi H Q h => by
  obtain ⟨W, s, dx, Qd, R, rx, h, k⟩ := h
  unfold dSlR at h
  split at h
  · cases rx; exact .inr ⟨_, rfl, h.1, k _ _ W _ H h.2 (Ext.refl W H) R (.str _)⟩
  · cases rx with
    | tup f q r =>
      refine .inl (.inr ⟨_, _, rfl, SqT.of q, fun z => ?_, fun z p hp => ?_⟩)
      · rw [r.length] at z
        rw [cut_whole z] at h
        exact k _ _ W _ H h (Ext.refl W H) R (.tup f q r)
      · exact k _ _ _ _ _ h (Ext.add R hp) (Rel.add R hp) (new_tup R hp (r.cut lo hi))
  · split at h
    · rename_i e
      obtain ⟨a, vs, rfl, h1, h2⟩ := seqL_ok R rx e
      exact .inl (.inl ⟨a, vs, rfl, h1, fun p hp => k _ _ _ _ _ h (Ext.add R hp) (Rel.add R hp) (new_lst R hp (h2.cut lo hi))⟩)
    · exact h.elim
theorem de_sl {lo hi : Option Expr} {tl th : DTO} {p2 : Pos} (he : PE X a (lift X.K L ta)) (hl : PO X lo (liftO X.K L tl)) (hu : PO X hi (liftO X.K L th)) : PE X (.Subscript a (.Slice lo hi none p2) pos) (lift X.K L (dSl ta tl th)) := (pe_slice s_sl he hl hu).wk fun σ H Q h => by
  obtain ⟨W, e, s, Qd, st, t, k⟩ := h
  refine ⟨W, e, s, _, st, t, fun d s1 W1 w H1 q x R p => ?_⟩
  refine ⟨W1, e, s1, _, st.after x R, q, fun l s2 W2 H2 q2 x2 R2 => ?_⟩
  refine ⟨W2, e, s2, _, (st.after x R).after x2 R2, q2, fun u s3 W3 H3 q3 x3 R3 => ?_⟩
  exact ⟨W3, s3, d, Qd, R3, p.mono (x2.trans x3), q3, fun d' s' W' v' H' q x' R' r' => k d' s' W' v' H' q (x.trans (x2.trans (x3.trans x'))) R' r'⟩

/-! ### argument lists, displays -/
def dNil : DTA := fun _ s Q => Q [] s
def dCons (t : DTE) (r : DTA) : DTA := fun e s Q => t e s fun x s1 => r e s1 fun xs s2 => Q (x :: xs) s2
theorem da_nil : PA X [] (liftA X.K L dNil) := pa_nil.wk fun σ H Q h => by
  obtain ⟨W, e, s, Qd, st, t, k⟩ := h
  exact k _ _ W _ H t (Ext.refl W H) st.rel .nil
theorem da_cons {r : DTA} (ha : PE X a (lift X.K L ta)) (hr : PA X rest (liftA X.K L r)) (hs : starEach (a :: rest) X.env = (false, eval a X.env) :: starEach rest X.env) : PA X (a :: rest) (liftA X.K L (dCons ta r)) := (pa_cons ha hr hs).wk fun σ H Q h => by
  obtain ⟨W, e, s, Qd, st, t, k⟩ := h
  refine ⟨W, e, s, _, st, t, fun d s1 W1 w H1 q x R p => ?_⟩
  exact ⟨W1, e, s1, _, st.after x R, q, fun ds s2 W2 vs H2 q2 x2 R2 p2 => k _ _ _ _ _ q2 (x.trans x2) R2 (.cons (p.mono x2) p2)⟩
def dTup (r : DTA) : DTE := fun e s Q => r e s fun xs s1 => xs.length ≤ sizeLine ∧ Q (.tup xs) s1
def dLst (r : DTA) : DTE := fun e s Q => r e s fun xs s1 => xs.length ≤ sizeLine ∧ Q (.lst xs) s1
def dLstC (r : DTA) : DTE := fun e s Q => r e s fun xs s1 => xs.length ≤ sizeLine ∧ ∀ n, s1 n = none → Q (.cell n) (s1.set n (.lst xs))
theorem de_tup {r : DTA} {n : Nat} (h : PA X rest (liftA X.K L r)) : PE X (.Tuple rest n pos) (lift X.K L (dTup r)) := (pe_tup h).wk fun σ H Q h => by
  obtain ⟨W, e, s, Qd, st, t, k⟩ := h
  refine ⟨W, e, s, _, st, t, fun d s1 W1 w H1 q x R p => ⟨by rw [p.length]; exact q.1, fun z hp => ?_⟩⟩
  exact k _ _ _ _ _ q.2 (x.trans (Ext.add R hp)) (Rel.add R hp) (new_tup R hp p)
theorem de_lst {r : DTA} (h : PA X rest (liftA X.K L r)) : PE X (.List rest pos) (lift X.K L (dLst r)) := (pe_lst h).wk fun σ H Q h => by
  obtain ⟨W, e, s, Qd, st, t, k⟩ := h
  refine ⟨W, e, s, _, st, t, fun d s1 W1 w H1 q x R p => ⟨by rw [p.length]; exact q.1, fun z hp => ?_⟩⟩
  exact k _ _ _ _ _ q.2 (x.trans (Ext.add R hp)) (Rel.add R hp) (new_lst R hp p)
theorem de_lstC {r : DTA} (h : PA X rest (liftA X.K L r)) : PE X (.List rest pos) (lift X.K L (dLstC r)) := (pe_lst h).wk fun σ H Q h => by
  obtain ⟨W, e, s, Qd, st, t, k⟩ := h
  refine ⟨W, e, s, _, st, t, fun d s1 W1 w H1 q x R p => ⟨by rw [p.length]; exact q.1, fun z hp => ?_⟩⟩
  obtain ⟨y, R'⟩ := new_cell R hp p
  exact k _ _ _ _ _ (q.2 _ R.nxs) (x.trans y) R' (.cell (Wd.new_r _ _))

/-! ### in -/
def flatD : D → Bool
  | .non => true
  | .bl _ => true
  | .int _ => true
  | .str _ => true
  | _ => false
def eqF : D → D → Bool
  | .non, .non => true
  | .bl a, .bl b => a == b
  | .bl a, .int b => (if a then 1 else 0) == b
  | .int a, .bl b => a == (if b then 1 else 0)
  | .int a, .int b => a == b
  | .str a, .str b => a == b
  | _, _ => false
def dInB (x y : D) (s : S) (Q : Bool → Prop) : Prop := match x, y with
  | .str a, .str b => (match a.cps.toList with
    | [c] => Q (decide (c ∈ b.cps.toList))
    | _ => Q (!(Builtin.Str.occurrences b a 0 b.length 1).isEmpty))
  | x, y => match seqT y with
    | some ys => flatD x = true ∧ ys.all flatD = true ∧ Q (ys.any fun z => eqF z x)
    | none => match seqL s y with
      | some ys => (match flatD x && ys.all flatD with
        | true => Q (ys.any fun z => eqF z x)
        | false => (match pyS s x, D.pys ys with
          | some p, some qs => SeqAt.shaped p = true ∧ SeqAt.shaped (.list qs) = true ∧ Q (qs.any fun z => PyData.eqv z p)
          | _, _ => False))
      | none => match mapD s y with
        | some kvs => (match keyK x with
          | some κ => Q (valD kvs κ).isSome
          | none => False)
        | none => False
def dIn : DR2 := fun x y s Q => dInB x y s fun b => Q (.bl b) s
def dNotIn : DR2 := fun x y s Q => dInB x y s fun b => Q (.bl (!b)) s
theorem flat_V {K : PySem.W.Frag} {W : Wd} {H : Hp} {v : V} {d : D} (r : Rep K W H v d) (h : flatD d = true) : flatV v = true := by
  cases r <;> first | rfl | cases h
theorem eqF_V {K : PySem.W.Frag} {W : Wd} {H : Hp} {v u : V} {d e : D} (r : Rep K W H v d) (q : Rep K W H u e) (h : flatD d = true) (h2 : flatD e = true) : eqV v u = eqF d e := by
  cases r <;> first | (cases h; done) | (cases q <;> first | rfl | (cases h2; done))
theorem any_V {K : PySem.W.Frag} {W : Wd} {H : Hp} {u : V} {e : D} (q : Rep K W H u e) (h2 : flatD e = true) : ∀ {vs : List V} {ds : List D}, Reps K W H vs ds → ds.all flatD = true → vs.all flatV = true ∧ inV u vs = ds.any fun z => eqF z e := by
  intro vs
  induction vs with
  | nil => intro ds r _; cases r; exact ⟨rfl, rfl⟩
  | cons v vs ih =>
    intro ds r h
    cases r with
    | cons a r =>
      rw [List.all_cons, Bool.and_eq_true] at h
      obtain ⟨i1, i2⟩ := ih r h.2
      refine ⟨by rw [List.all_cons, flat_V a h.1, i1]; rfl, ?_⟩
      show ((v :: vs).any fun y => eqV y u) = _
      rw [List.any_cons, List.any_cons, eqF_V a q h.1 h2]
      congr 1
theorem str1 {a : Str} {c : Nat} (h : a.cps.toList = [c]) : a = ⟨#[c]⟩ := by
  cases a with
  | mk cps =>
    congr 1
    have h' : cps.toList = [c] := h
    cases cps
    simp at h'
    rw [h']
theorem dInB_ok {K : PySem.W.Frag} {W : Wd} {H : Hp} {s : S} {x y : V} {dx dy : D} {Q : Bool → Prop} (R : Rel K W s H) (rx : Rep K W H x dx) (ry : Rep K W H y dy) (h : dInB dx dy s Q) :
    (∃ (c : Nat) (z : Str), x = .str ⟨#[c]⟩ ∧ y = .str z ∧ Q (decide (c ∈ z.cps.toList))) ∨ (∃ a b, x = .str a ∧ y = .str b ∧ Q (!(Builtin.Str.occurrences b a 0 b.length 1).isEmpty)) ∨
    (∃ p xs, y = .ref p ∧ (SqL K H p xs ∨ SqT K H p xs) ∧ flatV x = true ∧ xs.all flatV = true ∧ Q (inV x xs)) ∨
    (∃ a o, y = .ref a ∧ DGet H a x o ∧ Q o.isSome) ∨
    ∃ p qs, Dp K H x p ∧ Dp K H y (.list qs) ∧ SeqAt.shaped p = true ∧ SeqAt.shaped (.list qs) = true ∧ Q (qs.any fun z => PyData.eqv z p) := by
  unfold dInB at h
  split at h
  · cases rx; cases ry
    split at h
    · rename_i e
      exact .inl ⟨_, _, by rw [str1 e], rfl, h⟩
    · exact .inr (.inl ⟨_, _, rfl, rfl, h⟩)
  · split at h
    · rename_i e
      obtain ⟨p, vs, rfl, h1, h2⟩ := seqT_ok ry e
      obtain ⟨f1, f2⟩ := any_V rx h.1 h2 h.2.1
      exact .inr (.inr (.inl ⟨p, vs, rfl, .inr h1, flat_V rx h.1, f1, by rw [f2]; exact h.2.2⟩))
    · split at h
      · rename_i e
        obtain ⟨p, vs, rfl, h1, h2⟩ := seqL_ok R ry e
        split at h
        · rename_i ef
          rw [Bool.and_eq_true] at ef
          obtain ⟨f1, f2⟩ := any_V rx ef.1 h2 ef.2
          exact .inr (.inr (.inl ⟨p, vs, rfl, .inl h1, flat_V rx ef.1, f1, by rw [f2]; exact h⟩))
        · split at h
          · rename_i pp qs e1 e2
            exact .inr (.inr (.inr (.inr ⟨pp, qs, pyS_dp R rx e1, .lst h1 (h2.dp e2), h⟩)))
          · exact h.elim
      · split at h
        · rename_i kvs em
          split at h
          · rename_i κ ek
            obtain ⟨a, vs, rfl, h1, h2⟩ := mapD_ok R ry em
            cases rx.key ek
            refine .inr (.inr (.inr (.inl ⟨a, valV vs κ, rfl, .inl ⟨vs, κ, h1, rfl, rfl⟩, ?_⟩)))
            cases ev : valD kvs κ with
            | none =>
              rw [ev] at h
              rw [(h2.val κ).2 ev]
              exact h
            | some d =>
              obtain ⟨v, h3, _⟩ := (h2.val κ).1 d ev
              rw [ev] at h
              rw [h3]
              exact h
          · exact h.elim
        · exact h.elim
theorem op_inDict (hu : X.A.units + 1 < cLine) : OpR X (compareOp .In) (fun x y H Q => ∃ a o, y = .ref a ∧ DGet H a x o ∧ Q (.bl o.isSome) H) := by
  intro pins s σ H x y v u Q I rx ry h
  obtain ⟨a, o, rfl, g, q⟩ := h
  cases (show u = Value.ref a from ry)
  exact d_in hu I g rx fun s1 I1 => ⟨.bl o.isSome, H, I1, rfl, q⟩
theorem op_notInDict (hu : X.A.units + 1 < cLine) : OpR X (compareOp .NotIn) (fun x y H Q => ∃ a o, y = .ref a ∧ DGet H a x o ∧ Q (.bl (!o.isSome)) H) := by
  intro pins s σ H x y v u Q I rx ry h
  obtain ⟨a, o, rfl, g, q⟩ := h
  cases (show u = Value.ref a from ry)
  exact d_notIn hu I g rx fun s1 I1 => ⟨.bl (!o.isSome), H, I1, rfl, q⟩
theorem o_in (hu : X.A.units + 65 < cLine) : OpR X (compareOp .In) (lift2 X.K dIn) := OpR.wk ((((op_in_sign.or op_in_str).or op_in_seq).or (op_inD hu)).or (op_inDict (by omega))) fun x y H Q h => by
  obtain ⟨W, s, dx, dy, Qd, R, rx, ry, h, k⟩ := h
  have fin : ∀ b, Qd (.bl b) s → Q (.bl b) H := fun b q => k _ _ W _ H q (Ext.refl W H) R (.bl b)
  rcases dInB_ok R rx ry h with ⟨c, z, h1, h2, h3⟩ | ⟨a, b, h1, h2, h3⟩ | ⟨p, xs, h1, h2, h3, h4, h5⟩ | ⟨a, o, h1, h2, h3⟩ | ⟨p, q, h1, h2, h3, h4, h5⟩
  · exact .inl (.inl (.inl (.inl ⟨c, z, h1, h2, fin _ h3⟩)))
  · exact .inl (.inl (.inl (.inr ⟨a, b, h1, h2, fin _ h3⟩)))
  · exact .inl (.inl (.inr ⟨p, xs, h1, h2, h3, h4, fin _ h5⟩))
  · exact .inr ⟨a, o, h1, h2, fin _ h3⟩
  · exact .inl (.inr ⟨p, q, h1, h2, h3, h4, fin _ h5⟩)
theorem o_notin (hu : X.A.units + 65 < cLine) : OpR X (compareOp .NotIn) (lift2 X.K dNotIn) := OpR.wk ((((op_notIn_sign.or op_notin_str).or op_notIn_seq).or (op_notInD hu)).or (op_notInDict (by omega))) fun x y H Q h => by
  obtain ⟨W, s, dx, dy, Qd, R, rx, ry, h, k⟩ := h
  have fin : ∀ b, Qd (.bl b) s → Q (.bl b) H := fun b q => k _ _ W _ H q (Ext.refl W H) R (.bl b)
  rcases dInB_ok R rx ry h with ⟨c, z, h1, h2, h3⟩ | ⟨a, b, h1, h2, h3⟩ | ⟨p, xs, h1, h2, h3, h4, h5⟩ | ⟨a, o, h1, h2, h3⟩ | ⟨p, q, h1, h2, h3, h4, h5⟩
  · exact .inl (.inl (.inl (.inl ⟨c, z, h1, h2, fin _ h3⟩)))
  · exact .inl (.inl (.inl (.inr ⟨a, b, h1, h2, fin _ h3⟩)))
  · exact .inl (.inl (.inr ⟨p, xs, h1, h2, h3, h4, fin _ h5⟩))
  · exact .inr ⟨a, o, h1, h2, fin _ h3⟩
  · exact .inl (.inr ⟨p, q, h1, h2, h3, h4, fin _ h5⟩)
end
end Y


/-! Y5: built-in functions and methods. -/
namespace Y
open PySem PySem.Spec PyProof.Rows L2

abbrev DC := List D → S → (D → S → Prop) → Prop
def lift1 (K : PySem.W.Frag) (r : DC) : List V → Hp → VK → Prop := fun vs H Q => ∃ W s ds Qd, Rel K W s H ∧ Reps K W H vs ds ∧ r ds s Qd ∧ ∀ d s' W' v H', Qd d s' → Ext W H W' H' → Rel K W' s' H' → Rep K W' H' v d → Q v H'
def dCall (r : DC) (t : DTA) : DTE := fun e s Q => t e s fun ds s1 => r ds s1 Q
theorem Reps.one {K : PySem.W.Frag} {W : Wd} {H : Hp} {vs : List V} {d : D} (r : Reps K W H vs [d]) : ∃ v, vs = [v] ∧ Rep K W H v d := by
  cases r with | cons a b => cases b; exact ⟨_, rfl, a⟩
theorem Reps.two {K : PySem.W.Frag} {W : Wd} {H : Hp} {vs : List V} {d c : D} (r : Reps K W H vs [d, c]) : ∃ v u, vs = [v, u] ∧ Rep K W H v d ∧ Rep K W H u c := by
  cases r with | cons a b => cases b with | cons b c => cases c; exact ⟨_, _, rfl, a, b⟩
section
variable {X : Cx} {L : Lk} {a b c : Expr} {ta tb tc : DTE} {u v : DTT} {pos p apos : Pos} {es : List Expr} {r : DTA} {x : Str}
theorem lift1_call {rc : DC} {σ : St} {H : Hp} {Q : VK} (h : lift X.K L (dCall rc r) σ H Q) : tCB (lift1 X.K rc) (liftA X.K L r) σ H Q := by
  obtain ⟨W, e, s, Qd, st, t, k⟩ := h
  refine ⟨W, e, s, _, st, t, fun ds s1 W1 vs H1 q x1 R1 p1 => ?_⟩
  exact ⟨W1, s1, ds, Qd, R1, p1, q, fun d' s' W' v' H' q x' R' r' => k d' s' W' v' H' q (x1.trans x') R' r'⟩
theorem de_callB {id : String} {rc : DC} (hc : CallR X (.builtin id) (lift1 X.K rc)) (hg : Gl X x) (hm : X.mg x = none) (hv : bootBuiltins x = some (.builtin id)) (ha : PA X (a :: es) (liftA X.K L r)) (hn : x ≠ "__name__") (hdb : (x == ("__debug__" : Str)) = false)
    (he : starEach (a :: es) X.env = (false, eval a X.env) :: starEach es X.env) (hpl : (backTo pos (starEach es X.env)).any (·.1) = false) : PE X (.Call (.Name x p) (a :: es) [] pos) (lift X.K L (dCall rc r)) :=
  (pe_callB hc hg hm hv ha hn hdb he hpl).wk fun _ _ _ h => lift1_call h
theorem de_callTy {T : String} {rc : DC} (hc : CallR X (.type T) (lift1 X.K rc)) (hg : Gl X x) (hm : X.mg x = none) (hv : bootBuiltins x = some (.type T)) (ha : PA X (a :: es) (liftA X.K L r)) (hn : x ≠ "__name__") (hdb : (x == ("__debug__" : Str)) = false)
    (he : starEach (a :: es) X.env = (false, eval a X.env) :: starEach es X.env) (hpl : (backTo pos (starEach es X.env)).any (·.1) = false) : PE X (.Call (.Name x p) (a :: es) [] pos) (lift X.K L (dCall rc r)) :=
  (pe_callTy hc hg hm hv ha hn hdb he hpl).wk fun _ _ _ h => lift1_call h

/-! ### len, abs, max, min, all, any, list, tuple, repr, sorted -/
def seqQ (s : S) (d : D) : Option (List D) := match seqL s d with
  | some xs => some xs
  | none => seqT d
theorem seqQ_ok {K : PySem.W.Frag} {W : Wd} {H : Hp} {s : S} {v : V} {d : D} {xs : List D} (R : Rel K W s H) (rp : Rep K W H v d) (e : seqQ s d = some xs) : ∃ a vs, v = .ref a ∧ (SqL K H a vs ∨ SqT K H a vs) ∧ Reps K W H vs xs := by
  unfold seqQ at e
  split at e
  · rename_i e1
    cases e
    obtain ⟨a, vs, h1, h2, h3⟩ := seqL_ok R rp e1
    exact ⟨a, vs, h1, .inl h2, h3⟩
  · obtain ⟨a, vs, h1, h2, h3⟩ := seqT_ok rp e
    exact ⟨a, vs, h1, .inr h2, h3⟩
def dLen : DC := fun ds s Q => match ds with
  | [.str z] => z.length ≤ sizeLine ∧ Q (.int z.length) s
  | [d] => (match seqQ s d with
    | some xs => Q (.int xs.length) s
    | none => match mapD s d with
      | some kvs => Q (.int kvs.length) s
      | none => False)
  | _ => False
theorem call_lenK : CallR X (.builtin "len") (fun xs H Q => ∃ a kvs, xs = [V.ref a] ∧ Rd H a (.dK kvs) ∧ Q (.int kvs.length) H) := by
  intro pins s σ H xs us Q I r h
  obtain ⟨a, kvs, rfl, e, q⟩ := h
  rw [Vals.ref1 r]
  exact d_len I e fun t s1 I1 => ⟨.int kvs.length, H, I1, ⟨t, rfl⟩, q⟩
theorem c_len : CallR X (.builtin "len") (lift1 X.K dLen) := CallR.wk (call_len.or call_lenK) fun vs H Q h => by
  obtain ⟨W, s, ds, Qd, R, rs, h, k⟩ := h
  unfold dLen at h
  split at h
  · obtain ⟨w, rfl, rw⟩ := rs.one
    cases rw
    refine .inl ?_
    exact ⟨_, _, rfl, ⟨h.1, rfl⟩, k _ _ W _ H h.2 (Ext.refl W H) R (.int _)⟩
  · obtain ⟨w, rfl, rw⟩ := rs.one
    split at h
    · rename_i e
      obtain ⟨a, us, rfl, h1, h2⟩ := seqQ_ok R rw e
      refine .inl ⟨_, us.length, rfl, h1.imp (fun z => ⟨us, z, rfl⟩) (fun z => ⟨us, z, rfl⟩), ?_⟩
      rw [h2.length]
      exact k _ _ W _ H h (Ext.refl W H) R (.int _)
    · split at h
      · rename_i kvs em
        obtain ⟨a, us, rfl, h1, h2⟩ := mapD_ok R rw em
        refine .inr ⟨a, us, rfl, h1, ?_⟩
        rw [h2.length]
        exact k _ _ W _ H h (Ext.refl W H) R (.int _)
      · exact h.elim
  · exact h.elim
def dAbs : DC := fun ds s Q => match ds with
  | [.int i] => Q (.int (if i < 0 then -i else i)) s
  | _ => False
theorem c_abs : CallR X (.builtin "abs") (lift1 X.K dAbs) := CallR.wk call_abs fun vs H Q h => by
  obtain ⟨W, s, ds, Qd, R, rs, h, k⟩ := h
  unfold dAbs at h
  split at h
  · obtain ⟨w, rfl, rw⟩ := rs.one
    cases rw
    exact ⟨_, rfl, k _ _ W _ H h (Ext.refl W H) R (.int _)⟩
  · exact h.elim
def dMax : DC := fun ds s Q => match ds with
  | [.int i, .int j] => Q (.int (if j > i then j else i)) s
  | _ => False
def dMin : DC := fun ds s Q => match ds with
  | [.int i, .int j] => Q (.int (if j < i then j else i)) s
  | _ => False
theorem c_max (hc : X.calm = true) : CallR X (.builtin "max") (lift1 X.K dMax) := CallR.wk (call_max2 hc) fun vs H Q h => by
  obtain ⟨W, s, ds, Qd, R, rs, h, k⟩ := h
  unfold dMax at h
  split at h
  · obtain ⟨w, w', rfl, rw, rw'⟩ := rs.two
    cases rw; cases rw'
    exact ⟨_, _, rfl, k _ _ W _ H h (Ext.refl W H) R (.int _)⟩
  · exact h.elim
theorem c_min (hc : X.calm = true) : CallR X (.builtin "min") (lift1 X.K dMin) := CallR.wk (call_min2 hc) fun vs H Q h => by
  obtain ⟨W, s, ds, Qd, R, rs, h, k⟩ := h
  unfold dMin at h
  split at h
  · obtain ⟨w, w', rfl, rw, rw'⟩ := rs.two
    cases rw; cases rw'
    exact ⟨_, _, rfl, k _ _ W _ H h (Ext.refl W H) R (.int _)⟩
  · exact h.elim
/-- the truth values of a list of such -/
def bls : List D → Option (List Bool)
  | [] => some []
  | .bl b :: r => (bls r).map (b :: ·)
  | _ => none
theorem bls_V {K : PySem.W.Frag} {W : Wd} {H : Hp} : ∀ {vs : List V} {ds : List D} {bs : List Bool}, Reps K W H vs ds → bls ds = some bs → vs = bs.map V.bl := by
  intro vs
  induction vs with
  | nil => intro ds bs r h; cases r; cases h; rfl
  | cons v vs ih =>
    intro ds bs r h
    cases r with
    | @cons _ _ d ds a r =>
      cases d with
      | bl b =>
        cases a
        have h' : (bls ds).map (b :: ·) = some bs := h
        cases e : bls ds with
        | none => rw [e] at h'; cases h'
        | some cs => rw [e] at h'; cases h'; rw [ih r e]; rfl
      | _ => cases h
def dAll : DC := fun ds s Q => match ds with
  | [d] => (match (seqL s d).bind bls with
    | some bs => Q (.bl (bs.all id)) s
    | none => False)
  | _ => False
def dAny : DC := fun ds s Q => match ds with
  | [d] => (match (seqL s d).bind bls with
    | some bs => Q (.bl (bs.any id)) s
    | none => False)
  | _ => False
theorem c_all (hc : X.calm = true) : CallR X (.builtin "all") (lift1 X.K dAll) := CallR.wk (cr_all hc) fun vs H Q h => by
  obtain ⟨W, s, ds, Qd, R, rs, h, k⟩ := h
  unfold dAll at h
  split at h
  · rename_i d
    obtain ⟨w, rfl, rw⟩ := rs.one
    split at h
    · rename_i bs e
      cases e1 : seqL s d with
      | none => rw [e1] at e; cases e
      | some xs =>
        rw [e1] at e
        obtain ⟨a, us, rfl, h1, h2⟩ := seqL_ok R rw e1
        rw [bls_V h2 e] at h1
        exact ⟨a, bs, rfl, h1, k _ _ W _ H h (Ext.refl W H) R (.bl _)⟩
    · exact h.elim
  · exact h.elim
theorem c_any (hc : X.calm = true) : CallR X (.builtin "any") (lift1 X.K dAny) := CallR.wk (cr_any hc) fun vs H Q h => by
  obtain ⟨W, s, ds, Qd, R, rs, h, k⟩ := h
  unfold dAny at h
  split at h
  · rename_i d
    obtain ⟨w, rfl, rw⟩ := rs.one
    split at h
    · rename_i bs e
      cases e1 : seqL s d with
      | none => rw [e1] at e; cases e
      | some xs =>
        rw [e1] at e
        obtain ⟨a, us, rfl, h1, h2⟩ := seqL_ok R rw e1
        rw [bls_V h2 e] at h1
        exact ⟨a, bs, rfl, h1, k _ _ W _ H h (Ext.refl W H) R (.bl _)⟩
    · exact h.elim
  · exact h.elim
def dList : DC := fun ds s Q => match ds with
  | [d] => (match seqQ s d with
    | some xs => Q (.lst xs) s
    | none => False)
  | _ => False
def dListC : DC := fun ds s Q => match ds with
  | [d] => (match seqQ s d with
    | some xs => ∀ n, s n = none → Q (.cell n) (s.set n (.lst xs))
    | none => False)
  | _ => False
theorem c_list : CallR X (.type "list") (lift1 X.K dList) := CallR.wk call_list_of fun vs H Q h => by
  obtain ⟨W, s, ds, Qd, R, rs, h, k⟩ := h
  unfold dList at h
  split at h
  · obtain ⟨w, rfl, rw⟩ := rs.one
    split at h
    · rename_i e
      obtain ⟨a, us, rfl, h1, h2⟩ := seqQ_ok R rw e
      exact ⟨a, us, rfl, h1, fun p hp => k _ _ _ _ _ h (Ext.add R hp) (Rel.add R hp) (new_lst R hp h2)⟩
    · exact h.elim
  · exact h.elim
theorem c_listC : CallR X (.type "list") (lift1 X.K dListC) := CallR.wk call_list_of fun vs H Q h => by
  obtain ⟨W, s, ds, Qd, R, rs, h, k⟩ := h
  unfold dListC at h
  split at h
  · obtain ⟨w, rfl, rw⟩ := rs.one
    split at h
    · rename_i e
      obtain ⟨a, us, rfl, h1, h2⟩ := seqQ_ok R rw e
      refine ⟨a, us, rfl, h1, fun p hp => ?_⟩
      obtain ⟨y, R'⟩ := new_cell R hp h2
      exact k _ _ _ _ _ (h _ R.nxs) y R' (.cell (Wd.new_r _ _))
    · exact h.elim
  · exact h.elim
def dTuple : DC := fun ds s Q => match ds with
  | [.tup xs] => Q (.tup xs) s
  | [d] => (match seqL s d with
    | some xs => Q (.tup xs) s
    | none => False)
  | _ => False
theorem c_tuple : CallR X (.type "tuple") (lift1 X.K dTuple) := CallR.wk call_tuple_of fun vs H Q h => by
  obtain ⟨W, s, ds, Qd, R, rs, h, k⟩ := h
  unfold dTuple at h
  split at h
  · obtain ⟨w, rfl, rw⟩ := rs.one
    cases rw with
    | tup f q r => exact ⟨_, _, rfl, .inr ⟨SqT.of q, k _ _ W _ H h (Ext.refl W H) R (.tup f q r)⟩⟩
  · obtain ⟨w, rfl, rw⟩ := rs.one
    split at h
    · rename_i e
      obtain ⟨a, us, rfl, h1, h2⟩ := seqL_ok R rw e
      exact ⟨a, us, rfl, .inl ⟨h1, fun p hp => k _ _ _ _ _ h (Ext.add R hp) (Rel.add R hp) (new_tup R hp h2)⟩⟩
    · exact h.elim
  · exact h.elim
/-- repr of plain data -/
theorem call_repr_D (hg : X.A.guards = some []) (hu : X.A.units + 70 < cLine) : CallR X (.builtin "repr") (fun xs H Q => ∃ v q, xs = [v] ∧ Dp X.K H v q ∧ q.showable = true ∧ q.hasDict = false ∧ q.depth ≤ 64 ∧ q.shown.length ≤ sizeLine ∧ Q (.str q.shown) H) := by
  intro pins s σ H xs us Q I r h
  obtain ⟨v, q, rfl, hd, h1, h2, h3, h4, hq⟩ := h
  obtain ⟨u, rfl, ru⟩ := vals1 r
  have hd0 := hd
  cases hd with
  | non => cases ru; exact PySem.P.repr_of_none ⟨.str _, H, I.tok _, ⟨_, rfl⟩, hq⟩
  | bl b => cases ru; exact PySem.P.repr_of_bool ⟨.str _, H, I.tok _, ⟨_, rfl⟩, hq⟩
  | int i =>
    obtain ⟨t, rfl⟩ := ru
    exact PySem.P.repr_of_int (of_decide_eq_true h1) ⟨.str _, H, I.tok _, ⟨_, rfl⟩, hq⟩
  | str z =>
    obtain ⟨t, rfl⟩ := ru
    exact PySem.P.repr_of_str ⟨.str _, H, I.tok _, ⟨_, rfl⟩, hq⟩ h4
  | lst h' _ =>
    cases ru
    obtain ⟨as, rd⟩ := Dp.reads I _ _ _ hd0 rfl
    refine repr_of_reads' rd h1 (fun z => absurd z (by rw [h2]; simp)) hg (by omega) (fun _ _ e => e) (fun h' u tk hk => ?_) h4
    exact ⟨.str _, H, I.kept (t' := tk) hk, ⟨_, rfl⟩, hq⟩
  | tup h' _ =>
    cases ru
    obtain ⟨as, rd⟩ := Dp.reads I _ _ _ hd0 rfl
    refine repr_of_reads' rd h1 (fun z => absurd z (by rw [h2]; simp)) hg (by omega) (fun _ _ e => e) (fun h' u tk hk => ?_) h4
    exact ⟨.str _, H, I.kept (t' := tk) hk, ⟨_, rfl⟩, hq⟩
def dRepr : DC := fun ds s Q => match ds with
  | [d] => (match pyS s d with
    | some q => q.showable = true ∧ q.hasDict = false ∧ q.depth ≤ 64 ∧ q.shown.length ≤ sizeLine ∧ Q (.str q.shown) s
    | none => False)
  | _ => False
theorem c_repr (hg : X.A.guards = some []) (hu : X.A.units + 70 < cLine) : CallR X (.builtin "repr") (lift1 X.K dRepr) := CallR.wk (call_repr_D hg hu) fun vs H Q h => by
  obtain ⟨W, s, ds, Qd, R, rs, h, k⟩ := h
  unfold dRepr at h
  split at h
  · obtain ⟨w, rfl, rw⟩ := rs.one
    split at h
    · rename_i q e
      obtain ⟨h1, h2, h3, h4, h5⟩ := h
      exact ⟨w, q, rfl, pyS_dp R rw e, h1, h2, h3, h4, k _ _ W _ H h5 (Ext.refl W H) R (.str _)⟩
    · exact h.elim
  · exact h.elim
/-- the texts of a list of such -/
def strsD : List D → Option (List Str)
  | [] => some []
  | .str b :: r => (strsD r).map (b :: ·)
  | _ => none
theorem strsD_V {K : PySem.W.Frag} {W : Wd} {H : Hp} : ∀ {vs : List V} {ds : List D} {bs : List Str}, Reps K W H vs ds → strsD ds = some bs → vs = bs.map V.str := by
  intro vs
  induction vs with
  | nil => intro ds bs r h; cases r; cases h; rfl
  | cons v vs ih =>
    intro ds bs r h
    cases r with
    | @cons _ _ d ds a r =>
      cases d with
      | str b =>
        cases a
        have h' : (strsD ds).map (b :: ·) = some bs := h
        cases e : strsD ds with
        | none => rw [e] at h'; cases h'
        | some cs => rw [e] at h'; cases h'; rw [ih r e]; rfl
      | _ => cases h
theorem reps_strs {K : PySem.W.Frag} {W : Wd} {H : Hp} : ∀ (ys : List Str), Reps K W H (ys.map V.str) (ys.map D.str)
  | [] => .nil
  | y :: ys => .cons (.str y) (reps_strs ys)
def dSorted : DC := fun ds s Q => match ds with
  | [d] => (match (seqL s d).bind strsD with
    | some xs => xs.length < 64 ∧ ∀ ys, ys.Perm xs → sortedS ys = true → Q (.lst (ys.map D.str)) s
    | none => match (mapD s d).bind fun kvs => strsD (kvs.map (·.1)) with
      | some xs => xs.length < 64 ∧ ∀ ys, ys.Perm xs → sortedS ys = true → Q (.lst (ys.map D.str)) s
      | none => False)
  | _ => False
theorem keys_strs {K : PySem.W.Frag} {W : Wd} {H : Hp} : ∀ {vs : List (Key × V)} {ds : List (D × D)} {bs : List Str}, RepK K W H vs ds → strsD (ds.map (·.1)) = some bs → vs.map (·.1) = bs.map Sum.inr := by
  intro vs
  induction vs with
  | nil => intro ds bs r h; cases r; cases h; rfl
  | cons p vs ih =>
    intro ds bs r h
    cases r with
    | @cons k v d _ ds a r =>
      cases k with
      | inl i => cases h
      | inr x =>
        have h' : (strsD (ds.map (·.1))).map (x :: ·) = some bs := h
        cases e : strsD (ds.map (·.1)) with
        | none => rw [e] at h'; cases h'
        | some cs =>
          rw [e] at h'; cases h'
          rw [List.map_cons, ih r e]; rfl
theorem c_sorted (hc : X.calm = true) : CallR X (.builtin "sorted") (lift1 X.K dSorted) := CallR.wk (cr_sortedS.or (call_sortedD hc)) fun vs H Q h => by
  obtain ⟨W, s, ds, Qd, R, rs, h, k⟩ := h
  unfold dSorted at h
  split at h
  · rename_i d
    obtain ⟨w, rfl, rw⟩ := rs.one
    split at h
    · rename_i bs e
      cases e1 : seqL s d with
      | none => rw [e1] at e; cases e
      | some xs =>
        rw [e1] at e
        obtain ⟨a, us, rfl, h1, h2⟩ := seqL_ok R rw e1
        rw [strsD_V h2 e] at h1
        exact .inl ⟨a, bs, rfl, h1, h.1, fun ys p h3 h4 hp => k _ _ _ _ _ (h.2 ys h3 h4) (Ext.add R hp) (Rel.add R hp) (new_lst R hp (reps_strs ys))⟩
    · split at h
      · rename_i bs e
        cases e1 : mapD s d with
        | none => rw [e1] at e; cases e
        | some kvs =>
          rw [e1] at e
          obtain ⟨a, us, rfl, h1, h2⟩ := mapD_ok R rw e1
          exact .inr ⟨a, us, bs, rfl, h1, keys_strs h2 e, h.1, fun ys p h3 h4 hp => k _ _ _ _ _ (h.2 ys h3 h4) (Ext.add R hp) (Rel.add R hp) (new_lst R hp (reps_strs ys))⟩
      · exact h.elim
  · exact h.elim

/-! ### methods of lists -/
abbrev DM := D → List D → S → (D → S → Prop) → Prop
def liftM (K : PySem.W.Frag) (r : DM) : V → List V → Hp → VK → Prop := fun v vs H Q => ∃ W s d ds Qd, Rel K W s H ∧ Rep K W H v d ∧ Reps K W H vs ds ∧ r d ds s Qd ∧ ∀ d s' W' v H', Qd d s' → Ext W H W' H' → Rel K W' s' H' → Rep K W' H' v d → Q v H'
/-- the receiver is a list -/
def isL (s : S) (d : D) : Prop := (seqL s d).isSome = true
def dMeth (P : S → D → Prop) (rm : DM) (t : DTE) (ts : DTA) : DTE := fun e s Q => t e s fun d s1 => P s1 d ∧ ts e s1 fun ds s2 => rm d ds s2 Q
theorem isL_ty {K : PySem.W.Frag} {W : Wd} {H : Hp} {s : S} {v : V} {d : D} (R : Rel K W s H) (rp : Rep K W H v d) (h : isL s d) : tyV K "list" v H := by
  unfold isL at h
  cases e : seqL s d with
  | none => rw [e] at h; cases h
  | some xs =>
    obtain ⟨a, vs, rfl, h1, _⟩ := seqL_ok R rp e
    exact .inl ⟨rfl, vs, h1⟩
theorem liftM_bm {T : String} {P : S → D → Prop} {rm : DM} (hT : ∀ {W : Wd} {H : Hp} {s : S} {v : V} {d : D}, Rel X.K W s H → Rep X.K W H v d → P s d → tyV X.K T v H) {σ : St} {H : Hp} {Q : VK} (h : lift X.K L (dMeth P rm ta r) σ H Q) :
    tBM X.K T (liftM X.K rm) (lift X.K L ta) (liftA X.K L r) σ H Q := by
  obtain ⟨W, e, s, Qd, st, t, k⟩ := h
  refine ⟨W, e, s, _, st, t, fun d s1 W1 v H1 q x1 R1 p1 => ⟨hT R1 p1 q.1, ?_⟩⟩
  refine ⟨W1, e, s1, _, st.after x1 R1, q.2, fun ds s2 W2 vs H2 q2 x2 R2 p2 => ?_⟩
  exact ⟨W2, s2, d, ds, Qd, R2, p1.mono x2, p2, q2, fun d' s' W' v' H' q x' R' r' => k d' s' W' v' H' q (x1.trans (x2.trans x')) R' r'⟩
theorem liftM_bm0 {T : String} {P : S → D → Prop} {rm : DM} (hT : ∀ {W : Wd} {H : Hp} {s : S} {v : V} {d : D}, Rel X.K W s H → Rep X.K W H v d → P s d → tyV X.K T v H) {σ : St} {H : Hp} {Q : VK} (h : lift X.K L (dMeth P rm ta dNil) σ H Q) :
    tBM0 X.K T (liftM X.K rm) (lift X.K L ta) σ H Q := by
  obtain ⟨W, e, s, Qd, st, t, k⟩ := h
  refine ⟨W, e, s, _, st, t, fun d s1 W1 v H1 q x1 R1 p1 => ⟨hT R1 p1 q.1, ?_⟩⟩
  exact ⟨W1, s1, d, [], Qd, R1, p1, .nil, q.2, fun d' s' W' v' H' q x' R' r' => k d' s' W' v' H' q (x1.trans x') R' r'⟩
def dAppend : DM := fun d ds s Q => match d, ds with
  | .cell n, [y] => (match s n with
    | some (.lst xs) => xs.length < sizeLine ∧ Q .non (s.set n (.lst (xs ++ [y])))
    | _ => False)
  | _, _ => False
theorem m_append : MtR X "list.append" (liftM X.K dAppend) := MtR.wk mt_append fun v vs H Q h => by
  obtain ⟨W, s, d, ds, Qd, R, rv, rs, h, k⟩ := h
  unfold dAppend at h
  split at h
  · split at h
    · rename_i n y _ xs e
      obtain ⟨w, rfl, rw⟩ := rs.one
      obtain ⟨a, us, rfl, h1, h2, h3⟩ := rv.cellL R e
      have x := Ext.write (u := .lst (us ++ [w])) R e h1
      refine ⟨a, us, w, rfl, rfl, h2, by rw [h3.length]; exact h.1, ?_⟩
      exact k _ _ _ _ _ h.2 x (Rel.write R e h1 ⟨_, upd_same, (h3.app (.cons rw .nil)).mono x⟩) .non
    · exact h.elim
  · exact h.elim
def dExtend : DM := fun d ds s Q => match d, ds with
  | .cell n, [y] => (match s n with
    | some (.lst xs) => (match dirL s y with
      | some zs => xs.length + zs.length ≤ sizeLine ∧ Q .non (s.set n (.lst (xs ++ zs)))
      | none => False)
    | _ => False)
  | _, _ => False
theorem m_extend : MtR X "list.extend" (liftM X.K dExtend) := MtR.wk mt_extend fun v vs H Q h => by
  obtain ⟨W, s, d, ds, Qd, R, rv, rs, h, k⟩ := h
  unfold dExtend at h
  split at h
  · split at h
    · rename_i n y _ xs e
      split at h
      · rename_i zs ez
        obtain ⟨w, rfl, rw⟩ := rs.one
        obtain ⟨a, us, rfl, h1, h2, h3⟩ := rv.cellL R e
        obtain ⟨b, ts, rfl, g1, g2⟩ := dirL_ok R rw ez
        have x := Ext.write (u := .lst (us ++ ts)) R e h1
        refine ⟨a, b, us, ts, rfl, rfl, h2, g1, by rw [h3.length, g2.length]; exact h.1, ?_⟩
        exact k _ _ _ _ _ h.2 x (Rel.write R e h1 ⟨_, upd_same, (h3.app g2).mono x⟩) .non
      · exact h.elim
    · exact h.elim
  · exact h.elim
def dPop : DM := fun d ds s Q => match d, ds with
  | .cell n, [] => (match s n with
    | some (.lst xs) => (match xs[xs.length - 1]? with
      | some y => Q y (s.set n (.lst xs.dropLast))
      | none => False)
    | _ => False)
  | _, _ => False
theorem Reps.dropLast {K : PySem.W.Frag} {W : Wd} {H : Hp} {vs : List V} {ds : List D} (h : Reps K W H vs ds) : Reps K W H vs.dropLast ds.dropLast := by
  rw [List.dropLast_eq_take, List.dropLast_eq_take, h.length]
  exact h.take _
theorem m_pop : MtR X "list.pop" (liftM X.K dPop) := MtR.wk mt_pop fun v vs H Q h => by
  obtain ⟨W, s, d, ds, Qd, R, rv, rs, h, k⟩ := h
  unfold dPop at h
  split at h
  · split at h
    · rename_i n _ xs e
      split at h
      · rename_i y e2
        cases rs
        obtain ⟨a, us, rfl, h1, h2, h3⟩ := rv.cellL R e
        obtain ⟨w, h4, h5⟩ := h3.get e2
        have x := Ext.write (u := .lst us.dropLast) R e h1
        refine ⟨a, us, w, rfl, rfl, h2, by rw [h3.length]; exact h4, ?_⟩
        exact k _ _ _ _ _ h x (Rel.write R e h1 ⟨_, upd_same, h3.dropLast.mono x⟩) (h5.mono x)
      · exact h.elim
    · exact h.elim
  · exact h.elim
def dPopAt : DM := fun d ds s Q => match d, ds with
  | .cell n, [.int i] => (match s n with
    | some (.lst xs) => 0 ≤ i ∧ i < 2 ^ 63 ∧ (match xs[i.toNat]? with
      | some y => Q y (s.set n (.lst (xs.eraseIdx i.toNat)))
      | none => False)
    | _ => False)
  | _, _ => False
theorem m_popAt : MtR X "list.pop" (liftM X.K dPopAt) := MtR.wk mt_popAt fun v vs H Q h => by
  obtain ⟨W, s, d, ds, Qd, R, rv, rs, h, k⟩ := h
  unfold dPopAt at h
  split at h
  · split at h
    · rename_i n i _ xs e
      obtain ⟨g1, g2, h⟩ := h
      split at h
      · rename_i y e2
        obtain ⟨w, rfl, rw⟩ := rs.one
        cases rw
        obtain ⟨a, us, rfl, h1, h2, h3⟩ := rv.cellL R e
        obtain ⟨w, h4, h5⟩ := h3.get e2
        have x := Ext.write (u := .lst (us.eraseIdx i.toNat)) R e h1
        have hl : i.toNat < us.length := (List.getElem?_eq_some_iff.mp h4).1
        refine ⟨a, us, i, i.toNat, w, rfl, rfl, h2, by omega, g2, seqIndex_of g1 (by omega), h4, ?_⟩
        exact k _ _ _ _ _ h x (Rel.write R e h1 ⟨_, upd_same, h3.eraseIdx.mono x⟩) (h5.mono x)
      · exact h.elim
    · exact h.elim
  · exact h.elim
end
end Y


/-! Y6: defs and their calls. -/
namespace Y
open PySem PySem.Spec PyProof.Rows L2

/-! ### a def's promise where no repr runs around it -/
structure GFn (P : Program) (w : World) (K : PySem.W.Frag) (mg : Str → Option Value) (base : Heap) (k : Nat) (f : Addr) (fd : FuncData) (ps : List Str) (sp : Sp) : Prop where
  len : ∀ vs H Q E, sp vs H Q E → vs.length = ps.length
  run : ∀ (A : Around) (out : List Env) (s : Shared) (H : Hp) (args : Args) (Q : VK) (E : XK) (G : List V → Hp → Prop), Room k A → A.guards = some [] →
    Env0 P w K mg base A out s H → StX.Bnd (L2.CX P w) P w K mg base fd args ps A out s H E G → (∀ vs H2, G vs H2 → sp vs H2 Q E) → codeAny (model P w) A (.call (.ref f) args) (CR (L2.CX P w) out P w H s Q E) s
section
variable {P : Program} {w : World} {K : PySem.W.Frag} {mg : Str → Option Value} {base : Heap} {k : Nat} {f : Addr} {fd : FuncData} {ps : List Str} {sp : Sp}
theorem GFn.mono {j : Nat} (F : GFn P w K mg base j f fd ps sp) (h : j ≤ k) : GFn P w K mg base k f fd ps sp :=
  ⟨F.len, fun A out s H args Q E G hr => F.run A out s H args Q E G (hr.mono h)⟩
/-- the parameters' values are there at once -/
theorem bnd_to {A : Around} {out : List Env} {s : Shared} {H : Hp} {args : Args} {us : List Value} {vs : List V} {E : XK} (e0 : Env0 P w K mg base A out s H) (bd : BindsTo s fd args (ps.zip us)) (r : Vals vs us) (hl : vs.length = ps.length) :
    StX.Bnd (L2.CX P w) P w K mg base fd args ps A out s H E fun vs' H' => vs' = vs ∧ H' = H := fun A' Ex Q h =>
  bd _ _ _ _ (h s H vs us e0 Un.refl rfl (fun _ _ z => z) r hl ⟨rfl, rfl⟩)
theorem GFn.to (F : GFn P w K mg base k f fd ps sp) (A : Around) (out : List Env) (s : Shared) (H : Hp) (args : Args) (us : List Value) (vs : List V) (Q : VK) (E : XK) (hr : Room k A) (hg : A.guards = some []) (e0 : Env0 P w K mg base A out s H) (bd : BindsTo s fd args (ps.zip us)) (r : Vals vs us) (h : sp vs H Q E) :
    codeAny (model P w) A (.call (.ref f) args) (CR (L2.CX P w) out P w H s Q E) s :=
  F.run A out s H args Q E _ hr hg e0 (bnd_to e0 bd r (F.len _ _ _ _ h)) fun vs' H' ⟨e1, e2⟩ => by rw [e1, e2]; exact h
abbrev cxG (P : Program) (w : World) (K : PySem.W.Frag) (mg : Str → Option Value) (base : Heap) (N : List Str) (qual : Str) (sc : Scope) (f : Addr) (cd : Value) (A : Around) (out : List Env) (s : Shared) (H : Hp) (E : XK) : Cx :=
  cxOf (L2.CX P w) P w K mg base N qual sc f cd A out s H E
/-- the rule for a def of the text -/
theorem gfn_of {x qual : Str} {params : Arguments} {body : List Stmt} {sc : Scope} {dvs : List V} {kws : List (Str × V)} {N : List Str} (F : FunD K x qual params body sc dvs kws f fd) (S : FnScope N ps sc) (len : ∀ vs H Q E, sp vs H Q E → vs.length = ps.length)
    (hb : ∀ (cdv : Value) (A : Around) (out : List Env) (s : Shared) (H : Hp) (vs : List V) (Q : VK) (E : XK), Room k (A.deeper (envOfC qual sc s.heap.objs.size f cdv)) → A.guards = some [] → sp vs H Q E →
      ∃ t, PSs (cxG P w K mg base N qual sc f cdv A out s H E) body t ∧ t { nx := fun _ H' => Q .non H', rt := Q } (start N vs) H) : GFn P w K mg base (k + 1) f fd ps sp := by
  obtain ⟨oc, od, dV, kV, doc, pm, an, cdv, ct, osl, rfl, lk, hcd, _, _⟩ := F.ex
  constructor
  · exact len
  · intro A out s H args Q E G hr hg e0 bd hsp
    have keep : ∀ b o, base.get? b = some o → s.heap.get? b = some o := fun b o e => (e0.bs b o e).1
    have KX : K.In s.heap := e0.mod.kin.keeps keep
    apply codeAny_call_function hr.depth (KX _ _ lk) rfl S.co S.gen rfl (PySem.W.codeRec_of KX hcd)
    refine bd _ _ _ ?_
    intro s2 H2 vs us e2 un ho hx rv hl g
    have hq0 := hsp vs H2 g
    have lim : s2.heap.NoLimit := e0.mod.nolimit.keeps fun b o e => (e2.bs b o e).1
    have kinds : ∀ y ∈ ps.zip us, sc.names.lookup y.1 = some .local ∨ (sc.names.lookup y.1 = some .cell ∧ ((cellsFrom (s2.heap.objs.size + 1) sc.names []).lookup y.1).isSome = true) := by
      rintro ⟨n, v⟩ hy
      cases S.par n (List.of_mem_zip hy).1 with
      | inl q => exact .inl q
      | inr q => exact .inr ⟨q, PySem.W.cellsFrom_some _ _ _ (.inl q)⟩
    apply wpAny_newFunctionEnv_cells S.kind kinds
    intro env he s1 xx
    subst he
    refine ⟨lim.keeps xx.toInCall.keep, ?_⟩
    apply codeAny_func
    obtain ⟨t, ht, hq⟩ := hb cdv A out s2 H2 vs Q E (hr.deeper _) hg hq0
    have I := inv_start (CX := L2.CX P w) (cd := cdv) (E := E) S hr.hd e2 hl rv xx
    refine wpAny_mono (ht.run [] s1 (start N vs) H2 _ I hq) ?_ (fun _ _ z => wpAny_mono z (fun _ s'' y => hx _ s'' y) fun _ s'' y => hx _ s'' y)
    intro fl s' hs
    cases fl with
    | ret u =>
      obtain ⟨v, σ', H', J, r1, q⟩ := hs
      exact ⟨v, H', J.os.trans ho, J.bare, un.trans J.base, J.hok, r1, q⟩
    | next =>
      obtain ⟨σ', H', J, q⟩ := hs
      exact ⟨V.non, H', J.os.trans ho, J.bare, un.trans J.base, J.hok, rfl, q⟩
    | brk => obtain ⟨_, _, _, q⟩ := hs; exact q.elim
    | cont => obtain ⟨_, _, _, q⟩ := hs; exact q.elim
end
section
variable {X : Cx} {k : Nat} {f : Addr} {fd : FuncData} {ps ks : List Str} {sp : Sp} {dvs : List V} {ds : List Value} {E : St → XK} {x : Str} {p pos : Pos} {a : Expr} {es : List Expr} {kws : List Keyword} {t tk : TA}
/-- what a callee lets out is wished for at the caller's slots -/
def PassG (X : Cx) (E : St → XK) : Prop := ∀ (pins : List (Addr × Obj)) (σ : St) (H : Hp) (s : Shared) (e : Value) (s' : Shared), Inv X pins σ H s → L2.CX X.prog X.w X.stack H s (E σ) e s' → X.xe e s'
end

/-! ### promises over plain data -/
/-- an exception's class by its name, its fields, the store -/
abbrev DX := Str → List (Str × D) → S → Prop
abbrev DXE := Nv → DX
abbrev DSp := List D → S → (D → S → Prop) → DX → Prop
def RepX (K : PySem.W.Frag) (W : Wd) (H : Hp) (d : Option Addr) (fl : List (Str × D)) : Prop := (d = none ∧ fl = []) ∨ ∃ a fv, d = some a ∧ W.F a ∧ H a = some (.xd fv) ∧ RepF K W H fv fl
/-- what comes back, what is let out -/
def Back (K : PySem.W.Frag) (W : Wd) (H : Hp) (Qd : D → S → Prop) (Ed : DX) (Q : VK) (E : XK) : Prop :=
  (∀ d s' W' v H', Qd d s' → Ext W H W' H' → Rel K W' s' H' → Rep K W' H' v d → Q v H') ∧ ∀ c fl s' W' dd H', Ed c fl s' → Ext W H W' H' → Rel K W' s' H' → RepX K W' H' dd fl → E (.ref (He.ga K c)) dd H'
def spOf (K : PySem.W.Frag) (sp : DSp) : Sp := fun vs H Q E => ∃ W s as Qd Ed, Rel K W s H ∧ Reps K W H vs as ∧ sp as s Qd Ed ∧ Back K W H Qd Ed Q E
/-- a promise of a call's form: the positional values, the keywords' values -/
abbrev DSpR := List D → List D → S → (D → S → Prop) → DX → Prop
def GR (P : Program) (w : World) (K : PySem.W.Frag) (mg : Str → Option Value) (base : Heap) (k : Nat) (f : Addr) (ks : List Str) (sp : DSpR) : Prop :=
  ∀ (A : Around) (out : List Env) (s : Shared) (H : Hp) (us ws : List Value) (vs zs : List V) (Q : VK) (E : XK) (W : Wd) (sd : S) (as bs : List D) (Qd : D → S → Prop) (Ed : DX), Room k A → A.guards = some [] →
    Env0 P w K mg base A out s H → Vals vs us → Vals zs ws → Rel K W sd H → Reps K W H vs as → Reps K W H zs bs → sp as bs sd Qd Ed → Back K W H Qd Ed Q E →
    codeAny (model P w) A (.call (.ref f) ⟨us, ks.zip ws⟩) (CR (L2.CX P w) out P w H s Q E) s
theorem GR.mono {P : Program} {w : World} {K : PySem.W.Frag} {mg : Str → Option Value} {base : Heap} {j k : Nat} {f : Addr} {ks : List Str} {sp : DSpR} (F : GR P w K mg base j f ks sp) (h : j ≤ k) : GR P w K mg base k f ks sp :=
  fun A out s H us ws vs zs Q E W sd as bs Qd Ed hr => F A out s H us ws vs zs Q E W sd as bs Qd Ed (hr.mono h)
/-- what the code around does with an exception -/
def Tk (X : Cx) (L : Lk) (EX : DXE) : Prop := ∃ Wx : WX, Takes X Wx ∧ ∀ c dd σ H, (∃ W e s fl, Stt X.K L W e s σ H ∧ EX e c fl s ∧ RepX X.K W H dd fl) → Wx (.ref (He.ga X.K c)) dd σ H
def EL (K : PySem.W.Frag) (L : Lk) (EX : DXE) : St → XK := fun σ c dd H => ∃ x W e s fl, c = .ref (He.ga K x) ∧ Stt K L W e s σ H ∧ EX e x fl s ∧ RepX K W H dd fl
theorem Tk.pass {X : Cx} {L : Lk} {EX : DXE} (t : Tk X L EX) : PassG X (EL X.K L EX) := by
  obtain ⟨Wx, tk, h⟩ := t
  intro pins σ H s e s' I c
  refine tk e s' (XE.of_call I (fun c dd H' q => ?_) c)
  obtain ⟨x, W, e, s, fl, rfl, q⟩ := q
  exact h x dd σ H' ⟨W, e, s, fl, q⟩
def EX0 : DXE := fun _ _ _ _ => False
theorem Tk.none {X : Cx} {L : Lk} : Tk X L EX0 := by
  refine ⟨fun _ _ _ _ => False, fun u s' h => ?_, fun c dd σ H ⟨_, _, _, _, _, h, _⟩ => h⟩
  obtain ⟨_, _, _, _, _, _, _, _, _, _, _, _, _, _, _, _, h⟩ := h
  exact h.elim
/-! ### the node of a call -/
section
variable {X : Cx} {L : Lk} {EX : DXE} {a : Expr} {es : List Expr} {kws : List Keyword} {r rk : DTA} {pos p apos : Pos}
theorem dk_nil : PK X [] (liftA X.K L dNil) := ⟨fun pos pins s σ H Q I h => (pk_nil (X := X)).run pos pins s σ H Q I (by
  obtain ⟨W, e, s, Qd, st, t, k⟩ := h
  exact k _ _ W _ H t (Ext.refl W H) st.rel .nil)⟩
theorem dk_cons {ta : DTE} {nm : Option Str} {kpos : Pos} (ha : PE X a (lift X.K L ta)) (hr : PK X kws (liftA X.K L rk)) : PK X (⟨nm, a, kpos⟩ :: kws) (liftA X.K L (dCons ta rk)) := ⟨fun pos pins s σ H Q I h => (pk_cons ha hr).run pos pins s σ H Q I (by
  obtain ⟨W, e, s, Qd, st, t, k⟩ := h
  refine ⟨W, e, s, _, st, t, fun d s1 W1 w H1 q x R p => ?_⟩
  exact ⟨W1, e, s1, _, st.after x R, q, fun ds s2 W2 vs H2 q2 x2 R2 p2 => k _ _ _ _ _ q2 (x.trans x2) R2 (.cons (p.mono x2) p2)⟩)⟩
/-- what the forms of the arguments must be -/
structure Shape (X : Cx) (es : List Expr) (kws : List Keyword) (ks : List Str) (pos : Pos) : Prop where
  one : ∀ a r, es = a :: r → starEach (a :: r) X.env = (false, eval a X.env) :: starEach r X.env ∧ (backTo pos (starEach r X.env)).any (·.1) = false
  any : (backTo pos (starEach es X.env)).any (·.1) = false
  kall : (backToKw pos (keywordEach kws X.env)).all (·.1.isSome) = true
  kks : (backToKw pos (keywordEach kws X.env)).filterMap (·.1) = ks
theorem Shape.pl {ks : List Str} (S : Shape X es kws ks pos) : ((backTo pos (starEach es X.env)).any (·.1) || (backToKw pos (keywordEach kws X.env)).any (·.1.isNone)) = false := by
  rw [S.any, Bool.false_or]
  rw [← Bool.not_eq_true, List.any_eq_true]
  rintro ⟨x, hx, hn⟩
  have := List.all_eq_true.mp S.kall x hx
  cases q : x.1 with
  | none => rw [q] at this; cases this
  | some _ => rw [q] at hn; cases hn
theorem args_call {ks : List Str} {fv : Value} {first : List Value} {pins : List (Addr × Obj)} {σ : St} {H : Hp} {s : Shared} {Q : VK} {t tk : TA} (S : Shape X es kws ks pos) (hk : PySem.W.keepIn X.K fv = true) (ha : PA X es t) (hkw : PK X kws tk) (I : Inv X pins σ H s)
    (R : List V → List V → Hp → Prop) (h : t σ H fun vs H1 => tk σ H1 fun zs H2 => R vs zs H2) (h0 : es = [] → t = tNil)
    (run : ∀ s2 H2 vs us zs ws, Inv X pins σ H2 s2 → Vals vs us → Vals zs ws → R vs zs H2 → wpAny (model X.prog X.w) X.A (call fv (first ++ us) (ks.zip ws)) (EP X pins σ Q) X.xe s2) :
    wpAny (model X.prog X.w) X.A (callWith pos fv first (backTo pos (starEach es X.env)) (backToKw pos (keywordEach kws X.env))) (EP X pins σ Q) X.xe s := by
  cases es with
  | nil =>
    rw [h0 rfl] at h
    have h' : tk σ H fun zs H2 => R [] zs H2 := h
    refine PySem.W.callWith_KW0 (h₀ := X.base) I.ok.mod.kin hk S.kall ?_ S.pl
    refine thn (hkw.run pos pins s σ H _ I h') ?_
    rintro ws s2 ⟨zs, H2, I2, rz, q2⟩
    refine ⟨I2.kIn, ?_⟩
    rw [S.kks]
    exact run s2 H2 [] [] zs ws I2 .nil rz q2
  | cons a es =>
    obtain ⟨o1, o2⟩ := S.one a es rfl
    refine PySem.W.callWith_KW (h₀ := X.base) I.ok.mod.kin hk S.kall ?_ S.pl o1
    refine thn (ha.run pos pins s σ H _ I h) ?_
    rintro us s1 ⟨vs, H1, I1, r, q⟩
    refine thn (hkw.run pos pins s1 σ H1 _ I1 q) ?_
    rintro ws s2 ⟨zs, H2, I2, rz, q2⟩
    refine ⟨I2.kIn, ?_⟩
    rw [S.kks]
    exact run s2 H2 vs us zs ws I2 r rz q2
/-- the callee runs, in a state of ours -/
theorem run_R {k : Nat} {f : Addr} {ks : List Str} {sp : DSpR} {pins : List (Addr × Obj)} {σ : St} {H : Hp} {s : Shared} {Q : VK} {us ws : List Value} {vs zs : List V} {W : Wd} {e : Nv} {sd : S} {as bs : List D} {Qd : D → S → Prop}
    (F : GR X.prog X.w X.K X.mg X.base k f ks sp) (hr : Room k X.A) (hg : X.A.guards = some []) (tk : Tk X L EX) (I : Inv X pins σ H s) (r : Vals vs us) (rz : Vals zs ws) (st : Stt X.K L W e sd σ H) (ra : Reps X.K W H vs as) (rb : Reps X.K W H zs bs)
    (h : sp as bs sd Qd (EX e)) (kk : ∀ d s' W' v H', Qd d s' → Ext W H W' H' → Rel X.K W' s' H' → Rep X.K W' H' v d → Q v H') : wpAny (model X.prog X.w) X.A (call (.ref f) us (ks.zip ws)) (EP X pins σ Q) X.xe s := by
  apply wpAny_call
  refine codeAny_mono (F X.A X.stack s H us ws vs zs Q (EL X.K L EX σ) W sd as bs Qd (EX e) hr hg I.env0 r rz st.rel ra rb h ⟨kk, fun c fl s' W' dd H' q x R' rx => ⟨c, W', e, s', fl, rfl, st.after x R', q, rx⟩⟩) ?_
  intro res s' hq
  cases res with
  | error e => exact tk.pass pins σ H s e s' I hq
  | ok fl => cases fl with
    | ret u => exact I.after hq
    | next => exact (show False from hq).elim
    | brk => exact (show False from hq).elim
    | cont => exact (show False from hq).elim
def dCallR (sp : DSpR) (EX : DXE) (r rk : DTA) : DTE := fun e s Q => r e s fun ds s1 => rk e s1 fun zs s2 => sp ds zs s2 Q (EX e)
/-- what a call's arguments leave -/
def AsP (K : PySem.W.Frag) (L : Lk) (sp : DSpR) (EX : DXE) (σ : St) (Q : VK) (vs zs : List V) (H : Hp) : Prop := ∃ W e sd as bs Qd, Stt K L W e sd σ H ∧ Reps K W H vs as ∧ Reps K W H zs bs ∧ sp as bs sd Qd (EX e) ∧ ∀ d s' W' v H', Qd d s' → Ext W H W' H' → Rel K W' s' H' → Rep K W' H' v d → Q v H'
theorem lift_args {sp : DSpR} {σ : St} {H : Hp} {Q : VK} (h : lift X.K L (dCallR sp EX r rk) σ H Q) : liftA X.K L r σ H fun vs H1 => liftA X.K L rk σ H1 fun zs H2 => AsP X.K L sp EX σ Q vs zs H2 := by
  obtain ⟨W, e, s, Qd, st, t, kk⟩ := h
  refine ⟨W, e, s, _, st, t, fun as s1 W1 vs H1 q x R p => ?_⟩
  refine ⟨W1, e, s1, _, st.after x R, q, fun bs s2 W2 zs H2 q2 x2 R2 p2 => ?_⟩
  exact ⟨W2, e, s2, as, bs, Qd, (st.after x R).after x2 R2, p.mono x2, p2, q2, fun d s' W' v H' q' x' R' r' => kk d s' W' v H' q' (x.trans (x2.trans x')) R' r'⟩
/-- no argument is written -/
theorem nil_A {σ : St} {H : Hp} {R : List V → Hp → Prop} (h : liftA X.K L dNil σ H R) : tNil σ H R := by
  obtain ⟨W, e, s, Qd, st, t, kk⟩ := h
  exact kk [] s W [] H t (Ext.refl W H) st.rel .nil
/-- the arguments of any form -/
theorem arr_call {ks : List Str} {fv : Value} {first : List Value} {pins : List (Addr × Obj)} {σ : St} {H : Hp} {s : Shared} {Q : VK} (S : Shape X es kws ks pos) (hk : PySem.W.keepIn X.K fv = true) (ha : PA X es (liftA X.K L r)) (hkw : PK X kws (liftA X.K L rk)) (h0 : es = [] → r = dNil) (I : Inv X pins σ H s)
    (R : List V → List V → Hp → Prop) (h : liftA X.K L r σ H fun vs H1 => liftA X.K L rk σ H1 fun zs H2 => R vs zs H2)
    (run : ∀ s2 H2 vs us zs ws, Inv X pins σ H2 s2 → Vals vs us → Vals zs ws → R vs zs H2 → wpAny (model X.prog X.w) X.A (call fv (first ++ us) (ks.zip ws)) (EP X pins σ Q) X.xe s2) :
    wpAny (model X.prog X.w) X.A (callWith pos fv first (backTo pos (starEach es X.env)) (backToKw pos (keywordEach kws X.env))) (EP X pins σ Q) X.xe s := by
  cases es with
  | nil =>
    rw [h0 rfl] at h
    exact args_call (t := tNil) S hk pa_nil hkw I R (nil_A h) (fun _ => rfl) run
  | cons a es => exact args_call S hk ha hkw I R h (fun z => nomatch z) run
/-- f(..), f a def of the module -/
theorem de_callR {k : Nat} {f : Addr} {ks : List Str} {sp : DSpR} {x : Str} (F : GR X.prog X.w X.K X.mg X.base k f ks sp) (hr : Room k X.A) (hgd : X.A.guards = some []) (hg : Gl X x) (hm : X.mg x = some (.ref f)) (hk : PySem.W.keepIn X.K (.ref f) = true) (tk : Tk X L EX)
    (S : Shape X es kws ks pos) (ha : PA X es (liftA X.K L r)) (hkw : PK X kws (liftA X.K L rk)) (h0 : es = [] → r = dNil) (hdb : (x == ("__debug__" : Str)) = false) :
    PE X (.Call (.Name x p) es kws pos) (lift X.K L (dCallR sp EX r rk)) := by
  constructor
  intro pins s σ H Q I h
  apply wpAny_Call_Name_kw
  apply ld_glob I hg hm _ hdb
  refine arr_call (first := []) S hk ha hkw h0 I _ (lift_args h) fun s2 H2 vs us zs ws I2 rv rz z => ?_
  obtain ⟨W, e, sd, as, bs, Qd, st, ra, rb, hs, kk⟩ := z
  exact run_R F hr hgd tk I2 rv rz st ra rb hs kk
/-! ### objects: attributes, methods, new instances, properties -/
/-- an instance that may be read: its class, its attributes -/
def insD (s : S) : D → Option (Str × List (Str × D))
  | .cell n => (match s n with
    | some (.ins c fs) => some (c, fs)
    | _ => none)
  | .obj c fs => some (c, fs)
  | _ => none
theorem insD_ok {K : PySem.W.Frag} {W : Wd} {H : Hp} {s : S} {v : V} {d : D} {c : Str} {fs : List (Str × D)} (R : Rel K W s H) (rp : Rep K W H v d) (e : insD s d = some (c, fs)) :
    ∃ a dx fv, v = .ref a ∧ H a = some (.ins (He.ga K c) dx fv) ∧ RepF K W H fv fs ∧ CI K c ∧ NA K c fs := by
  cases d with
  | cell n =>
    have e : (match s n with
      | some (.ins c fs) => some (c, fs)
      | _ => none) = some (c, fs) := e
    cases q : s n with
    | none => rw [q] at e; cases e
    | some o =>
      rw [q] at e
      cases o with
      | ins c' fs' =>
        cases e
        cases rp with
        | cell h =>
          obtain ⟨a, h1, _, dx, fv, h2, h3, h4, h5⟩ := R.cells n _ q
          rw [h] at h1; cases h1
          exact ⟨_, dx, fv, rfl, h2, h3, h4, h5⟩
      | _ => cases e
  | obj c' fs' =>
    cases e
    cases rp with
    | obj f h r ci na => exact ⟨_, _, _, rfl, h, r, ci, na⟩
  | _ => cases e
theorem RepF.look {K : PySem.W.Frag} {W : Wd} {H : Hp} {f : Str} : ∀ {fv : List (Str × V)} {fs : List (Str × D)}, RepF K W H fv fs → (∀ d, fs.lookup f = some d → ∃ v, fv.lookup f = some v ∧ Rep K W H v d) ∧ (fs.lookup f = none → fv.lookup f = none)
  | _, _, .nil => ⟨fun d e => (nomatch e), fun _ => rfl⟩
  | _, _, .cons (f := g) (fv := fv) (fs := fs) (v := v) (d := d) rv rs => by
    obtain ⟨i1, i2⟩ := RepF.look (f := f) rs
    rw [List.lookup_cons, List.lookup_cons]
    cases f == g with
    | true => exact ⟨fun d e => by cases e; exact ⟨_, rfl, rv⟩, fun e => nomatch e⟩
    | false => exact ⟨i1, i2⟩
theorem RepF.length {K : PySem.W.Frag} {W : Wd} {H : Hp} : ∀ {fv : List (Str × V)} {fs : List (Str × D)}, RepF K W H fv fs → fv.length = fs.length
  | _, _, .nil => rfl
  | _, _, .cons _ rs => by rw [List.length_cons, List.length_cons, RepF.length rs]
/-- an attribute is put -/
def putFD (f : Str) (v : D) : List (Str × D) → List (Str × D)
  | [] => [(f, v)]
  | (g, x) :: r => if g = f then (g, v) :: r else (g, x) :: putFD f v r
theorem RepF.put {K : PySem.W.Frag} {W : Wd} {H : Hp} {f : Str} {v : V} {d : D} (q : Rep K W H v d) : ∀ {fv : List (Str × V)} {fs : List (Str × D)}, RepF K W H fv fs → RepF K W H (putF f v fv) (putFD f d fs)
  | _, _, .nil => .cons q .nil
  | _, _, .cons (f := g) rv rs => by
    unfold putF putFD
    by_cases h : g = f
    · rw [if_pos h, if_pos h]; exact .cons q rs
    · rw [if_neg h, if_neg h]; exact .cons rv (RepF.put q rs)
theorem putFD_keys {f : Str} {v : D} : ∀ {fs : List (Str × D)} {p : Str × D}, p ∈ putFD f v fs → p.1 = f ∨ ∃ q ∈ fs, q.1 = p.1
  | [], p, h => by
    have h : p ∈ [(f, v)] := h
    rw [List.mem_singleton] at h
    exact .inl (by rw [h])
  | (g, x) :: r, p, h => by
    unfold putFD at h
    by_cases e : g = f
    · rw [if_pos e] at h
      rcases List.mem_cons.mp h with h | h
      · exact .inl (by rw [h]; exact e)
      · exact .inr ⟨p, by simp [h], rfl⟩
    · rw [if_neg e] at h
      rcases List.mem_cons.mp h with h | h
      · exact .inr ⟨(g, x), by simp, by rw [h]⟩
      · rcases putFD_keys h with h | ⟨q, h1, h2⟩
        · exact .inl h
        · exact .inr ⟨q, by simp [h1], h2⟩
variable {o : Expr} {ta tv : DTE} {f m : Str}
def dFld (f : Str) (ta : DTE) : DTE := fun e s Q => ta e s fun d s1 => match insD s1 d with
  | some (_, fs) => (match fs.lookup f with
    | some x => Q x s1
    | none => False)
  | none => False
theorem de_fld (ho : PE X o (lift X.K L ta)) (hb : attributeBase o f X.env (eval o X.env) = eval o X.env) : PE X (.Attribute o f pos) (lift X.K L (dFld f ta)) := (pe_fld ho hb).wk fun σ H Q h => by
  obtain ⟨W, e, s, Qd, st, t, k⟩ := h
  refine ⟨W, e, s, _, st, t, fun d s1 W1 v H1 q x R p => ?_⟩
  cases e1 : insD s1 d with
  | none => simp only [e1] at q
  | some cf =>
    obtain ⟨c, fs⟩ := cf
    simp only [e1] at q
    cases e2 : fs.lookup f with
    | none => simp only [e2] at q
    | some y =>
      simp only [e2] at q
      obtain ⟨a, dx, fv, rfl, h1, h2, ci, na⟩ := insD_ok R p e1
      obtain ⟨u, hu, ru⟩ := (RepF.look (f := f) h2).1 y e2
      have hna : NoAttr X.K (He.ga X.K c) f := by
        obtain ⟨l1, l2, h3, _⟩ := List.lookup_eq_some_iff.mp e2
        exact na (f, y) (by rw [h3]; simp)
      exact ⟨a, _, dx, fv, u, rfl, h1, ci.cl, hna, hu, k _ _ _ _ _ q x R ru⟩
/-! ### methods, new instances, properties -/
theorem meth_form {args : List Expr} {kws : List Keyword} (hb : attributeBase o m X.env (eval o X.env) = eval o X.env) (hp : (backTo pos (starEach args X.env)).all (fun x => !x.1) = true) (hk : (backToKw pos (keywordEach kws X.env)).all (·.1.isSome) = true)
    (hn : args.length + kws.length < 29) (hl : (apos.endLine == pos.line) = true) : eval (.Call (.Attribute o m apos) args kws pos) X.env = (do
      let ov ← eval o X.env
      standAt apos.atName
      let (f, first) ← holding [ov] (getMethod ov m (do return (← importBound o X.env).getD true))
      callWith pos f first (backTo pos (starEach args X.env)) (backToKw pos (keywordEach kws X.env))) := by
  have hf : methodCallForm (args.length + kws.length) (backTo pos (starEach args X.env)) (backToKw pos (keywordEach kws X.env)) = true := by
    unfold methodCallForm
    rw [hp, hk]
    have : args.length + kws.length + (if (backToKw pos (keywordEach kws X.env)).isEmpty then 0 else 1) < 30 := by split <;> omega
    simpa using this
  have hpos : methodCallPos true o X.env apos pos = pure pos := by
    unfold methodCallPos
    rw [if_pos (by rw [hl]; rfl)]
  rw [arm_eval_Call, hb]
  unfold methodCall
  rw [hf, hpos]
  rfl
theorem Shape.plain {ks : List Str} (S : Shape X es kws ks pos) : (backTo pos (starEach es X.env)).all (fun x => !x.1) = true := by
  rw [List.all_eq_true]
  intro x hx
  have h := S.any
  cases q : x.1 with
  | false => rfl
  | true =>
    have z : (backTo pos (starEach es X.env)).any (·.1) = true := List.any_eq_true.mpr ⟨x, hx, q⟩
    rw [h] at z; cases z
/-- o.m(..) -/
def dMCall (c m : Str) (sp : DSpR) (EX : DXE) (to : DTE) (r rk : DTA) : DTE := fun e s Q => to e s fun d s1 => match insD s1 d with
  | some (c', fs) => c' = c ∧ fs.lookup m = none ∧ r e s1 fun ds s2 => rk e s2 fun zs s3 => sp (d :: ds) zs s3 Q (EX e)
  | none => False
theorem de_mcall {k : Nat} {f : Addr} {ks : List Str} {sp : DSpR} {c : Str} (F : GR X.prog X.w X.K X.mg X.base k f ks sp) (hr : Room k X.A) (hgd : X.A.guards = some []) (hm : Meth X.K (He.ga X.K c) m f) (tk : Tk X L EX)
    (S : Shape X es kws ks pos) (ho : PE X o (lift X.K L ta)) (ha : PA X es (liftA X.K L r)) (hkw : PK X kws (liftA X.K L rk)) (h0 : es = [] → r = dNil) (hb : attributeBase o m X.env (eval o X.env) = eval o X.env) (hn : es.length + kws.length < 29) (hl : (apos.endLine == pos.line) = true) :
    PE X (.Call (.Attribute o m apos) es kws pos) (lift X.K L (dMCall c m sp EX ta r rk)) := by
  constructor
  intro pins s σ H Q I h
  obtain ⟨W, e, sd, Qd, st, t, kk⟩ := h
  refine PySem.W.methodCall_KW (thn (ho.run pins s σ H (fun v H1 => ∃ d s1 W1, Ext W H W1 H1 ∧ Rel X.K W1 s1 H1 ∧ Rep X.K W1 H1 v d ∧ (match insD s1 d with
    | some (c', fs) => c' = c ∧ fs.lookup m = none ∧ r e s1 fun ds s2 => rk e s2 fun zs s3 => sp (d :: ds) zs s3 Qd (EX e)
    | none => False)) I ⟨W, e, sd, _, st, t, fun d s1 W1 v H1 q x R p => ⟨d, s1, W1, x, R, p, q⟩⟩) ?_) (meth_form hb S.plain S.kall hn hl)
  rintro u s1 ⟨v, H1, I1, rv, d, sd1, W1, x, R, p, q⟩
  cases e1 : insD sd1 d with
  | none => rw [e1] at q; exact q.elim
  | some cf =>
    obtain ⟨c', fs⟩ := cf
    rw [e1] at q
    obtain ⟨rfl, hlk, q⟩ := q
    obtain ⟨a, dx, fv, rfl, h1, h2, ci, na⟩ := insD_ok R p e1
    obtain rfl : u = Value.ref a := rv
    refine getmeth_ok I1 h1 ci.cl hm ((RepF.look (f := m) h2).2 hlk) ?_
    refine arr_call (first := [.ref a]) (Q := Q) S hm.kp ha hkw h0 I1 (fun vs zs H2 => AsP X.K L sp EX σ Q (V.ref a :: vs) zs H2) ?_ fun s2 H2 vs us zs ws I2 rv rz z => ?_
    · refine ⟨W1, e, sd1, _, st.after x R, q, fun as s2 W2 vs H2 q2 x2 R2 p2 => ?_⟩
      refine ⟨W2, e, s2, _, (st.after x R).after x2 R2, q2, fun bs s3 W3 zs H3 q3 x3 R3 p3 => ?_⟩
      exact ⟨W3, e, s3, d :: as, bs, Qd, ((st.after x R).after x2 R2).after x3 R3, .cons ((p.mono x2).mono x3) (p2.mono x3), p3, q3, fun d' s' W' v' H' q' x' R' r' => kk d' s' W' v' H' q' (x.trans (x2.trans (x3.trans x'))) R' r'⟩
    · obtain ⟨W, e, sd, as, bs, Qd, st, ra, rb, hs, kk⟩ := z
      exact run_R (us := .ref a :: us) (vs := V.ref a :: vs) F hr hgd tk I2 (.cons rfl rv) rz st ra rb hs kk
/-- C(..): a new instance, then __init__ -/
def dMake (c : Str) (sp : DSpR) (EX : DXE) (r rk : DTA) : DTE := fun e s Q => r e s fun ds s1 => rk e s1 fun zs s2 => ∀ n, s2 n = none → sp (.cell n :: ds) zs (s2.set n (.ins c [])) (fun v s3 => v = .non ∧ Q (.cell n) s3) (EX e)
theorem de_make {k : Nat} {f : Addr} {ks : List Str} {sp : DSpR} {c : Str} (M : Mk X.K (He.ga X.K c) f) (ci : CI X.K c) (F : GR X.prog X.w X.K X.mg X.base k f ks sp) (hr : Room (k + 1) X.A) (hgd : X.A.guards = some []) (hg : Gl X c) (hm : X.mg c = some (.ref (He.ga X.K c))) (tk : Tk X L EX)
    (S : Shape X es kws ks pos) (ha : PA X es (liftA X.K L r)) (hkw : PK X kws (liftA X.K L rk)) (h0 : es = [] → r = dNil) (hdb : (c == ("__debug__" : Str)) = false) :
    PE X (.Call (.Name c p) es kws pos) (lift X.K L (dMake c sp EX r rk)) := by
  constructor
  intro pins s σ H Q I h
  apply wpAny_Call_Name_kw
  apply ld_glob I hg hm _ hdb
  obtain ⟨W, e, sd, Qd, st, t, kk⟩ := h
  refine arr_call (first := []) (Q := Q) S M.kp ha hkw h0 I (fun vs zs H2 => ∃ (W2 : Wd) (e : Nv) (s2 : Y.S) (as bs : List D) (Qd : D → Y.S → Prop), Stt X.K L W2 e s2 σ H2 ∧ Reps X.K W2 H2 vs as ∧ Reps X.K W2 H2 zs bs ∧ (∀ n, s2 n = none → sp (.cell n :: as) bs (s2.set n (.ins c [])) (fun v s3 => v = .non ∧ Qd (.cell n) s3) (EX e)) ∧
    ∀ d s' W' v H', Qd d s' → Ext W2 H2 W' H' → Rel X.K W' s' H' → Rep X.K W' H' v d → Q v H') ?_ fun s2 H2 vs us zs ws I2 rv rz z => ?_
  · refine ⟨W, e, sd, _, st, t, fun as s2 W2 vs H2 q2 x2 R2 p2 => ?_⟩
    refine ⟨W2, e, s2, _, st.after x2 R2, q2, fun bs s3 W3 zs H3 q3 x3 R3 p3 => ?_⟩
    exact ⟨W3, e, s3, as, bs, Qd, (st.after x2 R2).after x3 R3, p2.mono x3, p3, q3, fun d' s' W' v' H' q' x' R' r' => kk d' s' W' v' H' q' (x2.trans (x3.trans x')) R' r'⟩
  · obtain ⟨W, e, sd, as, bs, Qd, st, ra, rb, hs, kk⟩ := z
    have I3 := Inv.made (C := He.ga X.K c) I2
    have n1 : H2 s2.heap.objs.size = none := I2.hok.fresh (Nat.le_refl _)
    have n2 : H2 (s2.heap.objs.size + 1) = none := I2.hok.fresh (Nat.le_succ _)
    have ne : s2.heap.objs.size ≠ s2.heap.objs.size + 1 := Nat.ne_of_lt (Nat.lt_succ_self _)
    have keep : ∀ a u, H2 a = some u → (upd (upd H2 s2.heap.objs.size (.own (s2.heap.objs.size + 1))) (s2.heap.objs.size + 1) (.ins (He.ga X.K c) s2.heap.objs.size [])) a = some u := fun a u q => by
      rw [upd_ne (ne_of_none q n2), upd_ne (ne_of_none q n1)]; exact q
    have x3 : Ext W H2 (W.new (s2.heap.objs.size + 1)) _ := Ext.new st.rel keep
    have R3 := Rel.new (o := .ins c []) st.rel n2 keep ⟨_, [], upd_same, .nil, ci, fun p hp => (nomatch hp)⟩
    have hs' := hs W.nx st.rel.nxs
    show wpAny _ _ (call (.ref (He.ga X.K c)) us (ks.zip ws)) _ _ _
    refine wpAny_call (make_map I2.kIn M.makes M.init (beq_iff_eq.mp M.fn) (codeAny_mono (F _ X.stack _ _ (.ref (s2.heap.objs.size + 1) :: us) ws (.ref (s2.heap.objs.size + 1) :: vs) zs (fun v H' => v = .non ∧ Q (.ref (s2.heap.objs.size + 1)) H') (EL X.K L EX σ) _ _ _ _ _ _ (hr.make _ us _) hgd
      (I3.env0.make _ us _) (.cons rfl rv) rz R3 (.cons (.cell (Wd.new_r W _)) (ra.mono x3)) (rb.mono x3) hs' ⟨fun d s' W' v H' q x' R' r' => ?_, fun c fl s' W' dd H' q x' R' rx => ⟨c, W', e, s', fl, rfl, (st.after x3 R3).after x' R', q, rx⟩⟩) fun res s' hq => ?_))
    · obtain ⟨rfl, q⟩ := q
      cases r'
      exact ⟨rfl, kk _ _ _ _ _ q (x3.trans x') R' (.cell (x'.r _ _ (Wd.new_r W _)))⟩
    · cases res with
      | error er => exact tk.pass pins σ _ _ er s' I3 hq
      | ok fl => cases fl with
        | ret u =>
          obtain ⟨v, H', I4, rv', ev, q3⟩ := I3.after hq
          subst ev
          exact ⟨rv', ⟨V.ref _, H', I4, rfl, q3⟩⟩
        | next => exact (show False from hq).elim
        | brk => exact (show False from hq).elim
        | cont => exact (show False from hq).elim
/-- o.f, a property -/
def dProp (c : Str) (sp : DSpR) (to : DTE) : DTE := fun e s Q => to e s fun d s1 => match insD s1 d with
  | some (c', _) => c' = c ∧ sp [d] [] s1 Q fun _ _ _ => False
  | none => False
theorem de_prop {k : Nat} {g q : Addr} {sp : DSpR} {c : Str} (F : GR X.prog X.w X.K X.mg X.base k g [] sp) (hr : Room (k + 1) X.A) (hgd : X.A.guards = some []) (hp : PropOf X.K (He.ga X.K c) f q g) (ho : PE X o (lift X.K L ta)) (hb : attributeBase o f X.env (eval o X.env) = eval o X.env) :
    PE X (.Attribute o f pos) (lift X.K L (dProp c sp ta)) := by
  constructor
  intro pins s σ H Q I h
  obtain ⟨W, e, sd, Qd, st, t, kk⟩ := h
  refine attr_of hb (thn (ho.run pins s σ H (fun v H1 => ∃ d s1 W1, Ext W H W1 H1 ∧ Rel X.K W1 s1 H1 ∧ Rep X.K W1 H1 v d ∧ (match insD s1 d with
    | some (c', _) => c' = c ∧ sp [d] [] s1 Qd fun _ _ _ => False
    | none => False)) I ⟨W, e, sd, _, st, t, fun d s1 W1 v H1 q x R p => ⟨d, s1, W1, x, R, p, q⟩⟩) ?_)
  rintro u s1 ⟨v, H1, I1, rv, d, sd1, W1, x, R, p, z⟩
  cases e1 : insD sd1 d with
  | none => rw [e1] at z; exact z.elim
  | some cf =>
    obtain ⟨c', fs⟩ := cf
    rw [e1] at z
    obtain ⟨rfl, z⟩ := z
    obtain ⟨a, dx, fv, rfl, h1, h2, ci, na⟩ := insD_ok R p e1
    obtain rfl : u = Value.ref a := rv
    obtain ⟨mA, O, _, _, _, _⟩ := ins_get I1.hok h1
    obtain ⟨od, J, _⟩ := O.look
    obtain ⟨rest, hrec⟩ := hp.rec_
    have I2 := I1.tok (s1.toks + 1)
    have hcl : (PySem.W.clsIn X.K (He.ga X.K c')).isSome = true := by
      obtain ⟨cd, hc, _⟩ := PySem.W.any_some ci.cl.hd
      rw [hc]; rfl
    have pg := PySem.W.plainGet_of (ci.cl.get f)
    refine PySem.W.get_bind I1.kIn J pg.1 (PySem.W.findObj_data hcl hp.at_ hp.get hp.tak) pg.2 (wpAny_call (PySem.W.prop_get (s := { s1 with toks := s1.toks + 1 }) I1.kIn hrec ?_))
    refine codeAny_mono (F X.A.in1 X.stack { s1 with toks := s1.toks + 1 } H1 [.ref a] [] [.ref a] [] Q (fun _ _ _ => False) W1 sd1 [d] [] Qd (fun _ _ _ => False) hr.in1 hgd I2.env0.in1 (.cons rfl .nil) .nil R (.cons p .nil) .nil z
      ⟨fun d s' W' v H' q x' R' r' => kk d s' W' v H' q (x.trans x') R' r', fun c fl s' W' dd H' q => q.elim⟩) fun res s' hq => ?_
    cases res with
    | error er =>
      obtain ⟨_, _, _, _, _, _, _, _, _, _, _, _, no⟩ := hq
      exact no.elim
    | ok fl => cases fl with
      | ret u =>
        obtain ⟨v, H', I3, rv, q3⟩ := I2.after hq
        show wpAny _ _ (handedOut u) _ _ _
        rw [PySem.W.handedOut_of (handed_of rv)]
        exact wpAny_pure ⟨v, H', I3, rv, q3⟩
      | next => exact (show False from hq).elim
      | brk => exact (show False from hq).elim
      | cont => exact (show False from hq).elim
end
end Y


/-! Y6b: how the forms of calls bind. -/
namespace Y
open PySem PySem.Spec PyProof.Rows L2
def arr (perm : List Nat) (xs : List D) : List D := perm.map fun j => xs.getD j .non
def arrV (perm : List Nat) (xs : List V) : List V := perm.map fun j => xs.getD j .non
def arrU (perm : List Nat) (xs : List Value) : List Value := perm.map fun j => xs.getD j .none
theorem Reps.arr {K : PySem.W.Frag} {W : Wd} {H : Hp} {vs : List V} {ds : List D} (r : Reps K W H vs ds) : ∀ perm : List Nat, Reps K W H (arrV perm vs) (Y.arr perm ds)
  | [] => .nil
  | j :: perm => by
    refine .cons ?_ (Reps.arr r perm)
    show Rep K W H (vs.getD j V.non) (ds.getD j D.non)
    rw [List.getD_eq_getElem?_getD, List.getD_eq_getElem?_getD]
    cases e : ds[j]? with
    | none =>
      have e2 : vs[j]? = none := by
        rw [List.getElem?_eq_none_iff] at e ⊢
        rw [r.length]; exact e
      rw [e2]; exact .non
    | some d =>
      obtain ⟨v, h1, h2⟩ := r.get e
      rw [h1]; exact h2
theorem Vals.arr {vs : List V} {us : List Value} (r : Vals vs us) : ∀ perm : List Nat, Vals (arrV perm vs) (arrU perm us)
  | [] => .nil
  | j :: perm => by
    refine .cons ?_ (Vals.arr r perm)
    show RelV (vs.getD j V.non) (us.getD j Value.none)
    rw [List.getD_eq_getElem?_getD, List.getD_eq_getElem?_getD]
    cases e : vs[j]? with
    | none =>
      have e2 : us[j]? = none := by
        rw [List.getElem?_eq_none_iff] at e ⊢
        rw [← r.length]; exact e
      rw [e2]; rfl
    | some d =>
      obtain ⟨v, h1, h2⟩ := r.get e
      rw [h1]; exact h2
/-- names looked up in the dict at a, one behind another, then r -/
def KwC {α : Type} (a : Addr) : List (Str × Value) → Sem α → Sem α → Prop
  | [], t, r => t = r
  | q :: l, t, r => ∃ (β γ : Type) (k1 : Option Value → Sem β) (k2 : β → Sem γ) (k3 : γ → Sem α) (b : β), t = ((nsGet a q.1 >>= k1) >>= k2) >>= k3 ∧ k1 (some q.2) = pure b ∧ KwC a l (k2 b >>= k3) r
theorem KwC.at_ {α : Type} {K : PySem.W.Frag} {M : Model} {A : Around} {E : Value → Shared → Prop} {s : Shared} {a : Addr} {Q : α → Shared → Prop} (X : K.In s.heap) : ∀ {l : List (Str × Value)} {t r : Sem α}, (∀ q ∈ l, PySem.W.nsIn K a q.1 = some (some q.2)) → KwC a l t r → wpAny M A r Q E s → wpAny M A t Q E s
  | [], t, r, _, e, h => by
    rw [show t = r from e]; exact h
  | q :: l, t, r, hl, e, h => by
    obtain ⟨β, γ, k1, k2, k3, b, rfl, e2, e3⟩ := e
    have l1 : PySem.W.Looks M s.heap (nsGet a q.1 >>= k1) b := (PySem.W.looks_nsIn X (hl q (List.mem_cons_self ..))).andThen (PySem.W.Looks.of_pure e2)
    rw [bind_assoc]
    exact wpAny_bind (l1.here (KwC.at_ X (fun p hp => hl p (List.mem_cons_of_mem _ hp)) e3 h))
section
variable {P : Program} {w : World} {K : PySem.W.Frag} {mg : Str → Option Value} {base : Heap} {lv : Nat} {f : Addr} {ps : List Str} {sp : DSp} {x qual : Str} {params : Arguments} {body : List Stmt} {scope : Scope} {dvs : List V} {kws : List (Str × V)} {fd : FuncData}
theorem GR.imp {ks : List Str} {sp sp' : DSpR} (F : GR P w K mg base lv f ks sp) (h : ∀ as bs s Q Ex, sp' as bs s Q Ex → sp as bs s Q Ex) : GR P w K mg base lv f ks sp' :=
  fun A out s H us ws vs zs Q E W sd as bs Qd Ed hr hg e0 r1 r2 R ra rb hs => F A out s H us ws vs zs Q E W sd as bs Qd Ed hr hg e0 r1 r2 R ra rb (h _ _ _ _ _ hs)
/-- what a form gives the def -/
def frm (n m : Nat) (perm : List Nat) (dd : List D) (sp : DSp) : DSpR := fun as bs s Q Ex => as.length = n ∧ bs.length = m ∧ sp (arr perm (as ++ bs ++ dd)) s Q Ex
theorem kIn_of {s : Shared} {A : Around} {out : List Env} {H : Hp} (e0 : Env0 P w K mg base A out s H) : K.In s.heap := e0.mod.kin.keeps fun b o e => (e0.bs b o e).1
/-- n positional values, the keywords ks, then the defaults' values -/
theorem gr_of {n : Nat} {ks : List Str} {perm : List Nat} {ds : List Value} {dsv : List V} {dd : List D} (G : GFn P w K mg base lv f fd ps (spOf K sp)) (hd : Vals dsv ds) (hdd : ∀ W H, Reps K W H dsv dd)
    (hb : ∀ (s : Shared) (us ws : List Value), K.In s.heap → us.length = n → ws.length = ks.length → BindsTo s fd ⟨us, ks.zip ws⟩ (ps.zip (arrU perm (us ++ ws ++ ds)))) : GR P w K mg base lv f ks (frm n ks.length perm dd sp) := by
  intro A out s H us ws vs zs Q E W sd as bs Qd Ed hr hg e0 r1 r2 R ra rb hs bk
  obtain ⟨l1, l2, hs⟩ := hs
  refine G.to A out s H ⟨us, ks.zip ws⟩ (arrU perm (us ++ ws ++ ds)) (arrV perm (vs ++ zs ++ dsv)) Q E hr hg e0 (hb s us ws (kIn_of e0) (by rw [← r1.length, ra.length]; exact l1) (by rw [← r2.length, rb.length]; exact l2)) (Vals.arr ((r1.append r2).append hd) perm) ?_
  exact ⟨W, sd, _, Qd, Ed, R, ((ra.app rb).app (hdd W H)).arr perm, hs, bk⟩
/-- no defaults stand in it -/
theorem gr_plain {n : Nat} {ks : List Str} {perm : List Nat} (F : FunD K x qual params body scope [] kws f fd) (G : GFn P w K mg base lv f fd ps (spOf K sp))
    (h : ∀ (kV doc pm : Value) (an : Option Addr) (cdv ct : Value) (us ws : List Value), us.length = n → ws.length = ks.length → bindArgs (PySem.W.fnOf x qual params body scope .none kV doc pm an cdv ct) ⟨us, ks.zip ws⟩ = pure (ps.zip (arrU perm (us ++ ws)))) :
    GR P w K mg base lv f ks (frm n ks.length perm [] sp) := gr_of G (ds := []) .nil (fun _ _ => .nil) fun s us ws _ l1 l2 => by
  obtain ⟨oc, od, dV, kV, doc, pm, an, cdv, ct, osl, rfl, lk, hcd, hD, hK⟩ := F.ex
  rcases hD with ⟨_, rfl⟩ | ⟨e, _⟩
  · rw [List.append_nil]
    exact .of_eq (h kV doc pm an cdv ct us ws l1 l2)
  · exact absurd rfl e
/-- keyword-only defaults ms fill up -/
theorem gr_kwo {n : Nat} {ks : List Str} {perm : List Nat} {ms : List (Str × V)} {dd : List D} (F : FunD K x qual params body scope [] kws f fd) (G : GFn P w K mg base lv f fd ps (spOf K sp)) (hk : kws ≠ []) (hms : ∀ q ∈ ms, q ∈ kws) (hdd : ∀ W H, Reps K W H (ms.map (·.2)) dd)
    (h : ∀ (a : Addr) (doc pm : Value) (an : Option Addr) (cdv ct : Value) (us ws mv : List Value), us.length = n → ws.length = ks.length → mv.length = ms.length →
      KwC a ((ms.map (·.1)).zip mv) (bindArgs (PySem.W.fnOf x qual params body scope .none (.ref a) doc pm an cdv ct) ⟨us, ks.zip ws⟩) (pure (ps.zip (arrU perm (us ++ ws ++ mv))))) :
    GR P w K mg base lv f ks (frm n ks.length perm dd sp) := by
  obtain ⟨oc, od, dV, kV, doc, pm, an, cdv, ct, osl, rfl, lk, hcd, hD, hK⟩ := F.ex
  rcases hD with ⟨_, rfl⟩ | ⟨e, _⟩
  · rcases hK with e | ⟨a, rfl, hq⟩
    · exact absurd e hk
    · obtain ⟨mv, hl, rk, hks⟩ := kwd_vals (ms := ms) fun q hm => hq q (hms q hm)
      refine gr_of G rk hdd fun s us ws kin l1 l2 => ?_
      intro M A Q E hq'
      exact KwC.at_ kin hks (h a doc pm an cdv ct us ws mv l1 l2 hl) (wpAny_pure hq')
  · exact absurd rfl e
/-- a star parameter: what is left over becomes a new tuple -/
theorem gr_star {n : Nat} {ks : List Str} {perm rst : List Nat} {ms : List (Str × V)} {dd : List D} (F : FunD K x qual params body scope [] kws f fd) (G : GFn P w K mg base lv f fd ps (spOf K sp)) (hms : ∀ q ∈ ms, q ∈ kws) (hdd : ∀ W H, Reps K W H (ms.map (·.2)) dd) (hlen : ps.length = perm.length + 1) (hz : rst.length ≤ sizeLine)
    (h : ∀ (a : Addr) (kV : Value), (kws ≠ [] → kV = .ref a) → ∀ (doc pm : Value) (an : Option Addr) (cdv ct : Value) (us ws mv : List Value), us.length = n → ws.length = ks.length → mv.length = ms.length →
      KwC a ((ms.map (·.1)).zip mv) (bindArgs (PySem.W.fnOf x qual params body scope .none kV doc pm an cdv ct) ⟨us, ks.zip ws⟩) (newTuple (arrU rst (us ++ ws ++ mv)) >>= fun t => pure (ps.zip (arrU perm (us ++ ws ++ mv) ++ [t])))) :
    GR P w K mg base lv f ks fun as bs s Q Ex => as.length = n ∧ bs.length = ks.length ∧ sp (arr perm (as ++ bs ++ dd) ++ [.tup (arr rst (as ++ bs ++ dd))]) s Q Ex := by
  obtain ⟨oc, od, dV, kV, doc, pm, an, cdv, ct, osl, rfl, lk, hcd, hD, hK⟩ := F.ex
  rcases hD with ⟨_, rfl⟩ | ⟨e, _⟩
  · obtain ⟨a, mv, ha, hl, rk, hks⟩ : ∃ (a : Addr) (mv : List Value), (kws ≠ [] → kV = .ref a) ∧ mv.length = ms.length ∧ Vals (ms.map (·.2)) mv ∧ ∀ q ∈ (ms.map (·.1)).zip mv, PySem.W.nsIn K a q.1 = some (some q.2) := by
      rcases hK with e | ⟨a, e, hq⟩
      · have : ms = [] := by
          cases ms with
          | nil => rfl
          | cons m ms => have := hms m (by simp); rw [e] at this; cases this
        subst this
        exact ⟨0, [], fun z => absurd e z, rfl, .nil, fun q hq => by cases hq⟩
      · obtain ⟨mv, hl, rk, hks⟩ := kwd_vals (ms := ms) fun q hm => hq q (hms q hm)
        exact ⟨a, mv, fun _ => e, hl, rk, hks⟩
    intro A out s H us ws vs zs Q E W sd as bs Qd Ed hr hg e0 r1 r2 R ra rb hs bk
    obtain ⟨l1, l2, hs⟩ := hs
    have hn : H s.heap.objs.size = Option.none := e0.hok.fresh (Nat.le_refl _)
    have rall := (r1.append r2).append rk
    have dall := (ra.app rb).app (hdd W H)
    have vr := Vals.arr rall rst
    have dr := dall.arr rst
    have len : (arrU rst (us ++ ws ++ mv)).length = rst.length := by unfold arrU; rw [List.length_map]
    have len2 : (arrV rst (vs ++ zs ++ ms.map (·.2))).length = rst.length := by unfold arrV; rw [List.length_map]
    refine G.run A out s H ⟨us, ks.zip ws⟩ Q E (fun vs' H' => H' = upd H s.heap.objs.size (.tup (arrV rst (vs ++ zs ++ ms.map (·.2)))) ∧ vs' = arrV perm (vs ++ zs ++ ms.map (·.2)) ++ [V.ref s.heap.objs.size]) hr hg e0 (fun A' Ex Q' hq => ?_) fun vs' H' ⟨e1, e2⟩ => ?_
    · refine KwC.at_ (kIn_of e0) hks (h a kV ha doc pm an cdv ct us ws mv (by rw [← r1.length, ra.length]; exact l1) (by rw [← r2.length, rb.length]; exact l2) hl) ?_
      refine wpAny_bind (wpAny_newTuple (wpAny_pure ?_) (by rw [len]; exact hz))
      have new : ObjOk P w (upd H s.heap.objs.size (.tup (arrV rst (vs ++ zs ++ ms.map (·.2))))) (s.heap.push ({ cls := .type "tuple", data := .seq (arrU rst (us ++ ws ++ mv)).toArray } : Obj)) s.heap.objs.size (.tup (arrV rst (vs ++ zs ++ ms.map (·.2)))) := ⟨by rw [len2]; exact hz, _, vr, ⟨_, Heap.get?_push_size _ rfl, rfl, _, rfl⟩⟩
      have un : Un (frs out) [] H (upd H s.heap.objs.size (.tup (arrV rst (vs ++ zs ++ ms.map (·.2))))) s.heap (s.heap.push ({ cls := .type "tuple", data := .seq (arrU rst (us ++ ws ++ mv)).toArray } : Obj)) := StX.un_laid hn
      have cup := StX.cxUp (P := P) (w := w) out s H { s with heap := s.heap.push ({ cls := .type "tuple", data := .seq (arrU rst (us ++ ws ++ mv)).toArray } : Obj) } (upd H s.heap.objs.size (.tup (arrV rst (vs ++ zs ++ ms.map (·.2))))) E
      exact hq _ _ (arrV perm (vs ++ zs ++ ms.map (·.2)) ++ [V.ref s.heap.objs.size]) _ (StX.env0_laid e0 new) un rfl (fun e s' z => cup e s' un (fun b o q => Heap.get?_push_of_some _ q) rfl z) ((Vals.arr rall perm).append (.cons rfl .nil)) (by rw [List.length_append, hlen]; unfold arrV; rw [List.length_map]; rfl) ⟨rfl, rfl⟩
    · subst e1 e2
      have x := Ext.add (u := .tup (arrV rst (vs ++ zs ++ ms.map (·.2)))) R hn
      refine ⟨_, sd, _, Qd, Ed, Rel.add R hn, ((dall.arr perm).mono x).app (.cons (new_tup R hn dr) .nil), hs, ⟨fun d s' W' v H' q x' R' r' => bk.1 d s' W' v H' q (x.trans x') R' r', fun c fl s' W' dd H' q x' R' r' => bk.2 c fl s' W' dd H' q (x.trans x') R' r'⟩⟩
  · exact absurd rfl e
end
end Y


/-! Y7: statements, loops, comprehensions. -/
namespace Y
open PySem PySem.Spec PyProof.Rows L2

/-! ### statements -/
structure DEnds where
  nx : Nv → S → Prop
  rt : D → S → Prop
  bk : Nv → S → Prop := fun _ _ => False
  ct : Nv → S → Prop := fun _ _ => False
abbrev DTS := DEnds → Nv → S → Prop
structure EndsOk (K : PySem.W.Frag) (L : Lk) (Dd : DEnds) (De : Ends) : Prop where
  nx : ∀ W e s σ H, Stt K L W e s σ H → Dd.nx e s → De.nx σ H
  rt : ∀ W d s v H, L.p W H → Rel K W s H → Rep K W H v d → Dd.rt d s → De.rt v H
  bk : ∀ W e s σ H, Stt K L W e s σ H → Dd.bk e s → De.bk σ H
  ct : ∀ W e s σ H, Stt K L W e s σ H → Dd.ct e s → De.ct σ H
def Lk.le (L L' : Lk) : Prop := ∀ W H, L.p W H → L'.p W H
theorem Lk.le.refl (L : Lk) : L.le L := fun _ _ h => h
theorem Stt.le {K : PySem.W.Frag} {L L' : Lk} {W : Wd} {e : Nv} {s : S} {σ : St} {H : Hp} (h : Stt K L W e s σ H) (q : L.le L') : Stt K L' W e s σ H := ⟨q _ _ h.ext, h.env, h.rel⟩
def liftS (K : PySem.W.Frag) (L0 : Lk) (t : DTS) : TS := fun De σ H => ∃ L W e s Dd, L.le L0 ∧ Stt K L W e s σ H ∧ t Dd e s ∧ EndsOk K L Dd De
abbrev DTG := D → Nv → S → (Nv → S → Prop) → Prop
/-- is: the slots that are stored -/
def liftG (K : PySem.W.Frag) (L0 : Lk) (is : List Nat) (g : DTG) : TG := fun v σ H Q => ∃ L W e s d Qd, L.le L0 ∧ Stt K L W e s σ H ∧ Rep K W H v d ∧ g d e s Qd ∧
  ∀ e' s' W' σ' H', Qd e' s' → Stt K L W' e' s' σ' H' → Ext W H W' H' → (∀ vs, (∀ i ∈ is, i ∈ vs) → wipe σ' vs = wipe σ vs) → Q σ' H'
theorem _root_.L2.PG.wk {X : Cx} {e : Expr} {t t' : TG} (h : PG X e t) (w : ∀ v σ H Q, t' v σ H Q → t v σ H Q) : PG X e t' := ⟨fun pins s σ H v u Q I r q => h.run pins s σ H v u Q I r (w v σ H Q q)⟩
theorem Stt.set {K : PySem.W.Frag} {L : Lk} {W : Wd} {e : Nv} {s : S} {σ : St} {H : Hp} {v : V} {d : D} (st : Stt K L W e s σ H) (i : Nat) (r : Rep K W H v d) : Stt K L W (e.set i (some d)) s (σ.set i (some v)) H := ⟨st.ext, st.env.set r, st.rel⟩
theorem wipe_set {i : Nat} {x : Option V} : ∀ {vs : List Nat} {σ : St}, i ∈ vs → wipe (σ.set i x) vs = wipe σ vs
  | [], _, h => absurd h (by simp)
  | v :: vs, σ, h => by
    unfold wipe
    by_cases hm : i ∈ vs
    · rw [wipe_set hm]
    · have e : i = v := by
        rcases List.mem_cons.mp h with h | h
        · exact h
        · exact absurd h hm
      subst e
      have go : ∀ (us : List Nat), i ∉ us → wipe (σ.set i x) us = (wipe σ us).set i x := by
        intro us
        induction us with
        | nil => intro _; rfl
        | cons u us ih =>
          intro hn
          simp only [List.mem_cons, not_or] at hn
          unfold wipe
          rw [ih hn.2, List.set_comm _ _ hn.1]
      rw [go vs hm, List.set_set]
def wipeD (e : Nv) : List Nat → Nv
  | [] => e
  | v :: vs => (wipeD e vs).set v none
theorem RelE.clr {K : PySem.W.Frag} {W : Wd} {H : Hp} {e : Nv} {σ : St} (h : RelE K W H e σ) (i : Nat) : RelE K W H (e.set i none) (σ.set i none) := by
  refine ⟨by simp [h.len], fun j c q => ?_⟩
  by_cases hj : i = j
  · subst hj
    by_cases hl : i < e.length
    · rw [List.getElem?_set_self hl] at q; cases q
    · rw [List.getElem?_eq_none (by simpa using hl)] at q; cases q
  · rw [List.getElem?_set_ne hj] at q
    obtain ⟨w, a, b⟩ := h.at_ j c q
    exact ⟨w, by rw [List.getElem?_set_ne hj]; exact a, b⟩
theorem RelE.wipe {K : PySem.W.Frag} {W : Wd} {H : Hp} {e : Nv} {σ : St} (h : RelE K W H e σ) : ∀ vs, RelE K W H (wipeD e vs) (L2.wipe σ vs)
  | [] => h
  | v :: vs => (h.wipe vs).clr v
theorem wipe_wipe : ∀ (vs us : List Nat) (σ : St), (∀ i ∈ us, i ∈ vs) → wipe (wipe σ us) vs = wipe σ vs
  | vs, [], σ, _ => rfl
  | vs, u :: us, σ, h => by
    show wipe ((wipe σ us).set u none) vs = _
    rw [wipe_set (h u (by simp)), wipe_wipe vs us σ fun i hi => h i (by simp [hi])]
section
variable {X : Cx} {L : Lk} {a b c : Expr} {te ta tb : DTE} {u v : DTT} {t t2 t3 : DTS} {pos p apos : Pos} {es : List Expr} {x : Str}
def dSeq (t u : DTS) : DTS := fun D e s => t { D with nx := fun e s => u D e s } e s
def dNext : DTS := fun D e s => D.nx e s
theorem ds_cons {st : Stmt} {rest : List Stmt} (h1 : PS X st (liftS X.K L t)) (h2 : PSs X rest (liftS X.K L t2)) : PSs X (st :: rest) (liftS X.K L (dSeq t t2)) := (pss_cons h1 h2).wk fun De σ H h => by
  obtain ⟨L1, W, e, s, Dd, hl, st, q, ok⟩ := h
  exact ⟨L1, W, e, s, _, hl, st, q, ⟨fun W' e' s' σ' H' st' q' => ⟨L1, W', e', s', Dd, hl, st', q', ok⟩, ok.rt, ok.bk, ok.ct⟩⟩
theorem ds_nil : PSs X [] (liftS X.K L dNext) := pss_nil.wk fun De σ H h => by
  obtain ⟨L1, W, e, s, Dd, hl, st, q, ok⟩ := h
  exact ok.nx _ _ _ _ _ st q
theorem ds_pass : PS X (.Pass pos) (liftS X.K L dNext) := ps_pass.wk fun De σ H h => by
  obtain ⟨L1, W, e, s, Dd, hl, st, q, ok⟩ := h
  exact ok.nx _ _ _ _ _ st q
theorem ds_break : PS X (.Break pos) (liftS X.K L fun D e s => D.bk e s) := ps_break.wk fun De σ H h => by
  obtain ⟨L1, W, e, s, Dd, hl, st, q, ok⟩ := h
  exact ok.bk _ _ _ _ _ st q
theorem ds_continue : PS X (.Continue pos) (liftS X.K L fun D e s => D.ct e s) := ps_continue.wk fun De σ H h => by
  obtain ⟨L1, W, e, s, Dd, hl, st, q, ok⟩ := h
  exact ok.ct _ _ _ _ _ st q
/-- an expression from a statement's state -/
theorem lift_of {σ : St} {H : Hp} {Q : VK} {L1 : Lk} {W : Wd} {e : Nv} {s : S} {Qd : D → S → Prop} (hl : L1.le L) (st : Stt X.K L1 W e s σ H) (q : te e s Qd)
    (k : ∀ d s' W' v H', Stt X.K L1 W' e s' σ H' → Ext W H W' H' → Rep X.K W' H' v d → Qd d s' → Q v H') : lift X.K L te σ H Q :=
  ⟨W, e, s, Qd, st.le hl, q, fun d s' W' v H' q' x R r => k d s' W' v H' (st.after x R) x r q'⟩
theorem liftT_of {σ : St} {H : Hp} {Q : Bool → Hp → Prop} {L1 : Lk} {W : Wd} {e : Nv} {s : S} {Qd : Bool → S → Prop} (hl : L1.le L) (st : Stt X.K L1 W e s σ H) (q : u e s Qd)
    (k : ∀ d s' W' H', Stt X.K L1 W' e s' σ H' → Ext W H W' H' → Qd d s' → Q d H') : liftT X.K L u σ H Q :=
  ⟨W, e, s, Qd, st.le hl, q, fun d s' W' H' q' x R => k d s' W' H' (st.after x R) x q'⟩
def dExpr (te : DTE) : DTS := fun D e s => te e s fun _ s1 => D.nx e s1
theorem ds_expr (he : PE X a (lift X.K L te)) (hs : swapsWith a none pos.line X.env = pure false) : PS X (.Expr a pos) (liftS X.K L (dExpr te)) := (ps_expr he hs).wk fun De σ H h => by
  obtain ⟨L1, W, e, s, Dd, hl, st, q, ok⟩ := h
  exact lift_of hl st q fun d s' W' v H' st' _ _ q' => ok.nx _ _ _ _ _ st' q'
def dRet (te : DTE) : DTS := fun D e s => te e s D.rt
theorem ds_ret (he : PE X a (lift X.K L te)) : PS X (.Return (some a) pos) (liftS X.K L (dRet te)) := (ps_ret he).wk fun De σ H h => by
  obtain ⟨L1, W, e, s, Dd, hl, st, q, ok⟩ := h
  exact lift_of hl st q fun d s' W' v H' st' _ r q' => ok.rt _ _ _ _ _ st'.ext st'.rel r q'
theorem ds_retN : PS X (.Return none pos) (liftS X.K L fun D _ s => D.rt .non s) := ps_retN.wk fun De σ H h => by
  obtain ⟨L1, W, e, s, Dd, hl, st, q, ok⟩ := h
  exact ok.rt _ _ _ _ _ st.ext st.rel .non q
def dIfS (u : DTT) (t t2 : DTS) : DTS := fun D e s => u e s fun b s1 => if b = true then t D e s1 else t2 D e s1
theorem ds_if {p q : List Stmt} (hc : PT X c (liftT X.K L u)) (ha : PSs X p (liftS X.K L t)) (hb : PSs X q (liftS X.K L t2)) : PS X (.If c p q pos) (liftS X.K L (dIfS u t t2)) := (ps_if hc ha hb).wk fun De σ H h => by
  obtain ⟨L1, W, e, s, Dd, hl, st, q, ok⟩ := h
  refine liftT_of hl st q fun d s' W' H' st' _ q' => ?_
  cases d with
  | true =>
    rw [if_pos rfl] at q' ⊢
    exact ⟨L1, W', e, s', Dd, hl, st', q', ok⟩
  | false =>
    rw [if_neg Bool.false_ne_true] at q' ⊢
    exact ⟨L1, W', e, s', Dd, hl, st', q', ok⟩
/-! ### targets -/
def gN (i : Nat) : DTG := fun d e s Q => Q (e.set i (some d)) s
theorem dg_name {i : Nat} {x : Str} (hN : X.N.Nodup) (hi : X.N[i]? = some x) (hx : Loc X.env.scope x) (hf : X.fn x = true ∨ X.env.scope.names.lookup x = some .local) : PG X (.Name x pos) (liftG X.K L [i] (gN i)) := (pg_name hN hi hx hf).wk fun v σ H Q h => by
  obtain ⟨L1, W, e, s, d, Qd, hl, st, r, q, k⟩ := h
  exact k _ _ _ _ _ q (st.set i r) (Ext.refl W H) fun vs hv => wipe_set (hv i (by simp))
def dAsg (te : DTE) (g : DTG) : DTS := fun D e s => te e s fun d s1 => g d e s1 D.nx
theorem lift_asg {is : List Nat} {g : DTG} {De : Ends} {σ : St} {H : Hp} (h : liftS X.K L (dAsg te g) De σ H) : tAsg (lift X.K L te) (liftG X.K L is g) De σ H := by
  obtain ⟨L1, W, e, s, Dd, hl, st, q, ok⟩ := h
  refine lift_of hl st q fun d s' W' v H' st' _ r q' => ?_
  exact ⟨L1, W', e, s', d, _, hl, st', r, q', fun e2 s2 W2 σ2 H2 q2 st2 _ _ => ok.nx _ _ _ _ _ st2 q2⟩
theorem gname_of {i : Nat} {v : V} {σ : St} {H : Hp} {Q : St → Hp → Prop} (h : liftG X.K L [i] (gN i) v σ H Q) : gName i v σ H Q := by
  obtain ⟨L1, W, e, s, d, Qd, hl, st, r, q, k⟩ := h
  exact k _ _ _ _ _ q (st.set i r) (Ext.refl W H) fun vs hv => wipe_set (hv i (by simp))
theorem ds_set {i : Nat} {p' : Pos} (hN : X.N.Nodup) (hi : X.N[i]? = some x) (hx : Loc X.env.scope x) (he : PE X a (lift X.K L te)) (hs : swapsWith a (some (.Name x p')) pos.line X.env = pure false) (hf : X.fn x = true ∨ X.env.scope.names.lookup x = some .local) :
    PS X (.Assign [.Name x p'] a pos) (liftS X.K L (dAsg te (gN i))) := (ps_set hN hi hx he hs hf).wk fun De σ H h => by
  have h2 : tAsg (lift X.K L te) (liftG X.K L [i] (gN i)) De σ H := lift_asg h
  obtain ⟨W, e, s, Qd, st, q, k⟩ := h2
  exact ⟨W, e, s, Qd, st, q, fun d s' W' v H' q' x' R r => gname_of (k d s' W' v H' q' x' R r)⟩
theorem ds_asg {tg : Expr} {is : List Nat} {g : DTG} (he : PE X a (lift X.K L te)) (hg : PG X tg (liftG X.K L is g)) (hs : swapsWithSole [tg] a pos.line X.env = pure false) (hw : swappedStores [tg] a X.env = pure none)
    (h1 : (assignEach [tg] X.env).map (·.2) = [assign tg X.env]) : PS X (.Assign [tg] a pos) (liftS X.K L (dAsg te g)) := (ps_asg he hg hs hw h1).wk fun De σ H h => lift_asg h
/-- several targets, a tuple unpacked -/
def liftGs (K : PySem.W.Frag) (L0 : Lk) (is : List Nat) (g : List D → Nv → S → (Nv → S → Prop) → Prop) : TGs := fun vs σ H Q => ∃ L W e s ds Qd, L.le L0 ∧ Stt K L W e s σ H ∧ Reps K W H vs ds ∧ g ds e s Qd ∧
  ∀ e' s' W' σ' H', Qd e' s' → Stt K L W' e' s' σ' H' → Ext W H W' H' → (∀ vs, (∀ i ∈ is, i ∈ vs) → wipe σ' vs = wipe σ vs) → Q σ' H'
theorem _root_.L2.PGs.wk {X : Cx} {e : List Expr} {t t' : TGs} (h : PGs X e t) (w : ∀ v σ H Q, t' v σ H Q → t v σ H Q) : PGs X e t' := ⟨fun pins s σ H v u Q I r q => h.run pins s σ H v u Q I r (w v σ H Q q)⟩
def gsNil : List D → Nv → S → (Nv → S → Prop) → Prop := fun ds e s Q => ds = [] ∧ Q e s
def gsCons (g : DTG) (gs : List D → Nv → S → (Nv → S → Prop) → Prop) : List D → Nv → S → (Nv → S → Prop) → Prop := fun ds e s Q => match ds with
  | [] => False
  | d :: r => g d e s fun e1 s1 => gs r e1 s1 Q
theorem dgs_nil : PGs X [] (liftGs X.K L [] gsNil) := pgs_nil.wk fun v σ H Q h => by
  obtain ⟨L1, W, e, s, ds, Qd, hl, st, r, ⟨q0, q⟩, k⟩ := h
  subst q0
  cases r
  exact ⟨rfl, k _ _ _ _ _ q st (Ext.refl W H) fun _ _ => rfl⟩
theorem dgs_cons {is js : List Nat} {g : DTG} {gs : List D → Nv → S → (Nv → S → Prop) → Prop} (h1 : PG X a (liftG X.K L is g)) (h2 : PGs X es (liftGs X.K L js gs)) (hs : (assignEach (a :: es) X.env).map (·.2) = assign a X.env :: (assignEach es X.env).map (·.2)) :
    PGs X (a :: es) (liftGs X.K L (is ++ js) (gsCons g gs)) := (pgs_cons h1 h2 hs).wk fun v σ H Q h => by
  obtain ⟨L1, W, e, s, ds, Qd, hl, st, r, q, k⟩ := h
  cases r with
  | nil => exact False.elim q
  | cons r rr =>
    refine ⟨_, _, rfl, L1, W, e, s, _, _, hl, st, r, q, fun e1 s1 W1 σ1 H1 q1 st1 x1 w1 => ?_⟩
    refine ⟨L1, W1, e1, s1, _, _, hl, st1, rr.mono x1, q1, fun e2 s2 W2 σ2 H2 q2 st2 x2 w2 => ?_⟩
    refine k _ _ _ _ _ q2 st2 (x1.trans x2) fun us hu => ?_
    rw [w2 us fun i hi => hu i (by simp [hi]), w1 us fun i hi => hu i (by simp [hi])]
def gTupD (n : Nat) (gs : List D → Nv → S → (Nv → S → Prop) → Prop) : DTG := fun d e s Q => match seqT d with
  | some xs => xs.length = n ∧ gs xs e s Q
  | none => False
theorem dg_tup {k n : Nat} {is : List Nat} {gs : List D → Nv → S → (Nv → S → Prop) → Prop} (hc : X.calm = true) (h : PGs X es (liftGs X.K L is gs)) (hn : (assignEach es X.env).length = n) (hst : (assignEach es X.env).findIdx? (·.1) = none) :
    PG X (.Tuple es k pos) (liftG X.K L is (gTupD n gs)) := (pg_tup hc h hn hst).wk fun v σ H Q h => by
  obtain ⟨L1, W, e, s, d, Qd, hl, st, r, q, k⟩ := h
  unfold gTupD at q
  split at q
  · rename_i xs e1
    obtain ⟨p, vs, rfl, h1, h2⟩ := seqT_ok r e1
    exact ⟨p, vs, rfl, h1, by rw [h2.length]; exact q.1, L1, W, e, s, xs, Qd, hl, st, h2, q.2, k⟩
  · exact q.elim
/-- o[i] = .. -/
abbrev DSet := D → D → D → S → (S → Prop) → Prop
def liftSet (K : PySem.W.Frag) (r : DSet) : TSet := fun o i v H Q => ∃ W s dO dI dV Qd, Rel K W s H ∧ Rep K W H o dO ∧ Rep K W H i dI ∧ Rep K W H v dV ∧ r dO dI dV s Qd ∧ ∀ s' W' H', Qd s' → Ext W H W' H' → Rel K W' s' H' → Q H'
def dSetL : DSet := fun o i v s Q => match o with
  | .cell n => (match s n with
    | some (.lst xs) => (match i with
      | .int k => (match ixN xs.length k with
        | some j => Q (s.set n (.lst (xs.set j v)))
        | none => False)
      | _ => False)
    | some (.dic kvs) => (match keyK i with
      | some κ => kvs.length < sizeLine ∧ Q (s.set n (.dic (putD kvs κ v)))
      | none => False)
    | _ => False)
  | _ => False
theorem _root_.L2.PSet.or {X : Cx} {r r' : TSet} (h : PSet X r) (h' : PSet X r') : PSet X (fun o i v H Q => r o i v H Q ∨ r' o i v H Q) := fun pins s σ H o i v ov iv u Q I ro ri rv q =>
  q.elim (h pins s σ H o i v ov iv u Q I ro ri rv) (h' pins s σ H o i v ov iv u Q I ro ri rv)
theorem PSet.wk {r r' : TSet} (h : PSet X r) (w : ∀ o i v H Q, r' o i v H Q → r o i v H Q) : PSet X r' := fun pins s σ H o i v ov iv u Q I ro ri rv q => h pins s σ H o i v ov iv u Q I ro ri rv (w o i v H Q q)
theorem pset_list (hu : X.A.units + 1 < cLine) : PSet X (liftSet X.K dSetL) := PSet.wk (L2.PSet.or set_list (set_dict hu)) fun o i v H Q h => by
  obtain ⟨W, s, dO, dI, dV, Qd, R, ro, ri, rv, q, k⟩ := h
  unfold dSetL at q
  split at q
  · split at q
    · rename_i n _ xs e
      split at q
      · split at q
        · rename_i j e2
          cases ri
          obtain ⟨a, us, rfl, h1, h2, h3⟩ := ro.cellL R e
          have x := Ext.write (u := .lst (us.set j v)) R e h1
          refine .inl ⟨a, us, _, j, rfl, rfl, h2, by rw [h3.length]; exact e2, ?_⟩
          exact k _ _ _ q x (Rel.write R e h1 ⟨_, upd_same, (h3.set rv).mono x⟩)
        · exact q.elim
      · exact q.elim
    · rename_i n _ kvs e
      split at q
      · rename_i κ ek
        obtain ⟨a, us, rfl, h1, h2, h3⟩ := cellD_ok R ro e
        cases ri.key ek
        have x := Ext.write (u := .dK (putK us κ v)) R e h1
        refine .inr ⟨a, _, rfl, .inl ⟨us, κ, h2, rfl, by rw [h3.length]; exact q.1, rfl⟩, ?_⟩
        exact k _ _ _ q.2 x (Rel.write R e h1 ⟨_, upd_same, (h3.put κ rv).mono x⟩)
      · exact q.elim
    · exact q.elim
  · exact q.elim
def gSubD (to ti : DTE) (r : DSet) : DTG := fun d e s Q => to e s fun o s1 => ti e s1 fun i s2 => r o i d s2 fun s3 => Q e s3
theorem dg_sub {to ti : DTE} {r : DSet} (ho : PE X a (lift X.K L to)) (hi : PE X b (lift X.K L ti)) (hs : PSet X (liftSet X.K r))
    (ha : ∀ v, assign (.Subscript a b pos) X.env v = (do
      let ov ← holding [v] (eval a X.env)
      let iv ← holding [v, ov] (eval b X.env)
      standAt pos
      holding [v, ov, iv] (setItem ov iv v)
      release [v, ov, iv] [])) : PG X (.Subscript a b pos) (liftG X.K L [] (gSubD to ti r)) := (pg_sub ho hi hs ha).wk fun v σ H Q h => by
  obtain ⟨L1, W, e, s, d, Qd, hl, st, r, q, k⟩ := h
  refine lift_of hl st q fun o s1 W1 o' H1 st1 x1 r1 q1 => ?_
  refine lift_of hl st1 q1 fun i s2 W2 i' H2 st2 x2 r2 q2 => ?_
  exact ⟨W2, s2, o, i, d, _, st2.rel, r1.mono x2, r2, r.mono (x1.trans x2), q2, fun s3 W3 H3 q3 x3 R3 => k _ _ _ _ _ q3 (st2.after x3 R3) (x1.trans (x2.trans x3)) fun _ _ => rfl⟩
/-- a, b = x, y of plain local names -/
def dPar (i j : Nat) (r : DTA) : DTS := fun D e s => r e s fun ds s1 => match ds with
  | [x, y] => D.nx ((e.set i (some x)).set j (some y)) s1
  | _ => False
theorem ds_par {i j : Nat} {x y : Str} {a b : Expr} {r : DTA} {px py pt : Pos} {kt k2 : Nat} {pt2 : Pos} (hc : X.calm = true) (hN : X.N.Nodup) (hi : X.N[i]? = some x) (hj : X.N[j]? = some y) (hij : i ≠ j)
    (hx : X.env.scope.names.lookup x = some .local) (hy : X.env.scope.names.lookup y = some .local) (ha : PA X [a, b] (liftA X.K L r)) (h1 : PS X (.Assign [.Tuple [.Name x px, .Name y py] kt pt] (.Tuple [a, b] k2 pt2) pos) (tPar i j (liftA X.K L r))) :
    PS X (.Assign [.Tuple [.Name x px, .Name y py] kt pt] (.Tuple [a, b] k2 pt2) pos) (liftS X.K L (dPar i j r)) := h1.wk fun De σ H h => by
  obtain ⟨L1, W, e, s, Dd, hl, st, q, ok⟩ := h
  refine ⟨W, e, s, _, st.le hl, q, fun ds s' W' vs H' q' x' R rs => ?_⟩
  have st' := st.after x' R
  cases rs with
  | nil => exact False.elim q'
  | cons r1 rs => cases rs with
    | nil => exact False.elim q'
    | cons r2 rs => cases rs with
      | nil => exact ⟨_, _, rfl, ok.nx _ _ _ _ _ ((st'.set i r1).set j r2) q'⟩
      | cons _ _ => exact False.elim q'
/-! ### attributes stored -/
/-- o.f = e -/
def dFSet (ok : Str → Str → Bool) (f : Str) (to tv : DTE) : DTS := fun D e s => tv e s fun y s1 => to e s1 fun d s2 => match d with
  | .cell n => (match s2 n with
    | some (.ins c fs) => ok c f = true ∧ fs.length < 900 ∧ D.nx e (s2.set n (.ins c (putFD f y fs)))
    | _ => False)
  | _ => False
theorem ins_write {K : PySem.W.Frag} {W : Wd} {H : Hp} {s : S} {n : Nat} {a dx : Addr} {c f : Str} {fs : List (Str × D)} {fv : List (Str × V)} {v : V} {d : D} (R : Rel K W s H) (hn : s n = some (.ins c fs)) (ha : W.r n = some a) (r : RepF K W H fv fs) (ci : CI K c) (na : NA K c fs) (nf : NoAttr K (He.ga K c) f) (q : Rep K W H v d) :
    Ext W H W (upd H a (.ins (He.ga K c) dx (putF f v fv))) ∧ Rel K W (s.set n (.ins c (putFD f d fs))) (upd H a (.ins (He.ga K c) dx (putF f v fv))) := by
  have x : Ext W H W (upd H a (.ins (He.ga K c) dx (putF f v fv))) := Ext.write R hn ha
  refine ⟨x, R.write hn ha ⟨dx, _, upd_same, RepF.mono x (RepF.put q r), ci, fun p hp => ?_⟩⟩
  rcases putFD_keys hp with e | ⟨p', h1, h2⟩
  · rw [e]; exact nf
  · rw [← h2]; exact na p' h1
theorem cellI_ok {K : PySem.W.Frag} {W : Wd} {H : Hp} {s : S} {v : V} {n : Nat} {c : Str} {fs : List (Str × D)} (R : Rel K W s H) (rp : Rep K W H v (.cell n)) (e : s n = some (.ins c fs)) :
    ∃ a dx fv, v = .ref a ∧ W.r n = some a ∧ H a = some (.ins (He.ga K c) dx fv) ∧ RepF K W H fv fs ∧ CI K c ∧ NA K c fs := by
  cases rp with
  | cell h =>
    obtain ⟨a, h1, _, dx, fv, h2, h3, h4, h5⟩ := R.cells n _ e
    rw [h] at h1; cases h1
    exact ⟨_, dx, fv, rfl, h, h2, h3, h4, h5⟩
theorem ds_fset {ok : Str → Str → Bool} {o : Expr} {f : Str} {to : DTE} {p2 : Pos} (hok : ∀ c f, ok c f = true → NoAttr X.K (He.ga X.K c) f) (ho : PE X o (lift X.K L to)) (hv : PE X a (lift X.K L te)) (hs : swapsWith a (some (.Attribute o f p2)) pos.line X.env = pure false) :
    PS X (.Assign [.Attribute o f p2] a pos) (liftS X.K L (dFSet ok f to te)) := (ps_fld ho hv hs).wk fun De σ H h => by
  obtain ⟨L1, W, e, s, Dd, hl, st, t, ok1⟩ := h
  refine lift_of hl st t fun y s1 W1 v H1 st1 x p q => ?_
  refine lift_of hl st1 q fun d s2 W2 u H2 st2 x2 p2 q2 => ?_
  have R2 := st2.rel
  split at q2
  · rename_i n
    split at q2
    · rename_i c fs e1
      obtain ⟨k1, k2, k3⟩ := q2
      obtain ⟨b, dx, fv, rfl, h1, h2, h3, h4, h5⟩ := cellI_ok R2 p2 e1
      obtain ⟨g1, g2⟩ := ins_write (dx := dx) R2 e1 h1 h3 h4 h5 (hok _ _ k1) (p.mono x2)
      exact ⟨b, _, dx, fv, rfl, h2, h4.cl, hok _ _ k1, by have := h3.length; omega, ok1.nx _ _ _ _ _ (st2.after g1 g2) k3⟩
    · exact q2.elim
  · exact q2.elim
/-- o.f += e, whole numbers -/
def dFAdd (ok : Str → Str → Bool) (f : Str) (to tv : DTE) : DTS := fun D e s => to e s fun d s1 => match d with
  | .cell n => (match s1 n with
    | some (.ins c fs) => (match fs.lookup f with
      | some (.int i) => tv e s1 fun y s2 => (match y, s2 n with
        | .int j, some (.ins c' fs') => c' = c ∧ ok c f = true ∧ fs'.length < 900 ∧ D.nx e (s2.set n (.ins c (putFD f (.int (i + j)) fs')))
        | _, _ => False)
      | _ => False)
    | _ => False)
  | _ => False
theorem ds_fadd {ok : Str → Str → Bool} {o : Expr} {f : Str} {to : DTE} {p2 : Pos} (hok : ∀ c f, ok c f = true → NoAttr X.K (He.ga X.K c) f) (ho : PE X o (lift X.K L to)) (hv : PE X a (lift X.K L te)) :
    PS X (.AugAssign (.Attribute o f p2) .Add a pos) (liftS X.K L (dFAdd ok f to te)) := (ps_fldaug ho hv in_add).wk fun De σ H h => by
  obtain ⟨L1, W, e, s, Dd, hl, st, t, ok1⟩ := h
  refine lift_of hl st t fun d s1 W1 v H1 st1 x p q => ?_
  have R := st1.rel
  split at q
  · rename_i n
    split at q
    · rename_i c fs e1
      split at q
      · rename_i i e2
        obtain ⟨b, dx, fv, rfl, h1, h2, h3, h4, h5⟩ := cellI_ok R p e1
        obtain ⟨w, hw, rw'⟩ := (RepF.look (f := f) h3).1 _ e2
        cases rw'
        have hna : NoAttr X.K (He.ga X.K c) f := by
          obtain ⟨l1, l2, h6, _⟩ := List.lookup_eq_some_iff.mp e2
          exact h5 (f, .int i) (by rw [h6]; simp)
        refine ⟨b, _, dx, fv, _, rfl, h2, h4.cl, hna, hw, ?_⟩
        refine lift_of hl st1 q fun y s2 W2 u H2 st2 x2 p2 q2 => ?_
        have R2 := st2.rel
        split at q2
        · rename_i j c' fs' e3
          obtain ⟨rfl, k1, k2, k3⟩ := q2
          cases p2
          obtain ⟨b', dx', fv', e4, g1, g2, g3, g4, g5⟩ := cellI_ok R2 (p.mono x2) e3
          cases e4
          obtain ⟨m1, m2⟩ := ins_write (dx := dx') (v := .int (i + j)) R2 e3 g1 g3 g4 g5 hna (.int _)
          exact ⟨i, j, rfl, rfl, dx', fv', g2, by have := g3.length; omega, ok1.nx _ _ _ _ _ (st2.after m1 m2) k3⟩
        · exact q2.elim
      · exact q.elim
    · exact q.elim
  · exact q.elim
/-- three names at once -/
def dPar3 (i j l : Nat) (r : DTA) : DTS := fun D e s => r e s fun ds s1 => match ds with
  | [a, b, c] => D.nx (((e.set i (some a)).set j (some b)).set l (some c)) s1
  | _ => False
theorem ds_par3 {i j l : Nat} {st : Stmt} {r : DTA} (h1 : PS X st (tPar3 i j l (liftA X.K L r))) : PS X st (liftS X.K L (dPar3 i j l r)) := h1.wk fun De σ H h => by
  obtain ⟨L1, W, e, s, Dd, hl, st, q, ok⟩ := h
  refine ⟨W, e, s, _, st.le hl, q, fun ds s' W' vs H' q' x' R rs => ?_⟩
  have st' := st.after x' R
  unfold dPar3 at *
  split at q'
  · cases rs with
    | cons r1 rs => cases rs with
      | cons r2 rs => cases rs with
        | cons r3 rs => cases rs with
          | nil => exact ⟨_, _, _, rfl, ok.nx _ _ _ _ _ (((st'.set i r1).set j r2).set l r3) q'⟩
  · exact q'.elim
end
end Y


/-! Y8: loops and comprehensions. -/
namespace Y
open PySem PySem.Spec PyProof.Rows L2

/-- the walk J draws the items xs while ok holds of the store -/
def ItOk (K : PySem.W.Frag) (W1 : Wd) (H1 : Hp) (J : It) (ok : S → Prop) (xs : List D) : Prop := ∀ (i : Nat) (W : Wd) (s : S) (H : Hp), Sub W1 H1 W H → Rel K W s H → ok s →
  (∀ d, xs[i]? = some d → J.go i H ∧ ∀ x H', J.yld i H x H' → ∃ W', Ext W H W' H' ∧ Rel K W' s H' ∧ Rep K W' H' x d) ∧ (xs.length ≤ i → J.stop i H)
abbrev DTI := Nv → S → ((S → Prop) → List D → S → Prop) → Prop
def liftI (K : PySem.W.Frag) (L : Lk) (t : DTI) : TI := fun σ H R => ∃ W e s Rd, Stt K L W e s σ H ∧ t e s Rd ∧ ∀ ok xs s' W' H' J, Rd ok xs s' → Ext W H W' H' → Rel K W' s' H' → ItOk K W' H' J ok xs → R J H'
theorem _root_.L2.PI.wk {X : Cx} {tg e : Expr} {t t' : TI} (h : PI X tg e t) (w : ∀ σ H R, t' σ H R → t σ H R) : PI X tg e t' := ⟨fun pins s σ H R I q => h.run pins s σ H R I (w σ H R q)⟩
theorem Sub.trans {W W1 W2 : Wd} {H H1 H2 : Hp} (a : Sub W H W1 H1) (b : Sub W1 H1 W2 H2) : Sub W H W2 H2 :=
  ⟨fun x h => b.f x (a.f x h), fun n x h => b.r n x (a.r n x h), fun x h => (a.k x h).trans (b.k x (a.f x h))⟩
/-- the turns, from the left -/
def dGo (ok : S → Prop) (g : DTG) (tb el : DTS) (Dd : DEnds) : List D → Nv → S → Prop
  | [], e, s => ok s ∧ el Dd e s
  | x :: xs, e, s => ok s ∧ g x e s fun e1 s1 => tb { Dd with nx := dGo ok g tb el Dd xs, ct := dGo ok g tb el Dd xs, bk := Dd.nx } e1 s1
def dFor (it : DTI) (g : DTG) (tb el : DTS) : DTS := fun D e s => it e s fun ok xs s1 => dGo ok g tb el D xs e s1
section
variable {X : Cx} {L : Lk} {a b c : Expr} {te ta tb : DTE} {u v : DTT} {t el : DTS} {pos p apos : Pos} {es : List Expr} {x : Str} {it : DTI} {g : DTG} {is : List Nat}
/-- what lies behind a state -/
def Lk.behind (L : Lk) (W1 : Wd) (H1 : Hp) : Lk := ⟨fun W H => L.p W H ∧ Sub W1 H1 W H, fun h x => ⟨L.up h.1 x, h.2.trans x.toSub⟩⟩
theorem EndsOk.le {K : PySem.W.Frag} {L L' : Lk} {Dd : DEnds} {De : Ends} (h : EndsOk K L Dd De) (q : L'.le L) : EndsOk K L' Dd De :=
  ⟨fun W e s σ H st => h.nx W e s σ H (st.le q), fun W d s v H l => h.rt W d s v H (q _ _ l), fun W e s σ H st => h.bk W e s σ H (st.le q), fun W e s σ H st => h.ct W e s σ H (st.le q)⟩
theorem lift_for {De : Ends} {σ : St} {H : Hp} (h : liftS X.K L (dFor it g t el) De σ H) : tForE (liftI X.K L it) (liftG X.K L is g) (liftS X.K L t) (liftS X.K L el) De σ H := by
  obtain ⟨L1, W, e, s, Dd, hl, st, q, ok⟩ := h
  refine ⟨W, e, s, _, st.le hl, q, fun okk xs s1 W1 H1 J q1 x1 R1 io => ?_⟩
  have st1 := st.after x1 R1
  have hle : (L1.behind W1 H1).le L1 := fun _ _ z => z.1
  refine ⟨fun i m σ H => m = xs.length - i ∧ i ≤ xs.length ∧ ∃ W e s, Stt X.K (L1.behind W1 H1) W e s σ H ∧ dGo okk g t el Dd (xs.drop i) e s, ⟨xs.length, by simp, Nat.zero_le _, W1, e, s1, ⟨⟨st1.ext, (Ext.refl W1 H1).toSub⟩, st1.env, st1.rel⟩, q1⟩, ?_⟩
  rintro i m σ2 H2 ⟨rfl, hi, W2, e2, s2, st2, q2⟩
  have io0 := io i W2 s2 H2 st2.ext.2 st2.rel
  by_cases hlt : i < xs.length
  · rw [List.drop_eq_getElem_cons hlt] at q2
    obtain ⟨o1, q2⟩ := q2
    obtain ⟨go, yy⟩ := (io0 o1).1 xs[i] (by simp [hlt])
    refine .inr ⟨go, fun σ' H' => ∃ W' e' s', Stt X.K (L1.behind W1 H1) W' e' s' σ' H' ∧ dGo okk g t el Dd (xs.drop (i + 1)) e' s', fun σ' H' z => ⟨xs.length - (i + 1), by omega, rfl, hlt, z⟩, fun x H' y => ?_⟩
    obtain ⟨W3, x3, R3, r3⟩ := yy x H' y
    refine ⟨L1.behind W1 H1, W3, e2, s2, xs[i], _, fun _ _ z => hl _ _ z.1, st2.after x3 R3, r3, q2, fun e4 s4 W4 σ4 H4 q4 st4 x4 _ => ?_⟩
    exact ⟨L1.behind W1 H1, W4, e4, s4, _, fun _ _ z => hl _ _ z.1, st4, q4, ⟨fun W e s σ H st q => ⟨W, e, s, st, q⟩, (ok.le hle).rt, fun W e s σ H st q => (ok.le hle).nx W e s σ H st q, fun W e s σ H st q => ⟨W, e, s, st, q⟩⟩⟩
  · have e : i = xs.length := by omega
    subst e
    rw [List.drop_length] at q2
    exact .inl ⟨(io0 q2.1).2 (Nat.le_refl _), L1, W2, e2, s2, Dd, hl, st2.le hle, q2.2, ok⟩
theorem ds_for {body orelse : List Stmt} {tg iter : Expr} (hp : PassesOwn (model X.prog X.w) X.A X.env X.xe) (hc : X.calm = true) (hi : PI X tg iter (liftI X.K L it)) (hg : PG X tg (liftG X.K L is g)) (hb : PSs X body (liftS X.K L t)) (ho : PSs X orelse (liftS X.K L el))
    (hs : ∀ x, foldedSetIterable iter X.env x = pure x) : PS X (.For tg iter body orelse pos) (liftS X.K L (dFor it g t el)) := (ps_forE hp hc hi hg hb ho hs).wk fun De σ H h => lift_for h
/-- while: the invariant with its measure -/
def dWhile (c : DTT) (tb : DTS) : DTS := fun D e s => ∃ I : Nat → Nv → S → Prop, (∃ m, I m e s) ∧ ∀ m e s, I m e s → c e s fun b s1 =>
  if b = true then tb { D with nx := fun e' s' => ∃ m', m' < m ∧ I m' e' s', ct := fun e' s' => ∃ m', m' < m ∧ I m' e' s', bk := D.nx } e s1 else D.nx e s1
theorem ds_while {body : List Stmt} (hp : PassesOwn (model X.prog X.w) X.A X.env X.xe) (hc : PT X c (liftT X.K L u)) (hb : PSs X body (liftS X.K L t)) : PS X (.While c body [] pos) (liftS X.K L (dWhile u t)) := (ps_while hp hc hb).wk fun De σ H h => by
  obtain ⟨L1, W, e, s, Dd, hl, st, ⟨I, ⟨m0, i0⟩, turn⟩, ok⟩ := h
  refine ⟨fun m σ H => ∃ W e s, Stt X.K L1 W e s σ H ∧ I m e s, ⟨m0, W, e, s, st, i0⟩, ?_⟩
  rintro m σ1 H1 ⟨W1, e1, s1, st1, i1⟩
  refine liftT_of hl st1 (turn m e1 s1 i1) fun d s' W' H' st' _ q' => ?_
  cases d with
  | true =>
    rw [if_pos rfl] at q' ⊢
    refine ⟨fun σ H => ∃ W e s, Stt X.K L1 W e s σ H ∧ ∃ m', m' < m ∧ I m' e s, fun σ2 H2 ⟨W2, e2, s2, st2, m', hm, i2⟩ => ⟨m', hm, W2, e2, s2, st2, i2⟩, ?_⟩
    exact ⟨L1, W', e1, s', _, hl, st', q', ⟨fun W e s σ H st q => ⟨W, e, s, st, q⟩, ok.rt, fun W e s σ H st q => ok.nx W e s σ H st q, fun W e s σ H st q => ⟨W, e, s, st, q⟩⟩⟩
  | false =>
    rw [if_neg Bool.false_ne_true] at q' ⊢
    exact ok.nx _ _ _ _ _ st' q'

/-! ### what is walked -/
/-- an expression whose value is walked: a list, a tuple, a text -/
def dItE (te : DTE) : DTI := fun e s R => te e s fun d s1 => match seqL s1 d with
  | some xs => xs.length ≤ sizeLine → R (fun s => seqL s d = some xs) xs s1
  | none => match seqT d with
    | some xs => xs.length ≤ sizeLine → R (fun _ => True) xs s1
    | none => match d with
      | .str z => R (fun _ => True) (z.cps.toList.map fun c => .str ⟨#[c]⟩) s1
      | .dic kvs => kvs.length ≤ sizeLine → R (fun _ => True) (kvs.map (·.1)) s1
      | _ => False
theorem Reps.drawn {K : PySem.W.Frag} {W : Wd} {H : Hp} {vs : List V} {ds : List D} {i : Nat} {v : V} {d : D} (r : Reps K W H vs ds) (h : vs[i]? = some v) (h2 : ds[i]? = some d) : Rep K W H v d := by
  obtain ⟨d', e, q⟩ := r.getV h
  rw [h2] at e; cases e
  exact q
theorem di_e {tg iter : Expr} (hl : PE X iter (lift X.K L te)) : PI X tg iter (liftI X.K L (dItE te)) := by
  refine ⟨fun pins s σ H R I h => ?_⟩
  obtain ⟨W, e, sd, Rd, st, q, k⟩ := h
  refine thn (hl.run pins s σ H (fun v H' => ∃ d s' W', Ext W H W' H' ∧ Rel X.K W' s' H' ∧ Rep X.K W' H' v d ∧ (match seqL s' d with
    | some xs => xs.length ≤ sizeLine → Rd (fun s => seqL s d = some xs) xs s'
    | none => match seqT d with
      | some xs => xs.length ≤ sizeLine → Rd (fun _ => True) xs s'
      | none => match d with
        | .str z => Rd (fun _ => True) (z.cps.toList.map fun c => .str ⟨#[c]⟩) s'
        | .dic kvs => kvs.length ≤ sizeLine → Rd (fun _ => True) (kvs.map (·.1)) s'
        | _ => False)) I ⟨W, e, sd, _, st, q, fun d s' W' v H' q' x R' r => ⟨d, s', W', x, R', r, q'⟩⟩) ?_
  rintro u s1 ⟨v, H1, I1, r1, d, s', W', x, R', rd, q'⟩
  split at q'
  · rename_i xs e1
    obtain ⟨a, vs, rfl, h1, h2⟩ := seqL_ok R' rd e1
    cases r1
    obtain ⟨its, rv, pl, hz⟩ := I1.list h1
    apply wpAny_pyIter_list pl.isList
    have go : R (Itl X.K a) H1 := k _ _ _ _ _ _ (q' (by rw [← h2.length]; exact hz)) x R' fun i W s H sub Rr ok => by
      obtain ⟨a', us, e2, g1, g2⟩ := seqL_ok Rr (rd.sub sub) ok
      cases e2
      refine ⟨fun dd hd => ?_, fun hl => ⟨us, g1, by rw [g2.length]; exact hl⟩⟩
      obtain ⟨y, hy, ry⟩ := g2.get hd
      refine ⟨⟨us, y, g1, hy⟩, ?_⟩
      rintro z H' ⟨rfl, hz⟩
      exact ⟨W, Ext.refl _ _, Rr, g2.drawn (hz us g1) hd⟩
    exact ⟨_, [s1.heap.objs.size], _, _, H1, rfl, I1.kept (t' := s1.toks) fun b o e => Heap.get?_push_of_some _ e, turn_list a _, ⟨_, Heap.get?_push_size _ rfl, rfl, rfl⟩, fun b hb => by
      have e : b = s1.heap.objs.size := by simpa using hb
      subst e
      exact I1.fpOk (Nat.le_refl _) (I1.hok.fresh (Nat.le_refl _)), go⟩
  · split at q'
    · rename_i xs e1
      obtain ⟨a, vs, rfl, h1, h2⟩ := seqT_ok rd e1
      cases r1
      obtain ⟨its, rv, pl, hz⟩ := I1.tuple h1
      apply wpAny_pyIter_tuple (show s1.heap.IsTuple a its.toArray from pl)
      have go : R (Itt X.K a) H1 := k _ _ _ _ _ _ (q' (by rw [← h2.length]; exact hz)) x R' fun i W s H sub Rr ok => by
        obtain ⟨a', us, e2, g1, g2⟩ := seqT_ok (rd.sub sub) e1
        cases e2
        refine ⟨fun dd hd => ?_, fun hl => ⟨us, g1, by rw [g2.length]; exact hl⟩⟩
        obtain ⟨y, hy, ry⟩ := g2.get hd
        refine ⟨⟨us, y, g1, hy⟩, ?_⟩
        rintro z H' ⟨rfl, hz⟩
        exact ⟨W, Ext.refl _ _, Rr, g2.drawn (hz us g1) hd⟩
      exact ⟨_, [s1.heap.objs.size], _, _, H1, rfl, I1.kept (t' := s1.toks) fun b o e => Heap.get?_push_of_some _ e, turn_tuple a _, ⟨_, Heap.get?_push_size _ rfl, rfl, rfl⟩, fun b hb => by
        have e : b = s1.heap.objs.size := by simpa using hb
        subst e
        exact I1.fpOk (Nat.le_refl _) (I1.hok.fresh (Nat.le_refl _)), go⟩
    · split at q'
      · rename_i z _ _
        cases rd
        obtain ⟨t, rfl⟩ := r1
        have go : R (Its z) H1 := k _ _ _ _ _ _ q' x R' fun i W s H sub Rr ok => by
          refine ⟨fun dd hd => ?_, fun hl => ?_⟩
          · rw [List.getElem?_map] at hd
            cases e : z.cps.toList[i]? with
            | none => rw [e] at hd; cases hd
            | some c =>
              rw [e] at hd
              have hd' : D.str ⟨#[c]⟩ = dd := Option.some.inj hd
              subst hd'
              have hi : i < z.cps.size := by
                have := (List.getElem?_eq_some_iff.mp e).1
                simpa using this
              refine ⟨hi, ?_⟩
              rintro w H' ⟨rfl, c', hc, rfl⟩
              have e' : z.cps[i]? = some c := by simpa using e
              rw [hc] at e'; cases e'
              exact ⟨W, Ext.refl _ _, Rr, .str _⟩
          · show z.cps.size ≤ i
            simpa using hl
        cases ha : z.cps.all (· < 128)
        · exact wpAny_pyIter_wide ha (pi_one (tk := s1.toks) I1 _ (turn_str _ z t "str_iterator" (.inr rfl)) ⟨_, Heap.get?_push_size _ rfl, rfl, rfl⟩ go)
        · exact wpAny_pyIter_ascii ha (pi_one (tk := s1.toks) I1 _ (turn_str _ z t "str_ascii_iterator" (.inl rfl)) ⟨_, Heap.get?_push_size _ rfl, rfl, rfl⟩ go)
      · rename_i kvs _ _
        cases rd with
        | @dK a us _ f h rk =>
          cases (show u = Value.ref a from r1)
          have main : ∀ (ob : Obj) (H2 : Hp), Inv X pins σ H2 s1 → H2 a = some (.frz ob (.dK us)) → Ext W H W' H2 → Rel X.K W' s' H2 → wpAny (model X.prog X.w) X.A (pyIter (.ref a)) (PIE X pins σ tg R) X.xe s1 := fun ob H2 I2 h2 x2 R2 => by
            obtain ⟨g1, g2, g3, es, ep, vs, g4, g5, g6, g7⟩ := I2.frzK h2
            obtain ⟨z, _⟩ := dk_rd I2.hok (.inr ⟨ob, h2⟩)
            have go : R (Itk a ob us) H2 := k _ _ _ _ _ _ (q' (by rw [← rk.length]; exact z)) x2 R2 fun i W3 s3 H3 sub Rr ok => by
              have h3 : H3 a = some (.frz ob (.dK us)) := (sub.k a f).frz h2
              rw [rk.keys]
              refine ⟨fun dd hd => ?_, fun hl => ⟨h3, by rw [List.length_map] at hl; exact hl⟩⟩
              rw [List.getElem?_map] at hd
              cases e : us[i]? with
              | none => rw [e] at hd; cases hd
              | some p =>
                rw [e] at hd
                have hd' : kD p.1 = dd := Option.some.inj hd
                subst hd'
                refine ⟨⟨h3, (List.getElem?_eq_some_iff.mp e).1⟩, ?_⟩
                rintro w H' ⟨rfl, κ, v, e2, rfl⟩
                rw [e] at e2
                cases e2
                exact ⟨W3, Ext.refl _ _, Rr, Rep.ofKey κ⟩
            refine iter_keys g1 g2 g3 g4 (pi_one (tk := s1.toks) I2 _ (turn_keys _ g4) ⟨_, Heap.get?_push_size _ rfl, rfl, ?_⟩ go)
            rw [g5] <;> rfl
          rcases core_dK h with h | ⟨ob, h⟩
          · obtain ⟨ob, I2⟩ := I1.lock h trivial
            exact main ob _ I2 upd_same (x.trans (Ext.lock R' f h rfl)) (Rel.lock R' f h rfl)
          · exact main ob H1 I1 h x R'
      · exact q'.elim
/-- range(n), range(m, n) -/
def dItR1 (r : DTA) : DTI := fun e s R => r e s fun ds s1 => match ds with
  | [.int j] => -(2 ^ 62) ≤ j ∧ j < 2 ^ 62 ∧ R (fun _ => True) ((List.range j.toNat).map fun i => .int (i : Nat)) s1
  | _ => False
def dItR2 (r : DTA) : DTI := fun e s R => r e s fun ds s1 => match ds with
  | [.int i, .int j] => (-(2 ^ 62) ≤ i ∧ i < 2 ^ 62 ∧ -(2 ^ 62) ≤ j ∧ j < 2 ^ 62) ∧ R (fun _ => True) ((List.range (j - i).toNat).map fun k => .int (i + (k : Nat))) s1
  | _ => False
theorem itok_range {K : PySem.W.Frag} {W : Wd} {H : Hp} (lo : Int) (n : Nat) : ItOk K W H (Itr lo n) (fun _ => True) ((List.range n).map fun k => .int (lo + (k : Nat))) := fun i W s H sub Rr ok => by
  refine ⟨fun dd hd => ?_, fun hl => ?_⟩
  · rw [List.getElem?_map] at hd
    by_cases hi : i < n
    · rw [List.getElem?_range hi] at hd
      have hd' : D.int (lo + (i : Nat)) = dd := Option.some.inj hd
      subst hd'
      refine ⟨hi, ?_⟩
      rintro w H' ⟨rfl, rfl⟩
      exact ⟨W, Ext.refl _ _, Rr, .int _⟩
    · rw [List.getElem?_eq_none (by simpa using hi)] at hd; cases hd
  · show n ≤ i
    simpa using hl
theorem di_range1 {tg : Expr} {r : DTA} (hg : Gl X "range") (hm : X.mg "range" = none) (ha : PA X [a] (liftA X.K L r)) (hs : starEach [a] X.env = [(false, eval a X.env)]) : PI X tg (.Call (.Name "range" p) [a] [] pos) (liftI X.K L (dItR1 r)) := (pi_range1 hg hm ha hs).wk fun σ H R h => by
  obtain ⟨W, e, s, Rd, st, q, k⟩ := h
  refine ⟨W, e, s, _, st, q, fun ds s1 W1 vs H1 q1 x1 R1 rs => ?_⟩
  split at q1
  · obtain ⟨v, rfl, rv⟩ := rs.one
    cases rv
    refine ⟨_, rfl, q1.1, q1.2.1, k _ _ _ _ _ _ q1.2.2 x1 R1 ?_⟩
    rename_i j
    have := itok_range (K := X.K) (W := W1) (H := H1) 0 j.toNat
    simpa using this
  · exact q1.elim
theorem di_range2 {tg : Expr} {r : DTA} (hg : Gl X "range") (hm : X.mg "range" = none) (ha : PA X [a, b] (liftA X.K L r)) (hs : starEach [a, b] X.env = [(false, eval a X.env), (false, eval b X.env)]) (hs2 : starEach [b] X.env = [(false, eval b X.env)]) : PI X tg (.Call (.Name "range" p) [a, b] [] pos) (liftI X.K L (dItR2 r)) := (pi_range2 hg hm ha hs hs2).wk fun σ H R h => by
  obtain ⟨W, e, s, Rd, st, q, k⟩ := h
  refine ⟨W, e, s, _, st, q, fun ds s1 W1 vs H1 q1 x1 R1 rs => ?_⟩
  split at q1
  · obtain ⟨v, v', rfl, rv, rv'⟩ := rs.two
    cases rv; cases rv'
    exact ⟨_, _, rfl, q1.1, k _ _ _ _ _ _ q1.2 x1 R1 (itok_range _ _)⟩
  · exact q1.elim

/-! ### comprehensions -/
def LT : Lk := ⟨fun _ _ => True, fun _ _ => trivial⟩
def dLc (ok : S → Prop) (g : DTG) (tt : DTT) (te : DTE) (e0 : Nv) : List D → S → (List D → S → Prop) → Prop
  | [], s, Q => ok s ∧ Q [] s
  | x :: xs, s, Q => ok s ∧ g x e0 s fun e1 s1 => tt e1 s1 fun b s2 => if b = true then te e1 s2 fun d s3 => dLc ok g tt te e0 xs s3 fun ds s4 => Q (d :: ds) s4 else dLc ok g tt te e0 xs s2 Q
def dComp (it : DTI) (g : DTG) (tt : DTT) (te : DTE) (vs : List Nat) : DTE := fun e s Q => it e s fun ok xs s1 => xs.length ≤ sizeLine ∧ dLc ok g tt te (wipeD e vs) xs s1 fun ds s2 => Q (.lst ds) s2
def dCompC (it : DTI) (g : DTG) (tt : DTT) (te : DTE) (vs : List Nat) : DTE := fun e s Q => it e s fun ok xs s1 => xs.length ≤ sizeLine ∧ dLc ok g tt te (wipeD e vs) xs s1 fun ds s2 => ∀ n, s2 n = none → Q (.cell n) (s2.set n (.lst ds))
theorem RelE.sub {K : PySem.W.Frag} {W W' : Wd} {H H' : Hp} {e : Nv} {σ : St} (h : RelE K W H e σ) (x : Sub W H W' H') : RelE K W' H' e σ :=
  ⟨h.len, fun i d q => let ⟨v, a, b⟩ := h.at_ i d q; ⟨v, a, b.sub x⟩⟩
theorem Reps.snoc {K : PySem.W.Frag} {W : Wd} {H : Hp} {vs : List V} {ds : List D} {v : V} {d : D} (r : Reps K W H vs ds) (q : Rep K W H v d) : Reps K W H (vs ++ [v]) (ds ++ [d]) := r.app (.cons q .nil)
/-- an object that nobody knows is settled, becomes a cell -/
theorem Rel.adopt {K : PySem.W.Frag} {W : Wd} {H : Hp} {s : S} {p : Addr} {u : HO} (R : Rel K W s H) (hp : H p = some u) (hl : ∀ n o, s n = some o → W.r n ≠ some p) (hz : ¬ W.Z p) : Rel K (W.add p) s H := by
  refine ⟨fun n o e => ?_, R.inj, R.nx, fun a f => ?_, fun a z => ?_⟩
  · obtain ⟨a, h1, h2, h3⟩ := R.cells n o e
    refine ⟨a, h1, ⟨fun z => ?_, h2.2⟩, h3.mono (Ext.fix p) rfl⟩
    rcases z with z | z
    · exact h2.1 z
    · subst z; exact hl n o e h1
  · rcases f with f | f
    · exact R.fr a f
    · subst f; exact ⟨u, hp⟩
  · obtain ⟨h1, o, e⟩ := R.zf a z
    refine ⟨fun q => ?_, o, e⟩
    rcases q with q | q
    · exact h1 q
    · subst q; exact hz z
theorem Ext.newC {K : PySem.W.Frag} {W : Wd} {H : Hp} {s : S} (p : Addr) (R : Rel K W s H) : Ext W H (W.new p) H := Ext.new R fun _ _ e => e
theorem Rel.adoptC {K : PySem.W.Frag} {W : Wd} {H : Hp} {s : S} {p : Addr} {o : O} (R : Rel K W s H) (hf : ¬ W.F p) (hl : ∀ n o, s n = some o → W.r n ≠ some p) (hz : ¬ W.Z p) (ho : RepO K (W.new p) H p o) : Rel K (W.new p) (s.set W.nx o) H := by
  have x := Ext.newC p R
  have nr : ∀ n, n ≠ W.nx → (W.new p).r n = W.r n := fun n hn => if_neg hn
  refine ⟨fun n o' e => ?_, fun n m a h1 h2 l1 l2 => ?_, fun n a h => ?_, R.fr, R.zf⟩
  · by_cases hn : n = W.nx
    · subst hn
      rw [S.set_same] at e; cases e
      exact ⟨p, Wd.new_r W p, ⟨hf, hz⟩, ho⟩
    · rw [S.set_ne hn] at e
      obtain ⟨a, h1, h2, h3⟩ := R.cells n o' e
      exact ⟨a, x.r _ _ h1, h2, h3.mono x rfl⟩
  · by_cases hn : n = W.nx
    · by_cases hm : m = W.nx
      · rw [hn, hm]
      · exfalso
        rw [hn, Wd.new_r] at h1; cases h1
        rw [nr m hm] at h2
        rw [S.set_ne hm] at l2
        cases e : s m with
        | none => exact l2 e
        | some o' => exact hl m o' e h2
    · by_cases hm : m = W.nx
      · exfalso
        rw [hm, Wd.new_r] at h2; cases h2
        rw [nr n hn] at h1
        rw [S.set_ne hn] at l1
        cases e : s n with
        | none => exact l1 e
        | some o' => exact hl n o' e h1
      · rw [nr n hn] at h1
        rw [nr m hm] at h2
        rw [S.set_ne hn] at l1
        rw [S.set_ne hm] at l2
        exact R.inj n m a h1 h2 l1 l2
  · show n < W.nx + 1
    by_cases hn : n = W.nx
    · omega
    · rw [nr n hn] at h
      have := R.nx n a h
      omega
/-- the core: what the new list holds at the end, its address held on the way -/
theorem lift_lc {vs : List Nat} {σ : St} {H : Hp} {Q : VK} {tt : DTT} (hv : ∀ i ∈ is, i ∈ vs)
    (h : ∃ W e s Rd, Stt X.K L W e s σ H ∧ it e s (fun ok xs s1 => xs.length ≤ sizeLine ∧ dLc ok g tt te (wipeD e vs) xs s1 Rd) ∧
      ∀ ds s' W' acc H' p, Rd ds s' → Ext W H W' H' → Rel X.K W' s' H' → ¬ W'.F p → (∀ n o, s' n = some o → W'.r n ≠ some p) → ¬ W'.Z p → H' p = some (.lst acc) → Reps X.K W' H' acc ds → Q (.ref p) H') :
    tLc (liftI X.K L it) (liftG X.K LT is g) (liftT X.K LT tt) (lift X.K LT te) vs σ H Q := by
  obtain ⟨W, e, s, Rd, st, q, k⟩ := h
  refine ⟨W, e, s, _, st, q, fun ok xs s1 W1 H1 J q1 x1 R1 io p hp => ?_⟩
  obtain ⟨hlen, q1⟩ := q1
  have R2 : Rel X.K (W1.hold p) s1 (upd H1 p (.lst [])) := R1.hold hp
  have s12 : Sub W1 H1 (W1.hold p) (upd H1 p (.lst [])) := Sub.hold R1 hp
  have zp : (W1.hold p).Z p := .inr rfl
  have zne : ∀ a, W1.Z a → a ≠ p := fun a z => by
    obtain ⟨_, o, eo⟩ := R1.zf a z
    exact ne_of_none eo hp
  let Iv : Nat → Hp → Prop := fun i Hc => ∃ W2 s2 acc ds, Sub (W1.hold p) (upd H1 p (.lst [])) W2 Hc ∧ W2.Z = (W1.hold p).Z ∧ (∀ a, W1.Z a → Hc a = H1 a) ∧ Rel X.K W2 s2 Hc ∧ Hc p = some (.lst acc) ∧ acc.length ≤ i ∧ Reps X.K W2 Hc acc ds ∧
    dLc ok g tt te (wipeD e vs) (xs.drop i) s2 fun ds' s' => Rd (ds ++ ds') s'
  refine ⟨fun i m Hc => m = xs.length - i ∧ i ≤ xs.length ∧ Iv i Hc, ⟨xs.length, by simp, Nat.zero_le _, W1.hold p, s1, [], [], ⟨fun _ h => h, fun _ _ h => h, fun _ _ => Kp.of rfl⟩, rfl, fun a z => upd_ne (zne a z), R2, upd_same, Nat.le_refl _, .nil, q1⟩, ?_⟩
  rintro i m Hc ⟨rfl, hi, W2, s2, acc, ds, sb, ez, kz, Rc, hpc, hal, rs, qc⟩
  by_cases hlt : i < xs.length
  · rw [List.drop_eq_getElem_cons hlt] at qc
    obtain ⟨ok2, qc⟩ := qc
    obtain ⟨go, yy⟩ := (io i W2 s2 Hc (s12.trans sb) Rc ok2).1 xs[i] (by simp [hlt])
    refine .inr ⟨go, fun H' => i + 1 ≤ xs.length ∧ Iv (i + 1) H', fun H' z => ⟨xs.length - (i + 1), by omega, rfl, z⟩, fun x H' y => ?_⟩
    obtain ⟨W3, x3, R3, r3⟩ := yy x H' y
    have hz2 : ∀ a, W1.Z a ∨ a = p → W2.Z a := fun a z => by rw [ez]; exact z
    have envW : RelE X.K W3 H' (wipeD e vs) (wipe σ vs) := (((st.env.mono x1).sub (s12.trans sb)).mono x3).wipe vs
    refine ⟨LT, W3, wipeD e vs, s2, xs[i], _, fun _ _ _ => trivial, ⟨trivial, envW, R3⟩, r3, qc, fun e4 s4 W4 σ4 H4 q4 st4 x4 w4 => ?_⟩
    refine ⟨(w4 vs hv).trans (wipe_wipe vs vs σ fun _ h => h), ?_⟩
    refine ⟨W4, e4, s4, _, st4, q4, fun b s5 W5 H5 q5 x5 R5 => ?_⟩
    have st5 := st4.after x5 R5
    have x25 : Ext W2 Hc W5 H5 := x3.trans (x4.trans x5)
    cases b with
    | false =>
      dsimp only at q5 ⊢
      rw [if_neg Bool.false_ne_true] at q5 ⊢
      refine ⟨hlt, W5, s5, acc, ds, sb.trans x25.toSub, x25.z.trans ez, fun a z => ?_, R5, ?_, by omega, rs.mono x25, q5⟩
      · rw [x25.kz a (hz2 a (.inl z)), kz a z]
      · rw [x25.kz p (hz2 p (.inr rfl)), hpc]
    | true =>
      dsimp only at q5 ⊢
      rw [if_pos rfl] at q5 ⊢
      refine ⟨W5, e4, s5, _, st5, q5, fun d s6 W6 v H6 q6 x6 R6 r6 => ?_⟩
      have x26 := x25.trans x6
      have hp6 : H6 p = some (.lst acc) := by rw [x26.kz p (hz2 p (.inr rfl)), hpc]
      have z6 : W6.Z p := by rw [x26.z]; exact hz2 p (.inr rfl)
      refine ⟨acc, hp6, by omega, hlt, W6, s6, acc ++ [v], ds ++ [d], (sb.trans x26.toSub).trans (Sub.rehold R6 z6), x26.z.trans ez, fun a z => ?_, R6.rehold z6, upd_same, by simp; omega, ((rs.mono x26).snoc r6).sub (Sub.rehold R6 z6), ?_⟩
      · rw [upd_ne (zne a z), x26.kz a (hz2 a (.inl z)), kz a z]
      · simpa using q6
  · have ei : i = xs.length := by omega
    subst ei
    rw [List.drop_length] at qc
    obtain ⟨ok2, qc⟩ := qc
    refine .inl ⟨(io _ W2 s2 Hc (s12.trans sb) Rc ok2).2 (Nat.le_refl _), ?_⟩
    rw [List.append_nil] at qc
    have zp2 : W2.Z p := by rw [ez]; exact zp
    refine k ds s2 (W2.wz W.Z) acc Hc p qc ⟨((x1.toSub.trans s12).trans sb).trans (Sub.wz _), rfl, fun a z => ?_⟩ (Rc.wz fun a z => ?_) (Rc.zf p zp2).1 (fun n o eo hn => ?_) (fun z => ?_) hpc (rs.sub (Sub.wz _))
    · have z1 : W1.Z a := by rw [x1.z]; exact z
      rw [kz a z1, x1.kz a z]
    · rw [ez]; exact .inl (by rw [x1.z]; exact z)
    · obtain ⟨a, h1, h2, _⟩ := Rc.cells n o eo
      have h1' : W2.r n = some p := hn
      rw [h1] at h1'; cases h1'
      exact h2.2 zp2
    · exact zne p (by rw [x1.z]; exact z) rfl
variable {elt tg iter : Expr} {ifs : List Expr} {scope : Scope} {own : List (Str × Nat)} {tt : DTT}
theorem de_comp (hc : X.calm = true) (hN : X.N.Nodup) (hi : PI X tg iter (liftI X.K L it)) (ok : BlkOk X.N X.env.scope scope own) (hv : ∀ i ∈ is, i ∈ own.map (·.2))
    (hg : ∀ (s : Shared) (H : Hp) (C : Addr) (cl : List (Str × Addr)) (fp : List Addr), PG (X.blk s H scope (compEnvC scope cl C X.env) fp) tg (liftG X.K LT is g))
    (ht : ∀ (s : Shared) (H : Hp) (C : Addr) (cl : List (Str × Addr)) (fp : List Addr), PTs (X.blk s H scope (compEnvC scope cl C X.env) fp) ifs (liftT X.K LT tt))
    (he : ∀ (s : Shared) (H : Hp) (C : Addr) (cl : List (Str × Addr)) (fp : List Addr), PE (X.blk s H scope (compEnvC scope cl C X.env) fp) elt (lift X.K LT te)) (hs : ∀ x, foldedSetIterable iter X.env x = pure x) :
    PE X (.ListComp elt [⟨tg, iter, ifs, 0⟩] scope pos) (lift X.K L (dComp it g tt te (own.map (·.2)))) := (pe_lc hc hN hi ok hg ht he hs).wk fun σ H Q h => by
  obtain ⟨W, e, s, Qd, st, q, k⟩ := h
  refine lift_lc hv ⟨W, e, s, _, st, q, fun ds s' W' acc H' p q' x R nf nl nz hp rs => ?_⟩
  exact k _ _ _ _ _ q' (x.trans (Ext.fix p)) (R.adopt hp nl nz) (.lst (.inr rfl) hp (rs.mono (Ext.fix p)))
theorem de_compC (hc : X.calm = true) (hN : X.N.Nodup) (hi : PI X tg iter (liftI X.K L it)) (ok : BlkOk X.N X.env.scope scope own) (hv : ∀ i ∈ is, i ∈ own.map (·.2))
    (hg : ∀ (s : Shared) (H : Hp) (C : Addr) (cl : List (Str × Addr)) (fp : List Addr), PG (X.blk s H scope (compEnvC scope cl C X.env) fp) tg (liftG X.K LT is g))
    (ht : ∀ (s : Shared) (H : Hp) (C : Addr) (cl : List (Str × Addr)) (fp : List Addr), PTs (X.blk s H scope (compEnvC scope cl C X.env) fp) ifs (liftT X.K LT tt))
    (he : ∀ (s : Shared) (H : Hp) (C : Addr) (cl : List (Str × Addr)) (fp : List Addr), PE (X.blk s H scope (compEnvC scope cl C X.env) fp) elt (lift X.K LT te)) (hs : ∀ x, foldedSetIterable iter X.env x = pure x) :
    PE X (.ListComp elt [⟨tg, iter, ifs, 0⟩] scope pos) (lift X.K L (dCompC it g tt te (own.map (·.2)))) := (pe_lc hc hN hi ok hg ht he hs).wk fun σ H Q h => by
  obtain ⟨W, e, s, Qd, st, q, k⟩ := h
  refine lift_lc hv ⟨W, e, s, _, st, q, fun ds s' W' acc H' p q' x R nf nl nz hp rs => ?_⟩
  have y := Ext.newC p R
  exact k _ _ _ _ _ (q' _ R.nxs) (x.trans y) (R.adoptC nf nl nz ⟨acc, hp, rs.mono y⟩) (.cell (Wd.new_r _ _))
/-- name = [..] on one line -/
theorem ds_setLc {i : Nat} {y : Str} {py spos : Pos} (hc : X.calm = true) (hN : X.N.Nodup) (hy : X.N[i]? = some y) (hyl : X.env.scope.names.lookup y = some .local) (hsw : swapsWith (.ListComp elt [⟨tg, iter, ifs, 0⟩] scope pos) (some (.Name y py)) spos.line X.env = pure true)
    (hi : PI X tg iter (liftI X.K L it)) (ok : BlkOk X.N X.env.scope scope own) (hv : ∀ i ∈ is, i ∈ own.map (·.2))
    (hg : ∀ (s : Shared) (H : Hp) (C : Addr) (cl : List (Str × Addr)) (fp : List Addr), PG (X.blk s H scope (compEnvC scope cl C X.env) fp) tg (liftG X.K LT is g))
    (ht : ∀ (s : Shared) (H : Hp) (C : Addr) (cl : List (Str × Addr)) (fp : List Addr), PTs (X.blk s H scope (compEnvC scope cl C X.env) fp) ifs (liftT X.K LT tt))
    (he : ∀ (s : Shared) (H : Hp) (C : Addr) (cl : List (Str × Addr)) (fp : List Addr), PE (X.blk s H scope (compEnvC scope cl C X.env) fp) elt (lift X.K LT te)) (hs : ∀ x, foldedSetIterable iter X.env x = pure x) :
    PS X (.Assign [.Name y py] (.ListComp elt [⟨tg, iter, ifs, 0⟩] scope pos) spos) (liftS X.K L (dAsg (dComp it g tt te (own.map (·.2))) (gN i))) := (ps_setLc hc hN hy hyl hsw hi ok hg ht he hs).wk fun De σ H h => by
  obtain ⟨L1, W, e, s, Dd, hl, st, q, ok⟩ := h
  refine lift_lc hv ⟨W, e, s, _, st.le hl, q, fun ds s' W' acc H' p q' x R nf nl nz hp rs => ?_⟩
  have st' := st.after (x.trans (Ext.fix p)) (R.adopt hp nl nz)
  exact ok.nx _ _ _ _ _ (st'.set i (.lst (.inr rfl) hp (rs.mono (Ext.fix p)))) q'
theorem ds_setLcC {i : Nat} {y : Str} {py spos : Pos} (hc : X.calm = true) (hN : X.N.Nodup) (hy : X.N[i]? = some y) (hyl : X.env.scope.names.lookup y = some .local) (hsw : swapsWith (.ListComp elt [⟨tg, iter, ifs, 0⟩] scope pos) (some (.Name y py)) spos.line X.env = pure true)
    (hi : PI X tg iter (liftI X.K L it)) (ok : BlkOk X.N X.env.scope scope own) (hv : ∀ i ∈ is, i ∈ own.map (·.2))
    (hg : ∀ (s : Shared) (H : Hp) (C : Addr) (cl : List (Str × Addr)) (fp : List Addr), PG (X.blk s H scope (compEnvC scope cl C X.env) fp) tg (liftG X.K LT is g))
    (ht : ∀ (s : Shared) (H : Hp) (C : Addr) (cl : List (Str × Addr)) (fp : List Addr), PTs (X.blk s H scope (compEnvC scope cl C X.env) fp) ifs (liftT X.K LT tt))
    (he : ∀ (s : Shared) (H : Hp) (C : Addr) (cl : List (Str × Addr)) (fp : List Addr), PE (X.blk s H scope (compEnvC scope cl C X.env) fp) elt (lift X.K LT te)) (hs : ∀ x, foldedSetIterable iter X.env x = pure x) :
    PS X (.Assign [.Name y py] (.ListComp elt [⟨tg, iter, ifs, 0⟩] scope pos) spos) (liftS X.K L (dAsg (dCompC it g tt te (own.map (·.2))) (gN i))) := (ps_setLc hc hN hy hyl hsw hi ok hg ht he hs).wk fun De σ H h => by
  obtain ⟨L1, W, e, s, Dd, hl, st, q, ok⟩ := h
  refine lift_lc hv ⟨W, e, s, _, st.le hl, q, fun ds s' W' acc H' p q' x R nf nl nz hp rs => ?_⟩
  have y := Ext.newC p R
  have st' := st.after (x.trans y) (R.adoptC (o := .lst ds) nf nl nz ⟨acc, hp, rs.mono y⟩)
  exact ok.nx _ _ _ _ _ (st'.set i (.cell (Wd.new_r _ _))) (q' _ R.nxs)
def dYes : DTT := fun _ s Q => Q true s
theorem dts_nil : PTs X [] (liftT X.K L dYes) := ⟨fun pins s σ H Q I h => pts_nil.run pins s σ H Q I (by
  obtain ⟨W, e, s, Qd, st, q, k⟩ := h
  exact k _ _ W H q (Ext.refl W H) st.rel)⟩
theorem dts_one (h : PT X c (liftT X.K L u)) : PTs X [c] (liftT X.K L u) := pts_one h
end
end Y


/-! Y8b: a list unpacked, with and without a star at the end. -/
namespace Y
open PySem PySem.Spec PySem.Calls PyProof.Rows L2
theorem _root_.L2.PG.or {X : Cx} {e : Expr} {t t' : TG} (h : PG X e t) (h' : PG X e t') : PG X e (fun v σ H Q => t v σ H Q ∨ t' v σ H Q) :=
  ⟨fun pins s σ H v u Q I r q => q.elim (h.run pins s σ H v u Q I r) (h'.run pins s σ H v u Q I r)⟩
section
variable {X : Cx} {L : Lk} {a b c : Expr} {te ta tb : DTE} {pos p apos : Pos} {es : List Expr} {x : Str}
theorem star_items {prog : Program} {w : World} {A : Around} {E : Value → Shared → Prop} {s : Shared} {l : Addr} {items : Array Value} {i : Nat} {Q : List Value → Shared → Prop}
    (hl : s.heap.IsList l items) (hh : A.handled = none) (hn : i ≤ items.size) (hz : items.size ≤ sizeLine)
    (h : ∀ (g : Heap) (tk : Nat), (∀ b o, s.heap.get? b = some o → g.get? b = some o) →
      Q (items.toList.take i ++ [.ref g.objs.size]) { s with heap := g.push { cls := .type "list", data := .seq (items.toList.drop i).toArray }, toks := tk }) : wpAny (model prog w) A (unpackItems (.ref l) (i + 1) (some i)) Q E s := by
  have hll : l < s.heap.objs.size := by
    obtain ⟨o, ho, _⟩ := hl
    exact Heap.lt_size ho
  have hlt : l ≠ s.heap.objs.size := Nat.ne_of_lt hll
  unfold unpackItems notIterableAtAll
  refine wpAny_bind (wpAny_bind (wpAny_specialOf hl.typeIs slot_list_iter.lookup (wpAny_pure ?_)))
  simp only [Bool.false_eq_true, if_false]
  refine wpAny_bind (wpAny_holding (wpAny_pyIter_list hl (wpAny_bind (wpAny_holding (PySem.W.kun_draw hlt i 0 _ _ ⟨_, Heap.get?_push_size _ rfl, rfl, rfl⟩ (hl.push _) (by omega) fun g1 it1 sb1 => ?_)))))
  have hl1 : g1.IsList l items := (hl.push _).extBut sb1.extBut hlt
  rw [Nat.zero_add] at it1
  have z1 : s.heap.objs.size < g1.objs.size := by
    obtain ⟨oi, hoi, _⟩ := it1
    exact Heap.lt_size hoi
  have z2 : l < g1.objs.size := Nat.lt_trans hll z1
  have el : (items.toList.take i).length = i := by rw [List.length_take, Array.length_toList]; omega
  rw [List.drop_zero, if_neg (by rw [el]; omega)]
  refine wpAny_bind (wpAny_holding (PySem.W.kun_collect (s := { s with heap := g1 }) (T := "list_iterator") (.inr (.inr (.inl rfl))) (Walks.list (A := A.in1) hh s.heap.objs.size l hlt items) (fun j u st => st.1.typeIs) (k := i) hn ⟨it1, hl1⟩ z1 z2 (fun g2 tk k2 => ?_) hz))
  have e0 : i + 1 - 1 - i = 0 := by omega
  show wpAny _ _ (if (items.toList.drop i).length < i + 1 - 1 - i then _ else _) _ _ _
  rw [e0, if_neg (Nat.not_lt_zero _)]
  show wpAny _ _ (newList ((items.toList.drop i).take ((items.toList.drop i).length - 0)) >>= fun d => pure (items.toList.take i ++ [d] ++ (items.toList.drop i).drop ((items.toList.drop i).length - 0))) _ _ _
  rw [Nat.sub_zero, List.take_length, List.drop_length]
  have kk : ∀ b o, s.heap.get? b = some o → g2.get? b = some o := fun b o e => k2 b o (Nat.ne_of_lt (Heap.lt_size e)) (sb1.extBut b o (Nat.ne_of_lt (Heap.lt_size e)) (Heap.get?_push_of_some _ e))
  refine wpAny_bind (wpAny_newList (wpAny_pure ?_) (by rw [List.length_drop, Array.length_toList]; omega))
  rw [List.append_nil]
  exact h g2 tk kk
/-- first, *rest = a list -/
theorem pg_star {k n : Nat} {t : TGs} (hc : X.calm = true) (h : PGs X es t) (hn : (assignEach es X.env).length = n + 1) (hst : (assignEach es X.env).findIdx? (·.1) = some n) :
    PG X (.Tuple es k pos) (fun v σ H Q => ∃ a xs, v = .ref a ∧ SqL X.K H a xs ∧ n ≤ xs.length ∧ ∀ q, H q = none → t (xs.take n ++ [.ref q]) σ (upd H q (.lst (xs.drop n))) Q) := by
  refine ⟨fun pins s σ H v u Q I r hw => ?_⟩
  obtain ⟨a, xs, e1, hq, hl, hw⟩ := hw
  subst e1
  cases r
  obtain ⟨its, rv, pl, hz⟩ := I.list hq
  have hl' : s.heap.IsList a its.toArray := by
    obtain ⟨o, m, e, c, d, q⟩ := pl
    exact ⟨o, e, c, m, q⟩
  have ez : its.length = xs.length := rv.length.symm
  rw [PyProof.Rows.assign_Tuple]
  refine wpAny_bind (wpAny_standAt ?_)
  unfold unpack
  rw [hn, hst]
  refine wpAny_bind (wpAny_holding (star_items hl' (I.ok.hd hc) (by rw [List.size_toArray, ez]; exact hl) (by rw [List.size_toArray, ez]; exact hz) fun g tk hk => ?_))
  have I1 : Inv X pins σ H { s with heap := g, toks := tk } := I.kept hk
  have rd := rv.drop n
  have I2 : Inv X pins σ (upd H g.objs.size (.lst (xs.drop n))) { s with heap := g.push (seqObj "list" (its.drop n).toArray 0), toks := tk } :=
    I1.laid (t' := tk) (fun b u e => Heap.get?_push_of_some _ e) (Nat.le_refl _)
      (show ObjOk X.prog X.w _ _ _ (.lst (xs.drop n)) from ⟨by rw [List.length_drop]; omega, its.drop n, 0, rd, Heap.get?_push_size _ rfl⟩)
  exact h.run pins _ σ _ _ _ Q I2 ((rv.take n).append (.cons (show RelV (.ref g.objs.size) _ from rfl) .nil)) (hw _ (I1.hok.fresh (Nat.le_refl _)))
theorem pgs_consS {sp : Pos} {t : TG} {u : TGs} (h1 : PG X a t) (h2 : PGs X es u) : PGs X (.Starred a sp :: es) (gCons t u) := by
  refine ⟨fun pins s σ H vs us Q I r h => ?_⟩
  obtain ⟨v, vr, e1, h⟩ := h
  subst e1
  cases r with
  | cons r rr => exact assignInOrder_cons (thn (h1.run pins s σ H _ _ _ I r h) fun _ s1 ⟨σ1, H1, I1, q1⟩ => h2.run pins s1 σ1 H1 _ _ Q I1 rr q1)
theorem dgs_consS {is js : List Nat} {g : DTG} {gs : List D → Nv → S → (Nv → S → Prop) → Prop} {sp : Pos} (h1 : PG X a (liftG X.K L is g)) (h2 : PGs X es (liftGs X.K L js gs)) :
    PGs X (.Starred a sp :: es) (liftGs X.K L (is ++ js) (gsCons g gs)) := (pgs_consS h1 h2).wk fun v σ H Q h => by
  obtain ⟨L1, W, e, s, ds, Qd, hl, st, r, q, k⟩ := h
  cases r with
  | nil => exact False.elim q
  | cons r rr =>
    refine ⟨_, _, rfl, L1, W, e, s, _, _, hl, st, r, q, fun e1 s1 W1 σ1 H1 q1 st1 x1 w1 => ?_⟩
    refine ⟨L1, W1, e1, s1, _, _, hl, st1, rr.mono x1, q1, fun e2 s2 W2 σ2 H2 q2 st2 x2 w2 => ?_⟩
    refine k _ _ _ _ _ q2 st2 (x1.trans x2) fun us hu => ?_
    rw [w2 us fun i hi => hu i (by simp [hi]), w1 us fun i hi => hu i (by simp [hi])]
def gStarD (n : Nat) (gs : List D → Nv → S → (Nv → S → Prop) → Prop) : DTG := fun d e s Q => match seqL s d with
  | some xs => n ≤ xs.length ∧ gs (xs.take n ++ [.lst (xs.drop n)]) e s Q
  | none => False
theorem Stt.add {K : PySem.W.Frag} {L : Lk} {W : Wd} {e : Nv} {s : S} {σ : St} {H : Hp} {q : Addr} {o : HO} (st : Stt K L W e s σ H) (hq : H q = none) : Stt K L (W.add q) e s σ (upd H q o) := st.after (Ext.add st.rel hq) (Rel.add st.rel hq)
theorem dg_star {k n : Nat} {is : List Nat} {gs : List D → Nv → S → (Nv → S → Prop) → Prop} (hc : X.calm = true) (h : PGs X es (liftGs X.K L is gs)) (hn : (assignEach es X.env).length = n + 1) (hst : (assignEach es X.env).findIdx? (·.1) = some n) :
    PG X (.Tuple es k pos) (liftG X.K L is (gStarD n gs)) := (pg_star hc h hn hst).wk fun v σ H Q h => by
  obtain ⟨L1, W, e, s, d, Qd, hl, st, r, q, k⟩ := h
  unfold gStarD at q
  split at q
  · rename_i xs e1
    obtain ⟨p, vs, rfl, h1, h2⟩ := seqL_ok st.rel r e1
    refine ⟨p, vs, rfl, h1, by rw [h2.length]; exact q.1, fun a ha => ?_⟩
    refine ⟨L1, W.add a, e, s, _, Qd, hl, st.add ha, ?_, q.2, fun e' s' W' σ' H' q' st' x w => k _ _ _ _ _ q' st' ((Ext.add st.rel ha).trans x) w⟩
    exact ((h2.take n).mono (Ext.add st.rel ha)).app (.cons (new_lst st.rel ha (h2.drop n)) .nil)
  · exact q.elim
/-- a list or a tuple of that length -/
def gSeqD (n : Nat) (gs : List D → Nv → S → (Nv → S → Prop) → Prop) : DTG := fun d e s Q => match seqT d with
  | some xs => xs.length = n ∧ gs xs e s Q
  | none => match seqL s d with
    | some xs => xs.length = n ∧ gs xs e s Q
    | none => False
theorem dg_seq {k n : Nat} {is : List Nat} {gs : List D → Nv → S → (Nv → S → Prop) → Prop} (hc : X.calm = true) (h : PGs X es (liftGs X.K L is gs)) (hn : (assignEach es X.env).length = n) (hst : (assignEach es X.env).findIdx? (·.1) = none) :
    PG X (.Tuple es k pos) (liftG X.K L is (gSeqD n gs)) := ((dg_tup hc h hn hst).or (pg_unl hc h hn hst)).wk fun v σ H Q h => by
  obtain ⟨L1, W, e, s, d, Qd, hl, st, r, q, k⟩ := h
  unfold gSeqD at q
  split at q
  · rename_i xs e1
    exact .inl ⟨L1, W, e, s, d, Qd, hl, st, r, by unfold gTupD; rw [e1]; exact q, k⟩
  · split at q
    · rename_i xs e2
      obtain ⟨p, vs, rfl, h1, h2⟩ := seqL_ok st.rel r e2
      exact .inr ⟨p, vs, rfl, h1, by rw [h2.length]; exact q.1, L1, W, e, s, xs, Qd, hl, st, h2, q.2, k⟩
    · exact q.elim
end
end Y


/-! Y8c: enumerate, dicts made and asked. -/
namespace Y
open PySem PySem.Spec PySem.Calls PyProof.Rows L2
def enumD (xs : List D) : List D := xs.mapIdx fun i x => .tup [.int (i : Nat), x]
def dItEn (r : DTA) : DTI := fun e s R => r e s fun ds s1 => match ds with
  | [d] => (match seqL s1 d with
    | some xs => R (fun s => seqL s d = some xs) (enumD xs) s1
    | none => False)
  | _ => False
section
variable {X : Cx} {L : Lk} {a b c o f : Expr} {te ta tb td ty tx : DTE} {r : DTA} {pos p apos cpos tpos : Pos} {es elts : List Expr} {kk : Nat} {x : Str}
theorem di_enum (hg : Gl X "enumerate") (hm : X.mg "enumerate" = none) (ha : PA X [a] (liftA X.K L r)) (hs : starEach [a] X.env = [(false, eval a X.env)]) : PI X (.Tuple elts kk tpos) (.Call (.Name "enumerate" p) [a] [] pos) (liftI X.K L (dItEn r)) := (pi_enum hg hm ha hs).wk fun σ H R h => by
  obtain ⟨W, e, sd, Rd, st, q, k⟩ := h
  refine ⟨W, e, sd, _, st, q, fun ds s1 W1 vs H1 q1 x1 R1 rs => ?_⟩
  split at q1
  · rename_i d
    obtain ⟨v, rfl, rv⟩ := rs.one
    split at q1
    · rename_i xs e1
      obtain ⟨l, us, rfl, h1, h2⟩ := seqL_ok R1 rv e1
      refine ⟨l, us, rfl, h1, k _ _ _ _ _ _ q1 x1 R1 fun i W s H sub Rr ok => ?_⟩
      obtain ⟨l', us', e2, g1, g2⟩ := seqL_ok Rr (rv.sub sub) ok
      cases e2
      unfold enumD
      refine ⟨fun dd hd => ?_, fun hl => ⟨us', g1, by rw [List.length_mapIdx] at hl; rw [g2.length]; exact hl⟩⟩
      rw [List.getElem?_mapIdx] at hd
      cases e3 : xs[i]? with
      | none => rw [e3] at hd; cases hd
      | some z =>
        rw [e3] at hd
        have hd' : D.tup [.int (i : Nat), z] = dd := Option.some.inj hd
        subst hd'
        obtain ⟨y, hy, ry⟩ := g2.get e3
        refine ⟨⟨us', y, g1, hy⟩, ?_⟩
        rintro w H' ⟨T, y2, rfl, hT, rfl, hz⟩
        have r2 := g2.drawn (hz us' g1) e3
        exact ⟨_, Ext.add Rr hT, Rel.add Rr hT, new_tup Rr hT (.cons (.int _) (.cons r2 .nil))⟩
    · exact q1.elim
  · exact q1.elim
/-- {}: a dict whose keys are ints and texts -/
def dDNew : DTE := fun _ s Q => ∀ n, s n = none → Q (.cell n) (s.set n (.dic []))
theorem de_dnew : PE X (.Dict [] [] pos) (lift X.K L dDNew) := pe_dnewK.wk fun σ H Q h => by
  obtain ⟨W, e, s, Qd, st, q, k⟩ := h
  intro p hp
  have hk : ∀ a u, H a = some u → upd H p (.dK []) a = some u := fun a u e => by rw [upd_ne (ne_of_none e hp)]; exact e
  exact k _ _ _ _ _ (q _ st.rel.nxs) (Ext.new st.rel hk) (Rel.new st.rel hp hk ⟨[], upd_same, .nil⟩) (.cell (Wd.new_r _ _))
/-- d.get(k), d.get(k, x) -/
def dDGet1 (td ty : DTE) : DTE := fun e s Q => td e s fun d s1 => (mapD s1 d).isSome = true ∧ ty e s1 fun y s2 => match mapD s2 d, keyK y with
  | some kvs, some κ => Q ((valD kvs κ).getD .non) s2
  | _, _ => False
def dDGet2 (td ty tx : DTE) : DTE := fun e s Q => td e s fun d s1 => (mapD s1 d).isSome = true ∧ ty e s1 fun y s2 => tx e s2 fun z s3 => match mapD s3 d, keyK y with
  | some kvs, some κ => Q ((valD kvs κ).getD z) s3
  | _, _ => False
theorem isd_of {K : PySem.W.Frag} {W : Wd} {H : Hp} {s : S} {v : V} {d : D} (R : Rel K W s H) (r : Rep K W H v d) (h : (mapD s d).isSome = true) : ∃ a, v = .ref a ∧ IsD H a := by
  cases e : mapD s d with
  | none => rw [e] at h; cases h
  | some kvs =>
    obtain ⟨a, vs, rfl, h1, _⟩ := mapD_ok R r e
    exact ⟨a, rfl, .inl ⟨vs, h1⟩⟩
theorem dget_of {K : PySem.W.Frag} {W : Wd} {H : Hp} {s : S} {v y : V} {d z : D} {kvs : List (D × D)} {κ : Key} (R : Rel K W s H) (r : Rep K W H v d) (h : mapD s d = some kvs) (ry : Rep K W H y z) (hk : keyK z = some κ) :
    ∃ a o, v = .ref a ∧ DGet H a y o ∧ (∀ u w, Rep K W H u w → Rep K W H (o.getD u) ((valD kvs κ).getD w)) := by
  obtain ⟨a, vs, rfl, h1, h2⟩ := mapD_ok R r h
  cases ry.key hk
  refine ⟨a, _, rfl, .inl ⟨vs, κ, h1, rfl, rfl⟩, fun u w q => ?_⟩
  cases e : valD kvs κ with
  | none =>
    rw [(h2.val κ).2 e]
    exact q
  | some d =>
    obtain ⟨v, h3, h4⟩ := (h2.val κ).1 d e
    rw [h3]
    exact h4
theorem de_dget1 (hu : X.A.units + 1 < cLine) (ho : PE X o (lift X.K L td)) (he : PE X a (lift X.K L ty)) (m : M1 X o "get" apos a cpos) : PE X (.Call (.Attribute o "get" apos) [a] [] cpos) (lift X.K L (dDGet1 td ty)) := (pe_dget1 hu ho he m).wk fun σ H Q h => by
  obtain ⟨W, e, s, Qd, st, q, k⟩ := h
  refine ⟨W, e, s, _, st, q, fun d s1 W1 v H1 q1 x1 R1 r1 => ?_⟩
  obtain ⟨l, rfl, hd⟩ := isd_of R1 r1 q1.1
  refine ⟨l, rfl, hd, W1, e, s1, _, st.after x1 R1, q1.2, fun y s2 W2 w H2 q2 x2 R2 r2 => ?_⟩
  split at q2
  · rename_i kvs κ e1 e2
    obtain ⟨l', oo, e3, g, gg⟩ := dget_of R2 (r1.mono x2) e1 r2 e2
    cases e3
    exact ⟨oo, g, k _ _ _ _ _ q2 (x1.trans x2) R2 (gg _ _ .non)⟩
  · exact q2.elim
theorem de_dget2 (hu : X.A.units + 1 < cLine) (ho : PE X o (lift X.K L td)) (he : PE X a (lift X.K L ty)) (hf : PE X f (lift X.K L tx)) (m : M2 X o "get" apos a f cpos) : PE X (.Call (.Attribute o "get" apos) [a, f] [] cpos) (lift X.K L (dDGet2 td ty tx)) := (pe_dget2 hu ho he hf m).wk fun σ H Q h => by
  obtain ⟨W, e, s, Qd, st, q, k⟩ := h
  refine ⟨W, e, s, _, st, q, fun d s1 W1 v H1 q1 x1 R1 r1 => ?_⟩
  obtain ⟨l, rfl, hd⟩ := isd_of R1 r1 q1.1
  have st1 := st.after x1 R1
  refine ⟨l, rfl, hd, W1, e, s1, _, st1, q1.2, fun y s2 W2 w H2 q2 x2 R2 r2 => ?_⟩
  refine ⟨W2, e, s2, _, st1.after x2 R2, q2, fun z s3 W3 u H3 q3 x3 R3 r3 => ?_⟩
  split at q3
  · rename_i kvs κ e1 e2
    obtain ⟨l', oo, e3, g, gg⟩ := dget_of R3 (r1.mono (x2.trans x3)) e1 (r2.mono x3) e2
    cases e3
    exact ⟨oo, g, k _ _ _ _ _ q3 (x1.trans (x2.trans x3)) R3 (gg _ _ r3)⟩
  · exact q3.elim
/-- xs[::-1] of a list -/
def dRev (te : DTE) : DTE := fun e s Q => te e s fun d s1 => match seqL s1 d with
  | some xs => Q (.lst xs.reverse) s1
  | none => False
theorem de_rev {k1 : Nat} {p1 p2 p3 : Pos} (ha : PE X a (lift X.K L ta)) : PE X (.Subscript a (.Slice none none (some (.UnaryOp .USub (.Constant (.int 1) k1 p1) p2)) p3) pos) (lift X.K L (dRev ta)) := (pe_revL ha).wk fun σ H Q h => by
  obtain ⟨W, e, s, Qd, st, q, k⟩ := h
  refine ⟨W, e, s, _, st, q, fun d s1 W1 v H1 q1 x1 R1 r1 => ?_⟩
  split at q1
  · rename_i xs e1
    obtain ⟨l, us, rfl, h1, h2⟩ := seqL_ok R1 r1 e1
    exact ⟨l, us, rfl, h1, fun p hp => k _ _ _ _ _ q1 (x1.trans (Ext.add R1 hp)) (Rel.add R1 hp) (new_lst R1 hp h2.reverse)⟩
  · exact q1.elim
/-- -1 -/
theorem de_neg {i : Int} {k1 : Nat} {p1 : Pos} : PE X (.UnaryOp .USub (.Constant (.int i) k1 p1) pos) (lift X.K L (dC (.int (-i)))) := (pe_un un_neg pe_int).wk fun σ H Q h => ⟨i, rfl, lift_c (v := .int (-i)) (fun _ _ _ => .int _) h⟩
end
end Y


/-! Y8d: isinstance, len(set(..)), enumerate of tuples, tuples turned. -/
namespace Y
open PySem PySem.Spec PySem.Calls PyProof.Rows L2
/-! ### types -/
inductive BT where | non | bl | int | str | lst | tup | dic
  deriving DecidableEq
def BT.nm : BT → String
  | .non => "NoneType" | .bl => "bool" | .int => "int" | .str => "str" | .lst => "list" | .tup => "tuple" | .dic => "dict"
def BT.of : String → Option BT
  | "NoneType" => some .non | "bool" => some .bl | "int" => some .int | "str" => some .str | "list" => some .lst | "tuple" => some .tup | "dict" => some .dic | _ => none
inductive TyN where | b (t : BT) | o (c : Str)
  deriving DecidableEq
def TyN.v (K : PySem.W.Frag) : TyN → Value
  | .b t => .type t.nm
  | .o c => .ref (He.ga K c)
/-- a value's type -/
def tyD (s : S) : D → Option TyN
  | .non => some (.b .non) | .bl _ => some (.b .bl) | .int _ => some (.b .int) | .str _ => some (.b .str)
  | .lst _ => some (.b .lst) | .xl _ => some (.b .lst) | .tup _ => some (.b .tup) | .xt _ => some (.b .tup) | .dic _ => some (.b .dic)
  | .obj c _ => some (.o c)
  | .cell n => (match s n with
    | some (.lst _) => some (.b .lst)
    | some (.dic _) => some (.b .dic)
    | some (.dit _) => some (.b .dic)
    | some (.dicl _ _ _) => some (.b .dic)
    | some (.ins c _) => some (.o c)
    | none => none)
  | _ => none
def tyOfD : D → Option TyN
  | .ty n => (BT.of n).map .b
  | .glo c => some (.o c)
  | _ => none
def isaB (a b : BT) : Bool := decide (a = b) || (decide (a = .bl) && decide (b = .int))
/-- tbl: what is known where an own class takes part -/
def isaN (tbl : TyN → TyN → Option Bool) : TyN → TyN → Option Bool
  | .b a, .b b => some (isaB a b)
  | a, b => tbl a b
def isaL (tbl : TyN → TyN → Option Bool) (t : TyN) : List TyN → Option Bool
  | [] => some false
  | u :: us => match isaN tbl t u with
    | some true => some true
    | some false => isaL tbl t us
    | none => none
def tysOf : List D → Option (List TyN)
  | [] => some []
  | d :: ds => match tyOfD d, tysOf ds with
    | some t, some ts => some (t :: ts)
    | _, _ => none
def dIsi (tbl : TyN → TyN → Option Bool) : DC := fun ds s Q => match ds with
  | [x, y] => (match tyD s x, (match y with
      | .tup us => tysOf us
      | y => (tyOfD y).map fun u => [u]) with
    | some t, some us => (match isaL tbl t us with
      | some b => Q (.bl b) s
      | none => False)
    | _, _ => False)
  | _ => False
theorem BT.of_nm {n : String} {t : BT} (h : BT.of n = some t) : n = t.nm := by
  unfold BT.of at h
  split at h <;> first | (cases h; rfl) | cases h
theorem kit_bt (K : PySem.W.Frag) (a b : BT) : PySem.W.kitOne K (.type a.nm) (.type b.nm) = some (isaB a b) := by
  cases a <;> cases b <;> exact kit_ty (by decide +kernel)
section
variable {K : PySem.W.Frag} {W : Wd} {H : Hp} {s : S} {v : V} {d : D}
theorem tyOfD_ok {t : TyN} (r : Rep K W H v d) (h : tyOfD d = some t) : ClsV v (t.v K) := by
  cases d with
  | ty n =>
    cases r
    have h : (BT.of n).map TyN.b = some t := h
    cases e : BT.of n with
    | none => rw [e] at h; cases h
    | some u =>
      rw [e] at h; cases h
      rw [BT.of_nm e]
      exact .ty _
  | glo c => cases h; cases r; exact .own _
  | _ => cases h
theorem tysOf_ok : ∀ {vs : List V} {ds : List D} {ts : List TyN}, Reps K W H vs ds → tysOf ds = some ts → Paired ClsV vs (ts.map (TyN.v K))
  | _, _, _, .nil, h => by cases h; exact .nil
  | _, _, _, .cons r rs, h => by
    unfold tysOf at h
    split at h
    · rename_i e1 e2
      cases h
      exact .cons (tyOfD_ok r e1) (tysOf_ok rs e2)
    · cases h
theorem dk_ty {a : Addr} {kvs : List (Key × V)} (h : (H a).map core = some (.dK kvs)) : TyX K H (.ref a) (.type "dict") := by
  rcases core_dK h with h | ⟨o, h⟩
  · exact .base (.dK h)
  · exact .fDict h
theorem tyD_ok {t : TyN} (R : Rel K W s H) (r : Rep K W H v d) (h : tyD s d = some t) : TyX K H v (t.v K) := by
  cases d with
  | non => cases h; cases r; exact .base .non
  | bl b => cases h; cases r; exact .base (.bl b)
  | int b => cases h; cases r; exact .base (.int b)
  | str b => cases h; cases r; exact .base (.str b)
  | lst xs => cases h; cases r with | lst _ e _ => exact .base (.lst e)
  | xl xs =>
    cases h
    cases r with
    | xl e _ =>
      rcases e with ⟨_, e | ⟨o, e⟩⟩ | e
      · exact .base (.lst e)
      · exact .base (.frz e)
      · rcases e with (e | ⟨o, e⟩) | ⟨o, its, n, e1, e2, _⟩
        · cases e
        · cases e
        · exact .kList e1 e2
  | tup xs => cases h; cases r with | tup _ e _ => exact .base (.tup e)
  | xt xs =>
    cases h
    cases r with
    | xt e _ =>
      rcases e with ⟨_, e⟩ | e
      · exact .base (.tup e)
      · rcases e with (e | ⟨o, e⟩) | ⟨o, its, n, e1, e2, _⟩
        · cases e
        · cases e
        · exact .kTuple e1 e2
  | dic kvs => cases h; cases r with | dK _ e _ => exact dk_ty e
  | obj c fs => cases h; cases r with | obj _ e _ ci _ => exact .base (.ins e ci.cl ci.ha ci.hn ci.ht ci.hm)
  | cell n =>
    cases r with
    | cell hr =>
      have h : (match s n with
        | some (.lst _) => some (TyN.b .lst)
        | some (.dic _) => some (.b .dic)
        | some (.dit _) => some (.b .dic)
        | some (.dicl _ _ _) => some (.b .dic)
        | some (.ins c _) => some (.o c)
        | none => none) = some t := h
      cases e : s n with
      | none => rw [e] at h; cases h
      | some o =>
        rw [e] at h
        obtain ⟨a, h1, _, h2⟩ := R.cells n o e
        rw [hr] at h1; cases h1
        cases o with
        | lst xs => cases h; obtain ⟨vs, q, _⟩ := h2; exact .base (.lst q)
        | dic xs => cases h; obtain ⟨vs, q, _⟩ := h2; exact .base (.dK q)
        | dit xs => cases h; obtain ⟨vs, q, _⟩ := h2; exact .base (.dT q)
        | dicl ob vs xs => cases h; obtain ⟨q, _⟩ := h2; exact .fDict q
        | ins c fs => cases h; obtain ⟨dx, fv, q, _, ci, _⟩ := h2; exact .base (.ins q ci.cl ci.ha ci.hn ci.ht ci.hm)
  | _ => cases h
theorem isaN_ok {tbl : TyN → TyN → Option Bool} (hT : ∀ a b r, tbl a b = some r → PySem.W.kitOne K (a.v K) (b.v K) = some r) {a b : TyN} {r : Bool} (h : isaN tbl a b = some r) : PySem.W.kitOne K (a.v K) (b.v K) = some r := by
  unfold isaN at h
  split at h
  · cases h; exact kit_bt K _ _
  · exact hT _ _ _ h
theorem isaL_ok {tbl : TyN → TyN → Option Bool} (hT : ∀ a b r, tbl a b = some r → PySem.W.kitOne K (a.v K) (b.v K) = some r) {t : TyN} : ∀ {us : List TyN} {r : Bool}, isaL tbl t us = some r → PySem.W.kitAny K (t.v K) (us.map (TyN.v K)) = some r
  | [], r, h => by cases h; exact kitAny_nil
  | u :: us, r, h => by
    unfold isaL at h
    split at h
    · rename_i e
      cases h
      exact kitAny_cons (isaN_ok hT e) (fun z => nomatch z) fun _ => rfl
    · rename_i e
      exact kitAny_cons (isaN_ok hT e) (fun _ => isaL_ok hT h) fun z => nomatch z
    · cases h
end
section
variable {X : Cx}
theorem c_isi {tbl : TyN → TyN → Option Bool} (hT : ∀ a b r, tbl a b = some r → PySem.W.kitOne X.K (a.v X.K) (b.v X.K) = some r) : CallR X (.builtin "isinstance") (lift1 X.K (dIsi tbl)) := CallR.wk (L2.CallR.or call_isi call_isiT) fun vs H Q h => by
  obtain ⟨W, s, ds, Qd, R, rs, h, k⟩ := h
  unfold dIsi at h
  split at h
  · rename_i x y
    obtain ⟨v, u, rfl, rx, ry⟩ := rs.two
    split at h
    · rename_i t us e1 e2
      split at h
      · rename_i b e3
        have tx := tyD_ok R rx e1
        have q := k _ _ W _ H h (Ext.refl W H) R (.bl b)
        have ka := isaL_ok hT e3
        cases y with
        | tup ys =>
          cases ry with
          | tup _ ea rr => exact .inr ⟨v, _, _, _, _, b, rfl, ea, tysOf_ok rr e2, tx, ka, q⟩
        | ty n =>
          cases e4 : tyOfD (.ty n) with
          | none => simp [e4] at e2
          | some w =>
            simp only [e4, Option.map_some, Option.some.injEq] at e2
            subst e2
            have k1 : PySem.W.kitOne X.K (t.v X.K) (w.v X.K) = some b := by
              unfold isaL at e3
              split at e3
              · rename_i e; cases e3; exact isaN_ok hT e
              · rename_i e; cases e3; exact isaN_ok hT e
              · cases e3
            exact .inl ⟨v, u, _, _, b, rfl, tyOfD_ok ry e4, tx, k1, q⟩
        | glo n =>
          cases e4 : tyOfD (.glo n) with
          | none => simp [e4] at e2
          | some w =>
            simp only [e4, Option.map_some, Option.some.injEq] at e2
            subst e2
            have k1 : PySem.W.kitOne X.K (t.v X.K) (w.v X.K) = some b := by
              unfold isaL at e3
              split at e3
              · rename_i e; cases e3; exact isaN_ok hT e
              · rename_i e; cases e3; exact isaN_ok hT e
              · cases e3
            exact .inl ⟨v, u, _, _, b, rfl, tyOfD_ok ry e4, tx, k1, q⟩
        | _ => cases e2
      · exact h.elim
    · exact h.elim
  · exact h.elim
end
end Y


set_option maxHeartbeats 8000000
/-! Y8e: len(set(texts)). -/
namespace Y
open PySem PySem.Spec PySem.Calls PyProof.Rows L2
/-- how many different ones -/
def cntS : List Str → List Str → Nat
  | _, [] => 0
  | seen, x :: r => (if x ∈ seen then 0 else 1) + cntS (x :: seen) r
theorem cntS_snoc (x : Str) : ∀ (l seen : List Str), cntS seen (l ++ [x]) = cntS seen l + if x ∈ seen ∨ x ∈ l then 0 else 1
  | [], seen => by simp [cntS]
  | y :: l, seen => by
    rw [List.cons_append, cntS, cntS, cntS_snoc x l (y :: seen), Nat.add_assoc]
    have e : ((x ∈ y :: seen) ∨ x ∈ l) ↔ (x ∈ seen ∨ x ∈ y :: l) := by
      simp only [List.mem_cons]
      constructor
      · rintro ((h | h) | h) <;> simp [h]
      · rintro (h | h | h) <;> simp [h]
    simp only [e]
theorem cntS_le : ∀ (l seen : List Str), cntS seen l ≤ l.length
  | [], _ => Nat.le_refl _
  | x :: l, seen => by
    have := cntS_le l (x :: seen)
    rw [cntS, List.length_cons]
    split <;> omega
theorem cntS_all : ∀ (l seen : List Str), cntS seen l = l.length ↔ (∀ x ∈ l, x ∉ seen) ∧ l.Nodup
  | [], _ => by simp [cntS]
  | x :: l, seen => by
    have h1 := cntS_le l (x :: seen)
    have h2 := cntS_all l (x :: seen)
    rw [cntS, List.length_cons, List.nodup_cons]
    by_cases hx : x ∈ seen
    · rw [if_pos hx]
      constructor
      · intro h; omega
      · intro h; exact absurd hx (h.1 x (by simp))
    · rw [if_neg hx]
      constructor
      · intro h
        obtain ⟨a, b⟩ := h2.mp (by omega)
        refine ⟨fun y hy => ?_, fun hm => a x hm (by simp), b⟩
        rcases List.mem_cons.mp hy with e | hy
        · rw [e]; exact hx
        · exact fun hs => a y hy (by simp [hs])
      · rintro ⟨a, b, c⟩
        have := h2.mpr ⟨fun y hy hs => ?_, c⟩
        · omega
        · rcases List.mem_cons.mp hs with e | hs
          · rw [e] at hy; exact b hy
          · exact a y (by simp [hy]) hs
section
variable {prog : Program} {w : World} {A : Around} {R : Result → Shared → Prop} {It : Addr} {fp wr : List Addr} {G : Array GenState → Array GenState → Prop} {n : Nat} {P : Nat → Value → Prop} {St : Nat → Shared → Prop}
/-- the loop that fills a set from what is walked, here texts -/
theorem fillT (W : WalksS prog w A.in1 It fp wr G n P St) (D : Addr) (nf : D ∉ fp) (xs : List Str) (len : xs.length = n) (room : n + 1 < scanBound) (val : ∀ i v, P i v → ∃ t, v = .str (xs.getD i Str.empty) t) :
    ∀ (k i : Nat) (s : Shared), n - i = k → i ≤ n → St i s → s.heap.SetOf (PySem.strKind prog w) D (fun z => decide (z ∈ xs.take i)) (cntS [] (xs.take i)) →
      (∀ s', Moved (D :: wr) G s s' → s'.heap.SetOf (PySem.strKind prog w) D (fun z => decide (z ∈ xs)) (cntS [] xs) → R (.ok (.ret .none)) s') → codeAny (model prog w) A (.builtin "set.update.loop" ⟨[.ref D, .ref It], []⟩) R s := by
  have nw : D ∉ wr := fun h => nf (W.sub _ h)
  have up : ∀ b ∈ wr, b ∈ D :: wr := fun b hb => List.mem_cons_of_mem _ hb
  have stay : ∀ {s s' : Shared} {f : Str → Bool} {m : Nat}, Moved wr G s s' → s.heap.SetOf (PySem.strKind prog w) D f m → s'.heap.SetOf (PySem.strKind prog w) D f m := fun hm ⟨o, es, ep, t, ho, q⟩ => ⟨o, es, ep, t, hm.heap D _ nw ho, q⟩
  intro k
  induction k with
  | zero =>
    intro i s hk hi hst hS hR
    obtain rfl : i = n := by omega
    apply codeAny_builtin PyProof.Rows.F.entry_set_update_loop
    rw [Around.under_plainId PyProof.Rows.F.plain_set_update_loop]
    show wpAny _ A.in1 (pyNext (.ref It) >>= _) _ _ s
    apply wpAny_bind
    refine W.done s _ _ hst fun s' hm => ?_
    show wpAny _ A.in1 (ret Value.none) _ _ s'
    rw [List.take_of_length_le (by omega)] at hS
    exact wpAny_pure (hR s' (hm.mono up) (stay hm hS))
  | succ k ih =>
    intro i s hk hi hst hS hR
    have lt : i < n := by omega
    apply codeAny_builtin PyProof.Rows.F.entry_set_update_loop
    rw [Around.under_plainId PyProof.Rows.F.plain_set_update_loop]
    show wpAny _ A.in1 (pyNext (.ref It) >>= _) _ _ s
    apply wpAny_bind
    refine W.item i s _ _ lt hst fun v s' hP hst' hm => ?_
    obtain ⟨t, rfl⟩ := val i v hP
    have hS' := stay hm hS
    show wpAny _ A.in1 (holding [Value.str (xs.getD i Str.empty) t] (setAdd D (.str (xs.getD i Str.empty) t)) >>= _) _ _ s'
    apply wpAny_bind
    apply wpAny_holding
    unfold setAdd
    apply wpAny_holding
    apply wpAny_bind
    refine (PySem.strKind prog w).pyHash (k := xs.getD i Str.empty) (strKind_is _ _ _ _) ?_
    have few : cntS [] (xs.take i) + 1 < scanBound := by
      have := cntS_le (xs.take i) []
      rw [List.length_take] at this
      omega
    refine wpAny_setAddHashed_of (knd := PySem.strKind prog w) (s := { s' with toks := s'.toks + 1 }) (strKind_is _ _ _ _) rfl hS' few fun h' sb hS2 => ?_
    have ex : xs.take (i + 1) = xs.take i ++ [xs.getD i Str.empty] := by
      rw [List.take_add_one, List.getElem?_eq_getElem (by omega), List.getD_eq_getElem?_getD, List.getElem?_eq_getElem (by omega)]
      rfl
    have hS3 : h'.SetOf (PySem.strKind prog w) D (fun z => decide (z ∈ xs.take (i + 1))) (cntS [] (xs.take (i + 1))) := by
      refine SetOf_congr hS2 (fun z => ?_) ?_
      · rw [ex]; simp [List.mem_append]
      · rw [ex, cntS_snoc]
        generalize xs.getD i Str.empty = z
        by_cases hm : z ∈ xs.take i
        · simp [hm]
        · simp [hm]
    have oth : ∀ b o, b ≠ D → s'.heap.get? b = some o → h'.get? b = some o := fun b o hb e => (sb.2 b hb).trans e
    refine wpAny_pure ⟨plainId_quiet PyProof.Rows.F.plain_set_update_loop _, ih (i + 1) _ (by omega) lt (W.frame _ s' _ _ hst' (Nat.le_succ _) fun b hb o e => oth b o (fun z => nf (z ▸ hb)) e) hS3 fun s'' hm2 hS4 => ?_⟩
    exact hR s'' (Moved.trans W.gtrans ((hm.mono up).then_heap (Nat.le_succ _) fun b o hb e => oth b o (fun z => hb (z ▸ List.mem_cons_self)) e) hm2) hS4
end
section
variable {prog : Program} {w : World} {A : Around} {E : Value → Shared → Prop} {s : Shared}
/-- set(xs), xs a list or a tuple of texts -/
theorem call_setT {l : Addr} {items : Array Value} {xs : List Str} {Q : Value → Shared → Prop} (calm : A.handled = none) (hl : s.heap.IsList l items ∨ s.heap.IsTuple l items) (hi : StrsAre items.toList xs) (hn : xs.length + 1 < scanBound)
    (h : ∀ (h' : Heap) (tk : Nat), h'.SetOf (PySem.strKind prog w) s.heap.objs.size (fun z => decide (z ∈ xs)) (cntS [] xs) → (∀ b o, b < s.heap.objs.size → s.heap.get? b = some o → h'.get? b = some o) → Q (.ref s.heap.objs.size) { s with heap := h', toks := tk }) :
    wpAny (model prog w) A (call (.type "set") [.ref l]) Q E s := by
  obtain ⟨_, _, isMro⟩ := PySem.F.called_set.mro
  have isMade := PySem.F.called_set.made
  have isSub := PySem.F.called_set.sub
  apply wpAny_call
  apply codeAny_of_tree
  show wpAny _ _ (callAny (.type "set") _) _ _ _
  refine wpAny_pure ⟨Code.quiet_builtin _ (by decide +kernel), codeAny_builtin PySem.F.entry_type_call ?_⟩
  rw [Around.under_plain (weight_type_call_type "set" [.ref l] []) rfl]
  have n1 := PySem.F.called_set.notType
  have n2 := PySem.F.called_set.canCreate
  have n3 := PySem.F.typeCall_set_1 (.ref l)
  repeat (any_goals (first | assumption | wp_step))
  refine codeAny_mono (code_set_new_1 (.ref l) (E := E) (Q₁ := fun obj t => ∃ led : Bool, obj = .ref s.heap.objs.size ∧ t = { s with heap := s.heap.push { cls := .type "set", dict := none, data := .set #[] 0 (.fresh 0 0 led) } }) fun led => ⟨led, rfl, rfl⟩) ?_
  intro r t hr
  match r, hr with
  | .error e, hr => exact hr
  | .ok (.ret obj), hr =>
    obtain ⟨led, rfl, rfl⟩ := hr
    generalize eN : ({ cls := .type "set", dict := none, data := .set #[] 0 (.fresh 0 0 led) } : Obj) = newS
    have gS : (s.heap.push newS).get? s.heap.objs.size = some newS := Heap.get?_push_size _ (by rw [← eN]; rfl)
    have tS : Shared.TypeIs { s with heap := s.heap.push newS } (.ref s.heap.objs.size) "set" := ⟨_, gS, by rw [← eN]⟩
    have i1 := PySem.F.called_set.init.lookup
    have i2 := PySem.F.called_set.init.bind (.ref s.heap.objs.size)
    repeat (any_goals (first | assumption | wp_step))
    refine codeAny_mono (codeAny_call_builtin (R := wants (fun r t => r = .none ∧ ∃ h' tk, t = { s with heap := h', toks := tk } ∧ h'.SetOf (PySem.strKind prog w) s.heap.objs.size (fun z => decide (z ∈ xs)) (cntS [] xs) ∧ ∀ b o, b < s.heap.objs.size → s.heap.get? b = some o → h'.get? b = some o) E)
      PySem.F.called_set.init.plain PySem.F.entry_set_init (check_set_init_1 tS ?_)) ?_
    · have lS : l < s.heap.objs.size := by
        rcases hl with ⟨o, e, _⟩ | ⟨o, e, _⟩
        · exact Heap.lt_size e
        · exact Heap.lt_size e
      have calm3 : A.in1.in1.in1.handled = none := by simp [calm]
      have sz1 : (s.heap.push newS).objs.size = s.heap.objs.size + 1 := Heap.size_push _ _
      have lI : l ≠ (s.heap.push newS).objs.size := by rw [sz1]; exact Nat.ne_of_lt (Nat.lt_succ_of_lt lS)
      have nS : s.heap.objs.size ∉ [(s.heap.push newS).objs.size, l] := by
        rw [sz1]
        simp only [List.mem_cons, List.not_mem_nil, or_false, not_or]
        exact ⟨Nat.ne_of_lt (Nat.lt_succ_self _), Nat.ne_of_gt lS⟩
      have cnt : xs.length = items.size := by rw [← StrsAre.len_eq hi, Array.length_toList]
      have vals : ∀ (i : Nat) (v : Value), items[i]? = some v → ∃ t, v = .str (xs.getD i Str.empty) t := fun i v hv => SS.strs_at hi i v (by rw [Array.getElem?_toList]; exact hv)
      have start : ∀ o : Obj, ((s.heap.push newS).push o).SetOf (PySem.strKind prog w) s.heap.objs.size (fun z => decide (z ∈ xs.take 0)) (cntS [] (xs.take 0)) := fun o => by
        have g2 : ((s.heap.push newS).push o).get? s.heap.objs.size = some { cls := .type "set", dict := none, data := .set #[] 0 (.fresh 0 0 led) } := by rw [eN]; exact Heap.get?_push_of_some _ gS
        exact PyProof.Rows.SetOf_congr ((PyProof.Rows.setObjOf_fresh (knd := PySem.strKind prog w) led).setOf g2 (by unfold scanBound; omega)) (fun z => by simp) (by simp [cntS])
      have away : ∀ b : Addr, b < s.heap.objs.size → b ∉ s.heap.objs.size :: [(s.heap.push newS).objs.size] := fun b hb z => by
        rw [sz1] at z
        rcases List.mem_cons.mp z with z | z
        · exact Nat.ne_of_lt hb z
        · exact Nat.ne_of_lt (Nat.lt_succ_of_lt hb) (List.mem_singleton.mp z)
      subst eN
      rcases hl with ⟨ob, g, hc, m, hd⟩ | ⟨ob, g, hc, m, hd⟩
      · obtain ⟨oc, od, dt, os⟩ := ob
        simp only at hc hd
        subst hc hd
        have g2 : (s.heap.push ({ cls := .type "set", dict := none, data := .set #[] 0 (.fresh 0 0 led) } : Obj)).get? l = some { cls := .type "list", dict := od, data := .seq items m, slots := os } := Heap.get?_push_of_some _ g
        have f1 := PySem.F.sub_list_set
        have f2 := PySem.F.sub_list_frozenset
        have f3 : (Value.type "list" == Value.type "dict") = false := by decide
        have isl : (s.heap.push ({ cls := .type "set", dict := none, data := .set #[] 0 (.fresh 0 0 led) } : Obj)).IsList l items := ⟨_, g2, rfl, m, rfl⟩
        unfold Builtin.«set.__init__» noKeywords Builtin.Frozenset.updateFrom
        generalize ePI : pyIter = PI
        wp_walk
        subst ePI
        apply wpAny_pyIter_list isl
        apply wpAny_bind
        apply wpAny_runValue
        refine fillT ((Walks.list calm3 _ l lI items).toS) s.heap.objs.size nS xs cnt (by omega) vals (items.size - 0) 0 _ (by omega) (Nat.zero_le _) ⟨⟨_, Heap.get?_push_size _ rfl, rfl, rfl⟩, isl.push _⟩ (start _) ?_
        rintro ⟨h', g', d', tk', os'⟩ hm hS'
        obtain rfl : g' = s.gens := hm.gens
        obtain rfl : d' = s.drawn := hm.drawn
        obtain rfl : os' = s.os := hm.os
        show wpAny _ _ _ _ _ _
        apply wpAny_pure
        show wpAny _ _ (ret Value.none) _ _ _
        refine wpAny_pure ⟨rfl, h', tk', rfl, hS', fun b o hb e => hm.heap b o (away b hb) (Heap.get?_push_of_some _ (Heap.get?_push_of_some _ e))⟩
      · obtain ⟨oc, od, dt, os⟩ := ob
        simp only at hc hd
        subst hc hd
        have g2 : (s.heap.push ({ cls := .type "set", dict := none, data := .set #[] 0 (.fresh 0 0 led) } : Obj)).get? l = some { cls := .type "tuple", dict := od, data := .seq items m, slots := os } := Heap.get?_push_of_some _ g
        have f1 := PySem.F.sub_tuple_set
        have f2 := PySem.F.sub_tuple_frozenset
        have f3 : (Value.type "tuple" == Value.type "dict") = false := by decide
        have isl : (s.heap.push ({ cls := .type "set", dict := none, data := .set #[] 0 (.fresh 0 0 led) } : Obj)).IsTuple l items := ⟨_, g2, rfl, m, rfl⟩
        unfold Builtin.«set.__init__» noKeywords Builtin.Frozenset.updateFrom
        generalize ePI : pyIter = PI
        wp_walk
        subst ePI
        apply wpAny_pyIter_tuple isl
        apply wpAny_bind
        apply wpAny_runValue
        refine fillT ((Walks.tuple calm3 _ l lI items).toS) s.heap.objs.size nS xs cnt (by omega) vals (items.size - 0) 0 _ (by omega) (Nat.zero_le _) ⟨⟨_, Heap.get?_push_size _ rfl, rfl, rfl⟩, isl.push _⟩ (start _) ?_
        rintro ⟨h', g', d', tk', os'⟩ hm hS'
        obtain rfl : g' = s.gens := hm.gens
        obtain rfl : d' = s.drawn := hm.drawn
        obtain rfl : os' = s.os := hm.os
        show wpAny _ _ _ _ _ _
        apply wpAny_pure
        show wpAny _ _ (ret Value.none) _ _ _
        refine wpAny_pure ⟨rfl, h', tk', rfl, hS', fun b o hb e => hm.heap b o (away b hb) (Heap.get?_push_of_some _ (Heap.get?_push_of_some _ e))⟩
    · intro r2 t2 hr2
      match r2, hr2 with
      | .error e, hr2 => exact hr2
      | .ok (.ret r), hr2 =>
        obtain ⟨rfl, h', tk, rfl, hS', keep⟩ := hr2
        repeat (any_goals (first | assumption | wp_step))
        exact h _ _ hS' keep
      | .ok .next, hr2 => exact hr2.elim
      | .ok .brk, hr2 => exact hr2.elim
      | .ok .cont, hr2 => exact hr2.elim
  | .ok .next, hr => exact hr.elim
  | .ok .brk, hr => exact hr.elim
  | .ok .cont, hr => exact hr.elim
end
end Y


/-! Y8f: enumerate of tuples. -/
namespace Y
open PySem PySem.Spec PySem.Calls PyProof.Rows L2
open AutoSeq1 (wpAny_loadPart')
theorem meets_enumT (l : Addr) (items : Array Value) (n : Nat) (dct : Option Addr) (sl : Array (Option Value)) :
    Meets (Builtin.«enumerate.__new__» ⟨[.type "enumerate", .ref l], []⟩) (fun _ R s => s.heap.get? l = some { cls := .type "tuple", dict := dct, data := .seq items n, slots := sl } ∧ R (.ok (.ret (.ref (s.heap.push { cls := .type "tuple_iterator", data := .fields #[.ref l, .int 0 0] }).objs.size)))
        { s with heap := (s.heap.push { cls := .type "tuple_iterator", data := .fields #[.ref l, .int 0 0] }).push { cls := .type "enumerate", data := .fields #[.none, .bool false, .ref s.heap.objs.size, rawInt 0, .none, .none] } }) := .of_wp fun prog w A R s h => by
  obtain ⟨hp, g, d, tk, os⟩ := s
  obtain ⟨hl, h⟩ := h
  have isSub := sub_enumerate
  have isT : Heap.IsTuple (Shared.heap ⟨hp, g, d, tk, os⟩) l items := ⟨_, hl, rfl, n, rfl⟩
  wp_walk using wpAny_loadPart' hl
  refine wpAny_stack_any fun st => wpAny_pure ?_
  split
  · rename_i c _ _ _ _ _
    cases (c == Value.type "enumerate") <;> (wp_walk using wpAny_loadPart' hl, wpAny_pyIter_tuple isT; exact ⟨_, rfl, h⟩)
  · wp_walk using wpAny_loadPart' hl, wpAny_pyIter_tuple isT; exact ⟨_, rfl, h⟩
section
variable {prog : Program} {w : World} {A : Around} {E : Value → Shared → Prop} {s : Shared}
theorem call_enumT {l : Addr} {items : Array Value} {Q : Value → Shared → Prop} (hT : s.heap.IsTuple l items)
    (h : ∀ h', IsEnum h' (s.heap.objs.size + 1) s.heap.objs.size 0 .none → h'.IsTupleIter s.heap.objs.size l 0 → (∀ b o, s.heap.get? b = some o → h'.get? b = some o) → Q (.ref (s.heap.objs.size + 1)) { s with heap := h' }) :
    wpAny (model prog w) A (call (.type "enumerate") [.ref l]) Q E s := by
  obtain ⟨⟨c, dct, dt, sl⟩, hl, hc, n, hd⟩ := hT
  replace hc : c = .type "tuple" := hc
  replace hd : dt = .seq items n := hd
  subst hc hd
  refine callType_new F.called_enumerate (by decide) (F.typeCall_enumerate_1 _) (F.newCall_enumerate_1 _) (fun obj => F.args_object_init_2 obj _) F.entry_enumerate_new (meets_enumT l items n dct sl) ⟨hl, ?_⟩
  generalize eI : ({ cls := .type "tuple_iterator", data := .fields #[.ref l, .int 0 0] } : Obj) = oI
  have z1 : (s.heap.push oI).objs.size = s.heap.objs.size + 1 := Heap.size_push _ _
  show _ ∧ _
  rw [z1]
  have e1 : IsEnum ((s.heap.push oI).push { cls := .type "enumerate", data := .fields #[.none, .bool false, .ref s.heap.objs.size, rawInt 0, .none, .none] }) (s.heap.objs.size + 1) s.heap.objs.size 0 .none := by
    have q := Heap.get?_push_size (s.heap.push oI) (o := { cls := .type "enumerate", data := .fields #[.none, .bool false, .ref s.heap.objs.size, rawInt 0, .none, .none] }) rfl
    rwa [z1] at q
  have e2 : (s.heap.push oI).get? s.heap.objs.size = some oI := Heap.get?_push_size _ (by rw [← eI]; rfl)
  exact ⟨⟨_, e1, rfl⟩, h _ e1 ⟨_, Heap.get?_push_of_some _ e2, by rw [← eI], by rw [← eI]; rfl⟩ fun b o x => Heap.get?_push_of_some _ (Heap.get?_push_of_some _ x)⟩
end
theorem enum_endT {prog : Program} {w : World} {A : Around} {E : Value → Shared → Prop} {s : Shared} {e it t : Addr} {i : Nat} {k : Int} {items : Array Value} {old : Value} {Q : Option Value → Shared → Prop} (calm : A.handled = none) (he : IsEnum s.heap e it k old) (hit : s.heap.IsTupleIter it t i)
    (ht : s.heap.IsTuple t items) (hx : items[i]? = none) (h : ∀ h', Heap.ExtBut it s.heap h' → Q none { s with heap := h' }) : wpAny (model prog w) A (pyNext (.ref e)) Q E s := by
  have tE : s.TypeIs (.ref e) "enumerate" := ⟨_, he, rfl⟩
  have calm1 : A.in1.handled = none := by simpa using calm
  unfold pyNext
  apply wpAny_bind
  apply wpAny_attempt
  refine wpAny_callSpecial?_slot (name := Str.ofString "__next__") tE F.slot_enumerate_next (wpAny_call_entry F.slot_enumerate_next tE F.entry_enumerate_next ?_ (F.args_enumerate_next_1 _))
  show wpAny _ _ (field (.ref e) 2 >>= _) _ _ _
  apply wpAny_bind
  refine wpAny_field he rfl (x := .ref it) rfl ?_
  apply wpAny_bind
  refine wpAny_nextOf_tuple_end calm1 hit ht hx fun h' x ext hx' => ?_
  obtain ⟨o, ho, hc⟩ := hx'
  apply wpAny_bind
  refine wpAny_isInstance (T := "StopIteration") (b := true) ⟨o, ho, hc⟩ isSubtype_stop ?_
  exact wpAny_pure (h _ ext)
/-- the items of a tuple, each in a new pair -/
def IteT (K : PySem.W.Frag) (a : Addr) : It :=
  ⟨fun i H => ∃ xs : List V, SqT K H a xs ∧ i < xs.length, fun i H v H' => ∃ T x, v = .ref T ∧ H T = none ∧ H' = upd H T (.tup [.int (i : Nat), x]) ∧ ∀ xs, SqT K H a xs → xs[i]? = some x, fun i H => ∃ xs : List V, SqT K H a xs ∧ xs.length ≤ i⟩
theorem turn_enumT {P : Program} {w : World} {K : PySem.W.Frag} {elts : List Expr} {kk : Nat} {tpos : Pos} (a e it : Addr) :
    Turn P w K (.Tuple elts kk tpos) (IteT K a) [e, it] e (fun i h => (∃ old, IsEnum h e it ((i : Nat) : Int) old) ∧ h.IsTupleIter it a i ∧ e ≠ it) where
  mem := by simp
  obj := by
    rintro i h ⟨⟨old, he⟩, ⟨o, ho, hc, hd⟩, _⟩ b hb
    rcases List.mem_cons.mp hb with z | z
    · subst z; exact ⟨_, he, fun v q => nomatch q⟩
    · rw [List.mem_singleton.mp z]
      exact ⟨o, ho, fun v q => by rw [hd] at q; cases q⟩
  keep := by
    rintro i h h' ⟨⟨old, he⟩, hi, hne⟩ k
    exact ⟨⟨old, k e (by simp) _ he⟩, hi.at fun o q => k it (by simp) o q, hne⟩
  item := by
    intro X hP hw hK hc i pins s σ H E I hf st hg
    subst hP hw hK
    obtain ⟨⟨old, he⟩, hit, hne⟩ := st
    obtain ⟨xs, hq, hx⟩ := hg
    obtain ⟨its, rv, isT, hz⟩ := I.tuple hq
    have isT' : s.heap.IsTuple a its.toArray := isT
    have lv := rv.length
    have el : e < s.heap.objs.size := Heap.lt_size he
    have il : it < s.heap.objs.size := by obtain ⟨_, q, _⟩ := hit; exact Heap.lt_size q
    have ta : it ≠ a := by
      rintro rfl
      obtain ⟨o1, g1, c1, _⟩ := hit
      obtain ⟨o2, g2, c2, _⟩ := isT'
      rw [g1] at g2; cases g2
      rw [c1] at c2
      exact absurd c2 (by decide)
    have ea : e ≠ a := by
      rintro rfl
      obtain ⟨o2, g2, c2, _⟩ := isT'
      rw [show s.heap.get? e = _ from he] at g2; cases g2
      exact absurd (show Value.type "enumerate" = Value.type "tuple" from c2) (by decide)
    refine wpAny_pyNext_enum_itemD (Draws.tuple (A := X.A.in1) (by simpa using I.ok.hd hc) it a ta.symm its.toArray) he ⟨hit, isT'⟩ (by simp; omega) hne (by simp [hne, ea]) fun u h' tk hu ho st' hT hsz hk => ?_
    refine ⟨_, rfl, wpAny_letOwnedTupleGo_enum (s := { s with heap := h', toks := tk + 1 }) ho fun h'' he' sb => ?_⟩
    obtain ⟨x, hx2⟩ : ∃ x, xs[i]? = some x := ⟨_, List.getElem?_eq_getElem hx⟩
    obtain ⟨u', hu', ru⟩ := rv.get hx2
    have eu : u = u' := by
      have q : its.toArray[i]? = some u := hu
      rw [List.getElem?_toArray, hu'] at q
      exact (Option.some.inj q).symm
    subst eu
    have hT2 : h''.get? s.heap.objs.size = some { cls := .type "tuple", data := .seq #[.int i tk, u] } := (sb.2 _ (Nat.ne_of_gt el)).trans hT
    have new : ObjOk X.prog X.w (upd H s.heap.objs.size (.tup [.int (i : Nat), x])) h'' s.heap.objs.size (.tup [.int (i : Nat), x]) := ⟨by show 2 ≤ sizeLine; decide, [.int i tk, u], .cons ⟨_, rfl⟩ (.cons ru .nil), ⟨_, hT2, rfl, _, rfl⟩⟩
    have oth : ∀ b ob, b ∉ [e, it] → s.heap.get? b = some ob → h''.get? b = some ob := fun b ob hb q => by
      have h1 : b ≠ e := fun z => hb (by simp [z])
      have h2 : b ≠ it := fun z => hb (by simp [z])
      exact (sb.2 b h1).trans (hk b ob h1 h2 q)
    have I1 : Inv X pins σ (upd H s.heap.objs.size (.tup [.int (i : Nat), x])) { s with heap := h'', toks := tk + 1 } := I.turnedNew (ch := [e, it]) oth hf (Nat.le_refl _) new
    refine ⟨.ref s.heap.objs.size, _, I1, rfl, ⟨_, x, rfl, I.hok.fresh (Nat.le_refl _), rfl, fun ys hy => by rw [I.tuple_inj hy hq]; exact hx2⟩, ⟨⟨u, ?_⟩, st'.1.at fun o q => (sb.2 it (Ne.symm hne)).trans q, hne⟩, fun b hb => ?_⟩
    · rw [show ((i + 1 : Nat) : Int) = (i : Int) + 1 by omega]
      exact he'
    · have lb : b < s.heap.objs.size := by
        rcases List.mem_cons.mp hb with z | z
        · rw [z]; exact el
        · rw [List.mem_singleton.mp z]; exact il
      rw [upd_ne (Nat.ne_of_lt lb)]
      exact (hf b hb).1
  done := by
    intro X hP hw hK hc i pins s σ H E I hf st hg
    subst hP hw hK
    obtain ⟨⟨old, he⟩, hit, hne⟩ := st
    obtain ⟨xs, hq, hx⟩ := hg
    obtain ⟨its, rv, isT, hz⟩ := I.tuple hq
    have isT' : s.heap.IsTuple a its.toArray := isT
    obtain ⟨f0, f1, f2, f3, f4, f5⟩ := hf it (by simp)
    have lv := rv.length
    exact enum_endT (I.ok.hd hc) he hit isT' (by simp; omega) fun h' eb => ⟨rfl, I.turned (t' := s.toks) (fun b o hb q => eb b o hb q) f0 f1 f3 f4 f5⟩
  self := fun A i s Q E st h => let ⟨⟨_, he⟩, _⟩ := st; wpAny_pyIter_enum he h
/-- enumerate of a list, of a tuple -/
def dItEn2 (r : DTA) : DTI := fun e s R => r e s fun ds s1 => match ds with
  | [d] => (match seqL s1 d with
    | some xs => R (fun s => seqL s d = some xs) (enumD xs) s1
    | none => (match seqT d with
      | some xs => R (fun _ => True) (enumD xs) s1
      | none => False))
  | _ => False
section
variable {X : Cx} {L : Lk} {a : Expr} {r : DTA} {pos p tpos : Pos} {elts : List Expr} {kk : Nat}
def iEnum2 (K : PySem.W.Frag) (ta : TA) : TI := fun σ H R => ta σ H fun vs H1 => ∃ a xs, vs = [.ref a] ∧ ((SqL K H1 a xs ∧ R (Ite K a) H1) ∨ (SqT K H1 a xs ∧ R (IteT K a) H1))
theorem pi_enum2 {ta : TA} (hg : Gl X "enumerate") (hm : X.mg "enumerate" = none) (ha : PA X [a] ta) (hs : starEach [a] X.env = [(false, eval a X.env)]) : PI X (.Tuple elts kk tpos) (.Call (.Name "enumerate" p) [a] [] pos) (iEnum2 X.K ta) := by
  constructor
  intro pins s σ H R I h
  refine Call_ (ld_blt I hg hm boot_enumerate (PyProof.Rows.callWith_type1 (thn (ha.run pos pins s σ H _ I h) ?_) hs rfl))
  rintro us s1 ⟨vs, H1, I1, r1, b, xs, rfl, q⟩
  obtain ⟨u, rfl, ru⟩ : ∃ u, us = [u] ∧ RelV (.ref b) u := by
    cases r1 with
    | cons x y => cases y; exact ⟨_, rfl, x⟩
  obtain rfl : u = Value.ref b := ru
  have place : ∀ c, c ∈ [s1.heap.objs.size + 1, s1.heap.objs.size] → s1.heap.objs.size ≤ c := fun c hc => by
    rcases List.mem_cons.mp hc with z | z
    · rw [z]; exact Nat.le_succ _
    · rw [List.mem_singleton.mp z]; exact Nat.le_refl _
  rcases q with ⟨hq, q⟩ | ⟨hq, q⟩
  · obtain ⟨its, rv, pl, hz⟩ := I1.list hq
    refine call_enumerate_list pl.isList fun h' he hit hsz hk => wpAny_pyIter_enum he ?_
    have I2 : Inv X pins σ H1 { s1 with heap := h' } := I1.kept (t' := s1.toks) hk
    exact ⟨s1.heap.objs.size + 1, [s1.heap.objs.size + 1, s1.heap.objs.size], _, _, H1, rfl, I2, turn_enum b (s1.heap.objs.size + 1) s1.heap.objs.size, ⟨⟨.none, he⟩, hit, Nat.succ_ne_self _⟩, fun c hc => I1.fpOk (place c hc) (I1.hok.fresh (place c hc)), q⟩
  · obtain ⟨its, rv, pl, hz⟩ := I1.tuple hq
    refine call_enumT (show s1.heap.IsTuple b its.toArray from pl) fun h' he hit hk => wpAny_pyIter_enum he ?_
    have I2 : Inv X pins σ H1 { s1 with heap := h' } := I1.kept (t' := s1.toks) hk
    exact ⟨s1.heap.objs.size + 1, [s1.heap.objs.size + 1, s1.heap.objs.size], _, _, H1, rfl, I2, turn_enumT b (s1.heap.objs.size + 1) s1.heap.objs.size, ⟨⟨.none, he⟩, hit, Nat.succ_ne_self _⟩, fun c hc => I1.fpOk (place c hc) (I1.hok.fresh (place c hc)), q⟩
theorem di_enum2 (hg : Gl X "enumerate") (hm : X.mg "enumerate" = none) (ha : PA X [a] (liftA X.K L r)) (hs : starEach [a] X.env = [(false, eval a X.env)]) : PI X (.Tuple elts kk tpos) (.Call (.Name "enumerate" p) [a] [] pos) (liftI X.K L (dItEn2 r)) := (pi_enum2 hg hm ha hs).wk fun σ H R h => by
  obtain ⟨W, e, sd, Rd, st, q, k⟩ := h
  refine ⟨W, e, sd, _, st, q, fun ds s1 W1 vs H1 q1 x1 R1 rs => ?_⟩
  split at q1
  · rename_i d
    obtain ⟨v, rfl, rv⟩ := rs.one
    have item : ∀ {xs : List D} {i : Nat} {dd : D}, (enumD xs)[i]? = some dd → ∃ z, xs[i]? = some z ∧ dd = .tup [.int (i : Nat), z] := fun {xs i dd} hd => by
      unfold enumD at hd
      rw [List.getElem?_mapIdx] at hd
      cases e3 : xs[i]? with
      | none => rw [e3] at hd; cases hd
      | some z => rw [e3] at hd; exact ⟨z, rfl, (Option.some.inj hd).symm⟩
    have len : ∀ xs : List D, (enumD xs).length = xs.length := fun xs => List.length_mapIdx
    split at q1
    · rename_i xs e1
      obtain ⟨l, us, rfl, h1, h2⟩ := seqL_ok R1 rv e1
      refine ⟨l, us, rfl, .inl ⟨h1, k _ _ _ _ _ _ q1 x1 R1 fun i W s H sub Rr ok => ?_⟩⟩
      obtain ⟨l', us', e2, g1, g2⟩ := seqL_ok Rr (rv.sub sub) ok
      cases e2
      refine ⟨fun dd hd => ?_, fun hl => ⟨us', g1, by rw [len] at hl; rw [g2.length]; exact hl⟩⟩
      obtain ⟨z, e3, rfl⟩ := item hd
      obtain ⟨y, hy, ry⟩ := g2.get e3
      refine ⟨⟨us', y, g1, hy⟩, ?_⟩
      rintro w H' ⟨T, y2, rfl, hT, rfl, hz⟩
      exact ⟨_, Ext.add Rr hT, Rel.add Rr hT, new_tup Rr hT (.cons (.int _) (.cons (g2.drawn (hz us' g1) e3) .nil))⟩
    · split at q1
      · rename_i xs e1
        obtain ⟨l, us, rfl, h1, h2⟩ := seqT_ok rv e1
        refine ⟨l, us, rfl, .inr ⟨h1, k _ _ _ _ _ _ q1 x1 R1 fun i W s H sub Rr ok => ?_⟩⟩
        obtain ⟨l', us', e2, g1, g2⟩ := seqT_ok (rv.sub sub) e1
        cases e2
        refine ⟨fun dd hd => ?_, fun hl => ⟨us', g1, by rw [len] at hl; rw [g2.length]; exact hl⟩⟩
        obtain ⟨z, e3, rfl⟩ := item hd
        obtain ⟨y, hy, ry⟩ := g2.get e3
        refine ⟨⟨us', g1, (List.getElem?_eq_some_iff.mp hy).1⟩, ?_⟩
        rintro w H' ⟨T, y2, rfl, hT, rfl, hz⟩
        exact ⟨_, Ext.add Rr hT, Rel.add Rr hT, new_tup Rr hT (.cons (.int _) (.cons (g2.drawn (hz us' g1) e3) .nil))⟩
      · exact q1.elim
  · exact q1.elim
end
end Y


/-! Y8g: len(set(..)), locked dicts, walks over dicts, dicts into lists, dicts of pairs. -/
namespace Y
open PySem PySem.Spec PySem.Calls PyProof.Rows L2
section
variable {X : Cx} {L : Lk} {a b c o f : Expr} {te ta tb : DTE} {r : DTA} {pos p p2 q apos cpos tpos : Pos} {es elts : List Expr} {kk : Nat} {x : Str} {t : DTS}
/-! ### len(set(..)) -/
def dLenSet (ta : DTE) : DTE := fun e s Q => ta e s fun d s1 => match seqQ s1 d with
  | some xs => (match strsD xs with
    | some ys => ys.length + 1 < scanBound ∧ Q (.int (cntS [] ys)) s1
    | none => False)
  | none => False
def tLenSetT (K : PySem.W.Frag) (ta : TE) : TE := fun σ H Q => ta σ H fun x H1 => ∃ (l : Addr) (xs : List Str), x = .ref l ∧ (SqL K H1 l (xs.map V.str) ∨ SqT K H1 l (xs.map V.str)) ∧ xs.length + 1 < scanBound ∧ Q (.int (cntS [] xs)) H1
theorem pe_lenSetT {ta : TE} (hc : X.calm = true) (hg : Gl X "len") (hm : X.mg "len" = none) (hg2 : Gl X "set") (hm2 : X.mg "set" = none) (ha : PE X a ta) (na : starEach [a] X.env = (false, eval a X.env) :: starEach [] X.env) :
    PE X (.Call (.Name "len" p) [.Call (.Name "set" p2) [a] [] q] [] pos) (tLenSetT X.K ta) := by
  constructor
  intro pins s σ H Q I h
  refine Call_ (ld_blt I hg hm boot_len ?_)
  refine PyProof.Rows.callWith_builtin1 (PyProof.Rows.args_cons ?_ rfl) rfl rfl
  refine Call_ (ld_blt I hg2 hm2 boot_set ?_)
  refine PyProof.Rows.callWith_type1 (PyProof.Rows.args_cons (thn (ha.run pins s σ H _ I h) ?_) na) na rfl
  rintro v s1 ⟨x, H1, I1, r1, l, xs, rfl, hq, hn, q1⟩
  refine PyProof.Rows.args_nil ?_
  obtain rfl : v = Value.ref l := r1
  have fin : ∀ (items : Array Value), StrsAre items.toList xs → (s1.heap.IsList l items ∨ s1.heap.IsTuple l items) →
      wpAny (model X.prog X.w) X.A (call (.type "set") [.ref l]) (fun y s2 => wpAny (model X.prog X.w) X.A (spliced (backTo pos (starEach [] X.env))) (fun vs s3 => wpAny (model X.prog X.w) X.A (call (.builtin "len") (y :: vs)) (EP X pins σ Q) X.xe s3) X.xe s2) X.xe s1 := fun items hi hl => by
    refine call_setT (I1.ok.hd hc) hl hi hn fun h' tk hS keep => ?_
    refine PyProof.Rows.args_nil ?_
    obtain ⟨o, es, ep, t, ho, hex, hd, _, _, hb, hf, hcnt⟩ := hS
    have I2 : Inv X pins σ H1 { s1 with heap := h', toks := tk } := I1.kept fun b o e => keep b o (Heap.lt_size e) e
    have le := cntS_le xs []
    refine call_len_set ho hex hd hf (by rw [hcnt]; unfold scanBound at hn; omega) ⟨.int (cntS [] xs), H1, I2.tok _, ⟨_, by rw [hcnt]⟩, q1⟩
  rcases hq with hq | hq
  · obtain ⟨its, r, pl, hz⟩ := I1.list hq
    exact fin its.toArray (by simpa using strsAre_of r) (.inl pl.isList)
  · obtain ⟨its, r, pl, hz⟩ := I1.tuple hq
    exact fin its.toArray (by simpa using strsAre_of r) (.inr pl)
theorem de_lenset (hc : X.calm = true) (hg : Gl X "len") (hm : X.mg "len" = none) (hg2 : Gl X "set") (hm2 : X.mg "set" = none) (ha : PE X a (lift X.K L ta)) (na : starEach [a] X.env = (false, eval a X.env) :: starEach [] X.env) :
    PE X (.Call (.Name "len" p) [.Call (.Name "set" p2) [a] [] q] [] pos) (lift X.K L (dLenSet ta)) := (pe_lenSetT hc hg hm hg2 hm2 ha na).wk fun σ H Q h => by
  obtain ⟨W, e, s, Qd, st, t, k⟩ := h
  refine ⟨W, e, s, _, st, t, fun d s1 W1 v H1 q x R p => ?_⟩
  split at q
  · rename_i xs e1
    split at q
    · rename_i ys e2
      obtain ⟨l, vs, rfl, h1, h2⟩ := seqQ_ok R p e1
      obtain rfl := strsD_V h2 e2
      exact ⟨l, ys, rfl, h1, q.1, k _ _ _ _ _ q.2 x R (.int _)⟩
    · exact q.elim
  · exact q.elim
/-! ### a dict that is not changed meanwhile -/
def lkE (Dd : DEnds) (n : Nat) (ob : Obj) (vs : List (Key × V)) (kvs : List (D × D)) : DEnds :=
  { nx := fun e s => s n = some (.dicl ob vs kvs) ∧ Dd.nx e (s.set n (.dic kvs)), rt := fun d s => s n = some (.dicl ob vs kvs) ∧ Dd.rt d (s.set n (.dic kvs)),
    bk := fun e s => s n = some (.dicl ob vs kvs) ∧ Dd.bk e (s.set n (.dic kvs)), ct := fun e s => s n = some (.dicl ob vs kvs) ∧ Dd.ct e (s.set n (.dic kvs)) }
theorem lock_ok {K : PySem.W.Frag} {W : Wd} {H : Hp} {s : S} {n : Nat} {a : Addr} {ob : Obj} {vs : List (Key × V)} {kvs : List (D × D)} (R : Rel K W s H) (hn : s n = some (.dic kvs)) (ha : W.r n = some a) (h : RepK K W H vs kvs) :
    Ext W H W (upd H a (.frz ob (.dK vs))) ∧ Rel K W (s.set n (.dicl ob vs kvs)) (upd H a (.frz ob (.dK vs))) := by
  have x : Ext W H W (upd H a (.frz ob (.dK vs))) := Ext.write R hn ha
  exact ⟨x, R.write hn ha ⟨upd_same, h.mono x⟩⟩
theorem unlock_ok {K : PySem.W.Frag} {W : Wd} {H : Hp} {s : S} {n : Nat} {a : Addr} {ob : Obj} {vs : List (Key × V)} {kvs : List (D × D)} (R : Rel K W s H) (hn : s n = some (.dicl ob vs kvs)) (ha : W.r n = some a) :
    H a = some (.frz ob (.dK vs)) ∧ Ext W H W (upd H a (.dK vs)) ∧ Rel K W (s.set n (.dic kvs)) (upd H a (.dK vs)) := by
  obtain ⟨b, h1, _, h2, h3⟩ := R.cells n _ hn
  rw [ha] at h1; cases h1
  have x : Ext W H W (upd H a (.dK vs)) := Ext.write R hn ha
  exact ⟨h2, x, R.write hn ha ⟨vs, upd_same, h3.mono x⟩⟩
def dLockS (t : DTS) : DTS := fun Dd e s => ∃ n kvs, s n = some (.dic kvs) ∧ ∀ ob vs, t (lkE Dd n ob vs kvs) e (s.set n (.dicl ob vs kvs))
theorem ds_lock {st : Stmt} (h : PS X st (liftS X.K L t)) : PS X st (liftS X.K L (dLockS t)) := (ps_lock h).wk fun De σ H hh => by
  obtain ⟨L1, W, e, s, Dd, hl, stt, ⟨n, kvs, hn, hq⟩, ok⟩ := hh
  obtain ⟨a, ha, _, vs, hd, hr⟩ := stt.rel.cells n _ hn
  refine ⟨a, .dK vs, hd, trivial, fun od => ?_⟩
  obtain ⟨x, R⟩ := lock_ok (ob := od) stt.rel hn ha hr
  have st2 := stt.after x R
  have key : ∀ {W' : Wd} {s' : S} {H' : Hp}, (L1.behind W (upd H a (.frz od (.dK vs)))).p W' H' → Rel X.K W' s' H' → s' n = some (.dicl od vs kvs) → W'.r n = some a ∧ H' a = some (.frz od (.dK vs)) ∧ Ext W' H' W' (upd H' a (.dK vs)) ∧ Rel X.K W' (s'.set n (.dic kvs)) (upd H' a (.dK vs)) := fun b R' e1 => by
    have ha' := b.2.r n a ha
    exact ⟨ha', unlock_ok R' e1 ha'⟩
  refine ⟨L1.behind W (upd H a (.frz od (.dK vs))), W, e, _, lkE Dd n od vs kvs, fun _ _ z => hl _ _ z.1, ⟨⟨st2.ext, fun _ z => z, fun _ _ z => z, fun _ _ => Kp.of rfl⟩, st2.env, st2.rel⟩, hq od vs, ?_⟩
  have fin : ∀ {W' : Wd} {e' : Nv} {s' : S} {σ' : St} {H' : Hp}, Stt X.K (L1.behind W (upd H a (.frz od (.dK vs)))) W' e' s' σ' H' → s' n = some (.dicl od vs kvs) → H' a = some (.frz od (.dK vs)) ∧ Stt X.K L1 W' e' (s'.set n (.dic kvs)) σ' (upd H' a (.dK vs)) := fun st' e1 => by
    obtain ⟨_, g1, g2, g3⟩ := key st'.ext st'.rel e1
    exact ⟨g1, L1.up st'.ext.1 g2, st'.env.mono g2, g3⟩
  exact ⟨fun W' e' s' σ' H' st' q => ⟨(fin st' q.1).1, ok.nx _ _ _ _ _ (fin st' q.1).2 q.2⟩, fun W' d s' v H' b R' r' q => (by
      obtain ⟨_, g1, g2, g3⟩ := key b R' q.1
      exact ⟨g1, ok.rt _ _ _ _ _ (L1.up b.1 g2) g3 (r'.mono g2) q.2⟩), fun W' e' s' σ' H' st' q => ⟨(fin st' q.1).1, ok.bk _ _ _ _ _ (fin st' q.1).2 q.2⟩, fun W' e' s' σ' H' st' q => ⟨(fin st' q.1).1, ok.ct _ _ _ _ _ (fin st' q.1).2 q.2⟩⟩
def dLockE (te : DTE) : DTE := fun e s Q => ∃ n kvs, s n = some (.dic kvs) ∧ ∀ ob vs, te e (s.set n (.dicl ob vs kvs)) fun d s' => s' n = some (.dicl ob vs kvs) ∧ Q d (s'.set n (.dic kvs))
theorem de_lock (h : PE X a (lift X.K L te)) : PE X a (lift X.K L (dLockE te)) := (pe_lock h).wk fun σ H Q hh => by
  obtain ⟨W, e, s, Qd, stt, ⟨n, kvs, hn, hq⟩, k⟩ := hh
  obtain ⟨a, ha, _, vs, hd, hr⟩ := stt.rel.cells n _ hn
  refine ⟨a, .dK vs, hd, trivial, fun od => ?_⟩
  obtain ⟨x, R⟩ := lock_ok (ob := od) stt.rel hn ha hr
  refine ⟨W, e, _, _, stt.after x R, hq od vs, fun d s' W' v H' q x' R' r' => ?_⟩
  obtain ⟨g1, g2, g3⟩ := unlock_ok R' q.1 (x'.r n a ha)
  exact ⟨g1, k _ _ _ _ _ q.2 (x.trans (x'.trans g2)) g3 (r'.mono g2)⟩
/-! ### walks over a locked dict -/
def dItD (f : D × D → D) (te : DTE) : DTI := fun e s R => te e s fun d s1 => match d with
  | .cell n => (match s1 n with
    | some (.dicl ob vs kvs) => R (fun s => s n = some (.dicl ob vs kvs)) (kvs.map f) s1
    | _ => False)
  | _ => False
theorem RepK.get {K : PySem.W.Frag} {W : Wd} {H : Hp} : ∀ {vs : List (Key × V)} {ds : List (D × D)} {i : Nat} {p : D × D}, RepK K W H vs ds → ds[i]? = some p → ∃ k v, vs[i]? = some (k, v) ∧ p.1 = kD k ∧ Rep K W H v p.2
  | _, _, _, _, .nil, e => by simp at e
  | _, _, 0, _, .cons r _, e => by simp at e; subst e; exact ⟨_, _, rfl, rfl, r⟩
  | _, _, i + 1, _, .cons _ rs, e => by
    obtain ⟨k, v, h1, h2⟩ := RepK.get (i := i) rs (by simpa using e)
    exact ⟨k, v, by simpa using h1, h2⟩
theorem dicl_at {K : PySem.W.Frag} {W W' : Wd} {H H' : Hp} {s' : S} {n : Nat} {a : Addr} {ob : Obj} {vs : List (Key × V)} {kvs : List (D × D)} (sub : Sub W H W' H') (ha : W.r n = some a) (R : Rel K W' s' H') (e : s' n = some (.dicl ob vs kvs)) : H' a = some (.frz ob (.dK vs)) ∧ RepK K W' H' vs kvs := by
  obtain ⟨b, h1, _, h2, h3⟩ := R.cells n _ e
  rw [sub.r n a ha] at h1; cases h1
  exact ⟨h2, h3⟩
theorem at_map {α β : Type} {f : α → β} {xs : List α} {i : Nat} {y : β} (h : (xs.map f)[i]? = some y) : ∃ x, xs[i]? = some x ∧ y = f x := by
  rw [List.getElem?_map] at h
  cases e : xs[i]? with
  | none => rw [e] at h; cases h
  | some x => rw [e] at h; exact ⟨x, rfl, (Option.some.inj h).symm⟩
section
variable {K : PySem.W.Frag} {W : Wd} {H : Hp} {n : Nat} {a : Addr} {ob : Obj} {vs : List (Key × V)} {kvs : List (D × D)}
theorem itok_keys (ha : W.r n = some a) : ItOk K W H (Itk a ob vs) (fun s => s n = some (.dicl ob vs kvs)) (kvs.map (·.1)) := fun i W' s H' sub R ok => by
  obtain ⟨h1, h2⟩ := dicl_at sub ha R ok
  refine ⟨fun dd hd => ?_, fun hl => ⟨h1, by rw [List.length_map] at hl; rw [h2.length]; exact hl⟩⟩
  obtain ⟨p, e, rfl⟩ := at_map hd
  obtain ⟨k, v, g1, g2, g3⟩ := h2.get e
  refine ⟨⟨h1, (List.getElem?_eq_some_iff.mp g1).1⟩, ?_⟩
  rintro w H2 ⟨rfl, κ, v2, e2, rfl⟩
  rw [g1] at e2; cases e2
  exact ⟨W', Ext.refl _ _, R, by rw [g2]; exact Rep.ofKey _⟩
theorem itok_vals (ha : W.r n = some a) : ItOk K W H (Itd a ob vs) (fun s => s n = some (.dicl ob vs kvs)) (kvs.map (·.2)) := fun i W' s H' sub R ok => by
  obtain ⟨h1, h2⟩ := dicl_at sub ha R ok
  refine ⟨fun dd hd => ?_, fun hl => ⟨h1, by rw [List.length_map] at hl; rw [h2.length]; exact hl⟩⟩
  obtain ⟨p, e, rfl⟩ := at_map hd
  obtain ⟨k, v, g1, g2, g3⟩ := h2.get e
  refine ⟨⟨h1, (List.getElem?_eq_some_iff.mp g1).1⟩, ?_⟩
  rintro w H2 ⟨rfl, κ, e2⟩
  rw [g1] at e2; cases e2
  exact ⟨W', Ext.refl _ _, R, g3⟩
theorem itok_items (ha : W.r n = some a) : ItOk K W H (Iti a ob vs) (fun s => s n = some (.dicl ob vs kvs)) (kvs.map fun p => .tup [p.1, p.2]) := fun i W' s H' sub R ok => by
  obtain ⟨h1, h2⟩ := dicl_at sub ha R ok
  refine ⟨fun dd hd => ?_, fun hl => ⟨h1, by rw [List.length_map] at hl; rw [h2.length]; exact hl⟩⟩
  obtain ⟨p, e, rfl⟩ := at_map hd
  obtain ⟨k, v, g1, g2, g3⟩ := h2.get e
  refine ⟨⟨h1, (List.getElem?_eq_some_iff.mp g1).1⟩, ?_⟩
  rintro w H2 ⟨T, κ, v2, e2, rfl, hT, rfl⟩
  rw [g1] at e2; cases e2
  exact ⟨_, Ext.add R hT, Rel.add R hT, new_tup R hT (.cons (by rw [g2]; exact Rep.ofKey _) (.cons g3 .nil))⟩
end
theorem lift_itd {fD : D × D → D} {σ : St} {H : Hp} {R : It → Hp → Prop} {mk : Addr → Obj → List (Key × V) → It} (hmk : ∀ {W : Wd} {H : Hp} {n : Nat} {a : Addr} {ob : Obj} {vs : List (Key × V)} {kvs : List (D × D)}, W.r n = some a → ItOk X.K W H (mk a ob vs) (fun s => s n = some (.dicl ob vs kvs)) (kvs.map fD))
    (h : liftI X.K L (dItD fD te) σ H R) : lift X.K L te σ H fun x H1 => ∃ d o kvs, x = .ref d ∧ H1 d = some (.frz o (.dK kvs)) ∧ R (mk d o kvs) H1 := by
  obtain ⟨W, e, sd, Rd, st, q, k⟩ := h
  refine ⟨W, e, sd, _, st, q, fun d s1 W1 v H1 q x R1 p => ?_⟩
  split at q
  · rename_i n
    split at q
    · rename_i ob vs kvs e1
      cases p with
      | @cell _ a hr =>
        obtain ⟨h1, h2⟩ := dicl_at (Ext.refl W1 H1).toSub hr R1 e1
        exact ⟨a, ob, vs, rfl, h1, k _ _ _ _ _ _ q x R1 (hmk hr)⟩
    · exact q.elim
  · exact q.elim
theorem di_keys {tg : Expr} (ha : PE X a (lift X.K L te)) : PI X tg a (liftI X.K L (dItD (·.1) te)) := (pi_keys ha).wk fun σ H R h => by
  obtain h := lift_itd (mk := Itk) itok_keys h
  obtain ⟨W, e, s, Qd, st, q, k⟩ := h
  exact ⟨W, e, s, Qd, st, q, fun d s' W' v H' q x R' r => by
    obtain ⟨dd, o, kvs, h1, h2, h3⟩ := k d s' W' v H' q x R' r
    exact ⟨dd, o, h1, .inl ⟨kvs, h2, h3⟩⟩⟩
theorem di_vals {tg : Expr} (ha : PE X a (lift X.K L te)) (hb : attributeBase a "values" X.env (eval a X.env) = eval a X.env) (hl : (apos.endLine == cpos.line) = true) : PI X tg (.Call (.Attribute a "values" apos) [] [] cpos) (liftI X.K L (dItD (·.2) te)) :=
  (pi_values ha hb hl).wk fun σ H R h => lift_itd (mk := Itd) itok_vals h
theorem di_items (ha : PE X a (lift X.K L te)) (hb : attributeBase a "items" X.env (eval a X.env) = eval a X.env) (hl : (apos.endLine == cpos.line) = true) : PI X (.Tuple elts kk tpos) (.Call (.Attribute a "items" apos) [] [] cpos) (liftI X.K L (dItD (fun p => .tup [p.1, p.2]) te)) :=
  (pi_items ha hb hl).wk fun σ H R h => lift_itd (mk := Iti) itok_items h
/-! ### list(d), dict(d), dict(pairs) -/
def dListD : DC := fun ds s Q => match ds with
  | [d] => (match mapD s d with
    | some kvs => Q (.lst (kvs.map (·.1))) s
    | none => False)
  | _ => False
def dListDC : DC := fun ds s Q => match ds with
  | [d] => (match mapD s d with
    | some kvs => ∀ n, s n = none → Q (.cell n) (s.set n (.lst (kvs.map (·.1))))
    | none => False)
  | _ => False
theorem reps_keys {K : PySem.W.Frag} {W : Wd} {H : Hp} : ∀ {vs : List (Key × V)} {ds : List (D × D)}, RepK K W H vs ds → Reps K W H (vs.map fun kv => kV kv.1) (ds.map (·.1))
  | _, _, .nil => .nil
  | _, _, .cons _ rs => .cons (Rep.ofKey _) (reps_keys rs)
theorem c_listD (hc : X.calm = true) : CallR X (.type "list") (lift1 X.K dListD) := CallR.wk (call_listD hc) fun vs H Q h => by
  obtain ⟨W, s, ds, Qd, R, rs, h, k⟩ := h
  unfold dListD at h
  split at h
  · obtain ⟨w, rfl, rw⟩ := rs.one
    split at h
    · rename_i e
      obtain ⟨a, us, rfl, h1, h2⟩ := mapD_ok R rw e
      exact ⟨a, us, rfl, h1, fun p hp => k _ _ _ _ _ h (Ext.add R hp) (Rel.add R hp) (new_lst R hp (reps_keys h2))⟩
    · exact h.elim
  · exact h.elim
theorem c_listDC (hc : X.calm = true) : CallR X (.type "list") (lift1 X.K dListDC) := CallR.wk (call_listD hc) fun vs H Q h => by
  obtain ⟨W, s, ds, Qd, R, rs, h, k⟩ := h
  unfold dListDC at h
  split at h
  · obtain ⟨w, rfl, rw⟩ := rs.one
    split at h
    · rename_i e
      obtain ⟨a, us, rfl, h1, h2⟩ := mapD_ok R rw e
      refine ⟨a, us, rfl, h1, fun p hp => ?_⟩
      obtain ⟨y, R'⟩ := new_cell R hp (reps_keys h2)
      exact k _ _ _ _ _ (h _ R.nxs) y R' (.cell (Wd.new_r _ _))
    · exact h.elim
  · exact h.elim
/-- pairs put one after another -/
def mergeD (acc : List (D × D)) : List (D × D) → List (D × D)
  | [] => acc
  | p :: ps => mergeD (match keyK p.1 with
    | some k => putD acc k p.2
    | none => acc) ps
def pairsD : List D → Option (List (D × D))
  | [] => some []
  | .tup [k, v] :: ds => (match keyK k, pairsD ds with
    | some _, some ps => some ((k, v) :: ps)
    | _, _ => none)
  | _ :: _ => none
def dDictC : DC := fun ds s Q => match ds with
  | [d] => (match mapD s d with
    | some kvs => ∀ n, s n = none → Q (.cell n) (s.set n (.dic kvs))
    | none => (match seqL s d with
      | some xs => (match pairsD xs with
        | some ps => ∀ n, s n = none → Q (.cell n) (s.set n (.dic (mergeD [] ps)))
        | none => False)
      | none => False))
  | _ => False
theorem new_dicC {K : PySem.W.Frag} {W : Wd} {H : Hp} {s : S} {vs : List (Key × V)} {kvs : List (D × D)} {p : Addr} (R : Rel K W s H) (hp : H p = none) (r : RepK K W H vs kvs) : Ext W H (W.new p) (upd H p (.dK vs)) ∧ Rel K (W.new p) (s.set W.nx (.dic kvs)) (upd H p (.dK vs)) := by
  have kk : ∀ a u, H a = some u → upd H p (.dK vs) a = some u := fun a u e => by rw [upd_ne (ne_of_none e hp)]; exact e
  have x : Ext W H (W.new p) (upd H p (.dK vs)) := Ext.new R kk
  exact ⟨x, R.new hp kk ⟨vs, upd_same, r.mono x⟩⟩
theorem reps_refs {K : PySem.W.Frag} {W : Wd} {H : Hp} : ∀ {vs : List V} {xs : List D} {ps : List (D × D)}, Reps K W H vs xs → pairsD xs = some ps → ∃ (as : List Addr) (kvs : List (Key × V)), vs = as.map V.ref ∧ Paired (fun p kv => SqT K H p [kV kv.1, kv.2]) as kvs ∧ RepK K W H kvs ps
  | _, _, ps, .nil, h => by cases h; exact ⟨[], [], rfl, .nil, .nil⟩
  | v :: vs, x :: xs, ps, .cons r rs, h => by
    unfold pairsD at h
    split at h
    · rename_i e; cases e
    · rename_i k z ds e
      cases e
      split at h
      · rename_i κ qs e1 e2
        cases h
        obtain ⟨as, kvs, rfl, h2, h3⟩ := reps_refs rs e2
        cases r with
        | @tup a us _ f g rr =>
          obtain ⟨u1, u2, rfl, r1, r2⟩ := rr.two
          rw [kD_keyK e1] at r1 ⊢
          have e3 : u1 = kV κ := Rep.key r1 (keyK_kD κ)
          subst e3
          exact ⟨a :: as, (κ, u2) :: kvs, rfl, .cons (SqT.of g) h2, .cons r2 h3⟩
      · cases h
    · cases h
theorem RepK.merge {K : PySem.W.Frag} {W : Wd} {H : Hp} : ∀ {kvs : List (Key × V)} {ps : List (D × D)} {acc : List (Key × V)} {bcc : List (D × D)}, RepK K W H kvs ps → RepK K W H acc bcc → RepK K W H (mergeK acc kvs) (mergeD bcc ps)
  | _, _, _, _, .nil, h => h
  | _, _, acc, bcc, .cons (k := k) (v := v) (d := d) r rs, h => by
    show RepK K W H (mergeK (putK acc k v) _) (mergeD (match keyK (kD k) with
      | some k => putD bcc k d
      | none => bcc) _)
    rw [keyK_kD]
    exact RepK.merge rs (RepK.put k r h)
theorem c_dictC (hc : X.calm = true) : CallR X (.type "dict") (lift1 X.K dDictC) := CallR.wk (L2.CallR.or call_dictD (call_dictP hc)) fun vs H Q h => by
  obtain ⟨W, s, ds, Qd, R, rs, h, k⟩ := h
  unfold dDictC at h
  split at h
  · obtain ⟨w, rfl, rw⟩ := rs.one
    split at h
    · rename_i e
      obtain ⟨a, us, rfl, h1, h2⟩ := mapD_ok R rw e
      refine .inl ⟨a, us, rfl, h1, fun p hp => ?_⟩
      obtain ⟨y, R'⟩ := new_dicC R hp h2
      exact k _ _ _ _ _ (h _ R.nxs) y R' (.cell (Wd.new_r _ _))
    · split at h
      · rename_i e
        split at h
        · rename_i ps e2
          obtain ⟨a, us, rfl, h1, h2⟩ := seqL_ok R rw e
          obtain ⟨as, kvs, rfl, h3, h4⟩ := reps_refs h2 e2
          refine .inr ⟨a, as, kvs, rfl, h1, h3, fun p hp => ?_⟩
          obtain ⟨y, R'⟩ := new_dicC R hp (RepK.merge h4 .nil)
          exact k _ _ _ _ _ (h _ R.nxs) y R' (.cell (Wd.new_r _ _))
        · exact h.elim
      · exact h.elim
  · exact h.elim
end
end Y


/-! Y8h: a list, a tuple from behind. -/
namespace Y
open PySem PySem.Spec PyProof.Rows L2
theorem adj_back (n : Nat) : Builtin.Slice.sliceAdjust none none (-1) (n : Int) = ((n : Int) - 1, -1) := by
  unfold Builtin.Slice.sliceAdjust
  have h1 : ((-1 : Int) < 0) := by omega
  simp only [h1, if_true]
theorem places_back (n : Nat) : Builtin.Slice.slicePlaces ((n : Int) - 1) (-1) (-1) = n := by
  unfold Builtin.Slice.slicePlaces
  have h1 : ¬ ((-1 : Int) > 0) := by omega
  have h2 : (- (-1 : Int)) = 1 := rfl
  simp only [h1, if_false, h2, Int.ediv_one]
  split <;> omega
theorem fm_congr {α β : Type} {f g : α → Option β} : ∀ {l : List α}, (∀ x ∈ l, f x = g x) → l.filterMap f = l.filterMap g
  | [], _ => rfl
  | x :: l, h => by
    rw [List.filterMap_cons, List.filterMap_cons, h x (by simp), fm_congr fun y hy => h y (by simp [hy])]
theorem pick_back (xs : List Value) : ((List.range xs.length).filterMap fun (k : Nat) => xs.toArray[((xs.length : Int) - 1 + (k : Int) * (-1)).toNat]?) = xs.reverse := by
  have e : ∀ k ∈ List.range xs.length, xs.toArray[((xs.length : Int) - 1 + (k : Int) * (-1)).toNat]? = xs.reverse[k]? := fun k hk => by
    have := List.mem_range.mp hk
    rw [List.getElem?_reverse this, List.getElem?_toArray]
    congr 1
    omega
  rw [fm_congr e]
  have go : ∀ ys : List Value, ((List.range ys.length).filterMap fun k => ys[k]?) = ys := fun ys => by
    have z := pick_run ys.toArray 0 ys.length
    rw [List.filterMap_map] at z
    have e2 : ((fun x => ys.toArray[x]?) ∘ fun x => 0 + x) = fun k => ys[k]? := by
      funext m
      show ys.toArray[0 + m]? = _
      rw [Nat.zero_add, List.getElem?_toArray]
    rw [e2] at z
    rw [z]
    simp
  have z := go xs.reverse
  rw [List.length_reverse] at z
  exact z
section
variable {prog : Program} {w : World} {A : Around} {Ex : Value → Shared → Prop} {s : Shared}
theorem applied_back {sl : Addr} {n : Nat} {vl vu vs : Value} {Q : Int × Int × Nat → Shared → Prop} (hs : s.heap.IsSliceOf sl vl vu vs) (pl : IsPart vl none) (pu : IsPart vu none) (ps : IsPart vs (some (-1))) (h : Q ((n : Int) - 1, -1, n) s) :
    wpAny (model prog w) A (Builtin.Slice.sliceApplied (.ref sl) (pure (n : Int))) Q Ex s := by
  obtain ⟨os, hos, hcs, hds⟩ := id hs
  cases pl
  cases pu
  cases ps
  unfold Builtin.Slice.sliceApplied Builtin.Slice.sliceFields
  refine wpAny_bind (wpAny_bind (wpAny_field hos hds (x := .none) rfl (wpAny_bind (wpAny_field hos hds (x := .none) rfl (wpAny_bind (wpAny_field hos hds rfl (wpAny_pure ?_)))))))
  refine wpAny_bind (slicePart_int ?_)
  show wpAny _ _ (if ((-1 : Int) == 0) = true then _ else _) _ _ s
  rw [if_neg (by decide)]
  refine wpAny_bind (slicePart_none (wpAny_bind (slicePart_none (wpAny_bind (wpAny_pure ?_)))))
  show wpAny _ _ (match Builtin.Slice.sliceAdjust none none (-1) (n : Int) with | (lo, hi) => pure (lo, (-1 : Int), Builtin.Slice.slicePlaces lo hi (-1))) _ _ s
  rw [adj_back]
  show wpAny _ _ (pure ((n : Int) - 1, (-1 : Int), Builtin.Slice.slicePlaces ((n : Int) - 1) (-1) (-1))) _ _ s
  rw [places_back]
  exact wpAny_pure h
theorem tup_back {t sl : Addr} {xs : List Value} {vl vu vs : Value} {Q : Value → Shared → Prop} (ht : IsTup s.heap t xs.toArray) (hs : s.heap.IsSliceOf sl vl vu vs) (pl : IsPart vl none) (pu : IsPart vu none) (ps : IsPart vs (some (-1)))
    (h : Q (.ref s.heap.objs.size) { s with heap := s.heap.push { cls := .type "tuple", data := .seq xs.reverse.toArray } }) (hsz : xs.length ≤ sizeLine) : wpAny (model prog w) A (getItem (.ref t) (.ref sl)) Q Ex s := by
  have hz : sizeOk (.seq xs.reverse.toArray) := by
    show xs.reverse.toArray.size ≤ sizeLine
    rw [List.size_toArray, List.length_reverse]
    exact hsz
  obtain ⟨os, hos, hcs, hds⟩ := id hs
  have hTs : s.TypeIs (.ref sl) "slice" := ⟨os, hos, hcs⟩
  unfold getItem
  refine wpAny_holding ?_
  first | refine wpAny_bind (wpAny_pure ?_) | skip
  refine wpAny_bind (wpAny_sequenceKey ht.typeIs (by decide) ?_)
  refine wpAny_bind (wpAny_callSpecial?_slot (name := Str.ofString "__getitem__") ht.typeIs PyProof.Rows.slot_tuple_getitem (wpAny_call_entry PyProof.Rows.slot_tuple_getitem ht.typeIs PyProof.Rows.entry_tuple_getitem ?_ (PyProof.Rows.args_tuple_getitem _ _)))
  show wpAny _ _ (Builtin.Tuple.tupleItemsOf (.ref t) >>= _) _ _ s
  refine wpAny_bind (tupleItemsOf_ ht (wpAny_bind (wpAny_typeOf hTs ?_)))
  rw [if_pos (by decide)]
  refine wpAny_bind (applied_back (n := xs.length) hs pl pu ps ?_)
  have no : ¬ ((((xs.length : Int) - 1 == 0) && (-1 : Int) == 1 && xs.length == xs.toArray.size) = true) := by simp
  show wpAny _ _ (if (((xs.length : Int) - 1 == 0) && (-1 : Int) == 1 && xs.length == xs.toArray.size) = true then _ else _) _ _ s
  rw [if_neg no, pick_back]
  first
    | exact wpAny_bind (m := Builtin.Tuple.tupleExact _) (wpAny_newObj_type (wpAny_pure ⟨_, rfl, wpAny_pure h⟩) hz)
    | exact wpAny_bind (m := Builtin.Tuple.tupleExact _) (wpAny_newObj_type (wpAny_bind (wpAny_pure (wpAny_pure ⟨_, rfl, wpAny_pure h⟩))) hz)
    | exact wpAny_bind (wpAny_bind (m := Builtin.Tuple.tupleExact _) (wpAny_newObj_type (wpAny_pure (wpAny_pure ⟨_, rfl, wpAny_pure h⟩)) hz))
    | exact wpAny_bind (wpAny_bind (m := Builtin.Tuple.tupleExact _) (wpAny_newObj_type (wpAny_pure ⟨_, rfl, wpAny_pure h⟩) hz))
end
section
variable {X : Cx} {L : Lk} {a : Expr} {ta : DTE} {te : TE} {k : Nat} {p1 p2 p3 pos : Pos}
def tBack (K : PySem.W.Frag) (te : TE) : TE := fun σ H Q => te σ H fun x H1 => ∃ a xs, x = .ref a ∧ ((SqL K H1 a xs ∧ ∀ p, H1 p = none → Q (.ref p) (upd H1 p (.lst xs.reverse))) ∨ (SqT K H1 a xs ∧ ∀ p, H1 p = none → Q (.ref p) (upd H1 p (.tup xs.reverse))))
theorem pe_back (he : PE X a te) : PE X (.Subscript a (.Slice none none (some (.UnaryOp .USub (.Constant (.int 1) k p1) p2)) p3) pos) (tBack X.K te) := by
  refine ⟨fun pins s σ H Q I h => Subscript_ (thn (he.run pins s σ H _ I h) fun v s1 ⟨x, H1, I1, r1, q1⟩ => ?_)⟩
  obtain ⟨b, xs, rfl, q⟩ := q1
  cases r1
  have hst : PO X (some (.UnaryOp .USub (.Constant (.int 1) k p1) p2)) (tPart (tUn (rU fun i => .int (-i)) (tC (.int 1)))) := po_some (pe_un un_neg pe_int)
  refine wpAny_Slice (thn (po_none.run pins s1 σ H1 (fun o H2 => o = none ∧ H2 = H1) I1 ⟨rfl, rfl⟩) fun vl s2 ⟨o1, H2, I2, pl, e1, e2⟩ => ?_)
  subst e1 e2
  refine thn (po_none.run pins s2 σ H2 (fun o H3 => o = none ∧ H3 = H2) I2 ⟨rfl, rfl⟩) fun vu s3 ⟨o2, H3, I3, pu, e3, e4⟩ => ?_
  subst e3 e4
  refine thn (hst.run pins s3 σ H3 (fun o H4 => o = some (-1) ∧ H4 = H3) I3 ⟨1, rfl, -1, rfl, rfl, rfl⟩) fun vs s4 ⟨o3, H4, I4, ps, e5, e6⟩ => ?_
  subst e5 e6
  have I5 : Inv X pins σ H4 { s4 with heap := s4.heap.push { cls := .type "slice", data := .fields #[vl, vu, vs] } } := I4.kept (t' := s4.toks) fun b ob q => Heap.get?_push_of_some _ q
  show wpAny (model X.prog X.w) X.A (subscriptTail a (.Slice none none (some (.UnaryOp .USub (.Constant (.int 1) k p1) p2)) p3) (.ref b) (.ref s4.heap.objs.size)) (EP X pins σ Q) X.xe { s4 with heap := s4.heap.push { cls := .type "slice", data := .fields #[vl, vu, vs] } }
  rcases q with ⟨hx, q⟩ | ⟨hx, q⟩
  · obtain ⟨its, r, ht, hz⟩ := I5.list hx
    have hlen := r.length
    refine tail_any (ops := [.ref b, .ref s4.heap.objs.size]) ht.isList.typeIs (PySem.slot_list_getitem.lookup) ?_ (by with_unfolding_all rfl)
    refine wpAny_getItem_list_slice ht.isList (Heap.IsSliceOf.new _ vl vu vs) pl pu ps (by decide) ?_ (by rw [List.size_toArray]; omega)
    rw [PySem.W.krv_pick]
    exact ⟨.ref _, _, I5.laid (t' := s4.toks) (o := .lst xs.reverse) (fun b ob q => Heap.get?_push_of_some _ q) (Nat.le_refl _) ⟨by rw [List.length_reverse]; exact hz, _, 0, r.reverse, Heap.get?_push_size _ rfl⟩, rfl, q _ (I5.hok.fresh (Nat.le_refl _))⟩
  · obtain ⟨its, r, ht, hz⟩ := I5.tuple hx
    have hlen := r.length
    refine tail_any (ops := [.ref b, .ref s4.heap.objs.size]) ht.typeIs PyProof.Rows.slot_tuple_getitem.lookup ?_ (by with_unfolding_all rfl)
    refine tup_back ht (Heap.IsSliceOf.new _ vl vu vs) pl pu ps ?_ (by omega)
    exact ⟨.ref _, _, I5.laid (t' := s4.toks) (o := .tup xs.reverse) (fun b ob q => Heap.get?_push_of_some _ q) (Nat.le_refl _) ⟨by rw [List.length_reverse]; exact hz, _, r.reverse, ⟨_, Heap.get?_push_size _ rfl, rfl, _, rfl⟩⟩, rfl, q _ (I5.hok.fresh (Nat.le_refl _))⟩
/-- a[::-1] -/
def dBack (te : DTE) : DTE := fun e s Q => te e s fun d s1 => match seqL s1 d with
  | some xs => Q (.lst xs.reverse) s1
  | none => match seqT d with
    | some xs => Q (.tup xs.reverse) s1
    | none => False
theorem de_back (ha : PE X a (lift X.K L ta)) : PE X (.Subscript a (.Slice none none (some (.UnaryOp .USub (.Constant (.int 1) k p1) p2)) p3) pos) (lift X.K L (dBack ta)) := (pe_back ha).wk fun σ H Q h => by
  obtain ⟨W, e, s, Qd, st, q, k⟩ := h
  refine ⟨W, e, s, _, st, q, fun d s1 W1 v H1 q1 x1 R1 r1 => ?_⟩
  split at q1
  · rename_i xs e1
    obtain ⟨l, us, rfl, h1, h2⟩ := seqL_ok R1 r1 e1
    exact ⟨l, us, rfl, .inl ⟨h1, fun p hp => k _ _ _ _ _ q1 (x1.trans (Ext.add R1 hp)) (Rel.add R1 hp) (new_lst R1 hp h2.reverse)⟩⟩
  · split at q1
    · rename_i xs e1
      obtain ⟨l, us, rfl, h1, h2⟩ := seqT_ok r1 e1
      exact ⟨l, us, rfl, .inr ⟨h1, fun p hp => k _ _ _ _ _ q1 (x1.trans (Ext.add R1 hp)) (Rel.add R1 hp) (new_tup R1 hp h2.reverse)⟩⟩
    · exact q1.elim
end
end Y


/-! Y9: a small language for the text, its readings, the look that holds it beside the text, and that the readings are right. -/
namespace Y
open PySem PySem.Spec PyProof.Rows L2

inductive BI where | len | abs | max | min | all | any | list | listC | tuple | repr | sorted | isi | listD | listDC | dictC
/-- what a call's form goes to: a def, a method of a class, a class, a property -/
inductive FK where | fn (x : Str) | me (c m : Str) | mk (c : Str) | pr (c f : Str)
  deriving DecidableEq
inductive BM where | append | pop | popAt | extend
/-- s: the last one has the star -/
inductive Tg where | n (i : Nat) | t (is : List Nat) | s (is : List Nat)
mutual
inductive E where
  | var (i : Nat) | int (i : Int) | str (x : Str) | bl (b : Bool) | non
  | bin (op : Operator) (a b : E) | cmp (op : CmpOp) (a b : E) | chain (o1 o2 : CmpOp) (a b c : E)
  | and (a b : E) | or (a b : E) | not (a : E) | ife (c a b : E)
  | ix (a i : E) | sl (a lo hi : E) | tup (es : Es) | lst (c : Bool) (es : Es)
  | bi (f : BI) (es : Es) | call (g : Nat) (es ks : Es) | meth (m : BM) (r : E) (es : Es)
  | comp (c : Bool) (elt : E) (g : Tg) (it : Iw) (cs : Es) (own : List Nat)
  | frz (a : E) | nop
  | dnew | dget (a i d : E) | neg (i : Int) | rev (a : E)
  | tyv (t : BT) | glb (j : Nat) | fld (f : Str) (o : E) | mcall (g : Nat) (cl m : Str) (o : E) (es ks : Es) | make (g : Nat) (cl : Str) (es ks : Es) | prop (g : Nat) (cl f : Str) (o : E)
  | lenset (a : E) | nev | lockE (a : E)
inductive Es where | nil | cons (e : E) (es : Es)
inductive Iw where | e (a : E) | r1 (a : E) | r2 (a b : E) | en (a : E) | keys (a : E) | vals (a : E) | items (a : E)
end
mutual
inductive T where
  | set (i : Nat) (a : E) | asg (g : Tg) (a : E) | par (i j : Nat) (a b : E) | sub (r i a : E)
  | ex (a : E) | ret (a : E) | retN | ife (c : E) (p q : Ts) | whl (c : E) (p : Ts) | for_ (g : Tg) (it : Iw) (p q : Ts) | brk | cont | pass
  | fset (f : Str) (o a : E) | fadd (f : Str) (o a : E) | lockS (t : T) | nev | par3 (i j l : Nat) (a b d : E)
inductive Ts where | nil | cons (t : T) (r : Ts)
end
/-! ### readings -/
/-- the calls' promises by the numbers of their forms, the module's constants, what is known of classes -/
structure Cf where
  sp : Nat → DSpR
  gd : Nat → D := fun _ => .non
  isa : TyN → TyN → Option Bool := fun _ _ => none
  noat : Str → Str → Bool := fun _ _ => false
def BI.rd (c : Cf) : BI → DC
  | .isi => dIsi c.isa | .listD => dListD | .listDC => dListDC | .dictC => dDictC
  | .len => dLen | .abs => dAbs | .max => dMax | .min => dMin | .all => dAll | .any => dAny | .list => dList | .listC => dListC | .tuple => dTuple | .repr => dRepr | .sorted => dSorted
def BM.rd : BM → DM
  | .append => dAppend | .pop => dPop | .popAt => dPopAt | .extend => dExtend
def binD : Operator → DR2
  | .Add => dAdd | .Sub => dSub | .Mult => dMul | .FloorDiv => dFdiv | .Mod => dMod | .Pow => dPow | _ => fun _ _ _ _ => False
def cmpD : CmpOp → DR2
  | .Eq => dEq | .NotEq => dNe | .Lt => dOrd fun i j => decide (i < j) | .LtE => dOrd fun i j => decide (i ≤ j) | .Gt => dOrd fun i j => decide (j < i) | .GtE => dOrd fun i j => decide (j ≤ i)
  | .Is => dIsN | .IsNot => dNotN | .In => dIn | .NotIn => dNotIn
def gsNames : List Nat → List D → Nv → S → (Nv → S → Prop) → Prop
  | [] => gsNil
  | i :: is => gsCons (gN i) (gsNames is)
def Tg.rd : Tg → DTG
  | .n i => gN i
  | .t is => gSeqD is.length (gsNames is)
  | .s is => gStarD (is.length - 1) (gsNames is)
def Tg.slots : Tg → List Nat
  | .n i => [i]
  | .t is => is
  | .s is => is
/-- the value as settled data -/
def dFrz (ta : DTE) : DTE := fun e s Q => ta e s fun d s1 => match d with
  | .cell n => (match s1 n with
    | some (.lst xs) => Q (.lst xs) (s1.del n)
    | some (.dic kvs) => Q (.dic kvs) (s1.del n)
    | some (.dit kvs) => Q (.dit kvs) (s1.del n)
    | _ => False)
  | d => Q d s1
def partD (m : E) (t : DTE) : DTO := match m with
  | .nop => dNoP
  | _ => dPart t
def both (t : DTE) : DTE × DTT := (t, dTruE t)
mutual
def wp (c : Cf) (EX : DXE) : E → DTE × DTT
  | .var i => both (dVar i)
  | .int i => both (dC (.int i))
  | .str x => both (dC (.str x))
  | .bl b => both (dC (.bl b))
  | .non => both (dC .non)
  | .bin op a b => both (dOp (binD op) (wp c EX a).1 (wp c EX b).1)
  | .cmp op a b => (dOp (cmpD op) (wp c EX a).1 (wp c EX b).1, dTest (dOp (cmpD op) (wp c EX a).1 (wp c EX b).1))
  | .chain o1 o2 a b d => (dChain (cmpD o1) (cmpD o2) (wp c EX a).1 (wp c EX b).1 (wp c EX d).1, dTest (dChain (cmpD o1) (cmpD o2) (wp c EX a).1 (wp c EX b).1 (wp c EX d).1))
  | .and a b => (dAndV (wp c EX a).1 (wp c EX b).1, dAnd (wp c EX a).2 (wp c EX b).2)
  | .or a b => (dOrV (wp c EX a).1 (wp c EX b).1, dOr (wp c EX a).2 (wp c EX b).2)
  | .not a => (dNotV (wp c EX a).1, dNot (wp c EX a).2)
  | .ife d a b => (dIfE (wp c EX d).2 (wp c EX a).1 (wp c EX b).1, fun _ _ _ => False)
  | .ix a i => both (dOp dIx (wp c EX a).1 (wp c EX i).1)
  | .sl a lo hi => both (dSl (wp c EX a).1 (partD lo (wp c EX lo).1) (partD hi (wp c EX hi).1))
  | .tup es => both (dTup (wps c EX es))
  | .lst cl es => both (if cl then dLstC (wps c EX es) else dLst (wps c EX es))
  | .bi f es => both (dCall (f.rd c) (wps c EX es))
  | .call g es ks => both (dCallR (c.sp g) EX (wps c EX es) (wps c EX ks))
  | .meth m r es => both (dMeth isL m.rd (wp c EX r).1 (wps c EX es))
  | .comp cl elt g it cs own => both (if cl then dCompC (wpI c EX it) g.rd (wpC c cs) (wp c EX0 elt).1 own else dComp (wpI c EX it) g.rd (wpC c cs) (wp c EX0 elt).1 own)
  | .frz a => both (dFrz (wp c EX a).1)
  | .nop => both fun _ _ _ => False
  | .dnew => both dDNew
  | .neg i => both (dC (.int (-i)))
  | .rev a => both (dBack (wp c EX a).1)
  | .tyv t => both (dC (.ty t.nm))
  | .glb j => both (dC (c.gd j))
  | .fld f o => both (dFld f (wp c EX o).1)
  | .mcall g cl m o es ks => both (dMCall cl m (c.sp g) EX (wp c EX o).1 (wps c EX es) (wps c EX ks))
  | .make g cl es ks => both (dMake cl (c.sp g) EX (wps c EX es) (wps c EX ks))
  | .prop g cl _ o => both (dProp cl (c.sp g) (wp c EX o).1)
  | .lenset a => both (dLenSet (wp c EX a).1)
  | .nev => (fun _ _ _ => False, fun _ _ _ => False)
  | .lockE a => both (dLockE (wp c EX a).1)
  | .dget a i d => both (match d with
    | .nop => dDGet1 (wp c EX a).1 (wp c EX i).1
    | _ => dDGet2 (wp c EX a).1 (wp c EX i).1 (wp c EX d).1)
def wps (c : Cf) (EX : DXE) : Es → DTA
  | .nil => dNil
  | .cons e es => dCons (wp c EX e).1 (wps c EX es)
def wpI (c : Cf) (EX : DXE) : Iw → DTI
  | .e a => dItE (wp c EX a).1
  | .r1 a => dItR1 (dCons (wp c EX a).1 dNil)
  | .r2 a b => dItR2 (dCons (wp c EX a).1 (dCons (wp c EX b).1 dNil))
  | .en a => dItEn2 (dCons (wp c EX a).1 dNil)
  | .keys a => dItD (·.1) (wp c EX a).1
  | .vals a => dItD (·.2) (wp c EX a).1
  | .items a => dItD (fun p => .tup [p.1, p.2]) (wp c EX a).1
def wpC (c : Cf) : Es → DTT
  | .nil => dYes
  | .cons e _ => (wp c EX0 e).2
end
mutual
def wpS (c : Cf) (EX : DXE) : T → DTS
  | .set i a => dAsg (wp c EX a).1 (gN i)
  | .asg g a => dAsg (wp c EX a).1 g.rd
  | .par i j a b => dPar i j (dCons (wp c EX a).1 (dCons (wp c EX b).1 dNil))
  | .sub r i a => dAsg (wp c EX a).1 (gSubD (wp c EX r).1 (wp c EX i).1 dSetL)
  | .ex a => dExpr (wp c EX a).1
  | .ret a => dRet (wp c EX a).1
  | .retN => fun Dd _ s => Dd.rt .non s
  | .ife d p q => dIfS (wp c EX d).2 (wpSs c EX p) (wpSs c EX q)
  | .whl d p => dWhile (wp c EX d).2 (wpSs c EX p)
  | .for_ g it p q => dFor (wpI c EX it) g.rd (wpSs c EX p) (wpSs c EX q)
  | .brk => fun Dd e s => Dd.bk e s
  | .cont => fun Dd e s => Dd.ct e s
  | .pass => dNext
  | .fset f o a => dFSet c.noat f (wp c EX o).1 (wp c EX a).1
  | .fadd f o a => dFAdd c.noat f (wp c EX o).1 (wp c EX a).1
  | .lockS t => dLockS (wpS c EX t)
  | .nev => fun _ _ _ => False
  | .par3 i j l a b d => dPar3 i j l (dCons (wp c EX a).1 (dCons (wp c EX b).1 (dCons (wp c EX d).1 dNil)))
def wpSs (c : Cf) (EX : DXE) : Ts → DTS
  | .nil => dNext
  | .cons t r => dSeq (wpS c EX t) (wpSs c EX r)
end
/-! ### the look -/
structure Ctx where
  N : List Str
  sc : Scope
  cok : Str → Bool
structure CS where
  n : Nat
  kd : Nat → FK
  ks : Nat → List Str
  ng : Nat := 0
  gn : Nat → Str := fun _ => ""
def Ctx.blk (x : Ctx) (scope : Scope) : Ctx := ⟨x.N, relS scope x.sc, fun y => scope.names.lookup y == some .cell⟩
def visB (sc : Scope) (y : Str) : Bool := match sc.names.lookup y with
  | some .local => true | some .cell => true | some .free => true | _ => false
def storeB (x : Ctx) (y : Str) : Bool := match x.sc.names.lookup y with
  | some .local => true
  | some .cell => x.cok y
  | _ => false
def globB (sc : Scope) (y : Str) : Bool := match sc.names.lookup y with
  | some .globalImplicit => true | _ => false
def plainX : Expr → Bool
  | .Set .. => false | .Starred .. => false | .Slice .. => false | .GeneratorExp .. => false | .BoolOp .. => true | _ => true
def isComp : Expr → Bool
  | .ListComp .. => true | .SetComp .. => true | .DictComp .. => true | _ => false
def specialT : Expr → Bool
  | .UnaryOp .Not _ _ => true | .BoolOp .. => true | .IfExp .. => true | .Compare .. => true | _ => false
def call0 : Expr → Bool
  | .Call (.Name _ _) [] [] _ => true | _ => false
def BI.name : BI → Str
  | .len => "len" | .abs => "abs" | .max => "max" | .min => "min" | .all => "all" | .any => "any" | .list => "list" | .listC => "list" | .tuple => "tuple" | .repr => "repr" | .sorted => "sorted" | .isi => "isinstance" | .listD => "list" | .listDC => "list" | .dictC => "dict"
def BM.name : BM → Str
  | .append => "append" | .pop => "pop" | .popAt => "pop" | .extend => "extend"
def BM.n : BM → Nat
  | .append => 1 | .pop => 0 | .popAt => 1 | .extend => 1
def bltNames : List Str := ["len", "abs", "max", "min", "all", "any", "list", "tuple", "repr", "sorted", "range", "enumerate", "isinstance", "set", "dict", "int", "sum", "str", "bool", "reversed", "zip"]
def atCall : Expr → Option (Expr × Str × Pos × List Expr × Pos)
  | .Call (.Attribute o y ap) es [] cp => some (o, y, ap, es, cp)
  | _ => none
theorem atCall_some {e o : Expr} {y : Str} {ap cp : Pos} {es : List Expr} (h : atCall e = some (o, y, ap, es, cp)) : e = .Call (.Attribute o y ap) es [] cp := by
  unfold atCall at h
  split at h <;> first | (cases h; rfl) | cases h
def nmCall : Expr → Option (Str × Pos × List Expr × Pos)
  | .Call (.Name y p) es [] cp => some (y, p, es, cp)
  | _ => none
def nmCallK : Expr → Option (Str × Pos × List Expr × List Keyword × Pos)
  | .Call (.Name y p) es ks cp => some (y, p, es, ks, cp)
  | _ => none
theorem nmCallK_some {e : Expr} {y : Str} {p cp : Pos} {es : List Expr} {ks : List Keyword} (h : nmCallK e = some (y, p, es, ks, cp)) : e = .Call (.Name y p) es ks cp := by
  unfold nmCallK at h
  split at h <;> first | (cases h; rfl) | cases h
def atCallK : Expr → Option (Expr × Str × Pos × List Expr × List Keyword × Pos)
  | .Call (.Attribute o y ap) es ks cp => some (o, y, ap, es, ks, cp)
  | _ => none
theorem atCallK_some {e o : Expr} {y : Str} {ap cp : Pos} {es : List Expr} {ks : List Keyword} (h : atCallK e = some (o, y, ap, es, ks, cp)) : e = .Call (.Attribute o y ap) es ks cp := by
  unfold atCallK at h
  split at h <;> first | (cases h; rfl) | cases h
/-- len(set(a)) -/
def lsCall : Expr → Option (Pos × Pos × Expr × Pos × Pos)
  | .Call (.Name y p) [.Call (.Name z p2) [a] [] q] [] cp => if y = ("len" : Str) ∧ z = ("set" : Str) then some (p, p2, a, q, cp) else none
  | _ => none
theorem lsCall_some {e a : Expr} {p p2 q cp : Pos} (h : lsCall e = some (p, p2, a, q, cp)) : e = .Call (.Name "len" p) [.Call (.Name "set" p2) [a] [] q] [] cp := by
  unfold lsCall at h
  split at h
  · split at h
    · rename_i e1
      obtain ⟨e1, e2⟩ := e1
      cases h
      rw [e1, e2]
    · cases h
  · cases h
/-- o.f = e, o.f += e -/
def atAsg : Stmt → Option (Expr × Str × Pos × Expr × Pos)
  | .Assign [.Attribute o f p] e q => some (o, f, p, e, q)
  | _ => none
theorem atAsg_some {st : Stmt} {o e : Expr} {f : Str} {p q : Pos} (h : atAsg st = some (o, f, p, e, q)) : st = .Assign [.Attribute o f p] e q := by
  unfold atAsg at h
  split at h <;> first | (cases h; rfl) | cases h
def atAug : Stmt → Option (Expr × Str × Pos × Expr × Pos)
  | .AugAssign (.Attribute o f p) .Add e q => some (o, f, p, e, q)
  | _ => none
theorem atAug_some {st : Stmt} {o e : Expr} {f : Str} {p q : Pos} (h : atAug st = some (o, f, p, e, q)) : st = .AugAssign (.Attribute o f p) .Add e q := by
  unfold atAug at h
  split at h <;> first | (cases h; rfl) | cases h
theorem nmCall_some {e : Expr} {y : Str} {p cp : Pos} {es : List Expr} (h : nmCall e = some (y, p, es, cp)) : e = .Call (.Name y p) es [] cp := by
  unfold nmCall at h
  split at h <;> first | (cases h; rfl) | cases h
def isTup : Expr → Bool
  | .Tuple .. => true | _ => false
def okStar (x : Ctx) : List Nat → List Expr → Bool
  | i :: is, e :: es => match e with
    | .Name y _ => decide (x.N[i]? = some y) && storeB x y && okStar x is es
    | .Starred (.Name y _) _ => decide (x.N[i]? = some y) && storeB x y && is.isEmpty && es.isEmpty
    | _ => false
  | _, _ => false
def okG (x : Ctx) : Tg → Expr → Bool
  | .n i, .Name y _ => decide (x.N[i]? = some y) && storeB x y
  | .t is, .Tuple es _ _ => is.length == es.length && (is.zip es).all fun p => match p.2 with
    | .Name y _ => decide (x.N[p.1]? = some y) && storeB x y
    | _ => false
  | .s is, .Tuple es _ _ => okStar x is es
  | _, _ => false
mutual
def okE (k : CS) (x : Ctx) : E → Expr → Bool
  | .var i => fun e => match e with
    | .Name y _ => decide (x.N[i]? = some y) && visB x.sc y && !(y == ("__debug__" : Str)) && !(y == ("__classdict__" : Str))
    | _ => false
  | .int i => fun e => match e with
    | .Constant (.int j) _ _ => decide (i = j)
    | _ => false
  | .str i => fun e => match e with
    | .Constant (.str j) _ _ => decide (i = j)
    | _ => false
  | .bl i => fun e => match e with
    | .Constant (.bool j) _ _ => decide (i = j)
    | _ => false
  | .non => fun e => match e with
    | .Constant .none _ _ => true
    | _ => false
  | .bin op a b => fun e => match e with
    | .BinOp a' op' b' _ => decide (op = op') && okE k x a a' && okE k x b b'
    | _ => false
  | .cmp op a b => fun e => match e with
    | .Compare a' [op'] [b'] _ => decide (op = op') && okE k x a a' && okE k x b b' && plainX b'
    | _ => false
  | .chain o1 o2 a b c => fun e => match e with
    | .Compare a' [o1', o2'] [b', c'] _ => decide (o1 = o1') && decide (o2 = o2') && okE k x a a' && okE k x b b' && okE k x c c' && plainX c'
    | _ => false
  | .and a b => fun e => match e with
    | .BoolOp .And (a' :: b' :: r) pos => okE k x a a' && (match r with
      | [] => okE k x b b'
      | c' :: r' => okE k x b (.BoolOp .And (b' :: c' :: r') pos))
    | _ => false
  | .or a b => fun e => match e with
    | .BoolOp .Or (a' :: b' :: r) pos => okE k x a a' && (match r with
      | [] => okE k x b b'
      | c' :: r' => okE k x b (.BoolOp .Or (b' :: c' :: r') pos))
    | _ => false
  | .not a => fun e => match e with
    | .UnaryOp .Not a' _ => okE k x a a'
    | _ => false
  | .ife c a b => fun e => match e with
    | .IfExp c' a' b' _ => okE k x c c' && okE k x a a' && okE k x b b'
    | _ => false
  | .ix a i => fun e => match e with
    | .Subscript a' i' _ => okE k x a a' && okE k x i i' && plainX i'
    | _ => false
  | .sl a lo hi => fun e => match e with
    | .Subscript a' (.Slice lo' hi' none _) _ => okE k x a a' && (match lo, lo' with
      | .nop, none => true
      | .nop, some _ => false
      | _, none => false
      | _, some l => okE k x lo l) && (match hi, hi' with
      | .nop, none => true
      | .nop, some _ => false
      | _, none => false
      | _, some l => okE k x hi l)
    | _ => false
  | .tup es => fun e => match e with
    | .Tuple es' _ _ => okEs k x es es'
    | _ => false
  | .lst _ es => fun e => match e with
    | .List es' _ => okEs k x es es'
    | _ => false
  | .bi f es => fun e => match e with
    | .Call (.Name y _) (a :: r) [] _ => decide (y = f.name) && globB x.sc y && okEs k x es (a :: r)
    | _ => false
  | .call g es ks => fun e => match e with
    | .Call (.Name y _) es' ks' _ => decide (g < k.n) && decide (k.kd g = .fn y) && globB x.sc y && !(y == ("__debug__" : Str)) && okEs k x es es' && okKs k x ks ks' && decide (ks'.map (·.arg) = (k.ks g).map some)
    | _ => false
  | .meth m r es => fun e => match e with
    | .Call (.Attribute r' y ap) es' [] cp => decide (y = m.name) && okE k x r r' && okEs k x es es' && decide (es'.length = m.n) && (ap.endLine == cp.line) && !call0 r'
    | _ => false
  | .comp _ elt g it cs own => fun e => match e with
    | .ListComp elt' [⟨tg, iter, ifs, as⟩] scope _ => decide (as = 0) && okI k x it tg iter && okG (x.blk scope) g tg && okC k (x.blk scope) cs ifs && okE k (x.blk scope) elt elt' && blkC x.N x.sc scope (own.map fun i => (x.N.getD i "", i)) && g.slots.all (fun i => decide (i ∈ own))
    | _ => false
  | .frz a => fun e => !specialT e && okE k x a e
  | .nop => fun _ => false
  | .dnew => fun e => match e with
    | .Dict [] [] _ => true
    | _ => false
  | .rev a => fun e => match e with
    | .Subscript a' (.Slice none none (some (.UnaryOp .USub (.Constant (.int j) _ _) _)) _) _ => decide (j = 1) && okE k x a a'
    | _ => false
  | .neg i => fun e => match e with
    | .UnaryOp .USub (.Constant (.int j) _ _) _ => decide (i = j)
    | _ => false
  | .dget a i d => fun e => match atCall e with
    | some (a', y, ap, [i'], cp) => decide (y = ("get" : Str)) && okE k x a a' && okE k x i i' && plainX i' && (ap.endLine == cp.line) && !call0 a' && (match d with | .nop => true | _ => false)
    | some (a', y, ap, [i', d'], cp) => decide (y = ("get" : Str)) && okE k x a a' && okE k x i i' && plainX i' && (ap.endLine == cp.line) && !call0 a' && okE k x d d' && plainX d' && (match d with | .nop => false | _ => true)
    | _ => false
  | .tyv t => fun e => match e with
    | .Name y _ => decide (y = (t.nm : Str)) && decide (t ≠ .non) && globB x.sc y
    | _ => false
  | .glb j => fun e => match e with
    | .Name y _ => decide (j < k.ng) && decide (y = k.gn j) && globB x.sc y && !(y == ("__debug__" : Str))
    | _ => false
  | .fld f o => fun e => match e with
    | .Attribute o' y _ => decide (y = f) && okE k x o o' && !call0 o'
    | _ => false
  | .prop g cl f o => fun e => match e with
    | .Attribute o' y _ => decide (y = f) && okE k x o o' && !call0 o' && decide (g < k.n) && decide (k.kd g = .pr cl f) && decide (k.ks g = [])
    | _ => false
  | .mcall g cl m o es ks => fun e => match atCallK e with
    | some (o', y, ap, es', ks', cp) => decide (g < k.n) && decide (k.kd g = .me cl m) && decide (y = m) && okE k x o o' && okEs k x es es' && okKs k x ks ks' && decide (ks'.map (·.arg) = (k.ks g).map some) && (ap.endLine == cp.line) && !call0 o' && decide (es'.length + ks'.length < 29)
    | none => false
  | .make g cl es ks => fun e => match nmCallK e with
    | some (y, _, es', ks', _) => decide (g < k.n) && decide (k.kd g = .mk cl) && decide (y = cl) && globB x.sc y && !(y == ("__debug__" : Str)) && okEs k x es es' && okKs k x ks ks' && decide (ks'.map (·.arg) = (k.ks g).map some)
    | none => false
  | .lenset a => fun e => match lsCall e with
    | some (_, _, a', _, _) => okE k x a a' && plainX a' && globB x.sc "len" && globB x.sc "set"
    | none => false
  | .nev => fun _ => true
  | .lockE a => fun e => !specialT e && okE k x a e
def okEs (k : CS) (x : Ctx) : Es → List Expr → Bool
  | .nil => fun es => match es with
    | [] => true
    | _ => false
  | .cons a r => fun es => match es with
    | a' :: r' => okE k x a a' && plainX a' && okEs k x r r'
    | [] => false
def okKs (k : CS) (x : Ctx) : Es → List Keyword → Bool
  | .nil => fun es => match es with
    | [] => true
    | _ => false
  | .cons a r => fun es => match es with
    | ⟨_, a', _⟩ :: r' => okE k x a a' && okKs k x r r'
    | [] => false
def okI (k : CS) (x : Ctx) : Iw → Expr → Expr → Bool
  | .e a => fun _ e => okE k x a e && plainX e
  | .r1 a => fun _ e => match e with
    | .Call (.Name y _) [a'] [] _ => decide (y = ("range" : Str)) && globB x.sc y && okE k x a a' && plainX a'
    | _ => false
  | .r2 a b => fun _ e => match e with
    | .Call (.Name y _) [a', b'] [] _ => decide (y = ("range" : Str)) && globB x.sc y && okE k x a a' && plainX a' && okE k x b b' && plainX b'
    | _ => false
  | .en a => fun tg e => match nmCall e with
    | some (y, _, [a'], _) => isTup tg && decide (y = ("enumerate" : Str)) && globB x.sc y && okE k x a a' && plainX a'
    | _ => false
  | .keys a => fun _ e => okE k x a e && plainX e
  | .vals a => fun _ e => match atCall e with
    | some (a', y, ap, [], cp) => decide (y = ("values" : Str)) && okE k x a a' && !call0 a' && (ap.endLine == cp.line)
    | _ => false
  | .items a => fun tg e => match atCall e with
    | some (a', y, ap, [], cp) => isTup tg && decide (y = ("items" : Str)) && okE k x a a' && !call0 a' && (ap.endLine == cp.line)
    | _ => false
def okC (k : CS) (x : Ctx) : Es → List Expr → Bool
  | .nil => fun es => match es with
    | [] => true
    | _ => false
  | .cons a _ => fun es => match es with
    | [a'] => okE k x a a'
    | _ => false
end
def swapB (x : Ctx) (y : Str) (p : Pos) : Expr → Bool
  | .ListComp _ _ scope pos => decide (x.sc.names.lookup y = some .local) && (p.line == pos.line) && !(scope.names.any fun q => q.1 == y && (q.2 == .local || q.2 == .cell))
  | _ => false
def allLoc (sc : Scope) (ts : List Expr) : Bool := ts.all fun t => match t with
  | .Name y _ => sc.names.lookup y == some .local
  | _ => false
mutual
def okS (k : CS) (x : Ctx) : T → Stmt → Bool
  | .set i a => fun st => match st with
    | .Assign [.Name y p] e _ => decide (x.N[i]? = some y) && storeB x y && okE k x a e && (!isComp e || (match a with | .comp .. => true | _ => false))
    | _ => false
  | .asg g a => fun st => match st with
    | .Assign [.Tuple ts kk p] e _ => okG x g (.Tuple ts kk p) && okE k x a e && (match e with | .Tuple .. => !allLoc x.sc ts | .ListComp .. => false | .SetComp .. => false | .DictComp .. => false | _ => true)
    | _ => false
  | .par i j a b => fun st => match st with
    | .Assign [.Tuple [.Name y1 p1, .Name y2 p2] _ _] (.Tuple [e1, e2] _ _) _ => decide (x.N[i]? = some y1) && decide (x.N[j]? = some y2) && decide (i ≠ j) && decide (x.sc.names.lookup y1 = some .local) && decide (x.sc.names.lookup y2 = some .local) &&
        okE k x a e1 && okE k x b e2 && plainX e1 && plainX e2 && (p1.line == p2.line) && !((e1 :: e2 :: []).all (constantsAlone 8)) && !((e1 :: e2 :: []).all (foldedForSure 8))
    | _ => false
  | .sub r i a => fun st => match st with
    | .Assign [.Subscript r' i' _] e _ => okE k x r r' && okE k x i i' && okE k x a e && plainX i' && !isComp e
    | _ => false
  | .ex a => fun st => match st with
    | .Expr e _ => okE k x a e && !isComp e
    | _ => false
  | .ret a => fun st => match st with
    | .Return (some e) _ => okE k x a e
    | _ => false
  | .retN => fun st => match st with
    | .Return none _ => true
    | _ => false
  | .ife c p q => fun st => match st with
    | .If c' p' q' _ => okE k x c c' && okSs k x p p' && okSs k x q q'
    | _ => false
  | .whl c p => fun st => match st with
    | .While c' p' [] _ => okE k x c c' && okSs k x p p'
    | _ => false
  | .for_ g it p q => fun st => match st with
    | .For tg iter p' q' _ => okG x g tg && okI k x it tg iter && okSs k x p p' && okSs k x q q'
    | _ => false
  | .brk => fun st => match st with
    | .Break _ => true
    | _ => false
  | .cont => fun st => match st with
    | .Continue _ => true
    | _ => false
  | .pass => fun st => match st with
    | .Pass _ => true
    | _ => false
  | .fset f o a => fun st => match atAsg st with
    | some (o', y, _, e, _) => decide (y = f) && okE k x o o' && okE k x a e && !isComp e
    | none => false
  | .fadd f o a => fun st => match atAug st with
    | some (o', y, _, e, _) => decide (y = f) && okE k x o o' && okE k x a e
    | none => false
  | .lockS t => fun st => okS k x t st
  | .nev => fun _ => true
  | .par3 i j l a b d => fun st => match st with
    | .Assign [.Tuple [.Name y1 p1, .Name y2 p2, .Name y3 p3] _ _] (.Tuple [e1, e2, e3] _ _) _ => decide (x.N[i]? = some y1) && decide (x.N[j]? = some y2) && decide (x.N[l]? = some y3) && decide (i ≠ j) && decide (i ≠ l) && decide (j ≠ l) &&
        decide (x.sc.names.lookup y1 = some .local) && decide (x.sc.names.lookup y2 = some .local) && decide (x.sc.names.lookup y3 = some .local) && okE k x a e1 && okE k x b e2 && okE k x d e3 && plainX e1 && plainX e2 && plainX e3 && (p1.line == p2.line) && (p1.line == p3.line) && !((e1 :: e2 :: e3 :: []).all (constantsAlone 8)) && !((e1 :: e2 :: e3 :: []).all (foldedForSure 8))
    | _ => false
def okSs (k : CS) (x : Ctx) : Ts → List Stmt → Bool
  | .nil => fun st => match st with
    | [] => true
    | _ => false
  | .cons t r => fun st => match st with
    | t' :: r' => okS k x t t' && okSs k x r r'
    | [] => false
end
end Y


/-! Y10: the readings are right. -/
namespace Y
open PySem PySem.Spec PyProof.Rows L2

/-! ### what the forms of expressions give -/
theorem star_plain {a : Expr} {es : List Expr} {env : Env} (h : plainX a = true) : starEach (a :: es) env = (false, eval a env) :: starEach es env := by
  cases a <;> first | rfl | cases h
theorem star_any {es : List Expr} {env : Env} {pos : Pos} (h : es.all plainX = true) : (backTo pos (starEach es env)).any (·.1) = false := by
  induction es with
  | nil => rfl
  | cons a r ih =>
    rw [List.all_cons, Bool.and_eq_true] at h
    rw [star_plain h.1]
    show (false || (backTo pos (starEach r env)).any (·.1)) = false
    rw [ih h.2]; rfl
theorem plain_ix {b : Expr} (h : plainX b = true) : PlainIx b := fun o i => by
  cases b <;> first | rfl | cases h
theorem plain_mark {b : Expr} {op : CmpOp} (h : plainX b = true) : behindInMarks op b = false := by
  cases b <;> first | rfl | cases h
theorem tru_plain {e : Expr} {env : Env} (h : specialT e = false) : ∀ whole, isTrue e env whole = (do let v ← whole; standAt e.pos; holding [v] (truthy v)) := fun whole => by
  cases e with
  | UnaryOp op _ _ => cases op <;> first | rfl | cases h
  | BoolOp _ _ _ => cases h
  | IfExp _ _ _ _ => cases h
  | Compare _ _ _ _ => cases h
  | _ => rfl
theorem swaps_no {e : Expr} {t : Option Expr} {l : Nat} {env : Env} (h : isComp e = false) : swapsWith e t l env = pure false := by
  cases e <;> first | rfl | cases h
theorem fold_plain {e : Expr} {env : Env} (h : plainX e = true) : ∀ x, foldedSetIterable e env x = pure x := fun x => by
  cases e <;> first | rfl | cases h
theorem base_plain {o : Expr} {n : Str} {env : Env} {whole : Sem Value} (h : call0 o = false) : attributeBase o n env whole = whole := by
  unfold attributeBase
  split
  · cases h
  · rfl
theorem assign_sub {a b : Expr} {env : Env} {pos : Pos} (h : plainX b = true) : ∀ v, assign (.Subscript a b pos) env v = (do
      let ov ← holding [v] (eval a env)
      let iv ← holding [v, ov] (eval b env)
      standAt pos
      holding [v, ov, iv] (setItem ov iv v)
      release [v, ov, iv] []) := fun v => by
  cases b <;> first | rfl | cases h
theorem okEs_plain {k : CS} {x : Ctx} : ∀ {ms : Es} {es : List Expr}, okEs k x ms es = true → es.all plainX = true := by
  intro ms es
  induction es generalizing ms with
  | nil => intro _; rfl
  | cons a r ih =>
    intro h
    cases ms with
    | nil => cases h
    | cons m ms =>
      simp only [okEs, Bool.and_eq_true] at h
      rw [List.all_cons, h.1.2, ih h.2]; rfl
theorem lift_frz {K : PySem.W.Frag} {L : Lk} {ta : DTE} {σ : St} {H : Hp} {Q : VK} (h : lift K L (dFrz ta) σ H Q) : lift K L ta σ H Q := by
  obtain ⟨W, e, s, Qd, st, t, k⟩ := h
  refine ⟨W, e, s, _, st, t, fun d s1 W1 v H1 q x R r => ?_⟩
  split at q
  · rename_i n
    cases r with
    | @cell _ a hr =>
      split at q
      · rename_i xs e1
        obtain ⟨b, h1, h2, vs, h3, h4⟩ := R.cells n _ e1
        rw [hr] at h1; cases h1
        exact k _ _ _ _ _ q (x.trans (Ext.fix a)) (R.fix e1 hr) (.lst (.inr rfl) h3 (h4.mono (Ext.fix a)))
      · rename_i kvs e1
        obtain ⟨b, h1, h2, h3⟩ := R.cells n _ e1
        rw [hr] at h1; cases h1
        obtain ⟨vs, h3, h4⟩ := h3
        exact k _ _ _ _ _ q (x.trans (Ext.fix a)) (R.fix e1 hr) (.dK (.inr rfl) (by rw [h3]; rfl) (h4.mono (Ext.fix a)))
      · rename_i kvs e1
        obtain ⟨b, h1, h2, h3⟩ := R.cells n _ e1
        rw [hr] at h1; cases h1
        obtain ⟨vs, h3, h4⟩ := h3
        exact k _ _ _ _ _ q (x.trans (Ext.fix a)) (R.fix e1 hr) (.dT (.inr rfl) (by rw [h3]; rfl) (h4.mono (Ext.fix a)))
      · exact q.elim
  · exact k _ _ _ _ _ q x R r
/-! ### what is known around -/
/-- a form's promise holds -/
def CfOk (X : Cx) (k : CS) (c : Cf) (j : Nat) : Prop := ∃ (lv : Nat) (f : Addr), GR X.prog X.w X.K X.mg X.base lv f (k.ks j) (c.sp j) ∧ Room (lv + 1) X.A ∧ match k.kd j with
  | .fn y => X.mg y = some (.ref f) ∧ PySem.W.keepIn X.K (.ref f) = true
  | .me cl m => Meth X.K (He.ga X.K cl) m f
  | .mk cl => Mk X.K (He.ga X.K cl) f ∧ CI X.K cl ∧ X.mg cl = some (.ref (He.ga X.K cl))
  | .pr cl y => ∃ q, PropOf X.K (He.ga X.K cl) y q f
def GcOk (K : PySem.W.Frag) (mg : Str → Option Value) (y : Str) (d : D) : Prop := ∃ (u : Value) (v : V), mg y = some u ∧ RelV v u ∧ ∀ W H, Rep K W H v d
structure Good (X : Cx) (L : Lk) (k : CS) (x : Ctx) (EX : DXE) (c : Cf) : Prop where
  N : X.N = x.N
  nd : X.N.Nodup
  sc : X.env.scope = x.sc
  fn : ∀ y, x.cok y = true → X.fn y = true
  kind : X.env.scope.kind = .function
  calm : X.calm = true
  hu : X.A.units + 70 < cLine
  hg : X.A.guards = some []
  tk : Tk X L EX
  bl : ∀ y ∈ bltNames, X.mg y = none
  cf : ∀ j, j < k.n → CfOk X k c j
  gc : ∀ j, j < k.ng → GcOk X.K X.mg (k.gn j) (c.gd j)
  isa : ∀ a b r, c.isa a b = some r → PySem.W.kitOne X.K (a.v X.K) (b.v X.K) = some r
  noat : ∀ y f, c.noat y f = true → NoAttr X.K (He.ga X.K y) f
section
variable {X : Cx} {L : Lk} {k : CS} {x : Ctx} {EX : DXE} {c : Cf}
theorem Good.blk (g : Good X L k x EX c) {scope : Scope} (hk : scope.kind = .function) (s : Shared) (H : Hp) (C : Addr) (cl : List (Str × Addr)) (fp : List Addr) : Good (X.blk s H scope (compEnvC scope cl C X.env) fp) LT k (x.blk scope) EX0 c where
  N := g.N
  nd := g.nd
  sc := by
    show relabel scope X.env = relS scope x.sc
    rw [← g.sc]; rfl
  fn := fun y h => h
  kind := hk
  calm := g.calm
  hu := g.hu
  hg := g.hg
  tk := Tk.none
  bl := g.bl
  cf := g.cf
  gc := g.gc
  isa := g.isa
  noat := g.noat
theorem Good.gl (g : Good X L k x EX c) {y : Str} (h : globB x.sc y = true) : Gl X y := by
  unfold globB at h
  split at h
  · rename_i e
    show X.env.scope.names.lookup y = _
    rw [g.sc]; exact e
  · cases h
theorem Good.vis (g : Good X L k x EX c) {y : Str} (h : visB x.sc y = true) : Vis X.env.scope y := by
  unfold visB at h
  rw [g.sc]
  split at h
  · rename_i e; exact .inl e
  · rename_i e; exact .inr (.inl e)
  · rename_i e; exact .inr (.inr e)
  · cases h
theorem Good.store (g : Good X L k x EX c) {y : Str} (h : storeB x y = true) : Loc X.env.scope y ∧ (X.fn y = true ∨ X.env.scope.names.lookup y = some .local) := by
  unfold storeB at h
  rw [g.sc]
  split at h
  · rename_i e; exact ⟨.inl e, .inr e⟩
  · rename_i e; exact ⟨.inr e, .inl (g.fn y h)⟩
  · cases h
theorem Good.nm (g : Good X L k x EX c) {y : Str} {i : Nat} (h : x.N[i]? = some y) : X.N[i]? = some y := by rw [g.N]; exact h
/-! ### operators -/
theorem op_never {f : Value → Value → Sem Value} {K : PySem.W.Frag} : OpR X f (lift2 K fun _ _ _ _ => False) := fun pins s σ H x y v u Q I rx ry h => by
  obtain ⟨_, _, _, _, _, _, _, _, h, _⟩ := h
  exact h.elim
theorem bin_ok (op : Operator) : OpR X (binaryOp op) (lift2 X.K (binD op)) := by
  cases op <;> first | exact o_add | exact o_sub | exact o_mul | exact o_fdiv | exact o_mod | exact o_pow | exact op_never
theorem cmp_ok (hu : X.A.units + 70 < cLine) (op : CmpOp) : OpR X (compareOp op) (lift2 X.K (cmpD op)) := by
  cases op
  · exact o_eq (by omega)
  · exact o_ne (by omega)
  · exact ord_ok op_lt
  · exact ord_ok op_le
  · exact ord_ok op_gt
  · exact ord_ok op_ge
  · exact o_is
  · exact o_isnot
  · exact o_in (by omega)
  · exact o_notin (by omega)
/-! ### built-ins by name -/
def BI.isTy : BI → Bool
  | .list => true | .listC => true | .tuple => true | .listD => true | .listDC => true | .dictC => true | _ => false
theorem bi_boot (f : BI) : (f.isTy = false → bootBuiltins f.name = some (.builtin (match f with | .len => "len" | .abs => "abs" | .max => "max" | .min => "min" | .all => "all" | .any => "any" | .repr => "repr" | .isi => "isinstance" | _ => "sorted"))) ∧
    (f.isTy = true → bootBuiltins f.name = some (.type (match f with | .tuple => "tuple" | .dictC => "dict" | _ => "list"))) := by
  cases f <;> exact ⟨fun h => by first | exact absurd h (by decide) | decide +kernel, fun h => by first | exact absurd h (by decide) | decide +kernel⟩
theorem bi_free (g : Good X L k x EX c) (f : BI) : X.mg f.name = none := g.bl _ (by cases f <;> decide +kernel)
theorem bi_ok (g : Good X L k x EX c) {f : BI} {p pos : Pos} {a : Expr} {es : List Expr} {r : DTA} (hg : Gl X f.name) (ha : PA X (a :: es) (liftA X.K L r)) (hp : (a :: es).all plainX = true) : PE X (.Call (.Name f.name p) (a :: es) [] pos) (lift X.K L (dCall (f.rd c) r)) := by
  rw [List.all_cons, Bool.and_eq_true] at hp
  have hn : f.name ≠ "__name__" := by cases f <;> decide +kernel
  have hd : (f.name == ("__debug__" : Str)) = false := by cases f <;> decide +kernel
  have h1 := star_plain (es := es) (env := X.env) hp.1
  have h2 := star_any (env := X.env) (pos := pos) hp.2
  have hm := bi_free g f
  obtain ⟨b1, b2⟩ := bi_boot f
  cases f
  · exact de_callB c_len hg hm (b1 rfl) ha hn hd h1 h2
  · exact de_callB c_abs hg hm (b1 rfl) ha hn hd h1 h2
  · exact de_callB (c_max g.calm) hg hm (b1 rfl) ha hn hd h1 h2
  · exact de_callB (c_min g.calm) hg hm (b1 rfl) ha hn hd h1 h2
  · exact de_callB (c_all g.calm) hg hm (b1 rfl) ha hn hd h1 h2
  · exact de_callB (c_any g.calm) hg hm (b1 rfl) ha hn hd h1 h2
  · exact de_callTy c_list hg hm (b2 rfl) ha hn hd h1 h2
  · exact de_callTy c_listC hg hm (b2 rfl) ha hn hd h1 h2
  · exact de_callTy c_tuple hg hm (b2 rfl) ha hn hd h1 h2
  · exact de_callB (c_repr g.hg g.hu) hg hm (b1 rfl) ha hn hd h1 h2
  · exact de_callB (c_sorted g.calm) hg hm (b1 rfl) ha hn hd h1 h2
  · exact de_callB (c_isi g.isa) hg hm (b1 rfl) ha hn hd h1 h2
  · exact de_callTy (c_listD g.calm) hg hm (b2 rfl) ha hn hd h1 h2
  · exact de_callTy (c_listDC g.calm) hg hm (b2 rfl) ha hn hd h1 h2
  · exact de_callTy (c_dictC g.calm) hg hm (b2 rfl) ha hn hd h1 h2
theorem bm_ok {m : BM} {r : Expr} {es : List Expr} {ap cp : Pos} {ta : DTE} {ts : DTA} (hr : PE X r (lift X.K L ta)) (ha : PA X es (liftA X.K L ts)) (h0 : es = [] → ts = dNil) (hn : es.length = m.n) (hp : es.all plainX = true) (hl : (ap.endLine == cp.line) = true) (hc : call0 r = false) :
    PE X (.Call (.Attribute r m.name ap) es [] cp) (lift X.K L (dMeth isL m.rd ta ts)) := by
  have hb := base_plain (n := m.name) (env := X.env) (whole := eval r X.env) hc
  cases es with
  | nil =>
    cases h0 rfl
    cases m
    · cases hn
    · exact (pe_bm0 PySem.F.plainAttrs_list PySem.F.slot_list_pop PySem.F.type_list_pop m_pop hr hb hl).wk fun _ _ _ h => liftM_bm0 (fun a b d => isL_ty a b d) h
    · cases hn
    · cases hn
  | cons a es =>
    cases es with
    | cons _ _ => cases m <;> cases hn
    | nil =>
      rw [List.all_cons, Bool.and_eq_true] at hp
      have h1 := star_plain (es := []) (env := X.env) hp.1
      have hf : ((backTo cp (starEach [a] X.env)).all (fun x => !x.1) && (backToKw cp (keywordEach [] X.env)).all (fun x => x.1.isSome) && decide ([a].length + ([] : List Keyword).length + (if ([] : List Keyword).isEmpty then 0 else 1) < 30)) = true := by rw [h1]; rfl
      cases m
      · exact (pe_bm PySem.F.plainAttrs_list PySem.F.slot_list_append PySem.F.type_list_append m_append hr ha hb hf hl h1 rfl).wk fun _ _ _ h => liftM_bm (fun a b d => isL_ty a b d) h
      · cases hn
      · exact (pe_bm PySem.F.plainAttrs_list PySem.F.slot_list_pop PySem.F.type_list_pop m_popAt hr ha hb hf hl h1 rfl).wk fun _ _ _ h => liftM_bm (fun a b d => isL_ty a b d) h
      · exact (pe_bm PySem.F.plainAttrs_list PySem.F.slot_list_extend PySem.F.type_list_extend m_extend hr ha hb hf hl h1 rfl).wk fun _ _ _ h => liftM_bm (fun a b d => isL_ty a b d) h
theorem m1_ok {o a : Expr} {n : Str} {ap cp : Pos} (h1 : plainX a = true) (h2 : (ap.endLine == cp.line) = true) (h3 : call0 o = false) : M1 X o n ap a cp := by
  have s1 := star_plain (es := []) (env := X.env) h1
  exact ⟨base_plain h3, by rw [s1]; rfl, h2, by rw [s1]; rfl⟩
theorem m2_ok {o a b : Expr} {n : Str} {ap cp : Pos} (h1 : plainX a = true) (h1b : plainX b = true) (h2 : (ap.endLine == cp.line) = true) (h3 : call0 o = false) : M2 X o n ap a b cp := by
  have s1 := star_plain (es := [b]) (env := X.env) h1
  have s2 := star_plain (es := []) (env := X.env) h1b
  exact ⟨base_plain h3, by rw [s1, s2]; rfl, h2, by rw [s1, s2]; rfl⟩
/-! ### targets -/
theorem names_ok (g : Good X L k x EX c) : ∀ (is : List Nat) (es : List Expr), is.length = es.length → ((is.zip es).all fun p => match p.2 with
    | .Name y _ => decide (x.N[p.1]? = some y) && storeB x y
    | _ => false) = true → PGs X es (liftGs X.K L is (gsNames is))
  | [], [], _, _ => dgs_nil
  | i :: is, e :: es, hl, h => by
    rw [List.zip_cons_cons, List.all_cons, Bool.and_eq_true] at h
    obtain ⟨h1, h2⟩ := h
    cases e with
    | Name y p =>
      simp only [Bool.and_eq_true, decide_eq_true_eq] at h1
      obtain ⟨q1, q2⟩ := g.store h1.2
      exact dgs_cons (is := [i]) (dg_name g.nd (g.nm h1.1) q1 q2) (names_ok g is es (by simpa using hl) h2) rfl
    | _ => cases h1
  | [], _ :: _, hl, _ => by cases hl
  | _ :: _, [], hl, _ => by cases hl
theorem names_len : ∀ (is : List Nat) (es : List Expr) (env : Env), ((is.zip es).all fun p => match p.2 with
    | .Name y _ => decide (x.N[p.1]? = some y) && storeB x y
    | _ => false) = true → is.length = es.length → (assignEach es env).length = is.length ∧ (assignEach es env).findIdx? (·.1) = none
  | [], [], _, _, _ => ⟨rfl, rfl⟩
  | i :: is, e :: es, env, h, hl => by
    rw [List.zip_cons_cons, List.all_cons, Bool.and_eq_true] at h
    obtain ⟨h1, h2⟩ := h
    obtain ⟨q1, q2⟩ := names_len is es env h2 (by simpa using hl)
    cases e with
    | Name y p =>
      refine ⟨by show (assignEach es env).length + 1 = _; rw [q1]; rfl, ?_⟩
      show List.findIdx? (·.1) ((false, assign (.Name y p) env) :: assignEach es env) = none
      rw [List.findIdx?_cons, q2]; rfl
    | _ => cases h1
  | [], _ :: _, _, _, hl => by cases hl
  | _ :: _, [], _, _, hl => by cases hl
theorem star_ok (g : Good X L k x EX c) : ∀ (is : List Nat) (es : List Expr), okStar x is es = true → PGs X es (liftGs X.K L is (gsNames is)) ∧ (assignEach es X.env).length = is.length - 1 + 1 ∧ (assignEach es X.env).findIdx? (·.1) = some (is.length - 1)
  | [], _, h => by unfold okStar at h; cases h
  | _ :: _, [], h => by unfold okStar at h; cases h
  | i :: is, e :: es, h => by
    unfold okStar at h
    cases e with
    | Name y p =>
      simp only [Bool.and_eq_true, decide_eq_true_eq] at h
      obtain ⟨⟨h1, h2⟩, h3⟩ := h
      obtain ⟨q1, q2⟩ := g.store h2
      obtain ⟨r1, r2, r3⟩ := star_ok g is es h3
      have l1 : is.length - 1 + 1 = is.length := by
        cases is with
        | nil => unfold okStar at h3; cases h3
        | cons _ _ => rfl
      refine ⟨dgs_cons (is := [i]) (dg_name g.nd (g.nm h1) q1 q2) r1 rfl, ?_, ?_⟩
      · show (assignEach es X.env).length + 1 = _
        rw [r2, l1]; rfl
      · show List.findIdx? (·.1) ((false, assign (.Name y p) X.env) :: assignEach es X.env) = _
        rw [List.findIdx?_cons, r3]
        show some (is.length - 1 + 1) = some (is.length + 1 - 1)
        rw [l1]; rfl
    | Starred e p =>
      cases e with
      | Name y p =>
        simp only [Bool.and_eq_true, decide_eq_true_eq, List.isEmpty_iff] at h
        obtain ⟨⟨⟨h1, h2⟩, h3⟩, h4⟩ := h
        subst h3 h4
        obtain ⟨q1, q2⟩ := g.store h2
        exact ⟨dgs_consS (is := [i]) (dg_name g.nd (g.nm h1) q1 q2) dgs_nil, rfl, rfl⟩
      | _ => cases h
    | _ => cases h
theorem tg_ok (g : Good X L k x EX c) {t : Tg} {e : Expr} (h : okG x t e = true) : PG X e (liftG X.K L t.slots t.rd) := by
  unfold okG at h
  split at h
  · rename_i i y p
    simp only [Bool.and_eq_true, decide_eq_true_eq] at h
    obtain ⟨q1, q2⟩ := g.store h.2
    exact dg_name g.nd (g.nm h.1) q1 q2
  · rename_i is es kk p
    simp only [Bool.and_eq_true, beq_iff_eq] at h
    obtain ⟨q1, q2⟩ := names_len is es X.env h.2 h.1
    exact dg_seq g.calm (names_ok g is es h.1 h.2) q1 q2
  · rename_i is es kk p
    obtain ⟨q1, q2, q3⟩ := star_ok g is es h
    exact dg_star g.calm q1 q2 q3
  · cases h
end
end Y


/-! Y11: the readings are right, for every expression and statement. -/
namespace Y
open PySem PySem.Spec PyProof.Rows L2

structure Snd (X : Cx) (L : Lk) (t : DTE × DTT) (e : Expr) : Prop where
  pe : PE X e (lift X.K L t.1)
  pt : PT X e (liftT X.K L t.2)
  pw : ∀ op xs pos, e = .BoolOp op xs pos → PW X e (liftT X.K L t.2)
theorem snd_both {X : Cx} {L : Lk} {t : DTE} {e : Expr} (h : PE X e (lift X.K L t)) (hs : specialT e = false) : Snd X L (both t) e :=
  ⟨h, dt_tru h (tru_plain hs), fun op xs pos z => by subst z; cases hs⟩
theorem dt_false {X : Cx} {L : Lk} {e : Expr} : PT X e (liftT X.K L fun _ _ _ => False) := ⟨fun pins s σ H Q I h => by obtain ⟨_, _, _, _, _, h, _⟩ := h; exact h.elim⟩
theorem okKs_plain {k : CS} {x : Ctx} : ∀ {ms : Es} {ks : List Keyword}, okKs k x ms ks = true → True := fun _ => trivial
theorem kw_all {ks : List Str} {kws : List Keyword} {env : Env} {pos : Pos} (h : kws.map (·.arg) = ks.map some) :
    (backToKw pos (keywordEach kws env)).all (·.1.isSome) = true ∧ (backToKw pos (keywordEach kws env)).filterMap (·.1) = ks ∧ (backToKw pos (keywordEach kws env)).any (·.1.isNone) = false := by
  induction kws generalizing ks with
  | nil => cases ks with
    | nil => exact ⟨rfl, rfl, rfl⟩
    | cons _ _ => cases h
  | cons q r ih =>
    obtain ⟨n, v, p⟩ := q
    cases ks with
    | nil => cases h
    | cons m ms =>
      have h' : n :: r.map (·.arg) = some m :: ms.map some := h
      injection h' with h1 h2
      subst h1
      obtain ⟨i1, i2, i3⟩ := ih h2
      refine ⟨?_, ?_, ?_⟩
      · show (true && (backToKw pos (keywordEach r env)).all (·.1.isSome)) = true
        rw [i1]; rfl
      · show m :: (backToKw pos (keywordEach r env)).filterMap (·.1) = m :: ms
        rw [i2]
      · show (false || (backToKw pos (keywordEach r env)).any (·.1.isNone)) = false
        rw [i3]; rfl
theorem shape_of {X : Cx} {k : CS} {x : Ctx} {es : Es} {es' : List Expr} {ks' : List Keyword} {ks : List Str} {pos : Pos} (h : okEs k x es es' = true) (h2 : ks'.map (·.arg) = ks.map some) : Shape X es' ks' ks pos := by
  have hp := okEs_plain h
  obtain ⟨a1, a2, a3⟩ := kw_all (env := X.env) (pos := pos) h2
  refine ⟨fun a r e => ?_, star_any hp, a1, a2⟩
  subst e
  rw [List.all_cons, Bool.and_eq_true] at hp
  exact ⟨star_plain hp.1, star_any hp.2⟩
theorem nil_of {k : CS} {x : Ctx} {es : Es} {es' : List Expr} {c : Cf} {EX : DXE} (h : okEs k x es es' = true) (e : es' = []) : wps c EX es = dNil := by
  subst e
  cases es with
  | nil => rfl
  | cons _ _ => cases h
mutual
theorem sE : ∀ (m : E) (e : Expr) (X : Cx) (L : Lk) (k : CS) (x : Ctx) (EX : DXE) (c : Cf), Good X L k x EX c → okE k x m e = true → Snd X L (wp c EX m) e
  | .var i, e, X, L, k, x, EX, c, g, h => by
    cases e with
    | Name y p =>
      simp only [okE, Bool.and_eq_true, decide_eq_true_eq, Bool.not_eq_true'] at h
      exact snd_both ((pe_var (g.nm h.1.1.1) (g.vis h.1.1.2) h.1.2 h.2).wk fun _ _ _ q => lift_var q) rfl
    | _ => cases h
  | .int i, e, X, L, k, x, EX, c, g, h => by
    cases e with
    | Constant v _ _ =>
      cases v with
      | int j =>
        simp only [okE, decide_eq_true_eq] at h
        subst h
        exact snd_both (pe_int.wk fun _ _ _ q => lift_c (fun _ _ _ => .int _) q) rfl
      | _ => cases h
    | _ => cases h
  | .str i, e, X, L, k, x, EX, c, g, h => by
    cases e with
    | Constant v _ _ =>
      cases v with
      | str j =>
        simp only [okE, decide_eq_true_eq] at h
        subst h
        exact snd_both (pe_str.wk fun _ _ _ q => lift_c (fun _ _ _ => .str _) q) rfl
      | _ => cases h
    | _ => cases h
  | .bl i, e, X, L, k, x, EX, c, g, h => by
    cases e with
    | Constant v _ _ =>
      cases v with
      | bool j =>
        simp only [okE, decide_eq_true_eq] at h
        subst h
        exact snd_both (pe_bl.wk fun _ _ _ q => lift_c (fun _ _ _ => .bl _) q) rfl
      | _ => cases h
    | _ => cases h
  | .non, e, X, L, k, x, EX, c, g, h => by
    cases e with
    | Constant v _ _ =>
      cases v with
      | none => exact snd_both (pe_non.wk fun _ _ _ q => lift_c (fun _ _ _ => .non) q) rfl
      | _ => cases h
    | _ => cases h
  | .bin op a b, e, X, L, k, x, EX, c, g, h => by
    cases e with
    | BinOp a' op' b' p =>
      simp only [okE, Bool.and_eq_true, decide_eq_true_eq] at h
      obtain ⟨⟨h0, h1⟩, h2⟩ := h
      subst h0
      exact snd_both (de_op (bin_ok op) (sE a a' X L k x EX c g h1).pe (sE b b' X L k x EX c g h2).pe) rfl
    | _ => cases h
  | .cmp op a b, e, X, L, k, x, EX, c, g, h => by
    cases e with
    | Compare a' ops bs p =>
      match ops, bs, h with
      | [op'], [b'], h =>
        simp only [okE, Bool.and_eq_true, decide_eq_true_eq] at h
        obtain ⟨⟨⟨h0, h1⟩, h2⟩, h3⟩ := h
        subst h0
        have i1 := (sE a a' X L k x EX c g h1).pe
        have i2 := (sE b b' X L k x EX c g h2).pe
        exact ⟨de_cmp (cmp_ok g.hu op) i1 i2 (plain_mark h3), dt_cmp (cmp_ok g.hu op) i1 i2 (plain_mark h3), fun _ _ _ z => by cases z⟩
      | [], _, h => simp [okE] at h
      | [_], [], h => simp [okE] at h
      | [_], _ :: _ :: _, h => simp [okE] at h
      | _ :: _ :: _, _, h => simp [okE] at h
    | _ => cases h
  | .chain o1 o2 a b d, e, X, L, k, x, EX, c, g, h => by
    cases e with
    | Compare a' ops bs p =>
      match ops, bs, h with
      | [p1, p2], [b', d'], h =>
        simp only [okE, Bool.and_eq_true, decide_eq_true_eq] at h
        obtain ⟨⟨⟨⟨⟨h0, h1⟩, h2⟩, h3⟩, h4⟩, h5⟩ := h
        subst h0; subst h1
        have i1 := (sE a a' X L k x EX c g h2).pe
        have i2 := (sE b b' X L k x EX c g h3).pe
        have i3 := (sE d d' X L k x EX c g h4).pe
        have hm : lastMarks [o1, o2] [b', d'] = false := plain_mark h5
        exact ⟨de_chain (cmp_ok g.hu o1) (cmp_ok g.hu o2) i1 i2 i3 hm, dt_chain (cmp_ok g.hu o1) (cmp_ok g.hu o2) i1 i2 i3 hm, fun _ _ _ z => by cases z⟩
      | [], _, h => simp [okE] at h
      | [_], _, h => simp [okE] at h
      | [_, _], [], h => simp [okE] at h
      | [_, _], [_], h => simp [okE] at h
      | [_, _], _ :: _ :: _ :: _, h => simp [okE] at h
      | _ :: _ :: _ :: _, _, h => simp [okE] at h
    | _ => cases h
  | .and a b, e, X, L, k, x, EX, c, g, h => by
    cases e with
    | BoolOp op xs p =>
      match op, xs, h with
      | .And, [a', b'], h =>
        simp only [okE, Bool.and_eq_true] at h
        have i1 := sE a a' X L k x EX c g h.1
        have i2 := sE b b' X L k x EX c g h.2
        have w := dw_and (pos := p) i1.pt (dw_and1 i2.pt)
        exact ⟨de_and i1.pe (pe_one i2.pe), w.pt, fun _ _ _ z => by cases z; exact w⟩
      | .And, a' :: b' :: c' :: r', h =>
        simp only [okE, Bool.and_eq_true] at h
        have i1 := sE a a' X L k x EX c g h.1
        have i2 := sE b _ X L k x EX c g h.2
        have w := dw_and i1.pt (i2.pw _ _ _ rfl)
        exact ⟨de_and i1.pe i2.pe, w.pt, fun _ _ _ z => by cases z; exact w⟩
      | .And, [], h => simp [okE] at h
      | .And, [_], h => simp [okE] at h
      | .Or, _, h => simp [okE] at h
    | _ => cases h
  | .or a b, e, X, L, k, x, EX, c, g, h => by
    cases e with
    | BoolOp op xs p =>
      match op, xs, h with
      | .Or, [a', b'], h =>
        simp only [okE, Bool.and_eq_true] at h
        have i1 := sE a a' X L k x EX c g h.1
        have i2 := sE b b' X L k x EX c g h.2
        have w := dw_or (pos := p) i1.pt (dw_or1 i2.pt)
        exact ⟨de_or i1.pe (pe_one i2.pe), w.pt, fun _ _ _ z => by cases z; exact w⟩
      | .Or, a' :: b' :: c' :: r', h =>
        simp only [okE, Bool.and_eq_true] at h
        have i1 := sE a a' X L k x EX c g h.1
        have i2 := sE b _ X L k x EX c g h.2
        have w := dw_or i1.pt (i2.pw _ _ _ rfl)
        exact ⟨de_or i1.pe i2.pe, w.pt, fun _ _ _ z => by cases z; exact w⟩
      | .Or, [], h => simp [okE] at h
      | .Or, [_], h => simp [okE] at h
      | .And, _, h => simp [okE] at h
    | _ => cases h
  | .not a, e, X, L, k, x, EX, c, g, h => by
    cases e with
    | UnaryOp op a' p =>
      match op, h with
      | .Not, h =>
        simp only [okE] at h
        have i1 := sE a a' X L k x EX c g h
        exact ⟨de_not i1.pe, dt_not i1.pt, fun _ _ _ z => by cases z⟩
      | .Invert, h => simp [okE] at h
      | .UAdd, h => simp [okE] at h
      | .USub, h => simp [okE] at h
    | _ => cases h
  | .ife d a b, e, X, L, k, x, EX, c, g, h => by
    cases e with
    | IfExp d' a' b' p =>
      simp only [okE, Bool.and_eq_true] at h
      exact ⟨de_ife (sE d d' X L k x EX c g h.1.1).pt (sE a a' X L k x EX c g h.1.2).pe (sE b b' X L k x EX c g h.2).pe, dt_false, fun _ _ _ z => by cases z⟩
    | _ => cases h
  | .ix a i, e, X, L, k, x, EX, c, g, h => by
    cases e with
    | Subscript a' i' p =>
      simp only [okE, Bool.and_eq_true] at h
      exact snd_both (de_ix (Nat.lt_of_le_of_lt (by omega) g.hu) (sE a a' X L k x EX c g h.1.1).pe (sE i i' X L k x EX c g h.1.2).pe (plain_ix h.2)) rfl
    | _ => cases h
  | .sl a lo hi, e, X, L, k, x, EX, c, g, h => by
    cases e with
    | Subscript a' i' p =>
      cases i' with
      | Slice lo' hi' st p2 =>
        cases st with
        | some _ => simp [okE] at h
        | none =>
          simp only [okE, Bool.and_eq_true] at h
          obtain ⟨⟨h1, h2⟩, h3⟩ := h
          have q1 : PO X lo' (liftO X.K L (partD lo (wp c EX lo).1)) := by
            cases lo' with
            | none => cases lo <;> first | exact do_none | cases h2
            | some l =>
              have hl : okE k x lo l = true := by cases lo <;> first | exact h2 | cases h2
              have i := do_some (sE lo l X L k x EX c g hl).pe
              cases lo <;> first | exact i | cases h2
          have q2 : PO X hi' (liftO X.K L (partD hi (wp c EX hi).1)) := by
            cases hi' with
            | none => cases hi <;> first | exact do_none | cases h3
            | some l =>
              have hl : okE k x hi l = true := by cases hi <;> first | exact h3 | cases h3
              have i := do_some (sE hi l X L k x EX c g hl).pe
              cases hi <;> first | exact i | cases h3
          exact snd_both (de_sl (sE a a' X L k x EX c g h1).pe q1 q2) rfl
      | _ => simp [okE] at h
    | _ => cases h
  | .tup es, e, X, L, k, x, EX, c, g, h => by
    cases e with
    | Tuple es' n p => exact snd_both (de_tup (sEs es es' X L k x EX c g h)) rfl
    | _ => cases h
  | .lst cl es, e, X, L, k, x, EX, c, g, h => by
    cases e with
    | List es' p =>
      have i := sEs es es' X L k x EX c g h
      cases cl with
      | true => exact snd_both (de_lstC i) rfl
      | false => exact snd_both (de_lst i) rfl
    | _ => cases h
  | .bi f es, e, X, L, k, x, EX, c, g, h => by
    cases e with
    | Call fn es' ks p =>
      match fn, es', ks, h with
      | .Name y p2, a :: r, [], h =>
        simp only [okE, Bool.and_eq_true, decide_eq_true_eq] at h
        obtain ⟨⟨h0, h1⟩, h2⟩ := h
        subst h0
        exact snd_both (bi_ok g (g.gl h1) (sEs es (a :: r) X L k x EX c g h2) (okEs_plain h2)) rfl
      | .Name _ _, [], _, h => simp [okE] at h
      | .Name _ _, _ :: _, _ :: _, h => simp [okE] at h
      | .BoolOp .., _, _, h => simp [okE] at h
      | .NamedExpr .., _, _, h => simp [okE] at h
      | .BinOp .., _, _, h => simp [okE] at h
      | .UnaryOp .., _, _, h => simp [okE] at h
      | .Lambda .., _, _, h => simp [okE] at h
      | .IfExp .., _, _, h => simp [okE] at h
      | .Dict .., _, _, h => simp [okE] at h
      | .Set .., _, _, h => simp [okE] at h
      | .ListComp .., _, _, h => simp [okE] at h
      | .SetComp .., _, _, h => simp [okE] at h
      | .DictComp .., _, _, h => simp [okE] at h
      | .GeneratorExp .., _, _, h => simp [okE] at h
      | .Await .., _, _, h => simp [okE] at h
      | .Yield .., _, _, h => simp [okE] at h
      | .YieldFrom .., _, _, h => simp [okE] at h
      | .Compare .., _, _, h => simp [okE] at h
      | .Call .., _, _, h => simp [okE] at h
      | .FormattedValue .., _, _, h => simp [okE] at h
      | .JoinedStr .., _, _, h => simp [okE] at h
      | .Constant .., _, _, h => simp [okE] at h
      | .Attribute .., _, _, h => simp [okE] at h
      | .Subscript .., _, _, h => simp [okE] at h
      | .Starred .., _, _, h => simp [okE] at h
      | .List .., _, _, h => simp [okE] at h
      | .Tuple .., _, _, h => simp [okE] at h
      | .Slice .., _, _, h => simp [okE] at h
    | _ => cases h
  | .call j es ks, e, X, L, k, x, EX, c, g, h => by
    cases e with
    | Call fn es' ks' p =>
      match fn, es', ks', h with
      | .Name y p2, es', ks', h =>
        simp only [okE, Bool.and_eq_true, decide_eq_true_eq, Bool.not_eq_true'] at h
        obtain ⟨⟨⟨⟨⟨⟨h0, h1⟩, h2⟩, h3⟩, h4⟩, h5⟩, h6⟩ := h
        obtain ⟨lv, f, F, hr, hk⟩ := g.cf j h0
        rw [h1] at hk
        exact snd_both (de_callR F (hr.mono (Nat.le_succ _)) g.hg (g.gl h2) hk.1 hk.2 g.tk (shape_of h4 h6) (sEs es es' X L k x EX c g h4) (sKs ks ks' X L k x EX c g h5) (nil_of h4) h3) rfl
      | .BoolOp .., _, _, h => simp [okE] at h
      | .NamedExpr .., _, _, h => simp [okE] at h
      | .BinOp .., _, _, h => simp [okE] at h
      | .UnaryOp .., _, _, h => simp [okE] at h
      | .Lambda .., _, _, h => simp [okE] at h
      | .IfExp .., _, _, h => simp [okE] at h
      | .Dict .., _, _, h => simp [okE] at h
      | .Set .., _, _, h => simp [okE] at h
      | .ListComp .., _, _, h => simp [okE] at h
      | .SetComp .., _, _, h => simp [okE] at h
      | .DictComp .., _, _, h => simp [okE] at h
      | .GeneratorExp .., _, _, h => simp [okE] at h
      | .Await .., _, _, h => simp [okE] at h
      | .Yield .., _, _, h => simp [okE] at h
      | .YieldFrom .., _, _, h => simp [okE] at h
      | .Compare .., _, _, h => simp [okE] at h
      | .Call .., _, _, h => simp [okE] at h
      | .FormattedValue .., _, _, h => simp [okE] at h
      | .JoinedStr .., _, _, h => simp [okE] at h
      | .Constant .., _, _, h => simp [okE] at h
      | .Attribute .., _, _, h => simp [okE] at h
      | .Subscript .., _, _, h => simp [okE] at h
      | .Starred .., _, _, h => simp [okE] at h
      | .List .., _, _, h => simp [okE] at h
      | .Tuple .., _, _, h => simp [okE] at h
      | .Slice .., _, _, h => simp [okE] at h
    | _ => cases h
  | .meth m r es, e, X, L, k, x, EX, c, g, h => by
    cases e with
    | Call fn es' ks' p =>
      match fn, es', ks', h with
      | .Attribute r' y ap, es', [], h =>
        simp only [okE, Bool.and_eq_true, decide_eq_true_eq, Bool.not_eq_true'] at h
        obtain ⟨⟨⟨⟨⟨h0, h1⟩, h2⟩, h3⟩, h4⟩, h5⟩ := h
        subst h0
        refine snd_both (bm_ok (sE r r' X L k x EX c g h1).pe (sEs es es' X L k x EX c g h2) (fun z => ?_) h3 (okEs_plain h2) h4 h5) rfl
        subst z
        cases es with
        | nil => rfl
        | cons _ _ => cases h2
      | .Attribute _ _ _, _, _ :: _, h => simp [okE] at h
      | .BoolOp .., _, _, h => simp [okE] at h
      | .NamedExpr .., _, _, h => simp [okE] at h
      | .BinOp .., _, _, h => simp [okE] at h
      | .UnaryOp .., _, _, h => simp [okE] at h
      | .Lambda .., _, _, h => simp [okE] at h
      | .IfExp .., _, _, h => simp [okE] at h
      | .Dict .., _, _, h => simp [okE] at h
      | .Set .., _, _, h => simp [okE] at h
      | .ListComp .., _, _, h => simp [okE] at h
      | .SetComp .., _, _, h => simp [okE] at h
      | .DictComp .., _, _, h => simp [okE] at h
      | .GeneratorExp .., _, _, h => simp [okE] at h
      | .Await .., _, _, h => simp [okE] at h
      | .Yield .., _, _, h => simp [okE] at h
      | .YieldFrom .., _, _, h => simp [okE] at h
      | .Compare .., _, _, h => simp [okE] at h
      | .Call .., _, _, h => simp [okE] at h
      | .FormattedValue .., _, _, h => simp [okE] at h
      | .JoinedStr .., _, _, h => simp [okE] at h
      | .Constant .., _, _, h => simp [okE] at h
      | .Name .., _, _, h => simp [okE] at h
      | .Subscript .., _, _, h => simp [okE] at h
      | .Starred .., _, _, h => simp [okE] at h
      | .List .., _, _, h => simp [okE] at h
      | .Tuple .., _, _, h => simp [okE] at h
      | .Slice .., _, _, h => simp [okE] at h
    | _ => cases h
  | .comp cl elt t it cs own, e, X, L, k, x, EX, c, g, h => by
    cases e with
    | ListComp elt' gens scope p =>
      match gens, h with
      | [⟨tg, iter, ifs, as⟩], h =>
        simp only [okE, Bool.and_eq_true, decide_eq_true_eq] at h
        obtain ⟨⟨⟨⟨⟨⟨h0, h1⟩, h2⟩, h3⟩, h4⟩, h5⟩, h6⟩ := h
        subst h0
        have hb : BlkOk X.N X.env.scope scope (own.map fun i => (x.N.getD i "", i)) := by
          rw [g.N, g.sc]
          exact blkOk_by h5
        have ho : (own.map fun i => (x.N.getD i "", i)).map (·.2) = own := by
          rw [List.map_map]
          exact List.map_id' own
        have hv : ∀ i ∈ t.slots, i ∈ (own.map fun i => (x.N.getD i "", i)).map (·.2) := by
          rw [ho]
          intro i hi
          exact of_decide_eq_true (List.all_eq_true.mp h6 i hi)
        have gb := fun s H C cl fp => g.blk hb.kind s H C cl fp
        have i1 := sI it tg iter X L k x EX c g h1
        have hg := fun s H C cl fp => tg_ok (gb s H C cl fp) h2
        have ht := fun s H C cl fp => sC cs ifs _ k (x.blk scope) c (gb s H C cl fp) h3
        have he := fun s H C cl fp => (sE elt elt' _ LT k (x.blk scope) EX0 c (gb s H C cl fp) h4).pe
        cases cl with
        | true =>
          have q := de_compC (pos := p) g.calm g.nd i1.1 hb hv hg ht he (fold_plain i1.2)
          rw [ho] at q
          exact snd_both q rfl
        | false =>
          have q := de_comp (pos := p) g.calm g.nd i1.1 hb hv hg ht he (fold_plain i1.2)
          rw [ho] at q
          exact snd_both q rfl
      | [], h => simp [okE] at h
      | _ :: _ :: _, h => simp [okE] at h
    | _ => cases h
  | .frz a, e, X, L, k, x, EX, c, g, h => by
    simp only [okE, Bool.and_eq_true, Bool.not_eq_true'] at h
    exact snd_both ((sE a e X L k x EX c g h.2).pe.wk fun _ _ _ q => lift_frz q) h.1
  | .nop, e, X, L, k, x, EX, c, g, h => by cases h
  | .dnew, e, X, L, k, x, EX, c, g, h => by
    simp only [okE] at h
    split at h
    · exact snd_both de_dnew rfl
    · cases h
  | .rev a, e, X, L, k, x, EX, c, g, h => by
    simp only [okE] at h
    split at h
    · rw [Bool.and_eq_true, decide_eq_true_eq] at h
      obtain ⟨h1, h2⟩ := h
      subst h1
      exact snd_both (de_back (sE a _ X L k x EX c g h2).pe) rfl
    · cases h
  | .neg i, e, X, L, k, x, EX, c, g, h => by
    simp only [okE] at h
    split at h
    · rw [decide_eq_true_eq] at h
      subst h
      exact snd_both de_neg rfl
    · cases h
  | .dget a i d, e, X, L, k, x, EX, c, g, h => by
    have hu : X.A.units + 1 < cLine := Nat.lt_of_le_of_lt (by omega) g.hu
    simp only [okE] at h
    split at h
    · rename_i a' y ap i' cp e1
      cases atCall_some e1
      simp only [Bool.and_eq_true, Bool.not_eq_true', decide_eq_true_eq] at h
      obtain ⟨⟨⟨⟨⟨⟨h0, h1⟩, h2⟩, h3⟩, h4⟩, h5⟩, h6⟩ := h
      subst h0
      cases d with
      | nop => exact snd_both (de_dget1 hu (sE a a' X L k x EX c g h1).pe (sE i i' X L k x EX c g h2).pe (m1_ok h3 h4 h5)) rfl
      | _ => cases h6
    · rename_i a' y ap i' d' cp e1
      cases atCall_some e1
      simp only [Bool.and_eq_true, Bool.not_eq_true', decide_eq_true_eq] at h
      obtain ⟨⟨⟨⟨⟨⟨⟨⟨h0, h1⟩, h2⟩, h3⟩, h4⟩, h5⟩, h6⟩, h7⟩, h8⟩ := h
      subst h0
      have z := de_dget2 hu (sE a a' X L k x EX c g h1).pe (sE i i' X L k x EX c g h2).pe (sE d d' X L k x EX c g h6).pe (m2_ok (ap := ap) (cp := cp) (n := "get") (o := a') h3 h7 h4 h5)
      cases d with
      | nop => cases h8
      | _ => exact snd_both z rfl
    · cases h
  | .tyv t, e, X, L, k, x, EX, c, g, h => by
    cases e with
    | Name y p =>
      simp only [okE, Bool.and_eq_true, decide_eq_true_eq] at h
      obtain ⟨⟨h0, h1⟩, h2⟩ := h
      subst h0
      have hm : X.mg (t.nm : Str) = none := g.bl _ (by cases t <;> first | exact absurd rfl h1 | decide +kernel)
      have hv : bootBuiltins (t.nm : Str) = some (.type t.nm) := by cases t <;> first | exact absurd rfl h1 | decide +kernel
      have hn : (t.nm : Str) ≠ "__name__" := by cases t <;> decide +kernel
      have hd : ((t.nm : Str) == ("__debug__" : Str)) = false := by cases t <;> decide +kernel
      exact snd_both ((pe_bltn (v := .ty t.nm) (g.gl h2) hm hv rfl hn hd).wk fun _ _ _ q => lift_c (fun _ _ _ => .ty _) q) rfl
    | _ => cases h
  | .glb j, e, X, L, k, x, EX, c, g, h => by
    cases e with
    | Name y p =>
      simp only [okE, Bool.and_eq_true, decide_eq_true_eq, Bool.not_eq_true'] at h
      obtain ⟨⟨⟨h0, h1⟩, h2⟩, h3⟩ := h
      subst h1
      obtain ⟨u, v, hm, ru, rd⟩ := g.gc j h0
      refine snd_both ((pe_glob (g.gl h2) hm ru h3).wk fun σ H Q q => ?_) rfl
      obtain ⟨W, e, s, Qd, st, t, kk⟩ := q
      exact kk _ s W v H t (Ext.refl W H) st.rel (rd W H)
    | _ => cases h
  | .fld f o, e, X, L, k, x, EX, c, g, h => by
    cases e with
    | Attribute o' y p =>
      simp only [okE, Bool.and_eq_true, decide_eq_true_eq, Bool.not_eq_true'] at h
      obtain ⟨⟨h0, h1⟩, h2⟩ := h
      subst h0
      exact snd_both (de_fld (sE o o' X L k x EX c g h1).pe (base_plain h2)) rfl
    | _ => cases h
  | .prop j cl f o, e, X, L, k, x, EX, c, g, h => by
    cases e with
    | Attribute o' y p =>
      simp only [okE, Bool.and_eq_true, decide_eq_true_eq, Bool.not_eq_true'] at h
      obtain ⟨⟨⟨⟨⟨h0, h1⟩, h2⟩, h3⟩, h4⟩, h5⟩ := h
      subst h0
      obtain ⟨lv, fa, F, hr, hk⟩ := g.cf j h3
      rw [h4] at hk
      rw [h5] at F
      obtain ⟨q, hp⟩ := hk
      exact snd_both (de_prop F hr g.hg hp (sE o o' X L k x EX c g h1).pe (base_plain h2)) rfl
    | _ => cases h
  | .mcall j cl m o es ks, e, X, L, k, x, EX, c, g, h => by
    simp only [okE] at h
    split at h
    · rename_i o' y ap es' ks' cp e1
      cases atCallK_some e1
      simp only [Bool.and_eq_true, decide_eq_true_eq, Bool.not_eq_true'] at h
      obtain ⟨⟨⟨⟨⟨⟨⟨⟨⟨h0, h1⟩, h2⟩, h3⟩, h4⟩, h5⟩, h6⟩, h7⟩, h8⟩, h9⟩ := h
      subst h2
      obtain ⟨lv, f, F, hr, hk⟩ := g.cf j h0
      rw [h1] at hk
      exact snd_both (de_mcall F (hr.mono (Nat.le_succ _)) g.hg hk g.tk (shape_of h4 h6) (sE o o' X L k x EX c g h3).pe (sEs es es' X L k x EX c g h4) (sKs ks ks' X L k x EX c g h5) (nil_of h4) (base_plain h8) h9 h7) rfl
    · cases h
  | .make j cl es ks, e, X, L, k, x, EX, c, g, h => by
    simp only [okE] at h
    split at h
    · rename_i y yp es' ks' cp e1
      cases nmCallK_some e1
      simp only [Bool.and_eq_true, decide_eq_true_eq, Bool.not_eq_true'] at h
      obtain ⟨⟨⟨⟨⟨⟨⟨h0, h1⟩, h2⟩, h3⟩, h4⟩, h5⟩, h6⟩, h7⟩ := h
      subst h2
      obtain ⟨lv, f, F, hr, hk⟩ := g.cf j h0
      rw [h1] at hk
      exact snd_both (de_make hk.1 hk.2.1 F hr g.hg (g.gl h3) hk.2.2 g.tk (shape_of h5 h7) (sEs es es' X L k x EX c g h5) (sKs ks ks' X L k x EX c g h6) (nil_of h5) h4) rfl
    · cases h
  | .lenset a, e, X, L, k, x, EX, c, g, h => by
    simp only [okE] at h
    split at h
    · rename_i p1 p2 a' q cp e1
      cases lsCall_some e1
      simp only [Bool.and_eq_true] at h
      obtain ⟨⟨⟨h0, h1⟩, h2⟩, h3⟩ := h
      exact snd_both (de_lenset g.calm (g.gl h2) (g.bl _ (by decide +kernel)) (g.gl h3) (g.bl _ (by decide +kernel)) (sE a a' X L k x EX c g h0).pe (star_plain h1)) rfl
    · cases h
  | .nev, e, X, L, k, x, EX, c, g, h => ⟨⟨fun pins s σ H Q I h => by obtain ⟨_, _, _, _, _, h, _⟩ := h; exact h.elim⟩, dt_false, fun _ _ _ _ => ⟨fun wh pins s σ H Q I h => by obtain ⟨_, _, _, _, _, h, _⟩ := h; exact h.elim⟩⟩
  | .lockE a, e, X, L, k, x, EX, c, g, h => by
    simp only [okE, Bool.and_eq_true, Bool.not_eq_true'] at h
    exact snd_both (de_lock (sE a e X L k x EX c g h.2).pe) h.1
theorem sEs : ∀ (ms : Es) (es : List Expr) (X : Cx) (L : Lk) (k : CS) (x : Ctx) (EX : DXE) (c : Cf), Good X L k x EX c → okEs k x ms es = true → PA X es (liftA X.K L (wps c EX ms))
  | .nil, es, X, L, k, x, EX, c, g, h => by
    cases es with
    | nil => exact da_nil
    | cons _ _ => cases h
  | .cons a r, es, X, L, k, x, EX, c, g, h => by
    cases es with
    | nil => cases h
    | cons a' r' =>
      simp only [okEs, Bool.and_eq_true] at h
      exact da_cons (sE a a' X L k x EX c g h.1.1).pe (sEs r r' X L k x EX c g h.2) (star_plain h.1.2)
theorem sKs : ∀ (ms : Es) (es : List Keyword) (X : Cx) (L : Lk) (k : CS) (x : Ctx) (EX : DXE) (c : Cf), Good X L k x EX c → okKs k x ms es = true → PK X es (liftA X.K L (wps c EX ms))
  | .nil, es, X, L, k, x, EX, c, g, h => by
    cases es with
    | nil => exact dk_nil
    | cons _ _ => cases h
  | .cons a r, es, X, L, k, x, EX, c, g, h => by
    cases es with
    | nil => cases h
    | cons q r' =>
      obtain ⟨n, a', p⟩ := q
      simp only [okKs, Bool.and_eq_true] at h
      exact dk_cons (sE a a' X L k x EX c g h.1).pe (sKs r r' X L k x EX c g h.2)
theorem sI : ∀ (m : Iw) (tg e : Expr) (X : Cx) (L : Lk) (k : CS) (x : Ctx) (EX : DXE) (c : Cf), Good X L k x EX c → okI k x m tg e = true → PI X tg e (liftI X.K L (wpI c EX m)) ∧ plainX e = true
  | .e a, tg, e, X, L, k, x, EX, c, g, h => by
    simp only [okI, Bool.and_eq_true] at h
    exact ⟨di_e (sE a e X L k x EX c g h.1).pe, h.2⟩
  | .r1 a, tg, e, X, L, k, x, EX, c, g, h => by
    cases e with
    | Call fn es ks p =>
      match fn, es, ks, h with
      | .Name y p2, [a'], [], h =>
        simp only [okI, Bool.and_eq_true, decide_eq_true_eq] at h
        obtain ⟨⟨⟨h0, h1⟩, h2⟩, h3⟩ := h
        subst h0
        have s1 := star_plain (es := []) (env := X.env) h3
        exact ⟨di_range1 (g.gl h1) (g.bl _ (by decide +kernel)) (da_cons (sE a a' X L k x EX c g h2).pe da_nil s1) s1, rfl⟩
      | .Name _ _, [], _, h => simp [okI] at h
      | .Name _ _, [_], _ :: _, h => simp [okI] at h
      | .Name _ _, _ :: _ :: _, _, h => simp [okI] at h
      | .BoolOp .., _, _, h => simp [okI] at h
      | .NamedExpr .., _, _, h => simp [okI] at h
      | .BinOp .., _, _, h => simp [okI] at h
      | .UnaryOp .., _, _, h => simp [okI] at h
      | .Lambda .., _, _, h => simp [okI] at h
      | .IfExp .., _, _, h => simp [okI] at h
      | .Dict .., _, _, h => simp [okI] at h
      | .Set .., _, _, h => simp [okI] at h
      | .ListComp .., _, _, h => simp [okI] at h
      | .SetComp .., _, _, h => simp [okI] at h
      | .DictComp .., _, _, h => simp [okI] at h
      | .GeneratorExp .., _, _, h => simp [okI] at h
      | .Await .., _, _, h => simp [okI] at h
      | .Yield .., _, _, h => simp [okI] at h
      | .YieldFrom .., _, _, h => simp [okI] at h
      | .Compare .., _, _, h => simp [okI] at h
      | .Call .., _, _, h => simp [okI] at h
      | .FormattedValue .., _, _, h => simp [okI] at h
      | .JoinedStr .., _, _, h => simp [okI] at h
      | .Constant .., _, _, h => simp [okI] at h
      | .Attribute .., _, _, h => simp [okI] at h
      | .Subscript .., _, _, h => simp [okI] at h
      | .Starred .., _, _, h => simp [okI] at h
      | .List .., _, _, h => simp [okI] at h
      | .Tuple .., _, _, h => simp [okI] at h
      | .Slice .., _, _, h => simp [okI] at h
    | _ => cases h
  | .r2 a b, tg, e, X, L, k, x, EX, c, g, h => by
    cases e with
    | Call fn es ks p =>
      match fn, es, ks, h with
      | .Name y p2, [a', b'], [], h =>
        simp only [okI, Bool.and_eq_true, decide_eq_true_eq] at h
        obtain ⟨⟨⟨⟨⟨h0, h1⟩, h2⟩, h3⟩, h4⟩, h5⟩ := h
        subst h0
        have s1 := star_plain (es := [b']) (env := X.env) h3
        have s2 := star_plain (es := []) (env := X.env) h5
        have s3 : starEach [a', b'] X.env = [(false, eval a' X.env), (false, eval b' X.env)] := by rw [s1, s2]; rfl
        exact ⟨di_range2 (g.gl h1) (g.bl _ (by decide +kernel)) (da_cons (sE a a' X L k x EX c g h2).pe (da_cons (sE b b' X L k x EX c g h4).pe da_nil s2) s1) s3 s2, rfl⟩
      | .Name _ _, [], _, h => simp [okI] at h
      | .Name _ _, [_], _, h => simp [okI] at h
      | .Name _ _, [_, _], _ :: _, h => simp [okI] at h
      | .Name _ _, _ :: _ :: _ :: _, _, h => simp [okI] at h
      | .BoolOp .., _, _, h => simp [okI] at h
      | .NamedExpr .., _, _, h => simp [okI] at h
      | .BinOp .., _, _, h => simp [okI] at h
      | .UnaryOp .., _, _, h => simp [okI] at h
      | .Lambda .., _, _, h => simp [okI] at h
      | .IfExp .., _, _, h => simp [okI] at h
      | .Dict .., _, _, h => simp [okI] at h
      | .Set .., _, _, h => simp [okI] at h
      | .ListComp .., _, _, h => simp [okI] at h
      | .SetComp .., _, _, h => simp [okI] at h
      | .DictComp .., _, _, h => simp [okI] at h
      | .GeneratorExp .., _, _, h => simp [okI] at h
      | .Await .., _, _, h => simp [okI] at h
      | .Yield .., _, _, h => simp [okI] at h
      | .YieldFrom .., _, _, h => simp [okI] at h
      | .Compare .., _, _, h => simp [okI] at h
      | .Call .., _, _, h => simp [okI] at h
      | .FormattedValue .., _, _, h => simp [okI] at h
      | .JoinedStr .., _, _, h => simp [okI] at h
      | .Constant .., _, _, h => simp [okI] at h
      | .Attribute .., _, _, h => simp [okI] at h
      | .Subscript .., _, _, h => simp [okI] at h
      | .Starred .., _, _, h => simp [okI] at h
      | .List .., _, _, h => simp [okI] at h
      | .Tuple .., _, _, h => simp [okI] at h
      | .Slice .., _, _, h => simp [okI] at h
    | _ => cases h
  | .en a, tg, e, X, L, k, x, EX, c, g, h => by
    simp only [okI] at h
    split at h
    · rename_i y p a' cp e1
      cases nmCall_some e1
      simp only [Bool.and_eq_true, decide_eq_true_eq] at h
      obtain ⟨⟨⟨⟨h0, h1⟩, h2⟩, h3⟩, h4⟩ := h
      subst h1
      have s1 := star_plain (es := []) (env := X.env) h4
      cases tg with
      | Tuple es kk p => exact ⟨di_enum2 (g.gl h2) (g.bl _ (by decide +kernel)) (da_cons (sE a a' X L k x EX c g h3).pe da_nil s1) s1, rfl⟩
      | _ => cases h0
    · cases h
  | .keys a, tg, e, X, L, k, x, EX, c, g, h => by
    simp only [okI, Bool.and_eq_true] at h
    exact ⟨di_keys (sE a e X L k x EX c g h.1).pe, h.2⟩
  | .vals a, tg, e, X, L, k, x, EX, c, g, h => by
    simp only [okI] at h
    split at h
    · rename_i a' y ap cp e1
      cases atCall_some e1
      simp only [Bool.and_eq_true, decide_eq_true_eq, Bool.not_eq_true'] at h
      obtain ⟨⟨⟨h0, h1⟩, h2⟩, h3⟩ := h
      subst h0
      exact ⟨di_vals (sE a a' X L k x EX c g h1).pe (base_plain h2) h3, rfl⟩
    · cases h
  | .items a, tg, e, X, L, k, x, EX, c, g, h => by
    simp only [okI] at h
    split at h
    · rename_i a' y ap cp e1
      cases atCall_some e1
      simp only [Bool.and_eq_true, decide_eq_true_eq, Bool.not_eq_true'] at h
      obtain ⟨⟨⟨⟨h0, h1⟩, h2⟩, h3⟩, h4⟩ := h
      subst h1
      cases tg with
      | Tuple es kk p => exact ⟨di_items (sE a a' X L k x EX c g h2).pe (base_plain h3) h4, rfl⟩
      | _ => cases h0
    · cases h
theorem sC : ∀ (ms : Es) (es : List Expr) (X : Cx) (k : CS) (x : Ctx) (c : Cf), Good X LT k x EX0 c → okC k x ms es = true → PTs X es (liftT X.K LT (wpC c ms))
  | .nil, es, X, k, x, c, g, h => by
    cases es with
    | nil => exact dts_nil
    | cons _ _ => cases h
  | .cons a r, es, X, k, x, c, g, h => by
    match es, h with
    | [a'], h =>
      simp only [okC] at h
      exact dts_one (sE a a' X LT k x EX0 c g h).pt
    | [], h => cases h
    | _ :: _ :: _, h => simp [okC] at h
end
end Y


/-! Y12: the readings of statements are right; a def by its body. -/
namespace Y
open PySem PySem.Spec PyProof.Rows L2

theorem plain_star {e : Expr} : plainX e = true → (match e with | .Starred .. => true | _ => false) = false := by intro h; cases e <;> first | rfl | cases h
theorem swapped_two {x y : Str} {px py pt p2 : Pos} {kt k2 : Nat} {a b : Expr} {env : Env} (hk : env.scope.kind = .function) (hx : env.scope.names.lookup x = some .local) (hy : env.scope.names.lookup y = some .local) (hn : x ≠ y) (hl : (px.line == py.line) = true)
    (ha : plainX a = true) (hb : plainX b = true) (h1 : (a :: b :: []).all (constantsAlone 8) = false) (h2 : (a :: b :: []).all (foldedForSure 8) = false) :
    swappedStores [.Tuple [.Name x px, .Name y py] kt pt] (.Tuple [a, b] k2 p2) env = pure (some [x, y]) := by
  have hbk : env.blockKind = .function := by unfold Env.blockKind; rw [hk]; rfl
  have kx : env.kindOf x = some .local := hx
  have ky : env.kindOf y = some .local := hy
  have hs : ([a, b].any fun | .Starred .. => true | _ => false) = false := by
    rw [List.any_cons, List.any_cons, plain_star ha, plain_star hb]; rfl
  have hl' : (py.line == px.line) = true := by
    rw [beq_iff_eq] at hl ⊢; exact hl.symm
  have hd : ([x, y] : List Str).eraseDups.length = 2 := by
    have : (y == x) = false := beq_eq_false_iff_ne.mpr fun e => hn e.symm
    simp [List.eraseDups_cons, this]
  unfold swappedStores
  simp only [hs, hbk, kx, ky, hl', h1, h2, hd, Expr.pos, List.head?, Option.map, Option.getD, List.filterMap_cons, List.filterMap_nil, beq_self_eq_true, Bool.and_self, if_true, List.length_cons, List.length_nil]
  rw [if_neg (by decide), if_neg (by intro z; exact Bool.false_ne_true (hs.symm.trans z)), if_neg (by decide), if_neg (by decide), if_neg (by decide)]
theorem swapped_three {x y z : Str} {px py pz pt p2 : Pos} {kt k2 : Nat} {a b d : Expr} {env : Env} (hk : env.scope.kind = .function) (hx : env.scope.names.lookup x = some .local) (hy : env.scope.names.lookup y = some .local) (hz : env.scope.names.lookup z = some .local) (n1 : x ≠ y) (n2 : x ≠ z) (n3 : y ≠ z) (l1 : (px.line == py.line) = true) (l2 : (px.line == pz.line) = true)
    (ha : plainX a = true) (hb : plainX b = true) (hd : plainX d = true) (h1 : (a :: b :: d :: []).all (constantsAlone 8) = false) (h2 : (a :: b :: d :: []).all (foldedForSure 8) = false) :
    swappedStores [.Tuple [.Name x px, .Name y py, .Name z pz] kt pt] (.Tuple [a, b, d] k2 p2) env = pure (some [x, y, z]) := by
  have hbk : env.blockKind = .function := by unfold Env.blockKind; rw [hk]; rfl
  have kx : env.kindOf x = some .local := hx
  have ky : env.kindOf y = some .local := hy
  have kz : env.kindOf z = some .local := hz
  have hs : ([a, b, d].any fun | .Starred .. => true | _ => false) = false := by
    rw [List.any_cons, List.any_cons, List.any_cons, plain_star ha, plain_star hb, plain_star hd]; rfl
  have m1 : (py.line == px.line) = true := by
    rw [beq_iff_eq] at l1 ⊢; exact l1.symm
  have m2 : (pz.line == px.line) = true := by
    rw [beq_iff_eq] at l2 ⊢; exact l2.symm
  have he : ([x, y, z] : List Str).eraseDups.length = 3 := by
    have e1 : (y == x) = false := beq_eq_false_iff_ne.mpr fun e => n1 e.symm
    have e2 : (z == x) = false := beq_eq_false_iff_ne.mpr fun e => n2 e.symm
    have e3 : (z == y) = false := beq_eq_false_iff_ne.mpr fun e => n3 e.symm
    simp [List.eraseDups_cons, e1, e2, e3]
  unfold swappedStores
  simp only [hs, hbk, kx, ky, kz, m1, m2, h1, h2, he, Expr.pos, List.head?, Option.map, Option.getD, List.filterMap_cons, List.filterMap_nil, beq_self_eq_true, Bool.and_self, if_true, List.length_cons, List.length_nil]
  rw [if_neg (by decide), if_neg (by intro z; exact Bool.false_ne_true (hs.symm.trans z)), if_neg (by decide), if_neg (by decide), if_neg (by decide)]
theorem swapped_none {tg e : Expr} {env : Env} (h : (match e with | .Tuple .. => false | _ => true) = true) : swappedStores [tg] e env = pure none := by
  cases e <;> first | (cases h; done) | (unfold swappedStores; cases tg <;> rfl)
/-- a name of the targets is no plain local: the tuple is made and unpacked -/
theorem filterMap_lt {α β : Type} {f : α → Option β} : ∀ {l : List α}, (∃ a ∈ l, f a = none) → (l.filterMap f).length < l.length
  | [], h => by obtain ⟨a, h, _⟩ := h; cases h
  | x :: l, h => by
    obtain ⟨a, h1, h2⟩ := h
    have hle := List.length_filterMap_le f l
    rw [List.filterMap_cons]
    rcases List.mem_cons.mp h1 with e | h1
    · subst e
      rw [h2]
      show (l.filterMap f).length < l.length + 1
      omega
    · have ih := filterMap_lt (f := f) ⟨a, h1, h2⟩
      cases f x with
      | none => show (l.filterMap f).length < l.length + 1; omega
      | some b => show (l.filterMap f).length + 1 < l.length + 1; omega
theorem swapped_cells {ts : List Expr} {pt p2 : Pos} {kt k2 : Nat} {vs : List Expr} {env : Env} (h : allLoc env.scope ts = false) :
    swappedStores [.Tuple ts kt pt] (.Tuple vs k2 p2) env = pure none := by
  unfold allLoc at h
  rw [List.all_eq_false] at h
  obtain ⟨t, ht, hn⟩ := h
  have key : ∀ line : Nat, ((ts.filterMap fun t => match t with
      | .Name id pos => if env.kindOf id == some .local && pos.line == line then some id else none
      | _ => none).length != ts.length) = true := fun line => by
    rw [bne_iff_ne]
    refine Nat.ne_of_lt (filterMap_lt ⟨t, ht, ?_⟩)
    cases t with
    | Name y p =>
      have hn' : (env.kindOf y == some .local) = false := by
        cases q : (env.kindOf y == some .local) with
        | false => rfl
        | true => exact absurd q hn
      simp [hn']
    | _ => rfl
  unfold swappedStores
  dsimp only
  split
  · rfl
  · split
    · rfl
    · exact if_pos ((Bool.or_eq_true _ _).mpr (.inl (key _)))

structure GoodS (X : Cx) (L : Lk) (k : CS) (x : Ctx) (EX : DXE) (c : Cf) : Prop extends Good X L k x EX c where
  own : PassesOwn (model X.prog X.w) X.A X.env X.xe
theorem isComp_or (e : Expr) : isComp e = false ∨ (∃ a g s p, e = .ListComp a g s p) ∨ isComp e = true := by
  cases e <;> first | exact .inl rfl | exact .inr (.inr rfl)
theorem swap_comp {X : Cx} {x : Ctx} {y : Str} {p : Pos} {l : Nat} {e : Expr} (hsc : X.env.scope = x.sc) (hk : X.env.scope.kind = .function) (e1 : Expr) (gs : List Comprehension) (scope : Scope) (pos : Pos) :
    swapsWith (.ListComp e1 gs scope pos) (some (.Name y p)) l X.env = pure (decide (x.sc.names.lookup y = some .local) && (p.line == pos.line) && !(scope.names.any fun q => q.1 == y && (q.2 == .local || q.2 == .cell))) := by
  have hb : X.env.blockKind = .function := by unfold Env.blockKind; rw [hk]; rfl
  have ky : X.env.kindOf y = x.sc.names.lookup y := by show X.env.scope.names.lookup y = _; rw [hsc]
  have kd : (x.sc.names.lookup y == some .local) = decide (x.sc.names.lookup y = some .local) := by
    rw [Bool.eq_iff_iff]; simp
  unfold swapsWith
  simp only [hb, ky, Expr.pos, kd, beq_self_eq_true, Bool.true_and]
theorem set_comp {cl : Bool} {elt : E} {t : Tg} {it : Iw} {cs : Es} {own : List Nat} {elt' : Expr} {gens : List Comprehension} {scope : Scope} {p py sp : Pos} {y : Str} {i : Nat} {X : Cx} {L : Lk} {k : CS} {x : Ctx} {EX : DXE} {c : Cf} (g : Good X L k x EX c)
    (h : okE k x (.comp cl elt t it cs own) (.ListComp elt' gens scope p) = true) (hi : x.N[i]? = some y) (hs : storeB x y = true) :
    PS X (.Assign [.Name y py] (.ListComp elt' gens scope p) sp) (liftS X.K L (wpS c EX (.set i (.comp cl elt t it cs own)))) := by
  obtain ⟨q1, q2⟩ := g.store hs
  have ie := (sE _ _ X L k x EX c g h).pe
  have sw := swap_comp (p := py) (l := sp.line) (y := y) (e := .Name y py) g.sc g.kind elt' gens scope p
  match gens, h, ie, sw with
  | [⟨tg, iter, ifs, as⟩], h, ie, sw =>
    simp only [okE, Bool.and_eq_true, decide_eq_true_eq] at h
    obtain ⟨⟨⟨⟨⟨⟨h0, h1⟩, h2⟩, h3⟩, h4⟩, h5⟩, h6⟩ := h
    subst h0
    cases hb0 : (decide (x.sc.names.lookup y = some .local) && (py.line == p.line) && !(scope.names.any fun q => q.1 == y && (q.2 == .local || q.2 == .cell))) with
    | false =>
      rw [hb0] at sw
      exact ds_set g.nd (g.nm hi) q1 ie sw q2
    | true =>
      rw [hb0] at sw
      have hyl : X.env.scope.names.lookup y = some .local := by
        rw [g.sc]
        simp only [Bool.and_eq_true, decide_eq_true_eq] at hb0
        exact hb0.1.1
      have hb : BlkOk X.N X.env.scope scope (own.map fun i => (x.N.getD i "", i)) := by
        rw [g.N, g.sc]
        exact blkOk_by h5
      have ho : (own.map fun i => (x.N.getD i "", i)).map (·.2) = own := by
        rw [List.map_map]
        exact List.map_id' own
      have hv : ∀ i ∈ t.slots, i ∈ (own.map fun i => (x.N.getD i "", i)).map (·.2) := by
        rw [ho]
        intro i hi
        exact of_decide_eq_true (List.all_eq_true.mp h6 i hi)
      have gb := fun s H C cl fp => g.blk hb.kind s H C cl fp
      have i1 := sI it tg iter X L k x EX c g h1
      have hg := fun s H C cl fp => tg_ok (gb s H C cl fp) h2
      have ht := fun s H C cl fp => sC cs ifs _ k (x.blk scope) c (gb s H C cl fp) h3
      have he := fun s H C cl fp => (sE elt elt' _ LT k (x.blk scope) EX0 c (gb s H C cl fp) h4).pe
      cases cl with
      | true =>
        have q := ds_setLcC (pos := p) g.calm g.nd (g.nm hi) hyl sw i1.1 hb hv hg ht he (fold_plain i1.2)
        rw [ho] at q
        exact q
      | false =>
        have q := ds_setLc (pos := p) g.calm g.nd (g.nm hi) hyl sw i1.1 hb hv hg ht he (fold_plain i1.2)
        rw [ho] at q
        exact q
  | [], h, _, _ => simp [okE] at h
  | _ :: _ :: _, h, _, _ => simp [okE] at h
theorem nodup_ne {N : List Str} {i j : Nat} {a b : Str} (nd : N.Nodup) (hi : N[i]? = some a) (hj : N[j]? = some b) (h : i ≠ j) : a ≠ b := by
  intro e
  subst e
  obtain ⟨h1, h2⟩ := List.getElem?_eq_some_iff.mp hi
  obtain ⟨h3, h4⟩ := List.getElem?_eq_some_iff.mp hj
  have pw := List.pairwise_iff_getElem.mp nd
  rcases Nat.lt_or_gt_of_ne h with q | q
  · exact pw i j h1 h3 q (h2.trans h4.symm)
  · exact pw j i h3 h1 q (h4.trans h2.symm)
mutual
theorem sS : ∀ (m : T) (st : Stmt) (X : Cx) (L : Lk) (k : CS) (x : Ctx) (EX : DXE) (c : Cf), GoodS X L k x EX c → okS k x m st = true → PS X st (liftS X.K L (wpS c EX m))
  | .set i a, st, X, L, k, x, EX, c, g, h => by
    cases st with
    | Assign ts e p =>
      match ts, h with
      | [.Name y py], h =>
        simp only [okS, Bool.and_eq_true, decide_eq_true_eq] at h
        obtain ⟨⟨⟨h0, h1⟩, h2⟩, h3⟩ := h
        obtain ⟨q1, q2⟩ := g.store h1
        cases hc : isComp e with
        | false => exact ds_set g.nd (g.nm h0) q1 (sE a e X L k x EX c g.toGood h2).pe (swaps_no hc) q2
        | true =>
          rw [hc] at h3
          cases a with
          | comp cl elt t it cs own =>
            cases e with
            | ListComp e1 gs scope pos => exact set_comp g.toGood h2 h0 h1
            | _ => simp [okE] at h2
          | _ => simp at h3
      | [], h => simp [okS] at h
      | _ :: _ :: _, h => simp [okS] at h
      | [.BoolOp ..], h => simp [okS] at h
      | [.NamedExpr ..], h => simp [okS] at h
      | [.BinOp ..], h => simp [okS] at h
      | [.UnaryOp ..], h => simp [okS] at h
      | [.Lambda ..], h => simp [okS] at h
      | [.IfExp ..], h => simp [okS] at h
      | [.Dict ..], h => simp [okS] at h
      | [.Set ..], h => simp [okS] at h
      | [.ListComp ..], h => simp [okS] at h
      | [.SetComp ..], h => simp [okS] at h
      | [.DictComp ..], h => simp [okS] at h
      | [.GeneratorExp ..], h => simp [okS] at h
      | [.Await ..], h => simp [okS] at h
      | [.Yield ..], h => simp [okS] at h
      | [.YieldFrom ..], h => simp [okS] at h
      | [.Compare ..], h => simp [okS] at h
      | [.Call ..], h => simp [okS] at h
      | [.FormattedValue ..], h => simp [okS] at h
      | [.JoinedStr ..], h => simp [okS] at h
      | [.Constant ..], h => simp [okS] at h
      | [.Attribute ..], h => simp [okS] at h
      | [.Subscript ..], h => simp [okS] at h
      | [.Starred ..], h => simp [okS] at h
      | [.List ..], h => simp [okS] at h
      | [.Tuple ..], h => simp [okS] at h
      | [.Slice ..], h => simp [okS] at h
    | _ => cases h
  | .asg t a, st, X, L, k, x, EX, c, g, h => by
    cases st with
    | Assign ts e p =>
      match ts, h with
      | [.Tuple ts kk p2], h =>
        simp only [okS, Bool.and_eq_true] at h
        obtain ⟨⟨h0, h1⟩, h2⟩ := h
        have ie := (sE a e X L k x EX c g.toGood h1).pe
        have ig := tg_ok (L := L) g.toGood h0
        refine ds_asg ie ig ?_ ?_ rfl
        · show swapsWith e (some (.Tuple ts kk p2)) p.line X.env = pure false
          refine swaps_no ?_
          cases e <;> first | rfl | cases h2
        · cases e with
          | Tuple vs k2 p3 =>
            refine swapped_cells ?_
            rw [g.sc]
            simpa using h2
          | _ => exact swapped_none rfl
      | [], h => simp [okS] at h
      | _ :: _ :: _, h => simp [okS] at h
      | [.BoolOp ..], h => simp [okS] at h
      | [.NamedExpr ..], h => simp [okS] at h
      | [.BinOp ..], h => simp [okS] at h
      | [.UnaryOp ..], h => simp [okS] at h
      | [.Lambda ..], h => simp [okS] at h
      | [.IfExp ..], h => simp [okS] at h
      | [.Dict ..], h => simp [okS] at h
      | [.Set ..], h => simp [okS] at h
      | [.ListComp ..], h => simp [okS] at h
      | [.SetComp ..], h => simp [okS] at h
      | [.DictComp ..], h => simp [okS] at h
      | [.GeneratorExp ..], h => simp [okS] at h
      | [.Await ..], h => simp [okS] at h
      | [.Yield ..], h => simp [okS] at h
      | [.YieldFrom ..], h => simp [okS] at h
      | [.Compare ..], h => simp [okS] at h
      | [.Call ..], h => simp [okS] at h
      | [.FormattedValue ..], h => simp [okS] at h
      | [.JoinedStr ..], h => simp [okS] at h
      | [.Constant ..], h => simp [okS] at h
      | [.Attribute ..], h => simp [okS] at h
      | [.Subscript ..], h => simp [okS] at h
      | [.Starred ..], h => simp [okS] at h
      | [.Name ..], h => simp [okS] at h
      | [.List ..], h => simp [okS] at h
      | [.Slice ..], h => simp [okS] at h
    | _ => cases h
  | .par i j a b, st, X, L, k, x, EX, c, g, h => by
    cases st with
    | Assign ts e p =>
      unfold okS at h
      split at h
      · rename_i y1 p1 y2 p2 kk pp e1 e2 k2 pp2 ps heq
        cases heq
        simp only [Bool.and_eq_true, decide_eq_true_eq, Bool.not_eq_true'] at h
        obtain ⟨⟨⟨⟨⟨⟨⟨⟨⟨⟨⟨a0, a1⟩, a2⟩, a3⟩, a4⟩, a5⟩, a6⟩, a7⟩, a8⟩, a9⟩, a10⟩, a11⟩ := h
        have ia := (sE a e1 X L k x EX c g.toGood a5).pe
        have ib := (sE b e2 X L k x EX c g.toGood a6).pe
        have hx : X.env.scope.names.lookup y1 = some .local := by rw [g.sc]; exact a3
        have hy : X.env.scope.names.lookup y2 = some .local := by rw [g.sc]; exact a4
        have nx := g.nm a0
        have ny := g.nm a1
        have pa : PA X [e1, e2] (liftA X.K L (dCons (wp c EX a).1 (dCons (wp c EX b).1 dNil))) := da_cons ia (da_cons ib da_nil (star_plain a8)) (star_plain a7)
        exact ds_par g.calm g.nd nx ny a2 hx hy pa (ps_par g.calm g.nd nx ny a2 hx hy pa (swapped_two g.kind hx hy (nodup_ne g.nd nx ny a2) a9 a7 a8 a10 a11) rfl)
      · cases h
    | _ => cases h
  | .sub r i a, st, X, L, k, x, EX, c, g, h => by
    cases st with
    | Assign ts e p =>
      match ts, h with
      | [.Subscript r' i' p2], h =>
        simp only [okS, Bool.and_eq_true, Bool.not_eq_true'] at h
        obtain ⟨⟨⟨⟨h0, h1⟩, h2⟩, h3⟩, h4⟩ := h
        refine ds_asg (sE a e X L k x EX c g.toGood h2).pe (dg_sub (sE r r' X L k x EX c g.toGood h0).pe (sE i i' X L k x EX c g.toGood h1).pe (pset_list (Nat.lt_of_le_of_lt (by omega) g.hu)) (assign_sub h3)) ?_ ?_ rfl
        · show swapsWith e (some (.Subscript r' i' p2)) p.line X.env = pure false
          exact swaps_no h4
        · unfold swappedStores
          rfl
      | [], h => simp [okS] at h
      | _ :: _ :: _, h => simp [okS] at h
      | [.BoolOp ..], h => simp [okS] at h
      | [.NamedExpr ..], h => simp [okS] at h
      | [.BinOp ..], h => simp [okS] at h
      | [.UnaryOp ..], h => simp [okS] at h
      | [.Lambda ..], h => simp [okS] at h
      | [.IfExp ..], h => simp [okS] at h
      | [.Dict ..], h => simp [okS] at h
      | [.Set ..], h => simp [okS] at h
      | [.ListComp ..], h => simp [okS] at h
      | [.SetComp ..], h => simp [okS] at h
      | [.DictComp ..], h => simp [okS] at h
      | [.GeneratorExp ..], h => simp [okS] at h
      | [.Await ..], h => simp [okS] at h
      | [.Yield ..], h => simp [okS] at h
      | [.YieldFrom ..], h => simp [okS] at h
      | [.Compare ..], h => simp [okS] at h
      | [.Call ..], h => simp [okS] at h
      | [.FormattedValue ..], h => simp [okS] at h
      | [.JoinedStr ..], h => simp [okS] at h
      | [.Constant ..], h => simp [okS] at h
      | [.Attribute ..], h => simp [okS] at h
      | [.Starred ..], h => simp [okS] at h
      | [.Name ..], h => simp [okS] at h
      | [.List ..], h => simp [okS] at h
      | [.Tuple ..], h => simp [okS] at h
      | [.Slice ..], h => simp [okS] at h
    | _ => cases h
  | .ex a, st, X, L, k, x, EX, c, g, h => by
    cases st with
    | Expr e p =>
      simp only [okS, Bool.and_eq_true, Bool.not_eq_true'] at h
      exact ds_expr (sE a e X L k x EX c g.toGood h.1).pe (swaps_no h.2)
    | _ => cases h
  | .ret a, st, X, L, k, x, EX, c, g, h => by
    cases st with
    | Return v p =>
      cases v with
      | some e => exact ds_ret (sE a e X L k x EX c g.toGood h).pe
      | none => cases h
    | _ => cases h
  | .retN, st, X, L, k, x, EX, c, g, h => by
    cases st with
    | Return v p =>
      cases v with
      | some e => cases h
      | none => exact ds_retN
    | _ => cases h
  | .ife d p q, st, X, L, k, x, EX, c, g, h => by
    cases st with
    | If d' p' q' ps =>
      simp only [okS, Bool.and_eq_true] at h
      exact ds_if (sE d d' X L k x EX c g.toGood h.1.1).pt (sSs p p' X L k x EX c g h.1.2) (sSs q q' X L k x EX c g h.2)
    | _ => cases h
  | .whl d p, st, X, L, k, x, EX, c, g, h => by
    cases st with
    | While d' p' q' ps =>
      cases q' with
      | cons _ _ => simp [okS] at h
      | nil =>
        simp only [okS, Bool.and_eq_true] at h
        exact ds_while g.own (sE d d' X L k x EX c g.toGood h.1).pt (sSs p p' X L k x EX c g h.2)
    | _ => cases h
  | .for_ t it p q, st, X, L, k, x, EX, c, g, h => by
    cases st with
    | For tg iter p' q' ps =>
      simp only [okS, Bool.and_eq_true] at h
      obtain ⟨⟨⟨h0, h1⟩, h2⟩, h3⟩ := h
      have i1 := sI it tg iter X L k x EX c g.toGood h1
      exact ds_for g.own g.calm i1.1 (tg_ok g.toGood h0) (sSs p p' X L k x EX c g h2) (sSs q q' X L k x EX c g h3) (fold_plain i1.2)
    | _ => cases h
  | .brk, st, X, L, k, x, EX, c, g, h => by
    cases st with
    | Break p => exact ds_break
    | _ => cases h
  | .cont, st, X, L, k, x, EX, c, g, h => by
    cases st with
    | Continue p => exact ds_continue
    | _ => cases h
  | .pass, st, X, L, k, x, EX, c, g, h => by
    cases st with
    | Pass p => exact ds_pass
    | _ => cases h
  | .fset f o a, st, X, L, k, x, EX, c, g, h => by
    simp only [okS] at h
    split at h
    · rename_i o' y p2 e p e1
      cases atAsg_some e1
      simp only [Bool.and_eq_true, decide_eq_true_eq, Bool.not_eq_true'] at h
      obtain ⟨⟨⟨h0, h1⟩, h2⟩, h3⟩ := h
      subst h0
      exact ds_fset g.noat (sE o o' X L k x EX c g.toGood h1).pe (sE a e X L k x EX c g.toGood h2).pe (swaps_no h3)
    · cases h
  | .fadd f o a, st, X, L, k, x, EX, c, g, h => by
    simp only [okS] at h
    split at h
    · rename_i o' y p2 e p e1
      cases atAug_some e1
      simp only [Bool.and_eq_true, decide_eq_true_eq] at h
      obtain ⟨⟨h0, h1⟩, h2⟩ := h
      subst h0
      exact ds_fadd g.noat (sE o o' X L k x EX c g.toGood h1).pe (sE a e X L k x EX c g.toGood h2).pe
    · cases h
  | .lockS t, st, X, L, k, x, EX, c, g, h => ds_lock (sS t st X L k x EX c g h)
  | .nev, st, X, L, k, x, EX, c, g, h => ⟨fun pins s σ H D I h => by obtain ⟨_, _, _, _, _, _, _, h, _⟩ := h; exact h.elim⟩
  | .par3 i j l a b d, st, X, L, k, x, EX, c, g, h => by
    unfold okS at h
    split at h
    · rename_i y1 p1 y2 p2 y3 p3 kk pp e1 e2 e3 k2 pp2 ps
      simp only [Bool.and_eq_true, decide_eq_true_eq, Bool.not_eq_true'] at h
      obtain ⟨⟨⟨⟨⟨⟨⟨⟨⟨⟨⟨⟨⟨⟨⟨⟨⟨⟨a0, a1⟩, a2⟩, a3⟩, a4⟩, a5⟩, a6⟩, a7⟩, a8⟩, a9⟩, b0⟩, b1⟩, b2⟩, b3⟩, b4⟩, b5⟩, b6⟩, b7⟩, b8⟩ := h
      have i1 := (sE a e1 X L k x EX c g.toGood a9).pe
      have i2 := (sE b e2 X L k x EX c g.toGood b0).pe
      have i3 := (sE d e3 X L k x EX c g.toGood b1).pe
      have hx : X.env.scope.names.lookup y1 = some .local := by rw [g.sc]; exact a6
      have hy : X.env.scope.names.lookup y2 = some .local := by rw [g.sc]; exact a7
      have hz : X.env.scope.names.lookup y3 = some .local := by rw [g.sc]; exact a8
      have pa : PA X [e1, e2, e3] (liftA X.K L (dCons (wp c EX a).1 (dCons (wp c EX b).1 (dCons (wp c EX d).1 dNil)))) := da_cons i1 (da_cons i2 (da_cons i3 da_nil (star_plain b4)) (star_plain b3)) (star_plain b2)
      exact ds_par3 (ps_par3 g.calm g.nd (g.nm a0) (g.nm a1) (g.nm a2) a3 a4 a5 hx hy hz pa (swapped_three g.kind hx hy hz (nodup_ne g.nd (g.nm a0) (g.nm a1) a3) (nodup_ne g.nd (g.nm a0) (g.nm a2) a4) (nodup_ne g.nd (g.nm a1) (g.nm a2) a5) b5 b6 b2 b3 b4 b7 b8) rfl)
    · cases h
theorem sSs : ∀ (m : Ts) (st : List Stmt) (X : Cx) (L : Lk) (k : CS) (x : Ctx) (EX : DXE) (c : Cf), GoodS X L k x EX c → okSs k x m st = true → PSs X st (liftS X.K L (wpSs c EX m))
  | .nil, st, X, L, k, x, EX, c, g, h => by
    cases st with
    | nil => exact ds_nil
    | cons _ _ => cases h
  | .cons t r, st, X, L, k, x, EX, c, g, h => by
    cases st with
    | nil => cases h
    | cons t' r' =>
      simp only [okSs, Bool.and_eq_true] at h
      exact ds_cons (sS t t' X L k x EX c g h.1) (sSs r r' X L k x EX c g h.2)
end
/-! ### a def by its body -/
/-- the forms of calls that a def's body may use -/
def FormAt (P : Program) (w : World) (K : PySem.W.Frag) (mg : Str → Option Value) (base : Heap) (lv : Nat) (k : CS) (c : Cf) (j : Nat) : Prop := ∃ (lv' : Nat) (f : Addr), lv' + 1 ≤ lv ∧ GR P w K mg base lv' f (k.ks j) (c.sp j) ∧ match k.kd j with
  | .fn y => mg y = some (.ref f) ∧ PySem.W.keepIn K (.ref f) = true
  | .me cl m => Meth K (He.ga K cl) m f
  | .mk cl => Mk K (He.ga K cl) f ∧ CI K cl ∧ mg cl = some (.ref (He.ga K cl))
  | .pr cl y => ∃ q, PropOf K (He.ga K cl) y q f
def Forms (P : Program) (w : World) (K : PySem.W.Frag) (mg : Str → Option Value) (base : Heap) (lv : Nat) (k : CS) (c : Cf) : Prop := ∀ j, j < k.n → FormAt P w K mg base lv k c j
/-- what a def's body leans on besides -/
structure Env1 (K : PySem.W.Frag) (mg : Str → Option Value) (k : CS) (c : Cf) : Prop where
  bl : ∀ y ∈ bltNames, mg y = none
  gc : ∀ j, j < k.ng → GcOk K mg (k.gn j) (c.gd j)
  isa : ∀ a b r, c.isa a b = some r → PySem.W.kitOne K (a.v K) (b.v K) = some r
  noat : ∀ y f, c.noat y f = true → NoAttr K (He.ga K y) f
def nvOf (N : List Str) (as : List D) : Nv := as.map some ++ List.replicate (N.length - as.length) none
theorem rel_start {K : PySem.W.Frag} {W : Wd} {H : Hp} {N : List Str} {vs : List V} {as : List D} (r : Reps K W H vs as) : RelE K W H (nvOf N as) (L2.start N vs) := by
  have hl := r.length
  refine ⟨by simp [nvOf, L2.start, hl], fun i d e => ?_⟩
  unfold nvOf at e
  unfold L2.start
  by_cases hi : i < as.length
  · rw [List.getElem?_append_left (by simpa using hi), List.getElem?_map] at e
    cases q : as[i]? with
    | none => rw [q] at e; cases e
    | some z =>
      rw [q] at e
      cases e
      obtain ⟨v, h1, h2⟩ := r.get q
      exact ⟨v, by rw [List.getElem?_append_left (by simpa [hl] using hi), List.getElem?_map, h1]; rfl, h2⟩
  · rw [List.getElem?_append_right (by simpa using hi), List.getElem?_replicate] at e
    split at e <;> cases e
theorem def_ok {P : Program} {w : World} {K : PySem.W.Frag} {mg : Str → Option Value} {base : Heap} {lv : Nat} {f : Addr} {fd : FuncData} {qn qual : Str} {params : Arguments} {body : List Stmt} {sc : Scope} {dvs : List V} {kws : List (Str × V)} {N ps : List Str} {k : CS} {c : Cf} {m : Ts} {sp : DSp}
    (F : FunD K qn qual params body sc dvs kws f fd) (hsc : FnScope N ps sc) (hch : okSs k ⟨N, sc, fun _ => true⟩ m body = true) (hbl : Env1 K mg k c) (hcf : Forms P w K mg base lv k c)
    (hlen : ∀ as s Q Ex, sp as s Q Ex → as.length = ps.length)
    (hsp : ∀ as s Q Ex, sp as s Q Ex → wpSs c (fun _ => Ex) m { nx := fun _ s' => Q .non s', rt := Q } (nvOf N as) s) : GFn P w K mg base (lv + 1) f fd ps (spOf K sp) := by
  refine gfn_of F hsc (fun vs H Q E h => ?_) (fun cdv A out s H vs Q E hr hg h => ?_)
  · obtain ⟨W, s, as, Qd, Ed, R, rs, hs, _⟩ := h
    rw [rs.length]
    exact hlen _ _ _ _ hs
  · obtain ⟨W, sd, as, Qd, Ed, R, rs, hs, kq, ke⟩ := h
    let L : Lk := ⟨fun W' H' => Ext W H W' H', fun h x => h.trans x⟩
    have hu := hr.un
    have g : GoodS (cxG P w K mg base N qual sc f cdv A out s H E) L k ⟨N, sc, fun _ => true⟩ (fun _ => Ed) c :=
      { N := rfl, nd := hsc.nd, sc := rfl, fn := fun _ _ => rfl, kind := hsc.kind, calm := rfl, hu := (by
          show (A.deeper _).units + 70 < cLine
          omega), hg := hg, tk := (by
          refine ⟨fun cls d _ H' => E cls d H', takes_of rfl rfl rfl rfl, ?_⟩
          rintro cl dd σ H' ⟨W', e, s', fl, st, hE, rx⟩
          exact ke _ _ _ _ _ _ hE st.ext st.rel rx), bl := hbl.bl, gc := hbl.gc, isa := hbl.isa, noat := hbl.noat, cf := (fun j hj => by
          obtain ⟨lv', f, hle, F, h1⟩ := hcf j hj
          exact ⟨lv', f, F, hr.mono hle, h1⟩), own := passes_of rfl }
    refine ⟨_, sSs m body _ L k _ _ c g hch, L, W, nvOf N as, sd, _, Lk.le.refl L, ⟨Ext.refl W H, rel_start rs, R⟩, hsp _ _ _ _ hs, ⟨fun W' e s' σ H' st q => kq _ _ _ _ _ q st.ext st.rel .non, fun W' s' d v H' x R' r q => kq _ _ _ _ _ q x R' r, fun _ _ _ _ _ _ q => q.elim, fun _ _ _ _ _ _ q => q.elim⟩⟩
end Y


/-! Y13: the end of a law: from the law's promise on data. -/
namespace Y
open PySem PySem.Spec PyProof.Rows L2
/-- what the law's def promises: True, and nothing raised -/
def LawSp (sp : DSp) : Prop := ∀ (ns : List Int) (s : S), ns.length ≤ 63 → (∀ z ∈ ns, Builtin.Int.intBits z ≤ 1048576) → (∀ n, s n = none) → sp [.xl (ns.map .int)] s (fun d _ => d = .bl true) fun _ _ _ => False
theorem reps_ints {K : PySem.W.Frag} {W : Wd} {H : Hp} : ∀ ns : List Int, Reps K W H (ns.map V.int) (ns.map D.int)
  | [] => .nil
  | n :: r => .cons (.int n) (reps_ints r)
theorem sp_start {K : PySem.W.Frag} {sp : DSp} {H : Hp} {a : Addr} {ns : List Int} (h : LawSp sp) (h1 : ns.length ≤ 63) (h2 : ∀ z ∈ ns, Builtin.Int.intBits z ≤ 1048576) (hS : SqL K H a (ns.map V.int)) :
    spOf K sp [.ref a] H (fun v _ => v = .bl true) fun _ _ _ => False := by
  refine ⟨⟨fun b => ∃ o, H b = some o, fun _ => False, fun _ => none, 0⟩, fun _ => none, [.xl (ns.map .int)], fun d _ => d = .bl true, fun _ _ _ => False, ⟨fun n o e => (nomatch e), fun n m b e => (nomatch e), fun n b e => (nomatch e), fun b e => e, fun b e => False.elim e⟩, .cons (.xl ?_ (reps_ints ns)) .nil, h ns _ h1 h2 fun _ => rfl, ⟨fun d s' W' v H' e _ _ r => ?_, fun c fl s' W' dd H' q => False.elim q⟩⟩
  · rcases hS with q | q
    · refine .inl ⟨?_, ?_⟩
      · rcases q with q | ⟨o, q⟩
        · exact ⟨_, q⟩
        · exact ⟨_, q⟩
      · rcases q with q | ⟨o, q⟩
        · exact .inl q
        · exact .inr ⟨o, q⟩
    · exact .inr (.inr q)
  · subst e
    cases r
    rfl
section
variable {P : Program} {w : World} {K : PySem.W.Frag} {mg mb : Str → Option Value} {lv : Nat} {fa a : Addr} {fd : FuncData} {x : Str} {sp : DSp} {t : Shared} {us : List Value} {ns : List Int}
/-- the script as it lies: one of the module's objects, or held -/
noncomputable def scH (K : PySem.W.Frag) (a : Addr) (us : List Value) (ns : List Int) : Hp := fun b => if b = a ∧ K.lookup a = none then some (.frz { cls := .type "list", data := .seq us.toArray } (.lst (ns.map V.int))) else none
theorem scH_cases (b : Addr) : scH K a us ns b = none ∨ (b = a ∧ K.lookup a = none ∧ scH K a us ns b = some (.frz { cls := .type "list", data := .seq us.toArray } (.lst (ns.map V.int)))) := by
  by_cases h : b = a ∧ K.lookup a = none
  · exact .inr ⟨h.1, h.2, if_pos h⟩
  · exact .inl (if_neg h)
theorem end_call (kin : K.In t.heap) (ng : t.heap.Ns mainGlobals mg) (nb : t.heap.Ns builtinsNs mb) (bb : ∀ y : Str, y ≠ "__name__" → mb y = bootBuiltins y) (nl : t.heap.NoLimit) (g0 : t.gens = #[])
    (ga : t.heap.get? a = some { cls := .type "list", data := .seq us.toArray }) (ia : IntsAre us ns) (l1 : ns.length ≤ 63) (l2 : ∀ z ∈ ns, Builtin.Int.intBits z ≤ 1048576) (rm : Room lv callerA)
    (G : ∀ base : Heap, K.In base → base.Ns mainGlobals mg → GFn P w K mg base lv fa fd [x] (spOf K sp)) (bd : ∀ (s : Shared) (u : Value), BindsTo s fd ⟨[u], []⟩ [(x, u)]) (law : LawSp sp) :
    codeAny (model P w) callerA (.call (.ref fa) ⟨[.ref a], []⟩) (fun r s' => r = .ok (.ret (.bool true)) ∧ OldK t.heap s'.heap ∧ s'.os = t.os ∧ AllBare s'.gens) t := by
  have vi := vals_ints ia
  have z64 : ns.length ≤ sizeLine := Nat.le_trans l1 (by decide)
  generalize eH : scH K a us ns = H
  have hc : ∀ b, H b = none ∨ (b = a ∧ K.lookup a = none ∧ H b = some (.frz { cls := .type "list", data := .seq us.toArray } (.lst (ns.map V.int)))) := fun b => by subst eH; exact scH_cases b
  have nodict : ∀ {b : Addr} {o : Obj} {es : Array DictEntry} {n : Nat}, t.heap.get? b = some o → o.data = .dict es n → H b = none := fun {b o es n} e d => by
    rcases hc b with q | ⟨rfl, _, _⟩
    · exact q
    · rw [ga] at e
      cases e
      exact nomatch d
  have ns_h : ∀ {b : Addr} {m : Str → Option Value}, t.heap.Ns b m → (hidT t.heap H).Ns b m := fun {b m} ⟨o, es, n, e, d, r⟩ => ⟨o, es, n, hidT_get e (nodict e d), d, r⟩
  have kb : K.In (hidT t.heap H) := fun b o e => hidT_get (kin b o e) (by
    rcases hc b with q | ⟨rfl, q, _⟩
    · exact q
    · rw [q] at e; cases e)
  have hok : HOk P w H t.heap := fun b u e => by
    rcases hc b with q | ⟨rfl, _, q⟩
    · rw [q] at e; cases e
    · rw [q] at e
      cases e
      exact ⟨ga, by rw [List.length_map]; exact z64, us, 0, vi, ga⟩
  have e0 : Env0 P w K mg (hidT t.heap H) callerA [] t H :=
    { frames := rfl, mod := ⟨kb, ns_h ng, ⟨mb, ns_h nb, bb⟩, (by obtain ⟨m, p, q⟩ := nl; exact ⟨m, ns_h p, q⟩)⟩, bs := fun _ _ e => of_hidT e, bsz := Nat.le_of_eq (hidT_size _ _), funs := trivial, frf := fun b h => absurd (show b ∈ ([] : List Addr) from h) (by simp), hok := hok, bare := .of_eq g0 }
  have hS : SqL K H a (ns.map V.int) := by
    cases q : K.lookup a with
    | none =>
      subst eH
      exact .inl (.inr ⟨_, if_pos ⟨rfl, q⟩⟩)
    | some o =>
      have e := kin a o q
      rw [ga] at e
      cases e
      exact .inr ⟨_, us.toArray, _, q, rfl, rfl, rfl, by rw [List.size_toArray, ia.length]; exact z64, vi⟩
  refine codeAny_mono ((G _ kb (ns_h ng)).to callerA [] t H ⟨[.ref a], []⟩ [.ref a] [.ref a] _ _ rm rfl e0 (bd t (.ref a)) (.cons rfl .nil) (sp_start law l1 l2 hS)) fun r s' h => ?_
  match r, h with
  | .error e, h =>
    obtain ⟨_, _, _, _, _, _, _, _, _, _, _, _, z⟩ := h
    exact z.elim
  | .ok (.ret u), ⟨v, H', os, bare, un, hok', rv, q⟩ =>
    subst q
    have eu : u = Value.bool true := rv
    subst eu
    refine ⟨rfl, OldK.of_keep fun b o e => ?_, os, bare⟩
    rcases hc b with q | ⟨_, _, q⟩
    · exact un.keep b o e q (fun z => absurd (show b ∈ ([] : List Addr) from z) (by simp)) (by simp)
    · have k1 := (hok b _ q).1
      rw [e] at k1
      cases k1
      exact (hok' b _ (un.frzs b _ _ q)).1
theorem walk_ofY {l : PySem.W.OpenLaw} {q : Program} {loose : List Str} {XP : (Str → Option Value) → Heap → Prop} {YP : World → Heap → Prop} {d : DefRec} (hn : l.most = some 63) (hdf : d.params.defaults = []) (rm : Room lv callerA) (law : LawSp sp)
    (F : ∀ (w : World) (mg : Str → Option Value) (fa : Addr) (h : Heap), YP w h → h.Ns mainGlobals mg → mg d.name = some (.ref fa) →
      ∃ (K : PySem.W.Frag) (fd : FuncData), K.In h ∧ (∀ (s : Shared) (u : Value), BindsTo s fd ⟨[u], []⟩ [(x, u)]) ∧ ∀ base : Heap, K.In base → base.Ns mainGlobals mg → GFn l.prog w K mg base lv fa fd [x] (spOf K sp)) :
    PySem.W.WalkO q loose XP YP l.row.toRowW d [] (fun f vs => PySem.call f vs) := by
  refine Att.attach_callB hn hdf fun w _ t mg mb fa _ _ _ _ a us ns G Y _ _ _ hmg hobj hints hlen hbits hg => ?_
  obtain ⟨K, fd, kin, bd, hF⟩ := F w mg fa _ Y G.T.g hmg
  exact end_call kin G.T.g G.T.b G.T.builtins G.T.nolimit hg hobj hints hlen hbits rm hF bd law
end
end Y


/-! Y14: what a caller wants of a def, the forms. -/
namespace Y
open PySem PySem.Spec PyProof.Rows L2
def CalOk (P : Program) (w : World) (K : PySem.W.Frag) (mg : Str → Option Value) (base : Heap) (lv : Nat) (params : Arguments) (kws : List (Str × V)) (x qual : Str) (body : List Stmt) (sc : Scope) (f : Addr) (ps : List Str) (sp : DSp) : Prop := ∃ fd : FuncData,
  FunD K x qual params body sc [] kws f fd ∧ GFn P w K mg base lv f fd ps (spOf K sp)
/-- what a form's callee is -/
def KdOk (K : PySem.W.Frag) (mg : Str → Option Value) (f : Addr) : FK → Prop
  | .fn y => mg y = some (.ref f) ∧ PySem.W.keepIn K (.ref f) = true
  | .me cl m => Meth K (He.ga K cl) m f
  | .mk cl => Mk K (He.ga K cl) f ∧ CI K cl ∧ mg cl = some (.ref (He.ga K cl))
  | .pr cl y => ∃ q, PropOf K (He.ga K cl) y q f
section
variable {P : Program} {w : World} {K : PySem.W.Frag} {mg : Str → Option Value} {base : Heap} {lv lv' : Nat} {x qual : Str} {params : Arguments} {body : List Stmt} {sc : Scope} {kws : List (Str × V)} {ps : List Str} {sp : DSp} {f : Addr} {k : CS} {c : Cf} {j : Nat} {ks : List Str} {fk : FK}
theorem form_of (hle : lv' + 1 ≤ lv) (h1 : k.kd j = fk) (hk : KdOk K mg f fk) (h2 : k.ks j = ks) {spr : DSpR} (G : GR P w K mg base lv' f ks spr) (h : ∀ as bs s Q Ex, c.sp j as bs s Q Ex → spr as bs s Q Ex) : FormAt P w K mg base lv k c j := by
  refine ⟨lv', f, hle, by rw [h2]; exact G.imp h, ?_⟩
  rw [h1]
  cases fk <;> exact hk
/-- a def that nobody calls -/
theorem gfn_no {N : List Str} {fd : FuncData} (F : FunD K x qual params body sc [] kws f fd) (S : FnScope N ps sc) : GFn P w K mg base (lv + 1) f fd ps (spOf K fun _ _ _ _ => False) :=
  gfn_of F S (fun vs H Q E h => by
    obtain ⟨_, _, _, _, _, _, _, h, _⟩ := h
    exact h.elim) fun cdv A out s H vs Q E _ _ h => by
    obtain ⟨_, _, _, _, _, _, _, h, _⟩ := h
    exact h.elim
end
end Y


/-! Z1: stepping through readings; the bag that all laws draw from. -/
namespace Y
open PySem PySem.Spec PyProof.Rows L2
theorem dSeq_eq (t u : DTS) (D : DEnds) (e : Nv) (s : S) : dSeq t u D e s = t { D with nx := u D } e s := rfl
theorem ife_nil (u : DTT) (t : DTS) (D : DEnds) (e : Nv) (s : S) : dIfS u t dNext D e s = u e s fun b s1 => if b = true then t D e s1 else D.nx e s1 := rfl
local macro_rules | `(tactic| walk_at "ys") => `(tactic| simp only [wpSs, wpS, wp, wps, wpI, wpC, both, dSeq_eq, dNext, dAsg, gN, dVar, dC, dCall, dCons, dNil, dOp, dTest, cmpD, binD, BI.rd, BM.rd, Tg.rd, dIfS, dIfE, dRet, dExpr, gSubD, dTruE, dTru,
  List.set_cons_zero, List.set_cons_succ, List.getElem?_cons_zero, List.getElem?_cons_succ, dOrd, dAdd, dSub, dMul, dFdiv, dMod, dPow, dLen, dAbs, dMax, dMin, dLstC, dLst, dTup, ite_true, ite_false, if_true, if_false, Bool.false_eq_true])
def m_take : Ts := (.cons (.ife (.cmp .Gt (.ix (.var 0) (.int 0)) (.int 0)) (.cons (.set 3 (.bin .Mod (.ix (.var 0) (.int 0)) (.var 1))) (.cons (.sub (.var 0) (.int 0) (.bin .FloorDiv (.ix (.var 0) (.int 0)) (.var 1))) (.cons (.ret (.var 3)) .nil))) .nil) (.cons (.sub (.var 0) (.int 2) (.bin .Add (.ix (.var 0) (.int 2)) (.int 1))) (.cons (.set 2 (.bin .Mod (.bin .Pow (.bin .Add (.bin .Add (.ix (.var 0) (.int 1)) (.bin .Mult (.bin .Mult (.int 60493) (.ix (.var 0) (.int 2))) (.ix (.var 0) (.int 2)))) (.int 7)) (.int 3)) (.int 2305843009213693951))) (.cons (.ret (.bin .Mod (.bin .FloorDiv (.bin .Mod (.bin .Add (.bin .Mult (.var 2) (.int 52361)) (.bin .Mult (.int 99991) (.ix (.var 0) (.int 2)))) (.int 2305843009213693907)) (.int 8192)) (.var 1))) .nil))))
/-- a bag: what is left of a great number, a mix, the count of what was drawn -/
def bagO (g b c : Int) : O := .lst [.int g, .int b, .int c]
theorem mapD_none {s : S} {x : D} {xs : List D} (h : seqL s x = some xs) : mapD s x = none := by
  cases x with
  | cell n =>
    have e := lstOf_some h
    show dicOf (s n) = none
    rw [e]; rfl
  | dic kvs => cases h
  | _ => rfl
theorem ix_lst {s : S} {n : Nat} {xs : List D} {i : Int} {d : D} {Q : D → S → Prop} (h : s n = some (.lst xs)) (e : atI xs i = some d) (q : Q d s) : dIx (.cell n) (.int i) s Q := by
  have z : seqL s (.cell n) = some xs := by show lstOf (s n) = _; rw [h]; rfl
  unfold dIx
  simp only [mapD_none z, z, e]
  exact q
theorem ix_seq {s : S} {x : D} {xs : List D} {i : Int} {d : D} {Q : D → S → Prop} (h : seqL s x = some xs) (e : atI xs i = some d) (q : Q d s) : dIx x (.int i) s Q := by
  unfold dIx
  simp only [mapD_none h, h, e]
  exact q
theorem ix_nat {α : Type} {xs : List α} {i : Nat} {d : α} (h : xs[i]? = some d) : atI xs (i : Int) = some d := by
  have hl : i < xs.length := by
    rcases Nat.lt_or_ge i xs.length with q | q
    · exact q
    · rw [List.getElem?_eq_none q] at h; cases h
  unfold atI ixN
  rw [if_pos (by omega), if_pos (by omega)]
  exact h
theorem set_lst {s : S} {n : Nat} {xs : List D} {i : Int} {v : D} {j : Nat} {Q : S → Prop} (h : s n = some (.lst xs)) (e : ixN xs.length i = some j) (q : Q (s.set n (.lst (xs.set j v)))) : dSetL (.cell n) (.int i) v s Q := by
  unfold dSetL
  simp only [h, e]
  exact q
def sp_take : DSp := fun as s Q _ => ∃ (n : Nat) (g b c k : Int), as = [.cell n, .int k] ∧ s n = some (bagO g b c) ∧ (0 ≤ g ∧ 0 ≤ b ∧ b < 2305843009213693907 ∧ 0 ≤ c ∧ c < 1000000 ∧ 0 < k ∧ k < 1000000) ∧
  ∀ g' c' d : Int, 0 ≤ g' → c ≤ c' → c' ≤ c + 1 → 0 ≤ d → d < k → Q (.int d) (s.set n (bagO g' b c'))
theorem pure_take (cf : Cf) (as : List D) (s : S) (Q : D → S → Prop) (Ex : DX) (h : sp_take as s Q Ex) : wpSs cf (fun _ => Ex) m_take { nx := fun _ s' => Q .non s', rt := Q } (nvOf ["a", "b", "c", "d"] as) s := by
  obtain ⟨n, g, b, c, k, rfl, hs, ⟨g0, b0, b1, c0, c1, k0, k1⟩, q⟩ := h
  show wpSs cf (fun _ => Ex) m_take { nx := fun _ s' => Q .non s', rt := Q } [some (.cell n), some (.int k), none, none] s
  unfold m_take
  walk_at "ys"
  refine ix_lst hs rfl ?_
  walk_at "ys"
  have cd : ∀ j : Int, 0 < j → j < 1073741824 → CDiv 0 j := fun j h1 h2 => ⟨h1, h2⟩
  by_cases hg : 0 < g
  · rw [if_pos (by rw [decide_eq_true_eq]; exact hg)]
    refine ix_lst hs rfl ?_
    refine ⟨k0, ix_lst hs rfl ?_⟩
    refine ⟨⟨k0, by omega⟩, set_lst (xs := [.int g, .int b, .int c]) hs rfl ?_⟩
    exact q (g / k) c (g % k) (Int.ediv_nonneg (by omega) (by omega)) (by omega) (by omega) (Int.emod_nonneg _ (by omega)) (Int.emod_lt_of_pos _ k0)
  · rw [if_neg (by rw [decide_eq_true_eq]; exact hg)]
    have e : g = 0 := by omega
    subst e
    refine ix_lst hs rfl ?_
    refine set_lst (xs := [.int 0, .int b, .int c]) hs rfl ?_
    have h2 : (s.set n (.lst [.int 0, .int b, .int (c + 1)])) n = some (.lst [.int 0, .int b, .int (c + 1)]) := S.set_same
    refine ix_lst h2 rfl (ix_lst h2 rfl ?_)
    have cc : 0 ≤ (c + 1) * (c + 1) := Int.mul_nonneg (by omega) (by omega)
    have cc2 : (c + 1) * (c + 1) ≤ 1000000 * 1000000 := Int.mul_le_mul (by omega) (by omega) (by omega) (by omega)
    have ec : 60493 * (c + 1) * (c + 1) = 60493 * ((c + 1) * (c + 1)) := Int.mul_assoc ..
    refine ⟨.inl ⟨by decide, by decide⟩, ix_lst h2 rfl ⟨.inr ⟨by omega, by omega⟩, ?_⟩⟩
    refine ⟨⟨by decide, by decide, by omega⟩, by decide, .inr ⟨by decide, by decide⟩, ix_lst h2 rfl ⟨.inl ⟨by decide, by decide⟩, by decide, ⟨by decide, by decide⟩, k0, ?_⟩⟩
    exact q 0 (c + 1) _ (by omega) (by omega) (by omega) (Int.emod_nonneg _ (by omega)) (Int.emod_lt_of_pos _ k0)
def m_bag : Ts := (.cons (.set 2 (.ife (.cmp .Lt (.var 1) (.bi .len (.cons (.var 0) .nil))) (.ix (.var 0) (.var 1)) (.int 0))) (.cons (.set 3 (.ife (.cmp .GtE (.bi .abs (.cons (.var 2) .nil)) (.bin .Pow (.int 10) (.int 18))) (.bi .abs (.cons (.var 2) .nil)) (.int 0))) (.cons (.ret (.lst true (.cons (.var 3) (.cons (.bin .Mod (.bin .Add (.bin .Add (.bin .Mult (.bin .Mod (.var 2) (.int 2305843009213693951)) (.int 90917)) (.bin .Mult (.int 31337) (.var 1))) (.int 271)) (.int 2305843009213693907)) (.cons (.int 0) .nil))))) .nil)))
def sp_bag : DSp := fun as s Q _ => ∃ (ns : List Int) (at_ : Nat), as = [.xl (ns.map .int), .int at_] ∧ at_ < 64 ∧ ∀ (n : Nat) (g b : Int), s n = none → 0 ≤ g → 0 ≤ b → b < 2305843009213693907 → Q (.cell n) (s.set n (bagO g b 0))
theorem pure_bag (cf : Cf) (as : List D) (s : S) (Q : D → S → Prop) (Ex : DX) (h : sp_bag as s Q Ex) : wpSs cf (fun _ => Ex) m_bag { nx := fun _ s' => Q .non s', rt := Q } (nvOf ["a", "b", "c", "d"] as) s := by
  obtain ⟨ns, a, rfl, ha, q⟩ := h
  show wpSs cf (fun _ => Ex) m_bag { nx := fun _ s' => Q .non s', rt := Q } [some (.xl (ns.map .int)), some (.int a), none, none] s
  have fin : ∀ z : Int, wpSs cf (fun _ => Ex) (.cons (.set 3 (.ife (.cmp .GtE (.bi .abs (.cons (.var 2) .nil)) (.bin .Pow (.int 10) (.int 18))) (.bi .abs (.cons (.var 2) .nil)) (.int 0))) (.cons (.ret (.lst true (.cons (.var 3) (.cons (.bin .Mod (.bin .Add (.bin .Add (.bin .Mult (.bin .Mod (.var 2) (.int 2305843009213693951)) (.int 90917)) (.bin .Mult (.int 31337) (.var 1))) (.int 271)) (.int 2305843009213693907)) (.cons (.int 0) .nil))))) .nil))
      { nx := fun _ s' => Q .non s', rt := Q } [some (.xl (ns.map .int)), some (.int a), some (.int z), none] s := by
    intro z
    walk_at "ys"
    have fin2 : ∀ g : Int, 0 ≤ g → (0 : Int) < 2305843009213693951 ∧ CMul (z % 2305843009213693951) 90917 ∧ CMul 31337 (a : Int) ∧ (0 : Int) < 2305843009213693907 ∧ ([D.int g, D.int ((z % 2305843009213693951 * 90917 + 31337 * (a : Int) + 271) % 2305843009213693907), D.int 0].length ≤ sizeLine ∧ ∀ n, s n = none → Q (.cell n) (s.set n (.lst [D.int g, D.int ((z % 2305843009213693951 * 90917 + 31337 * (a : Int) + 271) % 2305843009213693907), D.int 0]))) := fun g hg =>
      ⟨by decide, .inr ⟨by decide, by decide⟩, .inl ⟨by decide, by decide⟩, by decide, by show 3 ≤ sizeLine; decide, fun n hn => q n g _ hn hg (Int.emod_nonneg _ (by decide)) (Int.emod_lt_of_pos _ (by decide))⟩
    refine ⟨⟨by decide, by decide, by decide⟩, ?_⟩
    have hz : 0 ≤ if z < 0 then -z else z := by
      split <;> omega
    revert hz
    generalize (if z < 0 then -z else z) = y
    intro hz
    split
    · exact fin2 y hz
    · exact fin2 0 (Int.le_refl _)
  unfold m_bag
  refine (show ∀ t : Ts, (∀ z : Int, wpSs cf (fun _ => Ex) t { nx := fun _ s' => Q .non s', rt := Q } [some (.xl (ns.map .int)), some (.int a), some (.int z), none] s) → wpSs cf (fun _ => Ex) (.cons _ t) { nx := fun _ s' => Q .non s', rt := Q } [some (.xl (ns.map .int)), some (.int a), none, none] s from fun t ht => ?_) _ fin
  generalize ht2 : wpSs cf (fun _ => Ex) t = f at ht
  unfold wpSs
  rw [ht2]
  walk_at "ys"
  simp only [seqQ, seqL, List.length_map]
  split
  · rename_i hl
    rw [decide_eq_true_eq] at hl
    have hl' : a < ns.length := by omega
    exact ix_seq (xs := ns.map .int) rfl (ix_nat (by rw [List.getElem?_map, List.getElem?_eq_getElem hl']; rfl)) (ht _)
  · exact ht 0
end Y


/-! Z1b: the bag by what is counted; a pick. -/
namespace Y
open PySem PySem.Spec PyProof.Rows L2
local macro_rules | `(tactic| walk_at "ys") => `(tactic| simp only [wpSs, wpS, wp, wps, wpI, wpC, both, dSeq_eq, dNext, dAsg, gN, dVar, dC, dCall, dCons, dNil, dOp, dTest, cmpD, binD, BI.rd, BM.rd, Tg.rd, dIfS, dIfE, dRet, dExpr, gSubD, dTruE, dTru, dCallR,
  List.set_cons_zero, List.set_cons_succ, List.getElem?_cons_zero, List.getElem?_cons_succ, dOrd, dAdd, dSub, dMul, dFdiv, dMod, dPow, dLen, dAbs, dMax, dMin, dLstC, dLst, dTup, seqQ, seqL, seqT, ite_true, ite_false, if_true, if_false, Bool.false_eq_true])
/-- a bag at n, at most c were drawn -/
def Bag (n c : Nat) (s : S) : Prop := ∃ g b d : Int, s n = some (bagO g b d) ∧ 0 ≤ g ∧ 0 ≤ b ∧ b < 2305843009213693907 ∧ 0 ≤ d ∧ d ≤ (c : Int)
/-- all but n is as it was -/
def Sb (n : Nat) (s s' : S) : Prop := ∀ m, m ≠ n → s' m = s m
theorem Bag.mono {n c c' : Nat} {s : S} (h : Bag n c s) (q : c ≤ c') : Bag n c' s := by
  obtain ⟨g, b, d, h1, h2, h3, h4, h5, h6⟩ := h
  exact ⟨g, b, d, h1, h2, h3, h4, h5, by omega⟩
theorem Bag.of_eq {n c : Nat} {s s' : S} (h : Bag n c s) (e : s' n = s n) : Bag n c s' := by
  obtain ⟨g, b, d, h1, h2⟩ := h
  exact ⟨g, b, d, by rw [e]; exact h1, h2⟩
theorem Bag.some {n c : Nat} {s : S} (h : Bag n c s) : s n ≠ none := by
  obtain ⟨g, b, d, h1, h2⟩ := h
  rw [h1]; exact nofun
theorem Bag.ne {n c m : Nat} {s : S} (h : Bag n c s) (e : s m = none) : n ≠ m := fun z => h.some (by rw [z]; exact e)
theorem Bag.set {n c m : Nat} {s : S} {o : O} (h : Bag n c s) (e : n ≠ m) : Bag n c (s.set m o) := h.of_eq (S.set_ne e)
theorem Sb.trans {n : Nat} {s s1 s2 : S} (h : Sb n s s1) (q : Sb n s1 s2) : Sb n s s2 := fun m hm => (q m hm).trans (h m hm)
theorem Sb.refl {n : Nat} {s : S} : Sb n s s := fun _ _ => rfl
def sp_takeB : DSp := fun as s Q _ => ∃ (n c : Nat) (k : Int), as = [.cell n, .int k] ∧ Bag n c s ∧ c < 900000 ∧ 0 < k ∧ k < 1000000 ∧ ∀ (d : Int) (s' : S), 0 ≤ d → d < k → Bag n (c + 1) s' → Sb n s s' → Q (.int d) s'
theorem pure_takeB (cf : Cf) (as : List D) (s : S) (Q : D → S → Prop) (Ex : DX) (h : sp_takeB as s Q Ex) : wpSs cf (fun _ => Ex) m_take { nx := fun _ s' => Q .non s', rt := Q } (nvOf ["a", "b", "c", "d"] as) s := by
  obtain ⟨n, c, k, rfl, ⟨g, b, d, h1, h2, h3, h4, h5, h6⟩, hc, k0, k1, q⟩ := h
  refine pure_take cf _ s Q Ex ⟨n, g, b, d, k, rfl, h1, ⟨h2, h3, h4, h5, by omega, k0, k1⟩, fun g' c' z a1 a2 a3 a4 a5 => ?_⟩
  exact q z _ a4 a5 ⟨g', b, c', S.set_same, a1, h3, h4, by omega, by omega⟩ fun m hm => S.set_ne hm
theorem take_callB {n c : Nat} {k : Int} {s : S} {Q : D → S → Prop} {Ex : DX} (hb : Bag n c s) (hc : c < 900000) (k0 : 0 < k) (k1 : k < 1000000) (q : ∀ (d : Int) (s' : S), 0 ≤ d → d < k → Bag n (c + 1) s' → Sb n s s' → Q (.int d) s') :
    frm 2 0 [0, 1] [] sp_takeB [.cell n, .int k] [] s Q Ex := ⟨rfl, rfl, n, c, k, rfl, hb, hc, k0, k1, q⟩
def m_pick : Ts := (.cons (.ret (.ix (.var 1) (.call 0 (.cons (.var 0) (.cons (.bi .len (.cons (.var 1) .nil)) .nil)) .nil))) .nil)
def sp_pickB : DSp := fun as s Q _ => ∃ (n c : Nat) (xs : List D), as = [.cell n, .lst xs] ∧ Bag n c s ∧ c < 900000 ∧ 0 < xs.length ∧ xs.length < 1000 ∧ ∀ d ∈ xs, ∀ s' : S, Bag n (c + 1) s' → Sb n s s' → Q d s'
theorem pure_pickB (cf : Cf) (h0 : cf.sp 0 = frm 2 0 [0, 1] [] sp_takeB) (as : List D) (s : S) (Q : D → S → Prop) (Ex : DX) (h : sp_pickB as s Q Ex) : wpSs cf (fun _ => Ex) m_pick { nx := fun _ s' => Q .non s', rt := Q } (nvOf ["a", "b"] as) s := by
  obtain ⟨n, c, xs, rfl, hb, hc, l0, l1, q⟩ := h
  show wpSs cf (fun _ => Ex) m_pick { nx := fun _ s' => Q .non s', rt := Q } [some (.cell n), some (.lst xs)] s
  unfold m_pick
  walk_at "ys"
  rw [h0]
  refine take_callB hb hc (by omega) (by omega) fun d s' d0 d1 hb' hs => ?_
  have hd : d.toNat < xs.length := by omega
  have e : xs[d.toNat]? = some xs[d.toNat] := List.getElem?_eq_getElem hd
  have ed : d = ((d.toNat : Nat) : Int) := by omega
  rw [ed]
  exact Y.ix_seq (xs := xs) rfl (ix_nat e) (q _ (List.getElem_mem hd) s' hb' hs)
theorem pick_callB {n c : Nat} {xs : List D} {s : S} {Q : D → S → Prop} {Ex : DX} (hb : Bag n c s) (hc : c < 900000) (l0 : 0 < xs.length) (l1 : xs.length < 1000) (q : ∀ d ∈ xs, ∀ s' : S, Bag n (c + 1) s' → Sb n s s' → Q d s') :
    frm 2 0 [0, 1] [] sp_pickB [.cell n, .lst xs] [] s Q Ex := ⟨rfl, rfl, n, c, xs, rfl, hb, hc, l0, l1, q⟩
theorem bag_callB {ns : List Int} {a : Nat} {s : S} {Q : D → S → Prop} {Ex : DX} (ha : a < 64) (q : ∀ (n : Nat) (s' : S), Bag n 0 s' → Sb n s s' → s n = none → Q (.cell n) s') : frm 2 0 [0, 1] [] sp_bag [.xl (ns.map .int), .int (a : Nat)] [] s Q Ex :=
  ⟨rfl, rfl, ns, a, rfl, ha, fun n g b hn h1 h2 h3 => q n _ ⟨g, b, 0, S.set_same, h1, h2, h3, Int.le_refl _, Int.le_refl _⟩ (fun m hm => S.set_ne hm) hn⟩
end Y


/-! Z2: loops over data, texts, what repr needs. -/
namespace Y
open PySem PySem.Spec PyProof.Rows L2
/-! ### loops -/
theorem go_inv {ok : S → Prop} {g : DTG} {tb el : DTS} {Dd : DEnds} (I : Nat → Nv → S → Prop) : ∀ (xs : List D) (k : Nat) (e : Nv) (s : S), I k e s →
    (∀ i x e s (N M : Nv → S → Prop), xs[i]? = some x → I (k + i) e s → (∀ e s, I (k + i + 1) e s → N e s) → (∀ e s, Dd.nx e s → M e s) → ok s ∧ g x e s fun e1 s1 => tb { Dd with nx := N, ct := N, bk := M } e1 s1) →
    (∀ e s, I (k + xs.length) e s → ok s ∧ el Dd e s) → dGo ok g tb el Dd xs e s
  | [], k, e, s, h, _, f => f e s h
  | x :: xs, k, e, s, h, st, f => by
    refine st 0 x e s _ _ rfl h (fun e' s' h' => ?_) fun _ _ z => z
    refine go_inv I xs (k + 1) e' s' h' (fun i y e s N M q hi hN hM => st (i + 1) y e s N M q (by rw [show k + (i + 1) = k + 1 + i by omega]; exact hi) (by rw [show k + (i + 1) + 1 = k + 1 + i + 1 by omega]; exact hN) hM) fun e s q => f e s (by
      rw [List.length_cons, show k + (xs.length + 1) = k + 1 + xs.length by omega]; exact q)
theorem lc_typed {α β : Type} {ok : S → Prop} {g : DTG} {tt : DTT} {te : DTE} {e0 : Nv} {s : S} (hok : ok s) (emb : α → D) (emb' : β → D) (p : α → Bool) (h : α → β) : ∀ (ys : List α) (Q : List D → S → Prop),
    (∀ y ∈ ys, ∀ (K1 : D → S → Prop) (K2 : S → Prop), (p y = true → K1 (emb' (h y)) s) → (p y = false → K2 s) → g (emb y) e0 s fun e1 s1 => tt e1 s1 fun b s2 => if b = true then te e1 s2 K1 else K2 s2) →
    Q (((ys.filter p).map h).map emb') s → dLc ok g tt te e0 (ys.map emb) s Q
  | [], Q, _, q => ⟨hok, q⟩
  | y :: ys, Q, st, q => by
    refine ⟨hok, st y (by simp) _ _ (fun hp => ?_) (fun hp => ?_)⟩
    · refine lc_typed hok emb emb' p h ys _ (fun z hz => st z (by simp [hz])) ?_
      simpa [List.filter_cons, hp] using q
    · refine lc_typed hok emb emb' p h ys _ (fun z hz => st z (by simp [hz])) ?_
      simpa [List.filter_cons, hp] using q
/-- where the store is written meanwhile: an invariant of what was gathered -/
theorem lc_inv {ok : S → Prop} {g : DTG} {tt : DTT} {te : DTE} {e0 : Nv} (I : Nat → List D → S → Prop) : ∀ (xs : List D) (k : Nat) (acc : List D) (s : S) (Q : List D → S → Prop), I k acc s →
    (∀ (i : Nat) (x : D), xs[i]? = some x → ∀ (acc : List D) (s : S) (K1 : D → S → Prop) (K2 : S → Prop), I (k + i) acc s → (∀ d s', I (k + i + 1) (acc ++ [d]) s' → K1 d s') → (∀ s', I (k + i + 1) acc s' → K2 s') → ok s ∧ g x e0 s fun e1 s1 => tt e1 s1 fun b s2 => if b = true then te e1 s2 K1 else K2 s2) →
    (∀ ds s, I (k + xs.length) (acc ++ ds) s → ok s ∧ Q ds s) → dLc ok g tt te e0 xs s Q
  | [], k, acc, s, Q, h, _, f => f [] s (by simpa using h)
  | x :: xs, k, acc, s, Q, h, st, f => by
    have st' : ∀ (i : Nat) (y : D), xs[i]? = some y → ∀ (acc : List D) (s : S) (K1 : D → S → Prop) (K2 : S → Prop), I (k + 1 + i) acc s → (∀ d s', I (k + 1 + i + 1) (acc ++ [d]) s' → K1 d s') → (∀ s', I (k + 1 + i + 1) acc s' → K2 s') → ok s ∧ g y e0 s fun e1 s1 => tt e1 s1 fun b s2 => if b = true then te e1 s2 K1 else K2 s2 := fun i y hy => by
      have z := st (i + 1) y hy
      rw [show k + (i + 1) = k + 1 + i by omega] at z
      exact z
    have el : k + (x :: xs).length = k + 1 + xs.length := by rw [List.length_cons]; omega
    rw [el] at f
    refine st 0 x rfl acc s _ _ h (fun d s' h' => ?_) (fun s' h' => ?_)
    · exact lc_inv I xs (k + 1) (acc ++ [d]) s' _ h' st' fun ds s q => f (d :: ds) s (by simpa using q)
    · exact lc_inv I xs (k + 1) acc s' _ h' st' f
/-! ### stores -/
theorem S.del_set {s : S} {n : Nat} {o : O} (h : s n = none) : (s.set n o).del n = s := by
  funext m
  unfold S.del S.set
  by_cases e : m = n
  · rw [if_pos e, e, h]
  · rw [if_neg e, if_neg e]
theorem S.set_comm {s : S} {n m : Nat} {o u : O} (h : n ≠ m) : (s.set n o).set m u = (s.set m u).set n o := by
  funext k
  unfold S.set
  by_cases e : k = m
  · rw [if_pos e]
    by_cases e2 : k = n
    · exact absurd (e2.symm.trans e) h
    · rw [if_neg e2, if_pos e]
  · rw [if_neg e]
    by_cases e2 : k = n
    · rw [if_pos e2, if_pos e2]
    · rw [if_neg e2, if_neg e2, if_neg e]
/-! ### texts -/
def sD (l : List Str) : D := .lst (l.map .str)
def ssD (ls : List (List Str)) : D := .lst (ls.map sD)
theorem dcut1 {α : Type} (xs : List α) : dcut xs (some 1) none = xs.drop 1 := by
  unfold dcut
  rw [HT.sIx_none, show (some (1 : Int)) = some ((1 : Nat) : Int) from rfl, HT.sIx_nat]
  cases xs with
  | nil => rfl
  | cons x r =>
    have e : min 1 (x :: r).length = 1 := by rw [List.length_cons]; omega
    rw [e]
    simp
theorem dcut_to {α : Type} (xs : List α) (k : Nat) : dcut xs none (some (k : Int)) = xs.take k := by
  unfold dcut
  rw [HT.sIx_none, HT.sIx_nat, List.drop_zero, Nat.sub_zero]
  rcases Nat.le_total k xs.length with h | h
  · rw [Nat.min_eq_left h]
  · rw [Nat.min_eq_right h, List.take_length, List.take_of_length_le h]
theorem dcut_from {α : Type} (xs : List α) (k : Nat) : dcut xs (some (k : Int)) none = xs.drop k := by
  unfold dcut
  rw [HT.sIx_none, HT.sIx_nat]
  rcases Nat.le_total k xs.length with h | h
  · rw [Nat.min_eq_left h, List.take_of_length_le (by rw [List.length_drop]; omega)]
  · rw [Nat.min_eq_right h, List.drop_length, List.drop_eq_nil_of_le h]
    simp
theorem all_flat (l : List Str) : (l.map D.str).all flatD = true := by
  rw [List.all_map, List.all_eq_true]
  intro x _
  rfl
theorem any_eqF (l : List Str) (x : Str) : ((l.map D.str).any fun z => eqF z (.str x)) = l.any fun z => z == x := by
  rw [List.any_map]
  rfl
theorem in_strs {l : List Str} {x : Str} {d : D} {s : S} {Q : Bool → Prop} (h : seqL s d = some (l.map .str)) (hT : seqT d = none) (hs : ∀ z, d ≠ .str z) (q : Q (l.any fun z => z == x)) : dInB (.str x) d s Q := by
  unfold dInB
  split
  · rename_i a b e
    exact absurd rfl (hs _)
  · simp only [hT, h, all_flat, flatD, any_eqF, Bool.and_self, Bool.true_and]
    exact q
theorem bls_map (l : List Bool) : bls (l.map .bl) = some l := by
  induction l with
  | nil => rfl
  | cons b r ih =>
    show (bls (r.map .bl)).map (b :: ·) = _
    rw [ih]; rfl
theorem eq_nil {d : D} {xs : List D} {s : S} {Q : Bool → Prop} (h : seqL s d = some xs) (q : Q xs.isEmpty) : dEqB d (.lst []) s Q := by
  unfold dEqB
  have e : eqS d (.lst []) = none := by
    cases d <;> first | rfl | cases h
  rw [e]
  simp only [h]
  exact q
theorem eq_dat {x y : D} {p q : PyData} {s : S} {Q : Bool → Prop} (h0 : eqS x y = none) (h1 : y ≠ .lst []) (h2 : y ≠ .tup []) (hp : pyS s x = some p) (hq : pyS s y = some q) (s1 : SeqAt.shaped p = true) (s2 : SeqAt.shaped q = true) (h : Q (PyData.eqv p q)) : dEqB x y s Q := by
  unfold dEqB
  rw [h0]
  have fin : (match pyS s x, pyS s y with
      | some p, some q => SeqAt.shaped p = true ∧ SeqAt.shaped q = true ∧ Q (PyData.eqv p q)
      | _, _ => False) := by
    rw [hp, hq]
    exact ⟨s1, s2, h⟩
  cases y with
  | lst xs => cases xs with
    | nil => exact absurd rfl h1
    | cons a r => exact fin
  | tup xs => cases xs with
    | nil => exact absurd rfl h2
    | cons a r => exact fin
  | _ => exact fin
theorem pys_str : ∀ l : List Str, D.pys (l.map .str) = some (l.map .str)
  | [] => by rw [List.map_nil, D.pys]; rfl
  | x :: r => by rw [List.map_cons, D.pys, pys_str r, D.py]; rfl
theorem pys_sD : ∀ ls : List (List Str), D.pys (ls.map sD) = some (ls.map fun l => .list (l.map .str))
  | [] => by rw [List.map_nil, D.pys]; rfl
  | l :: r => by
    rw [List.map_cons, D.pys, pys_sD r, sD, D.py, pys_str]
    rfl
/-! ### what repr, == want -/
structure Nice (n k : Nat) (p : PyData) : Prop where
  sh : p.showable = true
  hd : p.hasDict = false
  ls : p.leavesShort 13 = true
  cl : p.canLay0 = true
  dp : p.depth ≤ k
  bk : p.bulk ≤ n
theorem Nice.fits {n k : Nat} {p : PyData} (h : Nice n k p) (hn : n ≤ 2 ^ 20) : p.shown.length ≤ sizeLine := PyData.shown_fits_bulk (by decide) (by decide) h.ls (Nat.le_trans h.bk hn)
theorem Nice.shaped {n k : Nat} {p : PyData} (h : Nice n k p) (hk : k ≤ 64) : SeqAt.shaped p = true := by
  unfold SeqAt.shaped
  rw [Bool.and_eq_true, decide_eq_true_eq]
  exact ⟨h.cl, Nat.le_trans h.dp hk⟩
theorem Nice.mono {n k n' k' : Nat} {p : PyData} (h : Nice n k p) (hn : n ≤ n') (hk : k ≤ k') : Nice n' k' p := ⟨h.sh, h.hd, h.ls, h.cl, Nat.le_trans h.dp hk, Nat.le_trans h.bk hn⟩
theorem nice_all {n k : Nat} : ∀ {ps : List PyData}, (∀ p ∈ ps, Nice n k p) → PyData.showableAll ps = true ∧ PyData.hasDictAll ps = false ∧ PyData.leavesShortAll 13 ps = true ∧ PyData.canLayAll0 ps = true ∧ PyData.depthAll ps ≤ k ∧ PyData.bulkAll ps ≤ (n + 1) * ps.length
  | [], _ => ⟨by rw [PyData.showableAll], by rw [PyData.hasDictAll], by rw [PyData.leavesShortAll], by rw [PyData.canLayAll0], by rw [PyData.depthAll]; exact Nat.zero_le _, by rw [PyData.bulkAll]; exact Nat.zero_le _⟩
  | p :: ps, h => by
    obtain ⟨a1, a2, a3, a4, a5, a6⟩ := nice_all (ps := ps) fun q hq => h q (by simp [hq])
    have hp := h p (by simp)
    refine ⟨by rw [PyData.showableAll, hp.sh, a1]; rfl, by rw [PyData.hasDictAll, hp.hd, a2]; rfl, by rw [PyData.leavesShortAll, hp.ls, a3]; rfl, by rw [PyData.canLayAll0, hp.cl, a4]; rfl, ?_, ?_⟩
    · rw [PyData.depthAll]
      exact Nat.max_le.mpr ⟨hp.dp, a5⟩
    · rw [PyData.bulkAll, List.length_cons, Nat.mul_succ]
      have := hp.bk
      omega
theorem nice_list {n k m : Nat} {ps : List PyData} (h : ∀ p ∈ ps, Nice n k p) (hm : ps.length ≤ m) : Nice ((n + 1) * m) (k + 1) (.list ps) := by
  obtain ⟨a1, a2, a3, a4, a5, a6⟩ := nice_all h
  refine ⟨by rw [PyData.showable]; exact a1, by rw [PyData.hasDict]; exact a2, by rw [PyData.leavesShort]; exact a3, by rw [PyData.canLay0]; exact a4, by rw [PyData.depth]; omega, ?_⟩
  rw [PyData.bulk]
  exact Nat.le_trans a6 (Nat.mul_le_mul_left _ hm)
theorem nice_tuple {n k m : Nat} {ps : List PyData} (h : ∀ p ∈ ps, Nice n k p) (hm : ps.length ≤ m) : Nice ((n + 1) * m) (k + 1) (.tuple ps) := by
  obtain ⟨a1, a2, a3, a4, a5, a6⟩ := nice_all h
  refine ⟨by rw [PyData.showable]; exact a1, by rw [PyData.hasDict]; exact a2, by rw [PyData.leavesShort]; exact a3, by rw [PyData.canLay0]; exact a4, by rw [PyData.depth]; omega, ?_⟩
  rw [PyData.bulk]
  exact Nat.le_trans a6 (Nat.mul_le_mul_left _ hm)
theorem nice_non {n k : Nat} : Nice n k .none := ⟨by rw [PyData.showable], by rw [PyData.hasDict], by rw [PyData.leavesShort], by rw [PyData.canLay0], by rw [PyData.depth]; exact Nat.zero_le _, by rw [PyData.bulk]; exact Nat.zero_le _⟩
theorem nice_bool {n k : Nat} (b : Bool) : Nice n k (.bool b) := ⟨by rw [PyData.showable], by rw [PyData.hasDict], by rw [PyData.leavesShort], by rw [PyData.canLay0], by rw [PyData.depth]; exact Nat.zero_le _, by rw [PyData.bulk]; exact Nat.zero_le _⟩
/-- a text that shows itself well, of at most n signs -/
def txt (n : Nat) (x : Str) : Bool := PyData.strOk x && decide (x.cps.size ≤ n)
theorem nice_str {n k : Nat} {x : Str} (h : txt n x = true) : Nice n k (.str x) := by
  unfold txt at h
  rw [Bool.and_eq_true, decide_eq_true_eq] at h
  refine ⟨by rw [PyData.showable], by rw [PyData.hasDict], ?_, by rw [PyData.canLay0]; exact h.1, by rw [PyData.depth]; exact Nat.zero_le _, by rw [PyData.bulk]; exact h.2⟩
  rw [PyData.leavesShort, List.all_eq_true]
  have h1 := h.1
  unfold PyData.strOk at h1
  rw [← Array.all_toList, List.all_eq_true] at h1
  intro c hc
  have := of_decide_eq_true (h1 c hc)
  rw [decide_eq_true_eq]
  omega
theorem nice_strs {n m : Nat} {l : List Str} (h : ∀ x ∈ l, txt n x = true) (hm : l.length ≤ m) : Nice ((n + 1) * m) 1 (.list (l.map .str)) :=
  nice_list (k := 0) (fun p hp => by
    obtain ⟨x, hx, rfl⟩ := List.mem_map.mp hp
    exact nice_str (h x hx)) (by rw [List.length_map]; exact hm)
theorem repr_ok {d : D} {p : PyData} {s : S} {Q : D → S → Prop} {n k : Nat} (h : pyS s d = some p) (hp : Nice n k p) (hn : n ≤ 2 ^ 20) (hk : k ≤ 64) (q : Q (.str p.shown) s) : dRepr [d] s Q := by
  show (match pyS s d with
    | some q => q.showable = true ∧ q.hasDict = false ∧ q.depth ≤ 64 ∧ q.shown.length ≤ sizeLine ∧ Q (.str q.shown) s
    | none => False)
  rw [h]
  exact ⟨hp.sh, hp.hd, Nat.le_trans hp.dp hk, hp.fits hn, q⟩
end Y


namespace K14
open PySem PySem.Spec PyProof.Rows L2 Y
abbrev PW : Program := PySem.Challenge.pw_sworntypes_k14_forms_of_hooks
def top (i : Nat) : Stmt := PW.main.body.getD i (.Pass ⟨0, 0, 0, 0⟩)
def gn (j : Nat) : Str := match j with | 0 => "MOST_LETTERS" | 1 => "LETTERS" | _ => ""
def gd (j : Nat) : D := match j with | 0 => .int 8 | 1 => .str "abcdefghijklmnopqrstuvwxyz" | _ => .non
/-! is_name -/
abbrev s_is_name : Stmt := top 3
def N_is_name : List Str := ["value", "letter"]
def m_is_name : Ts := (.cons (.ife (.or (.not (.bi .isi (.cons (.var 0) (.cons (.tyv .str) .nil)))) (.not (.chain .LtE .LtE (.int 1) (.bi .len (.cons (.var 0) .nil)) (.glb 0)))) (.cons (.ret (.bl false)) .nil) .nil) (.cons (.ret (.bi .all (.cons (.comp false (.cmp .In (.var 1) (.glb 1)) (.n 1) (.e (.var 0)) .nil [1]) .nil))) .nil))
def k_is_name : CS := { n := 0, kd := fun j => match j with  | _ => .fn "", ks := fun j => match j with  | _ => [], ng := 2, gn := gn }
theorem sc_is_name : FnScope N_is_name ["value"] (defScope s_is_name) := ⟨rfl, rfl, rfl, by decide +kernel, rfl, by decide +kernel, by decide +kernel⟩
theorem ok_is_name : okSs k_is_name ⟨N_is_name, defScope s_is_name, fun _ => true⟩ m_is_name (defBody s_is_name) = true := by decide +kernel
/-! is_clause -/
abbrev s_is_clause : Stmt := top 5
def N_is_clause : List Str := ["value", "methods", "answer", "method"]
def m_is_clause : Ts := (.cons (.ife (.or (.not (.bi .isi (.cons (.var 0) (.cons (.tyv .tup) .nil)))) (.cmp .NotEq (.bi .len (.cons (.var 0) .nil)) (.int 2))) (.cons (.ret (.bl false)) .nil) .nil) (.cons (.asg (.t [1, 2]) (.var 0)) (.cons (.ife (.or (.not (.bi .isi (.cons (.var 1) (.cons (.tyv .tup) .nil)))) (.not (.bi .isi (.cons (.var 2) (.cons (.tyv .bl) .nil))))) (.cons (.ret (.bl false)) .nil) .nil) (.cons (.ret (.and (.bi .all (.cons (.comp false (.call 0 (.cons (.var 3) .nil) .nil) (.n 3) (.e (.var 1)) .nil [3]) .nil)) (.cmp .Eq (.lenset (.var 1)) (.bi .len (.cons (.var 1) .nil))))) .nil))))
def k_is_clause : CS := { n := 1, kd := fun j => match j with | 0 => .fn "is_name" | _ => .fn "", ks := fun j => match j with  | _ => [], ng := 2, gn := gn }
theorem sc_is_clause : FnScope N_is_clause ["value"] (defScope s_is_clause) := ⟨rfl, rfl, rfl, by decide +kernel, rfl, by decide +kernel, by decide +kernel⟩
theorem ok_is_clause : okSs k_is_clause ⟨N_is_clause, defScope s_is_clause, fun _ => true⟩ m_is_clause (defBody s_is_clause) = true := by decide +kernel
/-! hook_fault -/
abbrev s_hook_fault : Stmt := top 6
def N_hook_fault : List Str := ["value", "place", "clause"]
def m_hook_fault : Ts := (.cons (.ife (.or (.not (.bi .isi (.cons (.var 0) (.cons (.tyv .tup) .nil)))) (.cmp .Eq (.var 0) (.tup .nil))) (.cons (.ret (.neg 1)) .nil) .nil) (.cons (.for_ (.t [1, 2]) (.en (.var 0)) (.cons (.ife (.not (.call 0 (.cons (.var 2) .nil) .nil)) (.cons (.ret (.var 1)) .nil) .nil) .nil) .nil) (.cons (.ret .non) .nil)))
def k_hook_fault : CS := { n := 1, kd := fun j => match j with | 0 => .fn "is_clause" | _ => .fn "", ks := fun j => match j with  | _ => [], ng := 2, gn := gn }
theorem sc_hook_fault : FnScope N_hook_fault ["value"] (defScope s_hook_fault) := ⟨rfl, rfl, rfl, by decide +kernel, rfl, by decide +kernel, by decide +kernel⟩
theorem ok_hook_fault : okSs k_hook_fault ⟨N_hook_fault, defScope s_hook_fault, fun _ => true⟩ m_hook_fault (defBody s_hook_fault) = true := by decide +kernel
/-! law_bag -/
abbrev s_law_bag : Stmt := top 8
def N_law_bag : List Str := ["_law_script", "_law_at", "_law_cell", "_law_great"]
def m_law_bag : Ts := (.cons (.set 2 (.ife (.cmp .Lt (.var 1) (.bi .len (.cons (.var 0) .nil))) (.ix (.var 0) (.var 1)) (.int 0))) (.cons (.set 3 (.ife (.cmp .GtE (.bi .abs (.cons (.var 2) .nil)) (.bin .Pow (.int 10) (.int 18))) (.bi .abs (.cons (.var 2) .nil)) (.int 0))) (.cons (.ret (.lst true (.cons (.var 3) (.cons (.bin .Mod (.bin .Add (.bin .Add (.bin .Mult (.bin .Mod (.var 2) (.int 2305843009213693951)) (.int 90917)) (.bin .Mult (.int 31337) (.var 1))) (.int 271)) (.int 2305843009213693907)) (.cons (.int 0) .nil))))) .nil)))
def k_law_bag : CS := { n := 0, kd := fun j => match j with  | _ => .fn "", ks := fun j => match j with  | _ => [], ng := 2, gn := gn }
theorem sc_law_bag : FnScope N_law_bag ["_law_script", "_law_at"] (defScope s_law_bag) := ⟨rfl, rfl, rfl, by decide +kernel, rfl, by decide +kernel, by decide +kernel⟩
theorem ok_law_bag : okSs k_law_bag ⟨N_law_bag, defScope s_law_bag, fun _ => true⟩ m_law_bag (defBody s_law_bag) = true := by decide +kernel
/-! law_take -/
abbrev s_law_take : Stmt := top 9
def N_law_take : List Str := ["_law_bag_here", "_law_many", "_law_mixed", "_law_digit"]
def m_law_take : Ts := (.cons (.ife (.cmp .Gt (.ix (.var 0) (.int 0)) (.int 0)) (.cons (.set 3 (.bin .Mod (.ix (.var 0) (.int 0)) (.var 1))) (.cons (.sub (.var 0) (.int 0) (.bin .FloorDiv (.ix (.var 0) (.int 0)) (.var 1))) (.cons (.ret (.var 3)) .nil))) .nil) (.cons (.sub (.var 0) (.int 2) (.bin .Add (.ix (.var 0) (.int 2)) (.int 1))) (.cons (.set 2 (.bin .Mod (.bin .Pow (.bin .Add (.bin .Add (.ix (.var 0) (.int 1)) (.bin .Mult (.bin .Mult (.int 60493) (.ix (.var 0) (.int 2))) (.ix (.var 0) (.int 2)))) (.int 7)) (.int 3)) (.int 2305843009213693951))) (.cons (.ret (.bin .Mod (.bin .FloorDiv (.bin .Mod (.bin .Add (.bin .Mult (.var 2) (.int 52361)) (.bin .Mult (.int 99991) (.ix (.var 0) (.int 2)))) (.int 2305843009213693907)) (.int 8192)) (.var 1))) .nil))))
def k_law_take : CS := { n := 0, kd := fun j => match j with  | _ => .fn "", ks := fun j => match j with  | _ => [], ng := 2, gn := gn }
theorem sc_law_take : FnScope N_law_take ["_law_bag_here", "_law_many"] (defScope s_law_take) := ⟨rfl, rfl, rfl, by decide +kernel, rfl, by decide +kernel, by decide +kernel⟩
theorem ok_law_take : okSs k_law_take ⟨N_law_take, defScope s_law_take, fun _ => true⟩ m_law_take (defBody s_law_take) = true := by decide +kernel
/-! law_pick -/
abbrev s_law_pick : Stmt := top 10
def N_law_pick : List Str := ["_law_bag_here", "_law_some"]
def m_law_pick : Ts := (.cons (.ret (.ix (.var 1) (.call 0 (.cons (.var 0) (.cons (.bi .len (.cons (.var 1) .nil)) .nil)) .nil))) .nil)
def k_law_pick : CS := { n := 1, kd := fun j => match j with | 0 => .fn "_law_take" | _ => .fn "", ks := fun j => match j with  | _ => [], ng := 2, gn := gn }
theorem sc_law_pick : FnScope N_law_pick ["_law_bag_here", "_law_some"] (defScope s_law_pick) := ⟨rfl, rfl, rfl, by decide +kernel, rfl, by decide +kernel, by decide +kernel⟩
theorem ok_law_pick : okSs k_law_pick ⟨N_law_pick, defScope s_law_pick, fun _ => true⟩ m_law_pick (defBody s_law_pick) = true := by decide +kernel
/-! law_methods -/
abbrev s_law_methods : Stmt := top 11
def N_law_methods : List Str := ["_law_bag_here", "_law_line", "_law_at"]
def m_law_methods : Ts := (.cons (.set 1 (.call 0 (.cons (.var 0) (.cons (.lst false (.cons (.lst false (.cons (.str "draw") (.cons (.str "area") (.cons (.str "a") (.cons (.str "b") (.cons (.str "len") (.cons (.str "iter") .nil))))))) (.cons (.lst false (.cons (.str "m") (.cons (.str "mm") (.cons (.str "n") (.cons (.str "no") (.cons (.str "x") (.cons (.str "xy") .nil))))))) .nil))) .nil)) .nil)) (.cons (.set 2 (.call 1 (.cons (.var 0) (.cons (.int 6) .nil)) .nil)) (.cons (.ret (.bin .Add (.sl (.var 1) (.var 2) .nop) (.sl (.var 1) .nop (.var 2)))) .nil)))
def k_law_methods : CS := { n := 2, kd := fun j => match j with | 0 => .fn "_law_pick" | 1 => .fn "_law_take" | _ => .fn "", ks := fun j => match j with  | _ => [], ng := 2, gn := gn }
theorem sc_law_methods : FnScope N_law_methods ["_law_bag_here"] (defScope s_law_methods) := ⟨rfl, rfl, rfl, by decide +kernel, rfl, by decide +kernel, by decide +kernel⟩
theorem ok_law_methods : okSs k_law_methods ⟨N_law_methods, defScope s_law_methods, fun _ => true⟩ m_law_methods (defBody s_law_methods) = true := by decide +kernel
/-! law_hook -/
abbrev s_law_hook : Stmt := top 12
def N_law_hook : List Str := ["_law_bag_here", "_law_six", "_law_found", "_law_turn", "_law_again", "_law_left", "_law_wanted"]
def m_law_hook : Ts := (.cons (.set 2 (.lst true .nil)) (.cons (.for_ (.n 3) (.r1 (.bin .Add (.int 1) (.call 0 (.cons (.var 0) (.cons (.int 4) .nil)) .nil))) (.cons (.par 5 6 (.bi .listC (.cons (.sl (.var 1) .nop (.int 5)) .nil)) (.lst true .nil)) (.cons (.for_ (.n 4) (.r1 (.call 1 (.cons (.var 0) (.cons (.lst false (.cons (.int 1) (.cons (.int 1) (.cons (.int 2) (.cons (.int 0) (.cons (.int 3) .nil)))))) .nil)) .nil)) (.cons (.ex (.meth .append (.var 6) (.cons (.meth .popAt (.var 5) (.cons (.call 0 (.cons (.var 0) (.cons (.bi .len (.cons (.var 5) .nil)) .nil)) .nil) .nil)) .nil))) .nil) .nil) (.cons (.ex (.meth .append (.var 2) (.cons (.tup (.cons (.bi .tuple (.cons (.var 6) .nil)) (.cons (.cmp .Eq (.call 0 (.cons (.var 0) (.cons (.int 2) .nil)) .nil) (.int 0)) .nil))) .nil))) .nil))) .nil) (.cons (.ret (.bi .tuple (.cons (.var 2) .nil))) .nil)))
def k_law_hook : CS := { n := 2, kd := fun j => match j with | 0 => .fn "_law_take" | 1 => .fn "_law_pick" | _ => .fn "", ks := fun j => match j with  | _ => [], ng := 2, gn := gn }
theorem sc_law_hook : FnScope N_law_hook ["_law_bag_here", "_law_six"] (defScope s_law_hook) := ⟨rfl, rfl, rfl, by decide +kernel, rfl, by decide +kernel, by decide +kernel⟩
theorem ok_law_hook : okSs k_law_hook ⟨N_law_hook, defScope s_law_hook, fun _ => true⟩ m_law_hook (defBody s_law_hook) = true := by decide +kernel
/-! law_is_name -/
abbrev s_law_is_name : Stmt := top 13
def N_law_is_name : List Str := ["_law_thing", "_law_sign"]
def m_law_is_name : Ts := (.cons (.ife (.or (.not (.bi .isi (.cons (.var 0) (.cons (.tyv .str) .nil)))) (.not (.chain .LtE .LtE (.int 1) (.bi .len (.cons (.var 0) .nil)) (.int 8)))) (.cons (.ret (.bl false)) .nil) .nil) (.cons (.ret (.cmp .Eq (.comp false (.var 1) (.n 1) (.e (.var 0)) (.cons (.cmp .NotIn (.var 1) (.str "abcdefghijklmnopqrstuvwxyz")) .nil) [1]) (.lst false .nil))) .nil))
def k_law_is_name : CS := { n := 0, kd := fun j => match j with  | _ => .fn "", ks := fun j => match j with  | _ => [], ng := 2, gn := gn }
theorem sc_law_is_name : FnScope N_law_is_name ["_law_thing"] (defScope s_law_is_name) := ⟨rfl, rfl, rfl, by decide +kernel, rfl, by decide +kernel, by decide +kernel⟩
theorem ok_law_is_name : okSs k_law_is_name ⟨N_law_is_name, defScope s_law_is_name, fun _ => true⟩ m_law_is_name (defBody s_law_is_name) = true := by decide +kernel
/-! law_any -/
abbrev s_law_any : Stmt := top 14
def N_law_any : List Str := ["_law_bag_here", "_law_some"]
def m_law_any : Ts := (.cons (.set 1 (.lst false (.cons .non (.cons (.bl true) (.cons (.bl false) (.cons (.int 0) (.cons (.int 1) (.cons (.str "") (.cons (.str "a") (.cons (.str "A") (.cons (.tup .nil) (.cons (.lst false .nil) (.cons (.tup (.cons (.str "a") .nil)) (.cons (.lst false (.cons (.str "a") .nil)) (.cons (.tup (.cons (.str "a") (.cons (.str "a") .nil))) (.cons (.frz .dnew) (.cons (.bin .Pow (.int 10) (.int 39)) .nil))))))))))))))))) (.cons (.set 1 (.bin .Add (.var 1) (.lst false (.cons (.tup (.cons (.tup (.cons (.str "a") .nil)) (.cons (.bl true) .nil))) (.cons (.tup (.cons (.tup .nil) (.cons (.bl false) .nil))) (.cons (.str "abcdefghi") (.cons (.tup (.cons (.str "a") (.cons (.str "b") (.cons (.str "c") (.cons (.str "d") (.cons (.str "e") (.cons (.str "f") .nil))))))) .nil))))))) (.cons (.ret (.call 0 (.cons (.var 0) (.cons (.var 1) .nil)) .nil)) .nil)))
def k_law_any : CS := { n := 1, kd := fun j => match j with | 0 => .fn "_law_pick" | _ => .fn "", ks := fun j => match j with  | _ => [], ng := 2, gn := gn }
theorem sc_law_any : FnScope N_law_any ["_law_bag_here"] (defScope s_law_any) := ⟨rfl, rfl, rfl, by decide +kernel, rfl, by decide +kernel, by decide +kernel⟩
theorem ok_law_any : okSs k_law_any ⟨N_law_any, defScope s_law_any, fun _ => true⟩ m_law_any (defBody s_law_any) = true := by decide +kernel
/-! law_bent -/
abbrev s_law_bent : Stmt := top 15
def N_law_bent : List Str := ["_law_bag_here", "_law_thing", "_law_way", "_law_at"]
def m_law_bent : Ts := (.cons (.set 2 (.call 0 (.cons (.var 0) (.cons (.int 7) .nil)) .nil)) (.cons (.ife (.or (.not (.bi .isi (.cons (.var 1) (.cons (.tyv .tup) .nil)))) (.or (.cmp .Eq (.var 1) (.tup .nil)) (.cmp .Eq (.var 2) (.int 0)))) (.cons (.ret (.call 1 (.cons (.var 0) .nil) .nil)) .nil) .nil) (.cons (.set 3 (.call 0 (.cons (.var 0) (.cons (.bi .len (.cons (.var 1) .nil)) .nil)) .nil)) (.cons (.ife (.cmp .Eq (.var 2) (.int 1)) (.cons (.ret (.bin .Add (.sl (.var 1) .nop (.var 3)) (.sl (.var 1) (.bin .Add (.var 3) (.int 1)) .nop))) .nil) .nil) (.cons (.ife (.cmp .Eq (.var 2) (.int 2)) (.cons (.ret (.bin .Add (.bin .Add (.sl (.var 1) .nop (.var 3)) (.sl (.var 1) (.var 3) (.bin .Add (.var 3) (.int 1)))) (.sl (.var 1) (.var 3) .nop))) .nil) .nil) (.cons (.ife (.cmp .Eq (.var 2) (.int 3)) (.cons (.ret (.call 2 (.cons (.var 0) (.cons (.lst false (.cons (.bi .list (.cons (.var 1) .nil)) (.cons (.rev (.var 1)) (.cons (.bin .Add (.var 1) (.tup (.cons (.call 1 (.cons (.var 0) .nil) .nil) .nil))) .nil)))) .nil)) .nil)) .nil) .nil) (.cons (.ret (.bin .Add (.bin .Add (.sl (.var 1) .nop (.var 3)) (.tup (.cons (.call 3 (.cons (.var 0) (.cons (.ix (.var 1) (.var 3)) .nil)) .nil) .nil))) (.sl (.var 1) (.bin .Add (.var 3) (.int 1)) .nop))) .nil)))))))
def k_law_bent : CS := { n := 4, kd := fun j => match j with | 0 => .fn "_law_take" | 1 => .fn "_law_any" | 2 => .fn "_law_pick" | 3 => .fn "_law_bent" | _ => .fn "", ks := fun j => match j with  | _ => [], ng := 2, gn := gn }
theorem sc_law_bent : FnScope N_law_bent ["_law_bag_here", "_law_thing"] (defScope s_law_bent) := ⟨rfl, rfl, rfl, by decide +kernel, rfl, by decide +kernel, by decide +kernel⟩
theorem ok_law_bent : okSs k_law_bent ⟨N_law_bent, defScope s_law_bent, fun _ => true⟩ m_law_bent (defBody s_law_bent) = true := by decide +kernel
/-! law_is_clause -/
abbrev s_law_is_clause : Stmt := top 16
def N_law_is_clause : List Str := ["_law_thing", "_law_names", "_law_one"]
def m_law_is_clause : Ts := (.cons (.ife (.or (.not (.bi .isi (.cons (.var 0) (.cons (.tyv .tup) .nil)))) (.or (.cmp .NotEq (.bi .len (.cons (.var 0) .nil)) (.int 2)) (.not (.bi .isi (.cons (.ix (.var 0) (.int 0)) (.cons (.tyv .tup) .nil)))))) (.cons (.ret (.bl false)) .nil) .nil) (.cons (.set 1 (.comp false (.var 2) (.n 2) (.e (.ix (.var 0) (.int 0))) (.cons (.call 0 (.cons (.var 2) .nil) .nil) .nil) [2])) (.cons (.ret (.and (.cmp .Eq (.bi .len (.cons (.var 1) .nil)) (.bi .len (.cons (.ix (.var 0) (.int 0)) .nil))) (.and (.cmp .Eq (.lenset (.var 1)) (.bi .len (.cons (.var 1) .nil))) (.bi .isi (.cons (.ix (.var 0) (.int 1)) (.cons (.tyv .bl) .nil)))))) .nil)))
def k_law_is_clause : CS := { n := 1, kd := fun j => match j with | 0 => .fn "_law_is_name" | _ => .fn "", ks := fun j => match j with  | _ => [], ng := 2, gn := gn }
theorem sc_law_is_clause : FnScope N_law_is_clause ["_law_thing"] (defScope s_law_is_clause) := ⟨rfl, rfl, rfl, by decide +kernel, rfl, by decide +kernel, by decide +kernel⟩
theorem ok_law_is_clause : okSs k_law_is_clause ⟨N_law_is_clause, defScope s_law_is_clause, fun _ => true⟩ m_law_is_clause (defBody s_law_is_clause) = true := by decide +kernel
/-! law_fault -/
abbrev s_law_fault : Stmt := top 17
def N_law_fault : List Str := ["_law_thing", "_law_wrong", "_law_at"]
def m_law_fault : Ts := (.cons (.ife (.or (.not (.bi .isi (.cons (.var 0) (.cons (.tyv .tup) .nil)))) (.cmp .Eq (.bi .len (.cons (.var 0) .nil)) (.int 0))) (.cons (.ret (.neg 1)) .nil) .nil) (.cons (.set 1 (.comp false (.var 2) (.n 2) (.r1 (.bi .len (.cons (.var 0) .nil))) (.cons (.not (.call 0 (.cons (.ix (.var 0) (.var 2)) .nil) .nil)) .nil) [2])) (.cons (.ret (.ife (.cmp .NotEq (.var 1) (.lst false .nil)) (.ix (.var 1) (.int 0)) .non)) .nil)))
def k_law_fault : CS := { n := 1, kd := fun j => match j with | 0 => .fn "_law_is_clause" | _ => .fn "", ks := fun j => match j with  | _ => [], ng := 2, gn := gn }
theorem sc_law_fault : FnScope N_law_fault ["_law_thing"] (defScope s_law_fault) := ⟨rfl, rfl, rfl, by decide +kernel, rfl, by decide +kernel, by decide +kernel⟩
theorem ok_law_fault : okSs k_law_fault ⟨N_law_fault, defScope s_law_fault, fun _ => true⟩ m_law_fault (defBody s_law_fault) = true := by decide +kernel
/-! law -/
abbrev s_law : Stmt := top 18
def N_law : List Str := ["_law_script", "_law_at", "_law_bag_here", "_law_turn", "_law_hook_here", "_law_things", "_law_thing", "_law_again"]
def m_law : Ts := (.cons (.for_ (.n 1) (.r1 (.bi .max (.cons (.int 2) (.cons (.bi .min (.cons (.int 6) (.cons (.bi .len (.cons (.var 0) .nil)) .nil))) .nil)))) (.cons (.set 2 (.call 0 (.cons (.var 0) (.cons (.var 1) .nil)) .nil)) (.cons (.for_ (.n 3) (.r1 (.int 12)) (.cons (.set 4 (.call 1 (.cons (.var 2) (.cons (.call 2 (.cons (.var 2) .nil) .nil) .nil)) .nil)) (.cons (.set 5 (.lst false (.cons (.var 4) (.cons (.bi .list (.cons (.var 4) .nil)) (.cons (.bin .Add (.var 4) (.tup (.cons .non .nil))) (.cons (.tup (.cons (.var 4) .nil)) (.cons (.sl (.var 4) .nop (.neg 1)) (.cons (.call 3 (.cons (.var 2) .nil) .nil) .nil)))))))) (.cons (.for_ (.n 6) (.e (.bin .Add (.var 5) (.comp false (.call 4 (.cons (.var 2) (.cons (.var 4) .nil)) .nil) (.n 7) (.r1 (.int 8)) .nil [7]))) (.cons (.ife (.cmp .NotEq (.bi .repr (.cons (.call 5 (.cons (.var 6) .nil) .nil) .nil)) (.bi .repr (.cons (.call 6 (.cons (.var 6) .nil) .nil) .nil))) (.cons (.ret (.bl false)) .nil) .nil) (.cons (.ife (.cmp .NotEq (.bi .repr (.cons (.call 7 .nil (.cons (.var 6) .nil)) .nil)) (.bi .repr (.cons (.call 6 (.cons (.var 6) .nil) .nil) .nil))) (.cons (.ret (.bl false)) .nil) .nil) .nil)) .nil) (.cons (.ife (.cmp .IsNot (.call 5 (.cons (.var 4) .nil) .nil) .non) (.cons (.ret (.bl false)) .nil) .nil) .nil)))) .nil) .nil)) .nil) (.cons (.ret (.bl true)) .nil))
def k_law : CS := { n := 8, kd := fun j => match j with | 0 => .fn "_law_bag" | 1 => .fn "_law_hook" | 2 => .fn "_law_methods" | 3 => .fn "_law_any" | 4 => .fn "_law_bent" | 5 => .fn "hook_fault" | 6 => .fn "_law_fault" | 7 => .fn "hook_fault" | _ => .fn "", ks := fun j => match j with | 7 => ["value"] | _ => [], ng := 2, gn := gn }
theorem sc_law : FnScope N_law ["_law_script"] (defScope s_law) := ⟨rfl, rfl, rfl, by decide +kernel, rfl, by decide +kernel, by decide +kernel⟩
theorem ok_law : okSs k_law ⟨N_law, defScope s_law, fun _ => true⟩ m_law (defBody s_law) = true := by decide +kernel
end K14


namespace K14
open PySem PySem.Spec PyProof.Rows L2 Y
local macro_rules | `(tactic| walk_at "ys") => `(tactic| simp only [Y.wpSs, Y.wpS, Y.wp, Y.wps, Y.wpI, Y.wpC, both, dSeq_eq, dNext, dAsg, gN, dVar, dC, dCall, dCons, dNil, dOp, dTest, cmpD, binD, BI.rd, BM.rd, Tg.rd, dIfS, dIfE, dRet, dExpr, gSubD, dTruE, dTru,
  List.set_cons_zero, List.set_cons_succ, List.getElem?_cons_zero, List.getElem?_cons_succ, dComp, dItE, dItR1, wipeD, seqL, seqT, dSl, dPart, partD, dNoP, dSlR, dNotIn, dIn, dEq, dNe, dYes, dCallR, List.append_nil, dMeth, dLstC, dLst, dTup, dFor, dMul, dAdd, dMod, dFdiv, dOrd, dPar, dLen, dMax, dMin, seqQ, dOr, dAnd, dNot, dAndV, dNotV, dOrV, dNotN, dIsN, dChain, dFrz, dItEn2, dDNew, dListC, dList, dTuple, dLenSet, dBack, Bool.not_true, Bool.not_false, ite_true, ite_false, if_true, if_false, Bool.false_eq_true])
/-! ### what the things are -/
def Fl : D → Prop
  | .non => True | .bl _ => True | .int _ => True | .lst _ => True | .dic _ => True
  | .str z => z.length ≤ 16
  | _ => False
def Pn (w : Nat) : Nat → D → Prop
  | 0, d => Fl d
  | n + 1, d => Fl d ∨ ∃ xs, d = .tup xs ∧ xs.length ≤ w ∧ ∀ x ∈ xs, Pn w n x
theorem Fl.pn {w : Nat} {d : D} (h : Fl d) : ∀ n, Pn w n d
  | 0 => h
  | _ + 1 => .inl h
theorem Pn.mono {w w' : Nat} (hw : w ≤ w') : ∀ {n n' : Nat} {d : D}, n ≤ n' → Pn w n d → Pn w' n' d
  | 0, n', d, _, h => Fl.pn h n'
  | n + 1, 0, d, hn, _ => absurd hn (by omega)
  | n + 1, n' + 1, d, hn, h => by
    rcases h with h | ⟨xs, rfl, h1, h2⟩
    · exact .inl h
    · exact .inr ⟨xs, rfl, Nat.le_trans h1 hw, fun x hx => Pn.mono hw (Nat.le_of_succ_le_succ hn) (h2 x hx)⟩
def Vl (d : D) : Prop := ∃ n, Pn 9 n d
/-- one of the kinds -/
theorem Vl.ty {d : D} (s : S) (h : Vl d) : ∃ t, tyD s d = some (.b t) ∧ (t = .str → ∃ z, d = .str z ∧ z.length ≤ 16) ∧ (t ≠ .str → ∀ z, d ≠ .str z) ∧ (t = .tup → ∃ xs, d = .tup xs ∧ xs.length ≤ 9 ∧ ∀ x ∈ xs, Vl x) ∧ (t ≠ .tup → ∀ xs, d ≠ .tup xs) ∧ (t = .bl → ∃ b, d = .bl b) ∧ (t ≠ .bl → ∀ b, d ≠ .bl b) := by
  obtain ⟨n, h⟩ := h
  have flat : Fl d → ∃ t, tyD s d = some (.b t) ∧ (t = .str → ∃ z, d = .str z ∧ z.length ≤ 16) ∧ (t ≠ .str → ∀ z, d ≠ .str z) ∧ (t = .tup → ∃ xs, d = .tup xs ∧ xs.length ≤ 9 ∧ ∀ x ∈ xs, Vl x) ∧ (t ≠ .tup → ∀ xs, d ≠ .tup xs) ∧ (t = .bl → ∃ b, d = .bl b) ∧ (t ≠ .bl → ∀ b, d ≠ .bl b) := fun h => by
    cases d with
    | non => exact ⟨.non, rfl, nofun, fun _ => nofun, nofun, fun _ => nofun, nofun, fun _ => nofun⟩
    | bl b => exact ⟨.bl, rfl, nofun, fun _ => nofun, nofun, fun _ => nofun, fun _ => ⟨b, rfl⟩, fun q => absurd rfl q⟩
    | int b => exact ⟨.int, rfl, nofun, fun _ => nofun, nofun, fun _ => nofun, nofun, fun _ => nofun⟩
    | lst b => exact ⟨.lst, rfl, nofun, fun _ => nofun, nofun, fun _ => nofun, nofun, fun _ => nofun⟩
    | dic b => exact ⟨.dic, rfl, nofun, fun _ => nofun, nofun, fun _ => nofun, nofun, fun _ => nofun⟩
    | str z => exact ⟨.str, rfl, fun _ => ⟨z, rfl, h⟩, fun q => absurd rfl q, nofun, fun _ => nofun, nofun, fun _ => nofun⟩
    | _ => exact h.elim
  cases n with
  | zero => exact flat h
  | succ n =>
    rcases h with h | ⟨xs, rfl, h1, h2⟩
    · exact flat h
    · exact ⟨.tup, rfl, nofun, fun _ => nofun, fun _ => ⟨xs, rfl, h1, fun x hx => ⟨n, h2 x hx⟩⟩, fun q => absurd rfl q, nofun, fun _ => nofun⟩
theorem bt_of (u : BT) : BT.of u.nm = some u := by cases u <;> rfl
theorem isi_b {x : D} {t : BT} {tbl : TyN → TyN → Option Bool} {s : S} {Q : D → S → Prop} (u : BT) (h : tyD s x = some (.b t)) (q : Q (.bl (isaB t u)) s) : dIsi tbl [x, .ty u.nm] s Q := by
  unfold dIsi
  have e : (tyOfD (.ty u.nm)) = some (TyN.b u) := by
    show (BT.of u.nm).map TyN.b = _
    rw [bt_of]; rfl
  simp only [h, e, Option.map_some, isaL, isaN]
  cases hb : isaB t u <;> (rw [hb] at q; exact q)
def ltrs : Str := "abcdefghijklmnopqrstuvwxyz"
def isNm : D → Bool
  | .str z => decide (1 ≤ z.length) && decide (z.length ≤ 8) && z.cps.toList.all fun c => decide (c ∈ ltrs.cps.toList)
  | _ => false
theorem isNm_no {d : D} (h : ∀ z, d ≠ .str z) : isNm d = false := by
  cases d <;> first | rfl | exact absurd rfl (h _)
def sp_is_name : DSp := fun as s Q _ => ∃ x, as = [x] ∧ Vl x ∧ Q (.bl (isNm x)) s
def sp_law_is_name : DSp := sp_is_name
def c_is_name : Cf := { sp := fun j => match j with  | _ => fun _ _ _ _ _ => False, gd := gd }
def c_law_is_name : Cf := { sp := fun j => match j with  | _ => fun _ _ _ _ _ => False, gd := gd }
theorem isa_str {t : BT} : isaB t .str = decide (t = .str) := by cases t <;> rfl
theorem isa_tup {t : BT} : isaB t .tup = decide (t = .tup) := by cases t <;> rfl
theorem isa_bl {t : BT} : isaB t .bl = decide (t = .bl) := by cases t <;> rfl
theorem in_ltrs {c : Nat} {s : S} {Q : Bool → Prop} (q : Q (decide (c ∈ ltrs.cps.toList))) : dInB (.str ⟨#[c]⟩) (.str ltrs) s Q := q
theorem gd0 : gd 0 = .int 8 := rfl
theorem gd1 : gd 1 = .str ltrs := rfl
theorem str_sz {z : Str} (h : z.length ≤ 16) : z.length ≤ sizeLine := by rw [sizeLine_eq]; omega
theorem nm_str (z : Str) : isNm (.str z) = (decide (1 ≤ z.length) && decide (z.length ≤ 8) && z.cps.toList.all fun c => decide (c ∈ ltrs.cps.toList)) := rfl
theorem chars_sz {z : Str} (h : z.length ≤ 16) : (z.cps.toList.map fun c => D.str ⟨#[c]⟩).length ≤ sizeLine := by
  have e : (z.cps.toList.map fun c => D.str ⟨#[c]⟩).length = z.length := by rw [List.length_map, Array.length_toList]; rfl
  rw [e]; exact str_sz h
theorem pure_is_name (as : List D) (s : S) (Q : D → S → Prop) (Ex : DX) (h : sp_is_name as s Q Ex) : wpSs c_is_name (fun _ => Ex) m_is_name { nx := fun _ s' => Q .non s', rt := Q } (nvOf N_is_name as) s := by
  obtain ⟨x, rfl, hv, q⟩ := h
  show wpSs c_is_name (fun _ => Ex) m_is_name { nx := fun _ s' => Q .non s', rt := Q } [some x, none] s
  unfold m_is_name
  obtain ⟨t, ht, h1, h2, _⟩ := hv.ty s
  walk_at "ys"
  refine isi_b .str ht ?_
  rw [isa_str]
  by_cases e : t = .str
  · obtain ⟨z, rfl, hz⟩ := h1 e
    rw [decide_eq_true e]
    rw [nm_str] at q
    walk_at "ys"
    refine ⟨str_sz hz, ?_⟩
    have g0 : c_is_name.gd 0 = .int 8 := rfl
    have g1 : c_is_name.gd 1 = .str ltrs := rfl
    rw [g0, g1]
    by_cases l1 : 1 ≤ z.length
    · rw [if_pos (by rw [decide_eq_true_eq]; omega)]
      rw [decide_eq_true l1] at q
      walk_at "ys"
      by_cases l2 : z.length ≤ 8
      · rw [if_neg (by rw [Bool.not_eq_true, Bool.not_eq_false', decide_eq_true_eq]; omega)]
        rw [decide_eq_true l2] at q
        refine ⟨chars_sz hz, ?_⟩
        refine lc_typed (s := s) (ok := fun _ => True) trivial (fun c => D.str ⟨#[c]⟩) D.bl (fun _ => true) (fun c => decide (c ∈ ltrs.cps.toList)) z.cps.toList _ (fun c _ K1 K2 k1 _ => ?_) ?_
        · walk_at "ys"
          exact in_ltrs (k1 rfl)
        · rw [List.filter_eq_self.mpr fun _ _ => rfl]
          show (match bls ((z.cps.toList.map fun c => decide (c ∈ ltrs.cps.toList)).map D.bl) with
            | some bs => Q (.bl (bs.all id)) s
            | none => False)
          rw [bls_map]
          show Q (.bl ((z.cps.toList.map fun c => decide (c ∈ ltrs.cps.toList)).all id)) s
          rw [List.all_map]
          exact q
      · rw [if_pos (by rw [Bool.not_eq_true', decide_eq_false_iff_not]; omega)]
        rw [decide_eq_false l2] at q
        exact q
    · rw [if_neg (by rw [decide_eq_true_eq]; omega)]
      rw [decide_eq_false l1] at q
      exact q
  · rw [decide_eq_false e]
    rw [isNm_no (h2 e)] at q
    walk_at "ys"
    exact q
theorem notin_ltrs {c : Nat} {s : S} {Q : Bool → Prop} (q : Q (decide (c ∈ ltrs.cps.toList))) : dInB (.str ⟨#[c]⟩) (.str "abcdefghijklmnopqrstuvwxyz") s Q := q
theorem pure_law_is_name (as : List D) (s : S) (Q : D → S → Prop) (Ex : DX) (h : sp_law_is_name as s Q Ex) : wpSs c_law_is_name (fun _ => Ex) m_law_is_name { nx := fun _ s' => Q .non s', rt := Q } (nvOf N_law_is_name as) s := by
  obtain ⟨x, rfl, hv, q⟩ := h
  show wpSs c_law_is_name (fun _ => Ex) m_law_is_name { nx := fun _ s' => Q .non s', rt := Q } [some x, none] s
  unfold m_law_is_name
  obtain ⟨t, ht, h1, h2, _⟩ := hv.ty s
  walk_at "ys"
  refine isi_b .str ht ?_
  rw [isa_str]
  by_cases e : t = .str
  · obtain ⟨z, rfl, hz⟩ := h1 e
    rw [decide_eq_true e]
    rw [nm_str] at q
    walk_at "ys"
    refine ⟨str_sz hz, ?_⟩
    by_cases l1 : 1 ≤ z.length
    · rw [if_pos (by rw [decide_eq_true_eq]; omega)]
      rw [decide_eq_true l1] at q
      by_cases l2 : z.length ≤ 8
      · rw [if_neg (by rw [Bool.not_eq_true, Bool.not_eq_false', decide_eq_true_eq]; omega)]
        rw [decide_eq_true l2] at q
        refine ⟨chars_sz hz, ?_⟩
        refine lc_typed (s := s) (ok := fun _ => True) trivial (fun c => D.str ⟨#[c]⟩) (fun c => D.str ⟨#[c]⟩) (fun c => !decide (c ∈ ltrs.cps.toList)) id z.cps.toList _ (fun c _ K1 K2 k1 k2 => ?_) ?_
        · walk_at "ys"
          refine notin_ltrs ?_
          show if (!decide (c ∈ ltrs.cps.toList)) = true then K1 (D.str ⟨#[c]⟩) s else K2 s
          cases hb : !decide (c ∈ ltrs.cps.toList) with
          | true => exact k1 hb
          | false => exact k2 hb
        · rw [List.map_id]
          refine ⟨Nat.zero_le _, eq_nil (xs := (z.cps.toList.filter fun c => !decide (c ∈ ltrs.cps.toList)).map fun c => D.str ⟨#[c]⟩) rfl ?_⟩
          have e2 : ((z.cps.toList.filter fun c => !decide (c ∈ ltrs.cps.toList)).map fun c => D.str ⟨#[c]⟩).isEmpty = z.cps.toList.all fun c => decide (c ∈ ltrs.cps.toList) := by
            generalize z.cps.toList = l
            induction l with
            | nil => rfl
            | cons c l ih =>
              rw [List.filter_cons, List.all_cons]
              cases decide (c ∈ ltrs.cps.toList) with
              | true => simpa using ih
              | false => rfl
          rw [e2]
          exact q
      · rw [if_pos (by rw [Bool.not_eq_true', decide_eq_false_iff_not]; omega)]
        rw [decide_eq_false l2] at q
        exact q
    · rw [if_neg (by rw [decide_eq_true_eq]; omega)]
      rw [decide_eq_false l1] at q
      exact q
  · rw [decide_eq_false e]
    rw [isNm_no (h2 e)] at q
    walk_at "ys"
    exact q
/-! ### clauses -/
/-- the texts in it -/
def txts : List D → List Str
  | [] => []
  | .str z :: r => z :: txts r
  | _ :: r => txts r
def isCl : D → Bool
  | .tup [.tup ms, .bl _] => ms.all isNm && decide ((txts ms).Nodup)
  | _ => false
def sp_is_clause : DSp := fun as s Q _ => ∃ x, as = [x] ∧ Vl x ∧ Q (.bl (isCl x)) s
def sp_law_is_clause : DSp := sp_is_clause
def c_is_clause : Cf := { sp := fun j => match j with | 0 => frm 1 0 [0] [] sp_is_name | _ => fun _ _ _ _ _ => False, gd := gd }
def c_law_is_clause : Cf := { sp := fun j => match j with | 0 => frm 1 0 [0] [] sp_law_is_name | _ => fun _ _ _ _ _ => False, gd := gd }
theorem isCl_no {x : D} (h : ∀ xs, x ≠ .tup xs) : isCl x = false := by
  cases x <;> first | rfl | exact absurd rfl (h _)
theorem isCl_len {xs : List D} (h : xs.length ≠ 2) : isCl (.tup xs) = false := by
  match xs, h with
  | [], _ => rfl
  | [a], _ => cases a <;> rfl
  | [a, b], h => exact absurd rfl h
  | a :: b :: c :: r, _ => cases a <;> cases b <;> rfl
theorem isCl_fst {a b : D} (h : ∀ xs, a ≠ .tup xs) : isCl (.tup [a, b]) = false := by
  cases a <;> first | rfl | exact absurd rfl (h _)
theorem isCl_snd {a b : D} (h : ∀ c, b ≠ .bl c) : isCl (.tup [a, b]) = false := by
  cases a <;> first | rfl | (cases b <;> first | rfl | exact absurd rfl (h _))
theorem all_txts : ∀ {ms : List D}, ms.all isNm = true → ms = (txts ms).map .str
  | [], _ => rfl
  | m :: ms, h => by
    rw [List.all_cons, Bool.and_eq_true] at h
    cases m with
    | str z => show D.str z :: ms = D.str z :: (txts ms).map .str; rw [← all_txts h.2]
    | _ => exact absurd h.1 Bool.false_ne_true
theorem strsD_map : ∀ l : List Str, strsD (l.map .str) = some l
  | [] => rfl
  | x :: l => by
    rw [List.map_cons, strsD, strsD_map l]
    rfl
theorem nodup_cnt (l : List Str) : decide ((cntS [] l : Int) = (l.length : Int)) = decide l.Nodup := by
  have e := cntS_all l []
  have h : ((cntS [] l : Int) = (l.length : Int)) ↔ l.Nodup := by
    constructor
    · intro q; exact (e.mp (by omega)).2
    · intro q
      have := e.mpr ⟨fun _ _ => List.not_mem_nil, q⟩
      omega
  exact decide_eq_decide.mpr h
theorem lc_mem {β : Type} {ok : S → Prop} {g : DTG} {tt : DTT} {te : DTE} {e0 : Nv} {s : S} (hok : ok s) (emb : β → D) (p : D → Bool) (h : D → β) (ys : List D) (Q : List D → S → Prop)
    (st : ∀ y ∈ ys, ∀ (K1 : D → S → Prop) (K2 : S → Prop), (p y = true → K1 (emb (h y)) s) → (p y = false → K2 s) → g y e0 s fun e1 s1 => tt e1 s1 fun b s2 => if b = true then te e1 s2 K1 else K2 s2)
    (q : Q (((ys.filter p).map h).map emb) s) : dLc ok g tt te e0 ys s Q := by
  have z := lc_typed hok id emb p h ys Q st q
  rw [List.map_id] at z
  exact z
theorem vl_sz {xs : List D} (h : xs.length ≤ 9) : xs.length ≤ sizeLine := by rw [sizeLine_eq]; omega
theorem pure_is_clause (as : List D) (s : S) (Q : D → S → Prop) (Ex : DX) (h : sp_is_clause as s Q Ex) : wpSs c_is_clause (fun _ => Ex) m_is_clause { nx := fun _ s' => Q .non s', rt := Q } (nvOf N_is_clause as) s := by
  obtain ⟨x, rfl, hv, q⟩ := h
  show wpSs c_is_clause (fun _ => Ex) m_is_clause { nx := fun _ s' => Q .non s', rt := Q } [some x, none, none, none] s
  unfold m_is_clause
  obtain ⟨t, ht, _, _, h3, h4, _⟩ := hv.ty s
  walk_at "ys"
  refine isi_b .tup ht ?_
  rw [isa_tup]
  by_cases e : t = .tup
  · obtain ⟨xs, rfl, hl, hxs⟩ := h3 e
    rw [decide_eq_true e]
    walk_at "ys"
    show (if (!decide ((xs.length : Int) = 2)) = true then _ else _)
    by_cases e2 : xs.length = 2
    · rw [if_neg (by rw [Bool.not_eq_true, Bool.not_eq_false', decide_eq_true_eq]; omega)]
      match xs, e2, hxs, q with
      | [a, b], _, hxs, q =>
        have va := hxs a (by simp)
        have vb := hxs b (by simp)
        refine ⟨rfl, ?_⟩
        refine ⟨rfl, ?_⟩
        obtain ⟨ta, hta, _, _, a3, a4, _⟩ := va.ty s
        obtain ⟨tb, htb, _, _, _, _, b3, b4⟩ := vb.ty s
        walk_at "ys"
        refine isi_b .tup hta ?_
        rw [isa_tup]
        by_cases ea : ta = .tup
        · obtain ⟨ms, rfl, hml, hms⟩ := a3 ea
          rw [decide_eq_true ea]
          walk_at "ys"
          refine isi_b .bl htb ?_
          rw [isa_bl]
          by_cases eb : tb = .bl
          · obtain ⟨c, rfl⟩ := b3 eb
            rw [decide_eq_true eb]
            walk_at "ys"
            intro hz
            refine ⟨hz, ?_⟩
            refine lc_mem (s := s) (ok := fun _ => True) trivial D.bl (fun _ => true) isNm ms _ (fun y hy K1 K2 k1 _ => ?_) ?_
            · walk_at "ys"
              exact ⟨rfl, rfl, y, rfl, hms y hy, k1 rfl⟩
            · rw [List.filter_eq_self.mpr fun _ _ => rfl]
              have hQ : Q (.bl (ms.all isNm && decide (txts ms).Nodup)) s := q
              have ea : (bls ((ms.map isNm).map D.bl)) = some (ms.map isNm) := bls_map _
              have eb : (ms.map isNm).all id = ms.all isNm := by rw [List.all_map]; rfl
              simp only [dAll, seqL, Option.bind_some, ea, eb]
              by_cases hall : ms.all isNm = true
              · have em := all_txts hall
                rw [hall] at hQ ⊢
                generalize txts ms = ys at em hQ
                subst em
                walk_at "ys"
                rw [strsD_map]
                refine ⟨?_, ?_⟩
                · rw [List.length_map] at hml
                  have : (12 : Nat) < scanBound := by decide
                  omega
                · show Q (.bl (decide ((cntS [] ys : Int) = ((ys.map D.str).length : Int)))) s
                  rw [List.length_map, nodup_cnt]
                  exact hQ
              · rw [Bool.not_eq_true] at hall
                rw [hall] at hQ ⊢
                exact hQ
          · rw [decide_eq_false eb]
            rw [isCl_snd (b4 eb)] at q
            walk_at "ys"
            exact q
        · rw [decide_eq_false ea]
          rw [isCl_fst (a4 ea)] at q
          walk_at "ys"
          exact q
    · rw [if_pos (by rw [Bool.not_eq_true', decide_eq_false_iff_not]; omega)]
      rw [isCl_len e2] at q
      exact q
  · rw [decide_eq_false e]
    rw [isCl_no (h4 e)] at q
    walk_at "ys"
    exact q
theorem ix_tup {s : S} {xs : List D} {i : Int} {d : D} {Q : D → S → Prop} (e : atI xs i = some d) (q : Q d s) : dIx (.tup xs) (.int i) s Q := by
  have e' : mapD s (.tup xs) = none := rfl
  unfold dIx
  simp only [e', seqL, seqT, e]
  exact q
theorem pure_law_is_clause (as : List D) (s : S) (Q : D → S → Prop) (Ex : DX) (h : sp_law_is_clause as s Q Ex) : wpSs c_law_is_clause (fun _ => Ex) m_law_is_clause { nx := fun _ s' => Q .non s', rt := Q } (nvOf N_law_is_clause as) s := by
  obtain ⟨x, rfl, hv, q⟩ := h
  show wpSs c_law_is_clause (fun _ => Ex) m_law_is_clause { nx := fun _ s' => Q .non s', rt := Q } [some x, none, none] s
  unfold m_law_is_clause
  obtain ⟨t, ht, _, _, h3, h4, _⟩ := hv.ty s
  walk_at "ys"
  refine isi_b .tup ht ?_
  rw [isa_tup]
  by_cases e : t = .tup
  · obtain ⟨xs, rfl, hl, hxs⟩ := h3 e
    rw [decide_eq_true e]
    walk_at "ys"
    show (if (!decide ((xs.length : Int) = 2)) = true then _ else _)
    by_cases e2 : xs.length = 2
    · rw [if_neg (by rw [Bool.not_eq_true, Bool.not_eq_false', decide_eq_true_eq]; omega)]
      match xs, e2, hxs, q with
      | [a, b], _, hxs, q =>
        have va := hxs a (by simp)
        have vb := hxs b (by simp)
        refine ix_tup (d := a) rfl ?_
        obtain ⟨ta, hta, _, _, a3, a4, _⟩ := va.ty s
        obtain ⟨tb, htb, _, _, _, _, b3, b4⟩ := vb.ty s
        refine isi_b .tup hta ?_
        rw [isa_tup]
        by_cases ea : ta = .tup
        · obtain ⟨ms, rfl, hml, hms⟩ := a3 ea
          rw [decide_eq_true ea]
          walk_at "ys"
          refine ix_tup (d := .tup ms) rfl ?_
          walk_at "ys"
          intro hz
          refine ⟨hz, ?_⟩
          refine lc_mem (s := s) (ok := fun _ => True) trivial id isNm id ms _ (fun y hy K1 K2 k1 k2 => ?_) ?_
          · walk_at "ys"
            refine ⟨rfl, rfl, y, rfl, hms y hy, ?_⟩
            show if isNm y = true then K1 y s else K2 s
            cases hb : isNm y with
            | true => exact k1 hb
            | false => exact k2 hb
          · rw [List.map_id, List.map_id]
            refine ix_tup (d := .tup ms) rfl ?_
            show (if decide (((ms.filter isNm).length : Int) = (ms.length : Int)) = true then _ else Q (.bl (decide (((ms.filter isNm).length : Int) = (ms.length : Int)))) s)
            by_cases hall : ms.all isNm = true
            · have hf : ms.filter isNm = ms := List.filter_eq_self.mpr (List.all_eq_true.mp hall)
              have em := all_txts hall
              have hQ : tb = .bl → Q (.bl (decide (txts ms).Nodup)) s := fun eb => by
                obtain ⟨c, rfl⟩ := b3 eb
                have q' : Q (.bl (ms.all isNm && decide (txts ms).Nodup)) s := q
                rw [hall] at q'
                exact q'
              have hN : tb ≠ .bl → Q (.bl false) s := fun eb => by
                rw [isCl_snd (b4 eb)] at q
                exact q
              rw [hf, if_pos (decide_eq_true rfl)]
              clear hf hall q
              generalize txts ms = ys at em hQ
              subst em
              rw [strsD_map]
              refine ⟨?_, ?_⟩
              · rw [List.length_map] at hml
                have : (12 : Nat) < scanBound := by decide
                omega
              · show (if decide ((cntS [] ys : Int) = ((ys.map D.str).length : Int)) = true then _ else Q (.bl (decide ((cntS [] ys : Int) = ((ys.map D.str).length : Int)))) s)
                rw [List.length_map, nodup_cnt]
                have hQ2 : ∀ r : Bool, r = decide ys.Nodup → (if r = true then dIx (.tup [.tup (ys.map D.str), b]) (.int 1) s fun x s1 => dIsi c_law_is_clause.isa [x, .ty BT.bl.nm] s1 Q else Q (.bl r) s) := fun r hr => by
                  cases r with
                  | true =>
                    rw [if_pos rfl]
                    refine ix_tup (d := b) rfl ?_
                    refine isi_b .bl htb ?_
                    rw [isa_bl]
                    by_cases eb : tb = .bl
                    · rw [decide_eq_true eb, hr]; exact hQ eb
                    · rw [decide_eq_false eb]; exact hN eb
                  | false =>
                    by_cases eb : tb = .bl
                    · have := hQ eb; rw [← hr] at this; exact this
                    · exact hN eb
                exact hQ2 _ rfl
            · have hlt : (ms.filter isNm).length ≠ ms.length := fun z => hall (List.all_eq_true.mpr (List.filter_eq_self.mp (List.Sublist.eq_of_length_le List.filter_sublist (by omega))))
              have hd : decide (((ms.filter isNm).length : Int) = (ms.length : Int)) = false := decide_eq_false (by omega)
              rw [hd]
              show Q (.bl false) s
              by_cases eb : tb = .bl
              · obtain ⟨c, rfl⟩ := b3 eb
                have q' : Q (.bl (ms.all isNm && decide (txts ms).Nodup)) s := q
                rw [Bool.not_eq_true] at hall
                rw [hall] at q'
                exact q'
              · rw [isCl_snd (b4 eb)] at q
                exact q
        · rw [decide_eq_false ea]
          rw [isCl_fst (a4 ea)] at q
          walk_at "ys"
          exact q
    · rw [if_pos (by rw [Bool.not_eq_true', decide_eq_false_iff_not]; omega)]
      rw [isCl_len e2] at q
      exact q
  · rw [decide_eq_false e]
    rw [isCl_no (h4 e)] at q
    walk_at "ys"
    exact q
/-! ### the first fault -/
def frstF : List D → Nat → D
  | [], _ => .non
  | x :: xs, i => if isCl x = true then frstF xs (i + 1) else .int (i : Nat)
def fltD : D → D
  | .tup (x :: xs) => frstF (x :: xs) 0
  | _ => .int (-1)
theorem fltD_no {x : D} (h : ∀ xs, x ≠ .tup xs) : fltD x = .int (-1) := by
  cases x <;> first | rfl | exact absurd rfl (h _)
def sp_hook_fault : DSp := fun as s Q _ => ∃ x, as = [x] ∧ Vl x ∧ Q (fltD x) s
def sp_law_fault : DSp := sp_hook_fault
def c_hook_fault : Cf := { sp := fun j => match j with | 0 => frm 1 0 [0] [] sp_is_clause | _ => fun _ _ _ _ _ => False, gd := gd }
def c_law_fault : Cf := { sp := fun j => match j with | 0 => frm 1 0 [0] [] sp_law_is_clause | _ => fun _ _ _ _ _ => False, gd := gd }
theorem pure_hook_fault (as : List D) (s : S) (Q : D → S → Prop) (Ex : DX) (h : sp_hook_fault as s Q Ex) : wpSs c_hook_fault (fun _ => Ex) m_hook_fault { nx := fun _ s' => Q .non s', rt := Q } (nvOf N_hook_fault as) s := by
  obtain ⟨x, rfl, hv, q⟩ := h
  show wpSs c_hook_fault (fun _ => Ex) m_hook_fault { nx := fun _ s' => Q .non s', rt := Q } [some x, none, none] s
  unfold m_hook_fault
  obtain ⟨t, ht, _, _, h3, h4, _⟩ := hv.ty s
  walk_at "ys"
  refine isi_b .tup ht ?_
  rw [isa_tup]
  by_cases e : t = .tup
  · obtain ⟨xs, rfl, hl, hxs⟩ := h3 e
    rw [decide_eq_true e]
    walk_at "ys"
    refine ⟨Nat.zero_le _, ?_⟩
    show (if xs.isEmpty = true then _ else _)
    cases xs with
    | nil => exact q
    | cons x0 xs0 =>
      rw [if_neg (by simp)]
      have main : ∀ (ys : List D) (i : Nat) (e : Nv), (∀ y ∈ ys, Vl y) → (∃ a b, e = [some (.tup (x0 :: xs0)), a, b]) → Q (frstF ys i) s →
          dGo (fun x => True) (gSeqD [1, 2].length (gsNames [1, 2])) (dSeq (dIfS (dNot (dTruE (dCallR (c_hook_fault.sp 0) (fun x => Ex) (dCons (dVar 2) dNil) dNil))) (dSeq (dRet (dVar 1)) dNext) dNext) dNext) dNext
            { nx := dSeq (dRet (dC D.non)) dNext { nx := fun x s' => Q D.non s', rt := Q }, rt := Q } (ys.mapIdx fun j y => D.tup [.int ((i + j : Nat) : Int), y]) e s := by
        intro ys
        induction ys with
        | nil =>
          rintro i e _ ⟨a, b, rfl⟩ hq
          exact ⟨trivial, hq⟩
        | cons y ys ih =>
          rintro i e hv ⟨a, b, rfl⟩ hq
          rw [List.mapIdx_cons]
          refine ⟨trivial, rfl, ?_⟩
          refine ⟨rfl, ?_⟩
          walk_at "ys"
          refine ⟨rfl, rfl, y, rfl, hv y (by simp), ?_⟩
          unfold frstF at hq
          cases hb : isCl y with
          | true =>
            rw [if_pos hb] at hq
            walk_at "ys"
            have z := ih (i + 1) [some (.tup (x0 :: xs0)), some (.int ((i + 0 : Nat) : Int)), some y] (fun z hz => hv z (by simp [hz])) ⟨_, _, rfl⟩ hq
            have e : (fun (j : Nat) (y : D) => D.tup [.int ((i + (j + 1) : Nat) : Int), y]) = fun j y => D.tup [.int ((i + 1 + j : Nat) : Int), y] := by
              funext j y
              rw [show i + (j + 1) = i + 1 + j by omega]
            rw [e]
            exact z
          | false =>
            rw [if_neg (by rw [hb]; exact Bool.false_ne_true)] at hq
            exact hq
      have z := main (x0 :: xs0) 0 [some (.tup (x0 :: xs0)), none, none] hxs ⟨_, _, rfl⟩ q
      have e : (fun (j : Nat) (y : D) => D.tup [.int ((0 + j : Nat) : Int), y]) = fun (j : Nat) (y : D) => D.tup [.int (j : Int), y] := by
        funext j y
        rw [Nat.zero_add]
      rw [e] at z
      exact z
  · rw [decide_eq_false e]
    rw [fltD_no (h4 e)] at q
    walk_at "ys"
    exact q
theorem pure_law_fault (as : List D) (s : S) (Q : D → S → Prop) (Ex : DX) (h : sp_law_fault as s Q Ex) : wpSs c_law_fault (fun _ => Ex) m_law_fault { nx := fun _ s' => Q .non s', rt := Q } (nvOf N_law_fault as) s := by
  obtain ⟨x, rfl, hv, q⟩ := h
  show wpSs c_law_fault (fun _ => Ex) m_law_fault { nx := fun _ s' => Q .non s', rt := Q } [some x, none, none] s
  unfold m_law_fault
  obtain ⟨t, ht, _, _, h3, h4, _⟩ := hv.ty s
  walk_at "ys"
  refine isi_b .tup ht ?_
  rw [isa_tup]
  by_cases e : t = .tup
  · obtain ⟨xs, rfl, hl, hxs⟩ := h3 e
    rw [decide_eq_true e]
    walk_at "ys"
    show (if decide ((xs.length : Int) = 0) = true then _ else _)
    cases xs with
    | nil => exact q
    | cons x0 xs0 =>
      rw [if_neg (by rw [decide_eq_true_eq, List.length_cons]; omega)]
      have hn : (((x0 :: xs0).length : Nat) : Int).toNat = (x0 :: xs0).length := Int.toNat_natCast _
      have hlen : (x0 :: xs0).length ≤ 9 := hl
      refine ⟨by omega, by omega, ?_⟩
      rw [hn]
      refine ⟨by rw [List.length_map, List.length_range]; exact vl_sz hl, ?_⟩
      refine lc_typed (s := s) (ok := fun _ => True) trivial (fun (i : Nat) => D.int i) (fun (i : Nat) => D.int i) (fun i => !isCl ((x0 :: xs0).getD i .non)) id _ _ (fun i hi K1 K2 k1 k2 => ?_) ?_
      · have hi' : i < (x0 :: xs0).length := List.mem_range.mp hi
        have eg : (x0 :: xs0)[i]? = some ((x0 :: xs0).getD i .non) := by
          rw [List.getD_eq_getElem?_getD, List.getElem?_eq_getElem hi']; rfl
        walk_at "ys"
        refine ix_tup (d := (x0 :: xs0).getD i .non) (ix_nat eg) ?_
        refine ⟨rfl, rfl, _, rfl, hxs _ (List.mem_of_getElem? eg), ?_⟩
        show if (!isCl ((x0 :: xs0).getD i .non)) = true then K1 (.int (i : Nat)) s else K2 s
        cases hb : !isCl ((x0 :: xs0).getD i .non) with
        | true => exact k1 hb
        | false => exact k2 hb
      · rw [List.map_id]
        refine ⟨Nat.zero_le _, eq_nil (xs := ((List.range (x0 :: xs0).length).filter fun i => !isCl ((x0 :: xs0).getD i .non)).map fun (i : Nat) => D.int i) rfl ?_⟩
        have key : ∀ (l : List D) (k : Nat), (match ((List.range l.length).filter fun i => !isCl (l.getD i .non)) with
            | [] => frstF l k = .non
            | i :: _ => frstF l k = .int ((k + i : Nat) : Int)) := by
          intro l
          induction l with
          | nil => intro k; rfl
          | cons y l ih =>
            intro k
            rw [List.length_cons, List.range_succ_eq_map, List.filter_cons]
            unfold frstF
            cases hb : isCl y with
            | true =>
              have hb0 : (!isCl ((y :: l).getD 0 .non)) = false := by show (!isCl y) = false; rw [hb]; rfl
              rw [if_neg (by rw [hb0]; exact Bool.false_ne_true), if_pos rfl, List.filter_map]
              have z := ih (k + 1)
              have ef : ((fun i => !isCl ((y :: l).getD i .non)) ∘ Nat.succ) = fun i => !isCl (l.getD i .non) := by funext i; rfl
              rw [ef]
              revert z
              cases (List.range l.length).filter fun i => !isCl (l.getD i .non) with
              | nil => intro z; exact z
              | cons j r =>
                intro z
                show frstF l (k + 1) = .int ((k + (j + 1) : Nat) : Int)
                rw [show k + (j + 1) = k + 1 + j by omega]
                exact z
            | false =>
              have hb0 : (!isCl ((y :: l).getD 0 .non)) = true := by show (!isCl y) = true; rw [hb]; rfl
              rw [if_pos hb0, if_neg Bool.false_ne_true]
              rfl
        have kk := key (x0 :: xs0) 0
        have hq : Q (frstF (x0 :: xs0) 0) s := q
        revert kk
        generalize ((List.range (x0 :: xs0).length).filter fun i => !isCl ((x0 :: xs0).getD i .non)) = fs
        intro kk
        cases fs with
        | nil =>
          have kk : frstF (x0 :: xs0) 0 = .non := kk
          rw [kk] at hq
          exact hq
        | cons i r =>
          have kk : frstF (x0 :: xs0) 0 = .int ((0 + i : Nat) : Int) := kk
          rw [kk, Nat.zero_add] at hq
          show dIx (D.lst ((i :: r).map fun (i : Nat) => D.int i)) (D.int 0) s Q
          refine Y.ix_seq (xs := (i :: r).map fun (i : Nat) => D.int i) rfl (d := .int (i : Nat)) ?_ hq
          exact ix_nat (i := 0) rfl
  · rw [decide_eq_false e]
    rw [fltD_no (h4 e)] at q
    walk_at "ys"
    exact q
end K14


namespace K14
open PySem PySem.Spec PyProof.Rows L2 Y
local macro_rules | `(tactic| walk_at "ys") => `(tactic| simp only [Y.wpSs, Y.wpS, Y.wp, Y.wps, Y.wpI, Y.wpC, both, dSeq_eq, dNext, dAsg, gN, dVar, dC, dCall, dCons, dNil, dOp, dTest, cmpD, binD, BI.rd, BM.rd, Tg.rd, dIfS, dIfE, dRet, dExpr, gSubD, dTruE, dTru,
  List.set_cons_zero, List.set_cons_succ, List.getElem?_cons_zero, List.getElem?_cons_succ, dComp, dItE, dItR1, wipeD, seqL, seqT, dSl, dPart, partD, dNoP, dSlR, dNotIn, dIn, dEq, dNe, dYes, dCallR, List.append_nil, dMeth, dLstC, dLst, dTup, dFor, dMul, dAdd, dMod, dFdiv, dPow, dOrd, dPar, dLen, dMax, dMin, seqQ, dOr, dAnd, dNot, dAndV, dNotV, dOrV, dNotN, dIsN, dChain, dFrz, dItEn2, dDNew, dListC, dList, dTuple, dLenSet, dBack, sD, Bool.not_true, Bool.not_false, ite_true, ite_false, if_true, if_false, Bool.false_eq_true])
def sp_law_bag : DSp := sp_bag
def sp_law_take : DSp := sp_takeB
def sp_law_pick : DSp := sp_pickB
def nm6 (l : List Str) : Bool := decide (l.length = 6) && (decide l.Nodup && l.all fun x => isNm (.str x))
def sp_law_methods : DSp := fun as s Q _ => ∃ n c, as = [.cell n] ∧ Bag n c s ∧ c < 800000 ∧ ∀ (l : List Str) (s' : S), nm6 l = true → Bag n (c + 2) s' → Q (sD l) s'
def HkOk (cs : List D) : Prop := ∀ x ∈ cs, isCl x = true ∧ Pn 6 2 x
def sp_law_hook : DSp := fun as s Q _ => ∃ n c l, as = [.cell n, sD l] ∧ nm6 l = true ∧ Bag n c s ∧ c < 800000 ∧ ∀ (cs : List D) (s' : S), HkOk cs → 0 < cs.length → cs.length ≤ 4 → Bag n (c + 21) s' → Q (.tup cs) s'
def sp_law_any : DSp := fun as s Q _ => ∃ n c, as = [.cell n] ∧ Bag n c s ∧ c < 800000 ∧ ∀ (d : D) (s' : S), Pn 6 2 d → Bag n (c + 1) s' → Sb n s s' → Q d s'
def sp_bent (n : Nat) : DSp := fun as s Q _ => ∃ m c d, as = [.cell m, d] ∧ Pn 6 n d ∧ Bag m c s ∧ c + 5 * (n + 1) < 800000 ∧ ∀ (d' : D) (s' : S), Pn 9 (n + 2) d' → Bag m (c + 5 * (n + 1)) s' → Q d' s'
def z_law_bent : Nat → DSp
  | 0 => fun _ _ _ _ => False
  | n + 1 => sp_bent n
def sp_law_bent : DSp := z_law_bent 4
def sp_law : DSp := fun as s Q _ => ∃ ns : List Int, as = [.xl (ns.map .int)] ∧ ns.length ≤ 63 ∧ ∀ s', Q (.bl true) s'
def c_law_bag : Cf := { sp := fun j => match j with  | _ => fun _ _ _ _ _ => False, gd := gd }
def c_law_take : Cf := { sp := fun j => match j with  | _ => fun _ _ _ _ _ => False, gd := gd }
def c_law_pick : Cf := { sp := fun j => match j with | 0 => frm 2 0 [0, 1] [] sp_law_take | _ => fun _ _ _ _ _ => False, gd := gd }
def c_law_methods : Cf := { sp := fun j => match j with | 0 => frm 2 0 [0, 1] [] sp_law_pick | 1 => frm 2 0 [0, 1] [] sp_law_take | _ => fun _ _ _ _ _ => False, gd := gd }
def c_law_hook : Cf := { sp := fun j => match j with | 0 => frm 2 0 [0, 1] [] sp_law_take | 1 => frm 2 0 [0, 1] [] sp_law_pick | _ => fun _ _ _ _ _ => False, gd := gd }
def c_law_any : Cf := { sp := fun j => match j with | 0 => frm 2 0 [0, 1] [] sp_law_pick | _ => fun _ _ _ _ _ => False, gd := gd }
def c_law_bent (z : DSp) : Cf := { sp := fun j => match j with | 0 => frm 2 0 [0, 1] [] sp_law_take | 1 => frm 1 0 [0] [] sp_law_any | 2 => frm 2 0 [0, 1] [] sp_law_pick | 3 => frm 2 0 [0, 1] [] z | _ => fun _ _ _ _ _ => False, gd := gd }
def mths : List (List Str) := [["draw", "area", "a", "b", "len", "iter"], ["m", "mm", "n", "no", "x", "xy"]]
theorem rot6 : ∀ l ∈ mths, ∀ k < 6, nm6 (l.drop k ++ l.take k) = true := by decide +kernel
theorem pure_law_methods (as : List D) (s : S) (Q : D → S → Prop) (Ex : DX) (h : sp_law_methods as s Q Ex) : wpSs c_law_methods (fun _ => Ex) m_law_methods { nx := fun _ s' => Q .non s', rt := Q } (nvOf N_law_methods as) s := by
  obtain ⟨n, c, rfl, hb, hc, q⟩ := h
  show wpSs c_law_methods (fun _ => Ex) m_law_methods { nx := fun _ s' => Q .non s', rt := Q } [some (.cell n), none, none] s
  unfold m_law_methods
  walk_at "ys"
  refine ⟨by decide, by decide, by decide, ?_⟩
  refine pick_callB (xs := mths.map sD) hb (by omega) (by decide) (by decide) fun d hd s1 hb1 _ => ?_
  obtain ⟨l, hl, rfl⟩ := List.mem_map.mp hd
  refine take_callB hb1 (by omega) (by omega) (by omega) fun k s2 k0 k1 hb2 _ => ?_
  have ek : k = ((k.toNat : Nat) : Int) := by omega
  rw [ek]
  have hr := rot6 l hl k.toNat (by omega)
  have q' := q _ s2 hr hb2
  show (dcut (l.map D.str) (some ((k.toNat : Nat) : Int)) none).length + (dcut (l.map D.str) none (some ((k.toNat : Nat) : Int))).length ≤ sizeLine ∧ Q (.lst (dcut (l.map D.str) (some ((k.toNat : Nat) : Int)) none ++ dcut (l.map D.str) none (some ((k.toNat : Nat) : Int)))) s2
  rw [dcut_from, dcut_to, ← List.map_drop, ← List.map_take]
  have hl6 : l.length ≤ 6 := by
    have : ∀ l ∈ mths, l.length ≤ 6 := by decide
    exact this l hl
  refine ⟨?_, ?_⟩
  · rw [List.length_map, List.length_map, List.length_drop, List.length_take, sizeLine_eq]
    omega
  · rw [← List.map_append]
    exact q'
theorem nm6_ok {l : List Str} (h : nm6 l = true) : l.length = 6 ∧ l.Nodup ∧ ∀ x ∈ l, isNm (.str x) = true := by
  unfold nm6 at h
  rw [Bool.and_eq_true, Bool.and_eq_true, decide_eq_true_eq, decide_eq_true_eq, List.all_eq_true] at h
  exact h
theorem txts_map : ∀ l : List Str, txts (l.map .str) = l
  | [] => rfl
  | x :: l => by show x :: txts (l.map .str) = _; rw [txts_map l]
theorem nm_len {x : Str} (h : isNm (.str x) = true) : x.length ≤ 8 := by
  rw [nm_str, Bool.and_eq_true, Bool.and_eq_true, decide_eq_true_eq, decide_eq_true_eq] at h
  exact h.1.2
theorem range_x {i : Nat} {z : Int} {x : D} (hx : ((List.range z.toNat).map fun (i : Nat) => D.int i)[i]? = some x) : i < z.toNat ∧ x = .int (i : Nat) := by
  have hi : i < z.toNat := by
    have := (List.getElem?_eq_some_iff.mp hx).1
    simpa using this
  refine ⟨hi, ?_⟩
  rw [List.getElem?_map, List.getElem?_range hi] at hx
  exact (Option.some.inj hx).symm
theorem app_cell {n : Nat} {xs : List D} {y : D} {s : S} {Q : D → S → Prop} (h : s n = some (.lst xs)) (hl : xs.length < sizeLine) (q : Q .non (s.set n (.lst (xs ++ [y])))) : dAppend (.cell n) [y] s Q := by
  unfold dAppend
  simp only [h]
  exact ⟨hl, q⟩
theorem pop_cell {n : Nat} {xs : List D} {i : Int} {y : D} {s : S} {Q : D → S → Prop} (h : s n = some (.lst xs)) (h0 : 0 ≤ i) (h1 : i < 2 ^ 63) (e : xs[i.toNat]? = some y) (q : Q y (s.set n (.lst (xs.eraseIdx i.toNat)))) : dPopAt (.cell n) [.int i] s Q := by
  unfold dPopAt
  simp only [h, e]
  exact ⟨h0, h1, q⟩
theorem len_cell {n : Nat} {xs : List D} {s : S} {Q : D → S → Prop} (h : s n = some (.lst xs)) (q : Q (.int xs.length) s) : dLen [.cell n] s Q := by
  have e : seqQ s (.cell n) = some xs := by
    unfold seqQ
    show (match lstOf (s n) with | some xs => some xs | none => _) = _
    rw [h]; rfl
  unfold dLen
  simp only [e]
  exact q
theorem isl_cell {n : Nat} {xs : List D} {s : S} (h : s n = some (.lst xs)) : isL s (.cell n) := by
  show (lstOf (s n)).isSome = true
  rw [h]; rfl
theorem erase_perm : ∀ (L : List Str) (k : Nat) (h : k < L.length), List.Perm (L[k] :: L.eraseIdx k) L
  | x :: L, 0, _ => List.Perm.refl _
  | x :: L, k + 1, h => by
    have h' : k < L.length := Nat.lt_of_succ_lt_succ h
    show List.Perm (L[k] :: x :: L.eraseIdx k) (x :: L)
    exact (List.Perm.swap ..).trans ((erase_perm L k h').cons x)
theorem erase_map {α β : Type} (f : α → β) : ∀ (L : List α) (k : Nat), (L.map f).eraseIdx k = (L.eraseIdx k).map f
  | [], _ => rfl
  | x :: L, 0 => rfl
  | x :: L, k + 1 => by
    show f x :: (L.map f).eraseIdx k = f x :: (L.eraseIdx k).map f
    rw [erase_map f L k]
theorem pop_perm {L Wt : List Str} {k : Nat} (h : k < L.length) : List.Perm (L.eraseIdx k ++ (Wt ++ [L[k]])) (L ++ Wt) := by
  have h1 : List.Perm (L[k] :: L.eraseIdx k) L := erase_perm L k h
  have h2 : List.Perm (L.eraseIdx k ++ (Wt ++ [L[k]])) (L[k] :: (L.eraseIdx k ++ Wt)) := by
    rw [← List.append_assoc]
    exact List.perm_append_singleton _ _
  exact h2.trans (h1.append_right Wt)
theorem pure_law_hook (as : List D) (s : S) (Q : D → S → Prop) (Ex : DX) (h : sp_law_hook as s Q Ex) : wpSs c_law_hook (fun _ => Ex) m_law_hook { nx := fun _ s' => Q .non s', rt := Q } (nvOf N_law_hook as) s := by
  obtain ⟨n, c, l, rfl, hl, hb, hc, q⟩ := h
  obtain ⟨l6, lnd, lnm⟩ := nm6_ok hl
  show wpSs c_law_hook (fun _ => Ex) m_law_hook { nx := fun _ s' => Q .non s', rt := Q } [some (.cell n), some (sD l), none, none, none, none, none] s
  unfold m_law_hook
  walk_at "ys"
  refine ⟨Nat.zero_le _, fun f hf => ?_⟩
  have nf : n ≠ f := hb.ne hf
  refine take_callB (hb.set nf) (by omega) (by omega) (by omega) fun k s1 k0 k1 hb1 sb1 => ?_
  have f1 : s1 f = some (.lst []) := by rw [sb1 f nf.symm]; exact S.set_same
  walk_at "ys"
  refine ⟨by omega, by omega, ?_⟩
  refine go_inv (fun i e s' => ∃ (cs : List D) (a3 a4 a5 a6 : Option D), e = [some (.cell n), some (sD l), some (.cell f), a3, a4, a5, a6] ∧ Bag n (c + 1 + 5 * i) s' ∧ s' f = some (.lst cs) ∧ cs.length = i ∧ HkOk cs) _ 0 _ _ ⟨[], _, _, _, _, rfl, hb1, f1, rfl, fun _ h => nomatch h⟩ (fun i x e s' N M hx hI hN hM => ?_) (fun e s' hI => ?_)
  · obtain ⟨cs, a3, a4, a5, a6, rfl, hb2, f2, hcl, hcs⟩ := hI
    obtain ⟨hi, rfl⟩ := range_x hx
    rw [Nat.zero_add] at hb2 hcl hN
    refine ⟨trivial, ?_⟩
    walk_at "ys"
    intro w hw
    refine ⟨Nat.zero_le _, fun v hv => ⟨by decide, ?_⟩⟩
    have nw : n ≠ w := hb2.ne hw
    have fw : f ≠ w := fun z => by rw [z, hw] at f2; cases f2
    have wv : w ≠ v := fun z => by rw [← z, S.set_same] at hv; cases hv
    rw [S.set_ne wv.symm] at hv
    have nv : n ≠ v := hb2.ne hv
    have fv : f ≠ v := fun z => by rw [z, hv] at f2; cases f2
    have ecut : dcut (l.map D.str) none (some 5) = (l.take 5).map .str := by
      have z := dcut_to (l.map D.str) 5
      rw [List.map_take]
      exact z
    rw [ecut]
    refine pick_callB (xs := [D.int 1, D.int 1, D.int 2, D.int 0, D.int 3]) ((hb2.set nw).set nv) (by omega) (by decide) (by decide) fun d hd s3 hb3 sb3 => ?_
    obtain ⟨m, hm, rfl⟩ : ∃ m : Nat, m ≤ 3 ∧ d = .int (m : Nat) := by
      simp only [List.mem_cons, List.not_mem_nil, or_false] at hd
      rcases hd with rfl | rfl | rfl | rfl | rfl
      · exact ⟨1, by decide, rfl⟩
      · exact ⟨1, by decide, rfl⟩
      · exact ⟨2, by decide, rfl⟩
      · exact ⟨0, by decide, rfl⟩
      · exact ⟨3, by decide, rfl⟩
    have f3 : s3 f = some (.lst cs) := by rw [sb3 f nf.symm, S.set_ne fv, S.set_ne fw]; exact f2
    have w3 : s3 w = some (.lst ((l.take 5).map .str)) := by rw [sb3 w nw.symm, S.set_ne wv, S.set_same]
    have v3 : s3 v = some (.lst []) := by rw [sb3 v nv.symm, S.set_same]
    refine ⟨by omega, by omega, ?_⟩
    refine go_inv (fun j e s' => ∃ (L Wt : List Str) (a4 : Option D), e = [some (.cell n), some (sD l), some (.cell f), some (.int (i : Nat)), a4, some (.cell w), some (.cell v)] ∧ Bag n (c + 1 + 5 * i + 1 + j) s' ∧ s' f = some (.lst cs) ∧ s' w = some (.lst (L.map .str)) ∧ s' v = some (.lst (Wt.map .str)) ∧ L.length + j = 5 ∧ Wt.length = j ∧ (L ++ Wt).Nodup ∧ ∀ x ∈ L ++ Wt, x ∈ l) _ 0 _ _
      ⟨l.take 5, [], _, rfl, hb3, f3, w3, v3, by rw [List.length_take]; omega, rfl, by rw [List.append_nil]; exact lnd.sublist (List.take_sublist 5 l), fun x hx => by rw [List.append_nil] at hx; exact List.mem_of_mem_take hx⟩ (fun j y e s4 N2 M2 hy hI hN2 hM2 => ?_) (fun e s4 hI => ?_)
    · obtain ⟨L, Wt, a4', rfl, hb4, f4, w4, v4, lL, lW, nd, mem⟩ := hI
      obtain ⟨hj, rfl⟩ := range_x hy
      rw [Nat.zero_add] at hb4 lL lW hN2
      refine ⟨trivial, ?_⟩
      walk_at "ys"
      refine ⟨isl_cell v4, isl_cell w4, ?_⟩
      have hLw : lstOf (s4 w) = some (L.map D.str) := by rw [w4]; rfl
      rw [hLw]
      show c_law_hook.sp 0 [D.cell n, D.int ((L.map D.str).length : Nat)] [] s4 _ _
      rw [List.length_map]
      refine take_callB hb4 (by omega) (by omega) (by omega) fun k5 s5 p0 p1 hb5 sb5 => ?_
      have f5 : s5 f = some (.lst cs) := by rw [sb5 f nf.symm]; exact f4
      have w5 : s5 w = some (.lst (L.map .str)) := by rw [sb5 w nw.symm]; exact w4
      have v5 : s5 v = some (.lst (Wt.map .str)) := by rw [sb5 v nv.symm]; exact v4
      have hk5 : k5.toNat < L.length := by omega
      refine pop_cell w5 p0 (by omega) (y := .str L[k5.toNat]) (by rw [List.getElem?_map, List.getElem?_eq_getElem hk5]; rfl) ?_
      refine app_cell (xs := Wt.map .str) (by rw [S.set_ne wv.symm]; exact v5) (by rw [List.length_map, sizeLine_eq]; omega) ?_
      refine hN2 _ _ ⟨L.eraseIdx k5.toNat, Wt ++ [L[k5.toNat]], _, rfl, ?_, ?_, ?_, ?_, ?_, ?_, ?_, ?_⟩
      · exact ((hb5.set nw).set nv).mono (by omega)
      · rw [S.set_ne fv, S.set_ne fw]; exact f5
      · rw [S.set_ne wv, S.set_same, erase_map]
      · rw [S.set_same, List.map_append]; rfl
      · rw [List.length_eraseIdx, if_pos hk5]; omega
      · rw [List.length_append, lW]; rfl
      · have pm : List.Perm (L.eraseIdx k5.toNat ++ (Wt ++ [L[k5.toNat]])) (L ++ Wt) := pop_perm hk5
        exact pm.nodup_iff.mpr nd
      · intro x hx
        have pm : List.Perm (L.eraseIdx k5.toNat ++ (Wt ++ [L[k5.toNat]])) (L ++ Wt) := pop_perm hk5
        exact mem x (pm.mem_iff.mp hx)
    · obtain ⟨L, Wt, a4', rfl, hb4, f4, w4, v4, lL, lW, nd, mem⟩ := hI
      have hlen : ((List.range ((m : Nat) : Int).toNat).map fun (i : Nat) => D.int i).length = m := by rw [List.length_map, List.length_range]; rfl
      rw [hlen, Nat.zero_add] at hb4 lL lW
      refine ⟨trivial, ?_⟩
      walk_at "ys"
      refine ⟨isl_cell f4, ?_⟩
      have hLv : lstOf (s4 v) = some (Wt.map D.str) := by rw [v4]; rfl
      rw [hLv]
      refine take_callB hb4 (by omega) (by omega) (by omega) fun k5 s5 p0 p1 hb5 sb5 => ?_
      have f5 : s5 f = some (.lst cs) := by rw [sb5 f nf.symm]; exact f4
      refine ⟨by show 2 ≤ sizeLine; decide, ?_⟩
      refine app_cell f5 (by rw [sizeLine_eq]; omega) ?_
      refine hN _ _ ⟨cs ++ [.tup [.tup (Wt.map .str), .bl (decide (k5 = 0))]], _, _, _, _, rfl, ?_, ?_, ?_, ?_⟩
      · exact (hb5.set nf).mono (by omega)
      · rw [S.set_same]
      · rw [List.length_append, hcl]; rfl
      · intro x hx
        rcases List.mem_append.mp hx with hx | hx
        · exact hcs x hx
        · rw [List.mem_singleton] at hx
          subst hx
          have nmW : ∀ x ∈ Wt, isNm (.str x) = true := fun x hx => lnm x (mem x (List.mem_append_right _ hx))
          refine ⟨?_, .inr ⟨_, rfl, by show 2 ≤ 6; decide, fun y hy => ?_⟩⟩
          · show (((Wt.map D.str).all isNm) && decide (txts (Wt.map D.str)).Nodup) = true
            rw [txts_map, Bool.and_eq_true, decide_eq_true_eq]
            refine ⟨?_, (List.nodup_append.mp nd).2.1⟩
            rw [List.all_map, List.all_eq_true]
            exact nmW
          · simp only [List.mem_cons, List.not_mem_nil, or_false] at hy
            rcases hy with rfl | rfl
            · refine .inr ⟨_, rfl, by rw [List.length_map]; omega, fun z hz => ?_⟩
              obtain ⟨t, ht, rfl⟩ := List.mem_map.mp hz
              have := nm_len (nmW t ht)
              show t.length ≤ 16
              omega
            · exact .inl trivial
  · obtain ⟨cs, a3, a4, a5, a6, rfl, hb2, f2, hcl, hcs⟩ := hI
    have hlen : ((List.range (1 + k).toNat).map fun (i : Nat) => D.int i).length = (1 + k).toNat := by rw [List.length_map, List.length_range]
    rw [hlen, Nat.zero_add] at hb2 hcl
    refine ⟨trivial, ?_⟩
    walk_at "ys"
    rw [f2]
    exact q cs s' hcs (by omega) (by omega) (hb2.mono (by omega))
/-! ### any things, bent things -/
def pnB (w : Nat) : Nat → D → Bool
  | n, d => match n, d with
    | _, .non => true | _, .bl _ => true | _, .int _ => true | _, .lst _ => true | _, .dic _ => true
    | _, .str z => decide (z.length ≤ 16)
    | n + 1, .tup xs => decide (xs.length ≤ w) && xs.all (pnB w n)
    | _, _ => false
theorem pnB_ok {w : Nat} : ∀ {n : Nat} {d : D}, pnB w n d = true → Pn w n d
  | n, .non, _ => Fl.pn (d := .non) trivial n
  | n, .bl v, _ => Fl.pn (d := .bl v) trivial n
  | n, .int v, _ => Fl.pn (d := .int v) trivial n
  | n, .lst v, _ => Fl.pn (d := .lst v) trivial n
  | n, .dic v, _ => Fl.pn (d := .dic v) trivial n
  | n, .str z, h => Fl.pn (d := .str z) (show z.length ≤ 16 by unfold pnB at h; exact of_decide_eq_true h) n
  | n + 1, .tup xs, h => by
    unfold pnB at h
    rw [Bool.and_eq_true, decide_eq_true_eq, List.all_eq_true] at h
    exact .inr ⟨xs, rfl, h.1, fun x hx => pnB_ok (h.2 x hx)⟩
  | 0, .tup xs, h => by unfold pnB at h; cases h
  | n, .xl _, h => by unfold pnB at h; cases h
  | n, .xt _, h => by unfold pnB at h; cases h
  | n, .cell _, h => by unfold pnB at h; cases h
  | n, .adr _, h => by unfold pnB at h; cases h
  | n, .ty _, h => by unfold pnB at h; cases h
  | n, .glo _, h => by unfold pnB at h; cases h
  | n, .obj _ _, h => by unfold pnB at h; cases h
  | n, .dit _, h => by unfold pnB at h; cases h
def anys : List D := [.non, .bl true, .bl false, .int 0, .int 1, .str "", .str "a", .str "A", .tup [], .lst [], .tup [.str "a"], .lst [.str "a"], .tup [.str "a", .str "a"], .dic [], .int 1000000000000000000000000000000000000000,
  .tup [.tup [.str "a"], .bl true], .tup [.tup [], .bl false], .str "abcdefghi", .tup [.str "a", .str "b", .str "c", .str "d", .str "e", .str "f"]]
theorem anys_ok : ∀ d ∈ anys, Pn 6 2 d := fun d hd => pnB_ok (List.all_eq_true.mp (show anys.all (pnB 6 2) = true by decide +kernel) d hd)
theorem pure_law_any (as : List D) (s : S) (Q : D → S → Prop) (Ex : DX) (h : sp_law_any as s Q Ex) : wpSs c_law_any (fun _ => Ex) m_law_any { nx := fun _ s' => Q .non s', rt := Q } (nvOf N_law_any as) s := by
  obtain ⟨n, c, rfl, hb, hc, q⟩ := h
  show wpSs c_law_any (fun _ => Ex) m_law_any { nx := fun _ s' => Q .non s', rt := Q } [some (.cell n), none] s
  unfold m_law_any
  walk_at "ys"
  refine ⟨by decide, by decide, by decide, by decide, by decide, fun k hk => ?_⟩
  rw [S.set_same, S.del_set hk]
  have e39 : (10 : Int) ^ (Int.toNat 39) = 1000000000000000000000000000000000000000 := by decide
  rw [e39]
  refine ⟨⟨by decide, by decide, by decide⟩, by simp [sizeLine_eq], by decide, by decide, by decide, by decide, by decide, by simp [sizeLine_eq], by decide, ?_⟩
  exact pick_callB (xs := anys) hb (by omega) (by decide) (by decide) fun d hd s' h1 h2 => q d s' (anys_ok d hd) h1 h2
theorem any_call {n c : Nat} {s : S} {Q : D → S → Prop} {Ex : DX} (hb : Bag n c s) (hc : c < 800000) (q : ∀ (d : D) (s' : S), Pn 6 2 d → Bag n (c + 1) s' → Sb n s s' → Q d s') : frm 1 0 [0] [] sp_law_any [.cell n] [] s Q Ex := ⟨rfl, rfl, n, c, rfl, hb, hc, q⟩
theorem dcut_one {α : Type} {xs : List α} {i : Nat} (h : i < xs.length) : dcut xs (some ((i : Nat) : Int)) (some ((i + 1 : Nat) : Int)) = (xs.drop i).take 1 := by
  unfold dcut
  rw [HT.sIx_nat, HT.sIx_nat, Nat.min_eq_left (by omega), Nat.min_eq_left (by omega)]
  congr 1
  omega
theorem pure_law_bent (n : Nat) (as : List D) (s : S) (Q : D → S → Prop) (Ex : DX) (h : z_law_bent (n + 1) as s Q Ex) : wpSs (c_law_bent (z_law_bent n)) (fun _ => Ex) m_law_bent { nx := fun _ s' => Q .non s', rt := Q } (nvOf N_law_bent as) s := by
  obtain ⟨m, c, d, rfl, hd, hb, hc, q⟩ := h
  show wpSs (c_law_bent (z_law_bent n)) (fun _ => Ex) m_law_bent { nx := fun _ s' => Q .non s', rt := Q } [some (.cell m), some d, none, none] s
  unfold m_law_bent
  walk_at "ys"
  refine take_callB hb (by omega) (by omega) (by omega) fun w s1 w0 w1 hb1 sb1 => ?_
  have hv : Vl d := ⟨n, hd.mono (by decide) (Nat.le_refl _)⟩
  obtain ⟨t, ht, _, _, h3, h4, _⟩ := hv.ty s1
  refine isi_b .tup ht ?_
  rw [isa_tup]
  by_cases e : t = .tup
  · obtain ⟨xs, rfl, _, _⟩ := h3 e
    rw [decide_eq_true e]
    walk_at "ys"
    refine ⟨Nat.zero_le _, ?_⟩
    show (if xs.isEmpty = true then _ else _)
    have any1 : ∀ c1 s2, c1 ≤ c + 4 → Bag m c1 s2 → (c_law_bent (z_law_bent n)).sp 1 [D.cell m] [] s2 Q Ex := fun c1 s2 hc1 hb2 => any_call hb2 (by omega) fun d' s' hd' hb' _ => q d' s' (hd'.mono (by decide) (by omega)) (hb'.mono (by omega))
    by_cases hx : xs = []
    · rw [if_pos (by rw [hx]; rfl)]
      exact any1 _ _ (by omega) hb1
    rw [if_neg (by rw [List.isEmpty_iff]; exact hx)]
    show (if decide (w = 0) = true then _ else _)
    by_cases hw : w = 0
    · rw [if_pos (decide_eq_true hw)]
      exact any1 _ _ (by omega) hb1
    rw [if_neg (by rw [decide_eq_true_eq]; exact hw)]
    cases n with
    | zero => exact False.elim hd
    | succ n =>
      obtain ⟨xs', exs, hl, hxs⟩ : ∃ xs', xs = xs' ∧ xs'.length ≤ 6 ∧ ∀ x ∈ xs', Pn 6 n x := by
        rcases hd with hd | ⟨xs', e1, e2, e3⟩
        · exact hd.elim
        · cases e1
          exact ⟨xs, rfl, e2, e3⟩
      subst exs
      have l0 : 0 < xs.length := by
        cases xs with
        | nil => exact absurd rfl hx
        | cons a r => rw [List.length_cons]; omega
      have inn : ∀ {ys : List D}, (∀ y ∈ ys, y ∈ xs) → ∀ y ∈ ys, Pn 9 (n + 2) y := fun h y hy => (hxs y (h y hy)).mono (by decide) (by omega)
      have out : ∀ (ys : List D) (s' : S) (c' : Nat), ys.length ≤ 9 → (∀ y ∈ ys, Pn 9 (n + 2) y) → Bag m c' s' → c' ≤ c + 5 → Q (.tup ys) s' := fun ys s' c' h1 h2 h3 h4 => q _ s' (.inr ⟨ys, rfl, h1, h2⟩) (h3.mono (by omega))
      refine take_callB hb1 (by omega) (by omega) (by omega) fun k s2 k0 k1 hb2 sb2 => ?_
      have ek : k = ((k.toNat : Nat) : Int) := by omega
      generalize k.toNat = i at ek
      subst ek
      have hi : i < xs.length := by omega
      have e1 : ((i : Nat) : Int) + 1 = ((i + 1 : Nat) : Int) := by omega
      show (if decide (w = 1) = true then _ else _)
      by_cases hw1 : w = 1
      · rw [if_pos (decide_eq_true hw1)]
        show (dcut xs none (some ((i : Nat) : Int))).length + (dcut xs (some (((i : Nat) : Int) + 1)) none).length ≤ sizeLine ∧ Q (.tup (dcut xs none (some ((i : Nat) : Int)) ++ dcut xs (some (((i : Nat) : Int) + 1)) none)) s2
        rw [e1, dcut_to, dcut_from]
        refine ⟨by rw [List.length_take, List.length_drop, sizeLine_eq]; omega, out _ s2 _ (by rw [List.length_append, List.length_take, List.length_drop]; omega) (inn fun y hy => ?_) hb2 (by omega)⟩
        rcases List.mem_append.mp hy with hy | hy
        · exact List.mem_of_mem_take hy
        · exact List.mem_of_mem_drop hy
      rw [if_neg (by rw [decide_eq_true_eq]; exact hw1)]
      show (if decide (w = 2) = true then _ else _)
      by_cases hw2 : w = 2
      · rw [if_pos (decide_eq_true hw2)]
        show (dcut xs none (some ((i : Nat) : Int))).length + (dcut xs (some ((i : Nat) : Int)) (some (((i : Nat) : Int) + 1))).length ≤ sizeLine ∧ (dcut xs none (some ((i : Nat) : Int)) ++ dcut xs (some ((i : Nat) : Int)) (some (((i : Nat) : Int) + 1))).length + (dcut xs (some ((i : Nat) : Int)) none).length ≤ sizeLine ∧
          Q (.tup (dcut xs none (some ((i : Nat) : Int)) ++ dcut xs (some ((i : Nat) : Int)) (some (((i : Nat) : Int) + 1)) ++ dcut xs (some ((i : Nat) : Int)) none)) s2
        rw [e1, dcut_to, dcut_from, dcut_one hi]
        refine ⟨by rw [List.length_take, List.length_take, List.length_drop, sizeLine_eq]; omega, by rw [List.length_append, List.length_take, List.length_take, List.length_drop, sizeLine_eq]; omega, out _ s2 _ (by rw [List.length_append, List.length_append, List.length_take, List.length_take, List.length_drop]; omega) (inn fun y hy => ?_) hb2 (by omega)⟩
        rcases List.mem_append.mp hy with hy | hy
        · rcases List.mem_append.mp hy with hy | hy
          · exact List.mem_of_mem_take hy
          · exact List.mem_of_mem_drop (List.mem_of_mem_take hy)
        · exact List.mem_of_mem_drop hy
      rw [if_neg (by rw [decide_eq_true_eq]; exact hw2)]
      show (if decide (w = 3) = true then _ else _)
      by_cases hw3 : w = 3
      · rw [if_pos (decide_eq_true hw3)]
        refine any_call hb2 (by omega) fun x s3 hx3 hb3 sb3 => ?_
        refine ⟨by show 1 ≤ sizeLine; decide, by show xs.length + 1 ≤ sizeLine; rw [sizeLine_eq]; omega, by show 3 ≤ sizeLine; decide, ?_⟩
        refine pick_callB (xs := [D.lst xs, D.tup xs.reverse, D.tup (xs ++ [x])]) hb3 (by omega) (by show 0 < 3; decide) (by show 3 < 1000; decide) fun d hd s4 hb4 sb4 => ?_
        simp only [List.mem_cons, List.not_mem_nil, or_false] at hd
        rcases hd with rfl | rfl | rfl
        · exact q _ s4 (Fl.pn (d := .lst xs) trivial _) (hb4.mono (by omega))
        · exact out _ s4 _ (by rw [List.length_reverse]; omega) (inn fun y hy => List.mem_reverse.mp hy) hb4 (by omega)
        · refine out _ s4 _ (by rw [List.length_append]; show xs.length + 1 ≤ 9; omega) (fun y hy => ?_) hb4 (by omega)
          rcases List.mem_append.mp hy with hy | hy
          · exact (hxs y hy).mono (by decide) (by omega)
          · rw [List.mem_singleton] at hy
            subst hy
            exact hx3.mono (by decide) (by omega)
      rw [if_neg (by rw [decide_eq_true_eq]; exact hw3)]
      show dIx (D.tup xs) (.int ((i : Nat) : Int)) s2 _
      refine ix_tup (ix_nat (List.getElem?_eq_getElem hi)) ?_
      refine ⟨rfl, rfl, m, c + 2, xs[i], rfl, hxs _ (List.getElem_mem hi), hb2, by omega, fun x s3 hx3 hb3 => ?_⟩
      refine ⟨by show 1 ≤ sizeLine; decide, ?_⟩
      show (dcut xs none (some ((i : Nat) : Int))).length + 1 ≤ sizeLine ∧ (dcut xs none (some ((i : Nat) : Int)) ++ [x]).length + (dcut xs (some (((i : Nat) : Int) + 1)) none).length ≤ sizeLine ∧ Q (.tup (dcut xs none (some ((i : Nat) : Int)) ++ [x] ++ dcut xs (some (((i : Nat) : Int) + 1)) none)) s3
      rw [e1, dcut_to, dcut_from]
      refine ⟨by rw [List.length_take, sizeLine_eq]; omega, by rw [List.length_append, List.length_take, List.length_drop, sizeLine_eq]; show _ + 1 + _ ≤ _; omega, q _ s3 (.inr ⟨_, rfl, by rw [List.length_append, List.length_append, List.length_take, List.length_drop]; show _ + 1 + _ ≤ _; omega, fun y hy => ?_⟩) (hb3.mono (by omega))⟩
      rcases List.mem_append.mp hy with hy | hy
      · rcases List.mem_append.mp hy with hy | hy
        · exact inn (fun z hz => List.mem_of_mem_take hz) y hy
        · rw [List.mem_singleton] at hy
          subst hy
          exact hx3
      · exact inn (fun z hz => List.mem_of_mem_drop hz) y hy
  · rw [decide_eq_false e]
    walk_at "ys"
    refine any_call hb1 (by omega) fun d' s' hd' hb' _ => ?_
    exact q d' s' (hd'.mono (by decide) (by omega)) (hb'.mono (by omega))
end K14


namespace K14
open PySem PySem.Spec PyProof.Rows L2 Y
local macro_rules | `(tactic| walk_at "ys") => `(tactic| simp only [Y.wpSs, Y.wpS, Y.wp, Y.wps, Y.wpI, Y.wpC, both, dSeq_eq, dNext, dAsg, gN, dVar, dC, dCall, dCons, dNil, dOp, dTest, cmpD, binD, BI.rd, BM.rd, Tg.rd, dIfS, dIfE, dRet, dExpr, gSubD, dTruE, dTru,
  List.set_cons_zero, List.set_cons_succ, List.getElem?_cons_zero, List.getElem?_cons_succ, dComp, dItE, dItR1, wipeD, seqL, seqT, dSl, dPart, partD, dNoP, dSlR, dNotIn, dIn, dEq, dNe, dYes, dCallR, List.append_nil, dMeth, dLstC, dLst, dTup, dFor, dMul, dAdd, dMod, dFdiv, dPow, dOrd, dPar, dLen, dMax, dMin, seqQ, dOr, dAnd, dNot, dAndV, dNotV, dOrV, dNotN, dIsN, dChain, dFrz, dItEn2, dDNew, dListC, dList, dTuple, dLenSet, dBack, sD, Bool.not_true, Bool.not_false, ite_true, ite_false, if_true, if_false, Bool.false_eq_true])
def c_law : Cf := { sp := fun j => match j with | 0 => frm 2 0 [0, 1] [] sp_law_bag | 1 => frm 2 0 [0, 1] [] sp_law_hook | 2 => frm 1 0 [0] [] sp_law_methods | 3 => frm 1 0 [0] [] sp_law_any | 4 => frm 2 0 [0, 1] [] sp_law_bent | 5 => frm 1 0 [0] [] sp_hook_fault | 6 => frm 1 0 [0] [] sp_law_fault | 7 => frm 0 1 [0] [] sp_hook_fault | _ => fun _ _ _ _ _ => False, gd := gd }
theorem nice_small {i : Int} (h0 : -1 ≤ i) (h1 : i ≤ 9) : Nice 100 0 (.int i) := by
  have e : i = -1 ∨ i = 0 ∨ i = 1 ∨ i = 2 ∨ i = 3 ∨ i = 4 ∨ i = 5 ∨ i = 6 ∨ i = 7 ∨ i = 8 ∨ i = 9 := by omega
  rcases e with rfl | rfl | rfl | rfl | rfl | rfl | rfl | rfl | rfl | rfl | rfl <;> exact ⟨by decide +kernel, by decide +kernel, by decide +kernel, by decide +kernel, by decide +kernel, by decide +kernel⟩
theorem frst_ok : ∀ (xs : List D) (i : Nat), i + xs.length ≤ 9 → frstF xs i = .non ∨ ∃ k : Nat, k ≤ 9 ∧ frstF xs i = .int (k : Nat)
  | [], i, _ => .inl rfl
  | x :: xs, i, h => by
    rw [List.length_cons] at h
    unfold frstF
    by_cases hx : isCl x = true
    · rw [if_pos hx]; exact frst_ok xs (i + 1) (by omega)
    · rw [if_neg hx]; exact .inr ⟨i, by omega, rfl⟩
theorem flt_repr {x : D} (h : Vl x) : ∃ z : Str, ∀ (s : S) (Q : D → S → Prop), Q (.str z) s → dRepr [fltD x] s Q := by
  obtain ⟨t, ht, _, _, h3, h4, _⟩ := h.ty (fun _ => none)
  have neg : ∃ z : Str, ∀ (s : S) (Q : D → S → Prop), Q (.str z) s → dRepr [.int (-1)] s Q := ⟨_, fun s Q q => repr_ok (d := .int (-1)) (p := .int (-1)) rfl (nice_small (by decide) (by decide)) (by decide) (by decide) q⟩
  by_cases e : t = .tup
  · obtain ⟨xs, rfl, hl, hxs⟩ := h3 e
    cases xs with
    | nil => exact neg
    | cons y ys =>
      show ∃ z : Str, ∀ (s : S) (Q : D → S → Prop), Q (.str z) s → dRepr [frstF (y :: ys) 0] s Q
      rcases frst_ok (y :: ys) 0 (by omega) with e | ⟨k, hk, e⟩
      · rw [e]; exact ⟨_, fun s Q q => repr_ok (d := .non) (p := .none) rfl (nice_non (n := 100) (k := 0)) (by decide) (by decide) q⟩
      · rw [e]; exact ⟨_, fun s Q q => repr_ok (d := .int (k : Nat)) (p := .int (k : Nat)) rfl (nice_small (by omega) (by omega)) (by decide) (by decide) q⟩
  · rw [fltD_no (h4 e)]; exact neg
theorem eq_same {z : Str} {s : S} {Q : Bool → Prop} (q : Q true) : dEqB (.str z) (.str z) s Q := by
  show Q (decide (z = z))
  rw [decide_eq_true rfl]; exact q
theorem frst_non : ∀ (xs : List D) (i : Nat), (∀ x ∈ xs, isCl x = true) → frstF xs i = .non
  | [], _, _ => rfl
  | x :: xs, i, h => by
    unfold frstF
    rw [if_pos (h x (by simp))]
    exact frst_non xs (i + 1) fun y hy => h y (by simp [hy])
theorem mem_dcut {xs : List D} {lo hi : Option Int} {y : D} (h : y ∈ dcut xs lo hi) : y ∈ xs := by
  unfold dcut at h
  exact List.mem_of_mem_drop (List.mem_of_mem_take h)
theorem len_dcut {xs : List D} {lo hi : Option Int} : (dcut xs lo hi).length ≤ xs.length := by
  unfold dcut
  rw [List.length_take, List.length_drop]
  omega
theorem bent_call {n c : Nat} {d : D} {s : S} {Q : D → S → Prop} {Ex : DX} (hd : Pn 6 3 d) (hb : Bag n c s) (hc : c + 20 < 800000) (q : ∀ (d' : D) (s' : S), Pn 9 5 d' → Bag n (c + 20) s' → Q d' s') : frm 2 0 [0, 1] [] sp_law_bent [.cell n, d] [] s Q Ex := ⟨rfl, rfl, n, c, d, rfl, hd, hb, hc, q⟩
theorem pure_law (as : List D) (s : S) (Q : D → S → Prop) (Ex : DX) (h : sp_law as s Q Ex) : wpSs c_law (fun _ => Ex) m_law { nx := fun _ s' => Q .non s', rt := Q } (nvOf N_law as) s := by
  obtain ⟨ns, rfl, hns, q⟩ := h
  show wpSs c_law (fun _ => Ex) m_law { nx := fun _ s' => Q .non s', rt := Q } [some (.xl (ns.map .int)), none, none, none, none, none, none, none] s
  unfold m_law
  walk_at "ys"
  generalize hz : (if (if (((ns.map D.int).length : Nat) : Int) < 6 then (((ns.map D.int).length : Nat) : Int) else 6) > 2 then (if (((ns.map D.int).length : Nat) : Int) < 6 then (((ns.map D.int).length : Nat) : Int) else 6) else 2) = z
  have z1 : 0 ≤ z ∧ z ≤ 6 := by
    rw [← hz]
    split
    · split <;> omega
    · omega
  clear hz
  refine ⟨by omega, by omega, ?_⟩
  refine go_inv (fun i e s' => ∃ a1 a2 a3 a4 a5 a6 a7 : Option D, e = [some (.xl (ns.map .int)), a1, a2, a3, a4, a5, a6, a7]) _ 0 _ _ ⟨_, _, _, _, _, _, _, rfl⟩ (fun i x e s' N M hx hI hN hM => ?_) (fun e s' hI => ?_)
  · obtain ⟨a1, a2, a3, a4, a5, a6, a7, rfl⟩ := hI
    refine ⟨trivial, ?_⟩
    obtain ⟨hi, rfl⟩ := range_x hx
    walk_at "ys"
    refine bag_callB (by omega) fun n s1 hb1 sb1 hn => ?_
    refine ⟨by decide, by decide, ?_⟩
    refine go_inv (fun j e s' => ∃ a3 a4 a5 a6 a7 : Option D, e = [some (.xl (ns.map .int)), some (.int (i : Nat)), some (.cell n), a3, a4, a5, a6, a7] ∧ Bag n (1000 * j) s') _ 0 _ _ ⟨_, _, _, _, _, rfl, hb1⟩ (fun j y e s2 N2 M2 hy hI hN2 hM2 => ?_) (fun e s2 hI => ?_)
    · obtain ⟨a3, a4, a5, a6, a7, rfl, hb2⟩ := hI
      have hj : j < 12 := by
        have := (List.getElem?_eq_some_iff.mp hy).1
        simpa using this
      rw [Nat.zero_add] at hb2 hN2
      refine ⟨trivial, ?_⟩
      walk_at "ys"
      refine ⟨rfl, rfl, n, _, rfl, hb2, by omega, fun l s3 hl hb3 => ?_⟩
      refine ⟨rfl, rfl, n, _, l, rfl, hl, hb3, by omega, fun cs s4 hcs c0 c1 hb4 => ?_⟩
      walk_at "ys"
      have hcs2 : ∀ x ∈ cs, Pn 6 2 x := fun x hx => (hcs x hx).2
      have vcs : ∀ {k : Nat} {ys : List D}, ys.length ≤ 9 → (∀ y ∈ ys, Pn 6 k y) → Vl (.tup ys) := fun {k ys} h1 h2 => ⟨k + 1, .inr ⟨ys, rfl, h1, fun y hy => (h2 y hy).mono (by decide) (Nat.le_refl _)⟩⟩
      have ptup : Pn 6 3 (.tup cs) := .inr ⟨cs, rfl, by omega, hcs2⟩
      refine ⟨by show 1 ≤ sizeLine; decide, by show cs.length + 1 ≤ sizeLine; rw [sizeLine_eq]; omega, by show 1 ≤ sizeLine; decide, ?_⟩
      refine any_call hb4 (by omega) fun x s5 hx5 hb5 sb5 => ?_
      refine ⟨by show 6 ≤ sizeLine; decide, by decide, by decide, by decide, ?_⟩
      generalize hth : [D.tup cs, D.lst cs, D.tup (cs ++ [D.non]), D.tup [D.tup cs], D.tup (dcut cs none (some (-1))), x] = th
      have lth : th.length = 6 := by rw [← hth]; rfl
      have vth : ∀ y ∈ th, Vl y := fun y hy => by
        rw [← hth] at hy
        simp only [List.mem_cons, List.not_mem_nil, or_false] at hy
        rcases hy with rfl | rfl | rfl | rfl | rfl | rfl
        · exact vcs (by omega) hcs2
        · exact ⟨0, trivial⟩
        · refine vcs (by rw [List.length_append]; show cs.length + 1 ≤ 9; omega) (k := 2) fun z hz => ?_
          rcases List.mem_append.mp hz with hz | hz
          · exact hcs2 z hz
          · rw [List.mem_singleton] at hz
            subst hz
            exact Fl.pn (d := .non) trivial 2
        · refine vcs (by show 1 ≤ 9; decide) (k := 3) fun z hz => ?_
          rw [List.mem_singleton] at hz
          subst hz
          exact ptup
        · exact vcs (Nat.le_trans len_dcut (by omega)) fun z hz => hcs2 z (mem_dcut hz)
        · exact ⟨2, hx5.mono (by decide) (Nat.le_refl _)⟩
      refine lc_inv (fun k acc s' => Bag n (1000 * j + 24 + 20 * k) s' ∧ (∀ y ∈ acc, Vl y) ∧ acc.length ≤ k) _ 0 [] s5 _ ⟨hb5, (fun _ h => nomatch h), Nat.le_refl _⟩ (fun k y hy acc s6 K1 K2 hI k1 _ => ?_) (fun ds s6 hI => ?_)
      · have hk : k < 8 := by
          have := (List.getElem?_eq_some_iff.mp hy).1
          simpa using this
        rw [Nat.zero_add] at hI k1
        refine ⟨trivial, ?_⟩
        walk_at "ys"
        refine bent_call ptup hI.1 (by omega) fun d' s7 hd' hb7 => ?_
        refine k1 d' s7 ⟨hb7.mono (by omega), fun z hz => ?_, by rw [List.length_append]; exact Nat.succ_le_succ hI.2.2⟩
        rcases List.mem_append.mp hz with hz | hz
        · exact hI.2.1 z hz
        · rw [List.mem_singleton] at hz
          subst hz
          exact ⟨5, hd'⟩
      · have hlen : ((List.range (Int.toNat 8)).map fun (i : Nat) => D.int i).length = 8 := by rw [List.length_map, List.length_range]; rfl
        rw [hlen, List.nil_append] at hI
        obtain ⟨hb6, vds, lds⟩ := hI
        refine ⟨trivial, ?_⟩
        show th.length + ds.length ≤ sizeLine ∧ ((th ++ ds).length ≤ sizeLine → _)
        refine ⟨?_, fun _ => ?_⟩
        · rw [sizeLine_eq]; omega
        refine go_inv (fun j' e s' => ∃ a6 a7 : Option D, e = [some (.xl (ns.map .int)), some (.int (i : Nat)), some (.cell n), some y, some (.tup cs), some (.lst th), a6, a7] ∧ Bag n (1000 * (j + 1)) s') _ 0 _ _ ⟨_, _, rfl, hb6.mono (by omega)⟩ (fun j' x' e s7 N3 M3 hx' hI hN3 hM3 => ?_) (fun e s7 hI => ?_)
        · obtain ⟨a6, a7, rfl, hb7⟩ := hI
          have vx : Vl x' := by
            rcases List.mem_append.mp (List.mem_of_getElem? hx') with h | h
            · exact vth _ h
            · exact vds _ h
          obtain ⟨zz, hzz⟩ := flt_repr vx
          refine ⟨trivial, ?_⟩
          walk_at "ys"
          refine ⟨rfl, rfl, x', rfl, vx, hzz _ _ ⟨rfl, rfl, x', rfl, vx, hzz _ _ (eq_same ?_)⟩⟩
          rw [if_neg (by decide)]
          refine ⟨rfl, rfl, x', rfl, vx, hzz _ _ ⟨rfl, rfl, x', rfl, vx, hzz _ _ (eq_same ?_)⟩⟩
          rw [if_neg (by decide)]
          exact hN3 _ _ ⟨_, _, rfl, hb7⟩
        · obtain ⟨a6, a7, rfl, hb7⟩ := hI
          refine ⟨trivial, ?_⟩
          walk_at "ys"
          refine ⟨rfl, rfl, .tup cs, rfl, vcs (by omega) hcs2, ?_⟩
          have ef : fltD (.tup cs) = .non := by
            cases cs with
            | nil => cases c0
            | cons a r => exact frst_non _ 0 fun x hx => (hcs x hx).1
          rw [ef]
          show N2 _ s7
          exact hN2 _ _ ⟨_, _, _, _, _, rfl, hb7⟩
    · obtain ⟨a3, a4, a5, a6, a7, rfl, hb2⟩ := hI
      exact ⟨trivial, hN _ _ ⟨_, _, _, _, _, _, _, rfl⟩⟩
  · obtain ⟨a1, a2, a3, a4, a5, a6, a7, rfl⟩ := hI
    refine ⟨trivial, ?_⟩
    walk_at "ys"
    exact q s'
end K14


namespace K14
open PySem PySem.Spec PyProof.Rows L2 Y
theorem len_is_name (as : List D) (s : S) (Q : D → S → Prop) (Ex : DX) (h : sp_is_name as s Q Ex) : as.length = 1 := by obtain ⟨_, rfl, _⟩ := h; rfl
theorem len_is_clause (as : List D) (s : S) (Q : D → S → Prop) (Ex : DX) (h : sp_is_clause as s Q Ex) : as.length = 1 := by obtain ⟨_, rfl, _⟩ := h; rfl
theorem len_hook_fault (as : List D) (s : S) (Q : D → S → Prop) (Ex : DX) (h : sp_hook_fault as s Q Ex) : as.length = 1 := by obtain ⟨_, rfl, _⟩ := h; rfl
theorem len_law_is_name (as : List D) (s : S) (Q : D → S → Prop) (Ex : DX) (h : sp_law_is_name as s Q Ex) : as.length = 1 := by obtain ⟨_, rfl, _⟩ := h; rfl
theorem len_law_is_clause (as : List D) (s : S) (Q : D → S → Prop) (Ex : DX) (h : sp_law_is_clause as s Q Ex) : as.length = 1 := by obtain ⟨_, rfl, _⟩ := h; rfl
theorem len_law_fault (as : List D) (s : S) (Q : D → S → Prop) (Ex : DX) (h : sp_law_fault as s Q Ex) : as.length = 1 := by obtain ⟨_, rfl, _⟩ := h; rfl
theorem len_law_bag (as : List D) (s : S) (Q : D → S → Prop) (Ex : DX) (h : sp_law_bag as s Q Ex) : as.length = 2 := by obtain ⟨_, _, rfl, _⟩ := h; rfl
theorem len_law_take (as : List D) (s : S) (Q : D → S → Prop) (Ex : DX) (h : sp_law_take as s Q Ex) : as.length = 2 := by obtain ⟨_, _, _, rfl, _⟩ := h; rfl
theorem len_law_pick (as : List D) (s : S) (Q : D → S → Prop) (Ex : DX) (h : sp_law_pick as s Q Ex) : as.length = 2 := by obtain ⟨_, _, _, rfl, _⟩ := h; rfl
theorem len_law_methods (as : List D) (s : S) (Q : D → S → Prop) (Ex : DX) (h : sp_law_methods as s Q Ex) : as.length = 1 := by obtain ⟨_, _, rfl, _⟩ := h; rfl
theorem len_law_hook (as : List D) (s : S) (Q : D → S → Prop) (Ex : DX) (h : sp_law_hook as s Q Ex) : as.length = 2 := by obtain ⟨_, _, _, rfl, _⟩ := h; rfl
theorem len_law_any (as : List D) (s : S) (Q : D → S → Prop) (Ex : DX) (h : sp_law_any as s Q Ex) : as.length = 1 := by obtain ⟨_, _, rfl, _⟩ := h; rfl
theorem len_law_bent (n : Nat) (as : List D) (s : S) (Q : D → S → Prop) (Ex : DX) (h : z_law_bent (n + 1) as s Q Ex) : as.length = 2 := by obtain ⟨_, _, _, rfl, _⟩ := h; rfl
theorem len_law (as : List D) (s : S) (Q : D → S → Prop) (Ex : DX) (h : sp_law as s Q Ex) : as.length = 1 := by obtain ⟨_, rfl, _⟩ := h; rfl
theorem pure_law_bag (as : List D) (s : S) (Q : D → S → Prop) (Ex : DX) (h : sp_law_bag as s Q Ex) : wpSs c_law_bag (fun _ => Ex) m_law_bag { nx := fun _ s' => Q .non s', rt := Q } (nvOf N_law_bag as) s := Y.pure_bag _ as s Q Ex h
theorem pure_law_take (as : List D) (s : S) (Q : D → S → Prop) (Ex : DX) (h : sp_law_take as s Q Ex) : wpSs c_law_take (fun _ => Ex) m_law_take { nx := fun _ s' => Q .non s', rt := Q } (nvOf N_law_take as) s := Y.pure_takeB _ as s Q Ex h
theorem pure_law_pick (as : List D) (s : S) (Q : D → S → Prop) (Ex : DX) (h : sp_law_pick as s Q Ex) : wpSs c_law_pick (fun _ => Ex) m_law_pick { nx := fun _ s' => Q .non s', rt := Q } (nvOf N_law_pick as) s := Y.pure_pickB _ rfl as s Q Ex h
theorem law_law : LawSp sp_law := fun ns s h1 _ _ => ⟨ns, rfl, h1, fun _ => rfl⟩
theorem g_is_name {P : Program} {w : World} {K : PySem.W.Frag} {mg : Str → Option Value} {base : Heap} {f : Addr} {fd : FuncData} (lv : Nat) (F : FunD K "is_name" "is_name" (defArgs s_is_name) (defBody s_is_name) (defScope s_is_name) [] [] f fd) (he : Env1 K mg k_is_name c_is_name)  :
    GFn P w K mg base (lv + 1) f fd ["value"] (spOf K sp_is_name) := def_ok F sc_is_name ok_is_name he (k := k_is_name) (c := c_is_name) (by
  intro j hj
  match j, hj with
  | n + 0, hj => exact absurd hj (by show ¬ n + 0 < 0; omega)) len_is_name pure_is_name
theorem g_is_clause {P : Program} {w : World} {K : PySem.W.Frag} {mg : Str → Option Value} {base : Heap} {f : Addr} {fd : FuncData} (lv : Nat) (F : FunD K "is_clause" "is_clause" (defArgs s_is_clause) (defBody s_is_clause) (defScope s_is_clause) [] [] f fd) (he : Env1 K mg k_is_clause c_is_clause) (h0 : FormAt P w K mg base lv k_is_clause c_is_clause 0) :
    GFn P w K mg base (lv + 1) f fd ["value"] (spOf K sp_is_clause) := def_ok F sc_is_clause ok_is_clause he (k := k_is_clause) (c := c_is_clause) (by
  intro j hj
  match j, hj with
  | 0, _ => exact h0
  | n + 1, hj => exact absurd hj (by show ¬ n + 1 < 1; omega)) len_is_clause pure_is_clause
theorem g_hook_fault {P : Program} {w : World} {K : PySem.W.Frag} {mg : Str → Option Value} {base : Heap} {f : Addr} {fd : FuncData} (lv : Nat) (F : FunD K "hook_fault" "hook_fault" (defArgs s_hook_fault) (defBody s_hook_fault) (defScope s_hook_fault) [] [] f fd) (he : Env1 K mg k_hook_fault c_hook_fault) (h0 : FormAt P w K mg base lv k_hook_fault c_hook_fault 0) :
    GFn P w K mg base (lv + 1) f fd ["value"] (spOf K sp_hook_fault) := def_ok F sc_hook_fault ok_hook_fault he (k := k_hook_fault) (c := c_hook_fault) (by
  intro j hj
  match j, hj with
  | 0, _ => exact h0
  | n + 1, hj => exact absurd hj (by show ¬ n + 1 < 1; omega)) len_hook_fault pure_hook_fault
theorem g_law_bag {P : Program} {w : World} {K : PySem.W.Frag} {mg : Str → Option Value} {base : Heap} {f : Addr} {fd : FuncData} (lv : Nat) (F : FunD K "_law_bag" "_law_bag" (defArgs s_law_bag) (defBody s_law_bag) (defScope s_law_bag) [] [] f fd) (he : Env1 K mg k_law_bag c_law_bag)  :
    GFn P w K mg base (lv + 1) f fd ["_law_script", "_law_at"] (spOf K sp_law_bag) := def_ok F sc_law_bag ok_law_bag he (k := k_law_bag) (c := c_law_bag) (by
  intro j hj
  match j, hj with
  | n + 0, hj => exact absurd hj (by show ¬ n + 0 < 0; omega)) len_law_bag pure_law_bag
theorem g_law_take {P : Program} {w : World} {K : PySem.W.Frag} {mg : Str → Option Value} {base : Heap} {f : Addr} {fd : FuncData} (lv : Nat) (F : FunD K "_law_take" "_law_take" (defArgs s_law_take) (defBody s_law_take) (defScope s_law_take) [] [] f fd) (he : Env1 K mg k_law_take c_law_take)  :
    GFn P w K mg base (lv + 1) f fd ["_law_bag_here", "_law_many"] (spOf K sp_law_take) := def_ok F sc_law_take ok_law_take he (k := k_law_take) (c := c_law_take) (by
  intro j hj
  match j, hj with
  | n + 0, hj => exact absurd hj (by show ¬ n + 0 < 0; omega)) len_law_take pure_law_take
theorem g_law_pick {P : Program} {w : World} {K : PySem.W.Frag} {mg : Str → Option Value} {base : Heap} {f : Addr} {fd : FuncData} (lv : Nat) (F : FunD K "_law_pick" "_law_pick" (defArgs s_law_pick) (defBody s_law_pick) (defScope s_law_pick) [] [] f fd) (he : Env1 K mg k_law_pick c_law_pick) (h0 : FormAt P w K mg base lv k_law_pick c_law_pick 0) :
    GFn P w K mg base (lv + 1) f fd ["_law_bag_here", "_law_some"] (spOf K sp_law_pick) := def_ok F sc_law_pick ok_law_pick he (k := k_law_pick) (c := c_law_pick) (by
  intro j hj
  match j, hj with
  | 0, _ => exact h0
  | n + 1, hj => exact absurd hj (by show ¬ n + 1 < 1; omega)) len_law_pick pure_law_pick
theorem g_law_methods {P : Program} {w : World} {K : PySem.W.Frag} {mg : Str → Option Value} {base : Heap} {f : Addr} {fd : FuncData} (lv : Nat) (F : FunD K "_law_methods" "_law_methods" (defArgs s_law_methods) (defBody s_law_methods) (defScope s_law_methods) [] [] f fd) (he : Env1 K mg k_law_methods c_law_methods) (h0 : FormAt P w K mg base lv k_law_methods c_law_methods 0) (h1 : FormAt P w K mg base lv k_law_methods c_law_methods 1) :
    GFn P w K mg base (lv + 1) f fd ["_law_bag_here"] (spOf K sp_law_methods) := def_ok F sc_law_methods ok_law_methods he (k := k_law_methods) (c := c_law_methods) (by
  intro j hj
  match j, hj with
  | 0, _ => exact h0
  | 1, _ => exact h1
  | n + 2, hj => exact absurd hj (by show ¬ n + 2 < 2; omega)) len_law_methods pure_law_methods
theorem g_law_hook {P : Program} {w : World} {K : PySem.W.Frag} {mg : Str → Option Value} {base : Heap} {f : Addr} {fd : FuncData} (lv : Nat) (F : FunD K "_law_hook" "_law_hook" (defArgs s_law_hook) (defBody s_law_hook) (defScope s_law_hook) [] [] f fd) (he : Env1 K mg k_law_hook c_law_hook) (h0 : FormAt P w K mg base lv k_law_hook c_law_hook 0) (h1 : FormAt P w K mg base lv k_law_hook c_law_hook 1) :
    GFn P w K mg base (lv + 1) f fd ["_law_bag_here", "_law_six"] (spOf K sp_law_hook) := def_ok F sc_law_hook ok_law_hook he (k := k_law_hook) (c := c_law_hook) (by
  intro j hj
  match j, hj with
  | 0, _ => exact h0
  | 1, _ => exact h1
  | n + 2, hj => exact absurd hj (by show ¬ n + 2 < 2; omega)) len_law_hook pure_law_hook
theorem g_law_is_name {P : Program} {w : World} {K : PySem.W.Frag} {mg : Str → Option Value} {base : Heap} {f : Addr} {fd : FuncData} (lv : Nat) (F : FunD K "_law_is_name" "_law_is_name" (defArgs s_law_is_name) (defBody s_law_is_name) (defScope s_law_is_name) [] [] f fd) (he : Env1 K mg k_law_is_name c_law_is_name)  :
    GFn P w K mg base (lv + 1) f fd ["_law_thing"] (spOf K sp_law_is_name) := def_ok F sc_law_is_name ok_law_is_name he (k := k_law_is_name) (c := c_law_is_name) (by
  intro j hj
  match j, hj with
  | n + 0, hj => exact absurd hj (by show ¬ n + 0 < 0; omega)) len_law_is_name pure_law_is_name
theorem g_law_any {P : Program} {w : World} {K : PySem.W.Frag} {mg : Str → Option Value} {base : Heap} {f : Addr} {fd : FuncData} (lv : Nat) (F : FunD K "_law_any" "_law_any" (defArgs s_law_any) (defBody s_law_any) (defScope s_law_any) [] [] f fd) (he : Env1 K mg k_law_any c_law_any) (h0 : FormAt P w K mg base lv k_law_any c_law_any 0) :
    GFn P w K mg base (lv + 1) f fd ["_law_bag_here"] (spOf K sp_law_any) := def_ok F sc_law_any ok_law_any he (k := k_law_any) (c := c_law_any) (by
  intro j hj
  match j, hj with
  | 0, _ => exact h0
  | n + 1, hj => exact absurd hj (by show ¬ n + 1 < 1; omega)) len_law_any pure_law_any
theorem g_law_bent {P : Program} {w : World} {K : PySem.W.Frag} {mg : Str → Option Value} {base : Heap} {f : Addr} {fd : FuncData} {z sp : DSp} (lv : Nat) (F : FunD K "_law_bent" "_law_bent" (defArgs s_law_bent) (defBody s_law_bent) (defScope s_law_bent) [] [] f fd) (he : Env1 K mg k_law_bent (c_law_bent z)) (h0 : FormAt P w K mg base lv k_law_bent (c_law_bent z) 0) (h1 : FormAt P w K mg base lv k_law_bent (c_law_bent z) 1) (h2 : FormAt P w K mg base lv k_law_bent (c_law_bent z) 2) (h3 : FormAt P w K mg base lv k_law_bent (c_law_bent z) 3) (hl : ∀ as s Q Ex, sp as s Q Ex → as.length = 2) (hp : ∀ as s Q Ex, sp as s Q Ex → wpSs (c_law_bent z) (fun _ => Ex) m_law_bent { nx := fun _ s1 => Q .non s1, rt := Q } (nvOf N_law_bent as) s) :
    GFn P w K mg base (lv + 1) f fd ["_law_bag_here", "_law_thing"] (spOf K sp) := def_ok F sc_law_bent ok_law_bent he (k := k_law_bent) (c := (c_law_bent z)) (by
  intro j hj
  match j, hj with
  | 0, _ => exact h0
  | 1, _ => exact h1
  | 2, _ => exact h2
  | 3, _ => exact h3
  | n + 4, hj => exact absurd hj (by show ¬ n + 4 < 4; omega)) hl hp
theorem g_law_is_clause {P : Program} {w : World} {K : PySem.W.Frag} {mg : Str → Option Value} {base : Heap} {f : Addr} {fd : FuncData} (lv : Nat) (F : FunD K "_law_is_clause" "_law_is_clause" (defArgs s_law_is_clause) (defBody s_law_is_clause) (defScope s_law_is_clause) [] [] f fd) (he : Env1 K mg k_law_is_clause c_law_is_clause) (h0 : FormAt P w K mg base lv k_law_is_clause c_law_is_clause 0) :
    GFn P w K mg base (lv + 1) f fd ["_law_thing"] (spOf K sp_law_is_clause) := def_ok F sc_law_is_clause ok_law_is_clause he (k := k_law_is_clause) (c := c_law_is_clause) (by
  intro j hj
  match j, hj with
  | 0, _ => exact h0
  | n + 1, hj => exact absurd hj (by show ¬ n + 1 < 1; omega)) len_law_is_clause pure_law_is_clause
theorem g_law_fault {P : Program} {w : World} {K : PySem.W.Frag} {mg : Str → Option Value} {base : Heap} {f : Addr} {fd : FuncData} (lv : Nat) (F : FunD K "_law_fault" "_law_fault" (defArgs s_law_fault) (defBody s_law_fault) (defScope s_law_fault) [] [] f fd) (he : Env1 K mg k_law_fault c_law_fault) (h0 : FormAt P w K mg base lv k_law_fault c_law_fault 0) :
    GFn P w K mg base (lv + 1) f fd ["_law_thing"] (spOf K sp_law_fault) := def_ok F sc_law_fault ok_law_fault he (k := k_law_fault) (c := c_law_fault) (by
  intro j hj
  match j, hj with
  | 0, _ => exact h0
  | n + 1, hj => exact absurd hj (by show ¬ n + 1 < 1; omega)) len_law_fault pure_law_fault
theorem g_law {P : Program} {w : World} {K : PySem.W.Frag} {mg : Str → Option Value} {base : Heap} {f : Addr} {fd : FuncData} (lv : Nat) (F : FunD K "law" "law" (defArgs s_law) (defBody s_law) (defScope s_law) [] [] f fd) (he : Env1 K mg k_law c_law) (h0 : FormAt P w K mg base lv k_law c_law 0) (h1 : FormAt P w K mg base lv k_law c_law 1) (h2 : FormAt P w K mg base lv k_law c_law 2) (h3 : FormAt P w K mg base lv k_law c_law 3) (h4 : FormAt P w K mg base lv k_law c_law 4) (h5 : FormAt P w K mg base lv k_law c_law 5) (h6 : FormAt P w K mg base lv k_law c_law 6) (h7 : FormAt P w K mg base lv k_law c_law 7) :
    GFn P w K mg base (lv + 1) f fd ["_law_script"] (spOf K sp_law) := def_ok F sc_law ok_law he (k := k_law) (c := c_law) (by
  intro j hj
  match j, hj with
  | 0, _ => exact h0
  | 1, _ => exact h1
  | 2, _ => exact h2
  | 3, _ => exact h3
  | 4, _ => exact h4
  | 5, _ => exact h5
  | 6, _ => exact h6
  | 7, _ => exact h7
  | n + 8, hj => exact absurd hj (by show ¬ n + 8 < 8; omega)) len_law pure_law
def d_is_name : He.DefD := ⟨("is_name", none), "is_name", "is_name", defArgs s_is_name, defBody s_is_name, defScope s_is_name, [], []⟩
def d_is_clause : He.DefD := ⟨("is_clause", none), "is_clause", "is_clause", defArgs s_is_clause, defBody s_is_clause, defScope s_is_clause, [], []⟩
def d_hook_fault : He.DefD := ⟨("hook_fault", none), "hook_fault", "hook_fault", defArgs s_hook_fault, defBody s_hook_fault, defScope s_hook_fault, [], []⟩
def d_law_bag : He.DefD := ⟨("_law_bag", none), "_law_bag", "_law_bag", defArgs s_law_bag, defBody s_law_bag, defScope s_law_bag, [], []⟩
def d_law_take : He.DefD := ⟨("_law_take", none), "_law_take", "_law_take", defArgs s_law_take, defBody s_law_take, defScope s_law_take, [], []⟩
def d_law_pick : He.DefD := ⟨("_law_pick", none), "_law_pick", "_law_pick", defArgs s_law_pick, defBody s_law_pick, defScope s_law_pick, [], []⟩
def d_law_methods : He.DefD := ⟨("_law_methods", none), "_law_methods", "_law_methods", defArgs s_law_methods, defBody s_law_methods, defScope s_law_methods, [], []⟩
def d_law_hook : He.DefD := ⟨("_law_hook", none), "_law_hook", "_law_hook", defArgs s_law_hook, defBody s_law_hook, defScope s_law_hook, [], []⟩
def d_law_is_name : He.DefD := ⟨("_law_is_name", none), "_law_is_name", "_law_is_name", defArgs s_law_is_name, defBody s_law_is_name, defScope s_law_is_name, [], []⟩
def d_law_any : He.DefD := ⟨("_law_any", none), "_law_any", "_law_any", defArgs s_law_any, defBody s_law_any, defScope s_law_any, [], []⟩
def d_law_bent : He.DefD := ⟨("_law_bent", none), "_law_bent", "_law_bent", defArgs s_law_bent, defBody s_law_bent, defScope s_law_bent, [], []⟩
def d_law_is_clause : He.DefD := ⟨("_law_is_clause", none), "_law_is_clause", "_law_is_clause", defArgs s_law_is_clause, defBody s_law_is_clause, defScope s_law_is_clause, [], []⟩
def d_law_fault : He.DefD := ⟨("_law_fault", none), "_law_fault", "_law_fault", defArgs s_law_fault, defBody s_law_fault, defScope s_law_fault, [], []⟩
def d_law : He.DefD := ⟨("law", none), "law", "law", defArgs s_law, defBody s_law, defScope s_law, [], []⟩
def fn : List He.DefD := [d_is_name, d_is_clause, d_hook_fault, d_law_bag, d_law_take, d_law_pick, d_law_methods, d_law_hook, d_law_is_name, d_law_any, d_law_bent, d_law_is_clause, d_law_fault, d_law]
def fa0 : List He.Fa := [.glo "is_name", .glo "is_clause", .glo "hook_fault", .glo "_law_bag", .glo "_law_take", .glo "_law_pick", .glo "_law_methods", .glo "_law_hook", .glo "_law_is_name", .glo "_law_any", .glo "_law_bent", .glo "_law_is_clause", .glo "_law_fault", .glo "law", .int "MOST_LETTERS" 8, .str "LETTERS" "abcdefghijklmnopqrstuvwxyz"]
def fa : List He.Fa := fa0 ++ [.free "len", .free "abs", .free "max", .free "min", .free "all", .free "any", .free "list", .free "tuple", .free "repr", .free "sorted", .free "range", .free "enumerate", .free "isinstance", .free "set", .free "dict", .free "int", .free "sum", .free "str", .free "bool", .free "reversed", .free "zip"]
def names0 : List Str := ["__name__", "MOST_LETTERS", "LETTERS", "is_name", "is_clause", "hook_fault", "_law_bag", "_law_take", "_law_pick", "_law_methods", "_law_hook", "_law_is_name", "_law_any", "_law_bent", "_law_is_clause", "_law_fault"]
def names : List Str := names0
abbrev R : PySem.W.OpenRow := PySem.W.OpenLaw.row PySem.Challenge.rw_sworntypes_k14_forms_of_hooks
abbrev hk : PySem.W.Hook := He.hookD 4 fa fn
def ob (s : PySem.W.SharedT) : He.AlD := He.obsDG 4 fa fn (HandSHeadRun.getT s)
theorem ob_eq (s : PySem.W.SharedT) : ob s = hk.obs s.abs := He.obsDG_eq (HandSHeadRun.getT_eq s)
theorem run (w : World) : HandSHeadRun.RunEq R (PySem.W.view R.prog [18]) hk ob 2000 names w := by
  intro os
  kernel_rfl
theorem facts {P : Program} {w : World} {K : PySem.W.Frag} {h : Heap} {mg : Str → Option Value} {f : Addr} (X : K.In h) (G : h.Ns mainGlobals mg) (hfa : mg ("law" : Str) = some (.ref f)) (c : He.SaysD fa fn K) :
    ∃ fd : FuncData, (∀ (s : Shared) (v : Value), BindsTo s fd ⟨[v], []⟩ [("_law_script", v)]) ∧ ∀ base : Heap, K.In base → base.Ns mainGlobals mg → GFn P w K mg base 18 f fd ["_law_script"] (spOf K sp_law) := by
  have hbl : ∀ y ∈ bltNames, mg y = none := by
    intro y hy
    simp only [bltNames, List.mem_cons, List.not_mem_nil, or_false] at hy
    rcases hy with rfl | rfl | rfl | rfl | rfl | rfl | rfl | rfl | rfl | rfl | rfl | rfl | rfl | rfl | rfl | rfl | rfl | rfl | rfl | rfl | rfl
    · exact He.free_ok X G (c.fact 16 (f := .free "len") rfl)
    · exact He.free_ok X G (c.fact 17 (f := .free "abs") rfl)
    · exact He.free_ok X G (c.fact 18 (f := .free "max") rfl)
    · exact He.free_ok X G (c.fact 19 (f := .free "min") rfl)
    · exact He.free_ok X G (c.fact 20 (f := .free "all") rfl)
    · exact He.free_ok X G (c.fact 21 (f := .free "any") rfl)
    · exact He.free_ok X G (c.fact 22 (f := .free "list") rfl)
    · exact He.free_ok X G (c.fact 23 (f := .free "tuple") rfl)
    · exact He.free_ok X G (c.fact 24 (f := .free "repr") rfl)
    · exact He.free_ok X G (c.fact 25 (f := .free "sorted") rfl)
    · exact He.free_ok X G (c.fact 26 (f := .free "range") rfl)
    · exact He.free_ok X G (c.fact 27 (f := .free "enumerate") rfl)
    · exact He.free_ok X G (c.fact 28 (f := .free "isinstance") rfl)
    · exact He.free_ok X G (c.fact 29 (f := .free "set") rfl)
    · exact He.free_ok X G (c.fact 30 (f := .free "dict") rfl)
    · exact He.free_ok X G (c.fact 31 (f := .free "int") rfl)
    · exact He.free_ok X G (c.fact 32 (f := .free "sum") rfl)
    · exact He.free_ok X G (c.fact 33 (f := .free "str") rfl)
    · exact He.free_ok X G (c.fact 34 (f := .free "bool") rfl)
    · exact He.free_ok X G (c.fact 35 (f := .free "reversed") rfl)
    · exact He.free_ok X G (c.fact 36 (f := .free "zip") rfl)
  have hgc : ∀ j, j < 2 → GcOk K mg (gn j) (gd j) := by
    intro j hj
    match j, hj with
    | 0, _ =>
      obtain ⟨t, h⟩ := He.int_ok X G (c.fact 14 (f := .int "MOST_LETTERS" 8) rfl)
      exact ⟨_, .int 8, h, ⟨t, rfl⟩, fun _ _ => .int 8⟩
    | 1, _ =>
      obtain ⟨t, h⟩ := He.str_ok X G (c.fact 15 (f := .str "LETTERS" "abcdefghijklmnopqrstuvwxyz") rfl)
      exact ⟨_, .str "abcdefghijklmnopqrstuvwxyz", h, ⟨t, rfl⟩, fun _ _ => .str "abcdefghijklmnopqrstuvwxyz"⟩
    | n + 2, hj => exact absurd hj (by omega)
  obtain ⟨fd_is_name, F_is_name⟩ := c.def_ 0 (d := d_is_name) rfl
  obtain ⟨fd_is_clause, F_is_clause⟩ := c.def_ 1 (d := d_is_clause) rfl
  obtain ⟨fd_hook_fault, F_hook_fault⟩ := c.def_ 2 (d := d_hook_fault) rfl
  obtain ⟨fd_law_bag, F_law_bag⟩ := c.def_ 3 (d := d_law_bag) rfl
  obtain ⟨fd_law_take, F_law_take⟩ := c.def_ 4 (d := d_law_take) rfl
  obtain ⟨fd_law_pick, F_law_pick⟩ := c.def_ 5 (d := d_law_pick) rfl
  obtain ⟨fd_law_methods, F_law_methods⟩ := c.def_ 6 (d := d_law_methods) rfl
  obtain ⟨fd_law_hook, F_law_hook⟩ := c.def_ 7 (d := d_law_hook) rfl
  obtain ⟨fd_law_is_name, F_law_is_name⟩ := c.def_ 8 (d := d_law_is_name) rfl
  obtain ⟨fd_law_any, F_law_any⟩ := c.def_ 9 (d := d_law_any) rfl
  obtain ⟨fd_law_bent, F_law_bent⟩ := c.def_ 10 (d := d_law_bent) rfl
  obtain ⟨fd_law_is_clause, F_law_is_clause⟩ := c.def_ 11 (d := d_law_is_clause) rfl
  obtain ⟨fd_law_fault, F_law_fault⟩ := c.def_ 12 (d := d_law_fault) rfl
  obtain ⟨fd_law, F_law⟩ := c.def_ 13 (d := d_law) rfl
  have e := hfa.symm.trans (He.glo_ok X G (c.fact 13 (f := .glo "law") rfl))
  cases e
  refine ⟨fd_law, fun s v => FunD.bindsA (ps := ["_law_script"]) F_law (fun _ _ _ _ _ _ us hl => match us, hl with | [_], _ => rfl) s [v] rfl, fun base _ _ => ?_⟩
  have V_is_name := (⟨He.glo_ok X G (c.fact 0 (f := .glo "is_name") rfl), F_is_name.kp⟩ : KdOk K mg (He.ga K "is_name") (.fn "is_name"))
  have V_is_clause := (⟨He.glo_ok X G (c.fact 1 (f := .glo "is_clause") rfl), F_is_clause.kp⟩ : KdOk K mg (He.ga K "is_clause") (.fn "is_clause"))
  have V_hook_fault := (⟨He.glo_ok X G (c.fact 2 (f := .glo "hook_fault") rfl), F_hook_fault.kp⟩ : KdOk K mg (He.ga K "hook_fault") (.fn "hook_fault"))
  have V_law_bag := (⟨He.glo_ok X G (c.fact 3 (f := .glo "_law_bag") rfl), F_law_bag.kp⟩ : KdOk K mg (He.ga K "_law_bag") (.fn "_law_bag"))
  have V_law_take := (⟨He.glo_ok X G (c.fact 4 (f := .glo "_law_take") rfl), F_law_take.kp⟩ : KdOk K mg (He.ga K "_law_take") (.fn "_law_take"))
  have V_law_pick := (⟨He.glo_ok X G (c.fact 5 (f := .glo "_law_pick") rfl), F_law_pick.kp⟩ : KdOk K mg (He.ga K "_law_pick") (.fn "_law_pick"))
  have V_law_methods := (⟨He.glo_ok X G (c.fact 6 (f := .glo "_law_methods") rfl), F_law_methods.kp⟩ : KdOk K mg (He.ga K "_law_methods") (.fn "_law_methods"))
  have V_law_hook := (⟨He.glo_ok X G (c.fact 7 (f := .glo "_law_hook") rfl), F_law_hook.kp⟩ : KdOk K mg (He.ga K "_law_hook") (.fn "_law_hook"))
  have V_law_is_name := (⟨He.glo_ok X G (c.fact 8 (f := .glo "_law_is_name") rfl), F_law_is_name.kp⟩ : KdOk K mg (He.ga K "_law_is_name") (.fn "_law_is_name"))
  have V_law_any := (⟨He.glo_ok X G (c.fact 9 (f := .glo "_law_any") rfl), F_law_any.kp⟩ : KdOk K mg (He.ga K "_law_any") (.fn "_law_any"))
  have V_law_bent := (⟨He.glo_ok X G (c.fact 10 (f := .glo "_law_bent") rfl), F_law_bent.kp⟩ : KdOk K mg (He.ga K "_law_bent") (.fn "_law_bent"))
  have V_law_is_clause := (⟨He.glo_ok X G (c.fact 11 (f := .glo "_law_is_clause") rfl), F_law_is_clause.kp⟩ : KdOk K mg (He.ga K "_law_is_clause") (.fn "_law_is_clause"))
  have V_law_fault := (⟨He.glo_ok X G (c.fact 12 (f := .glo "_law_fault") rfl), F_law_fault.kp⟩ : KdOk K mg (He.ga K "_law_fault") (.fn "_law_fault"))
  have V_law := (⟨He.glo_ok X G (c.fact 13 (f := .glo "law") rfl), F_law.kp⟩ : KdOk K mg (He.ga K "law") (.fn "law"))
  have G_is_name : GFn P w K mg base 2 _ fd_is_name ["value"] (spOf K sp_is_name) := g_is_name 1 F_is_name ⟨hbl, hgc, (fun _ _ _ h => nomatch h), (fun _ _ h => nomatch h)⟩ 
  have G_law_bag : GFn P w K mg base 2 _ fd_law_bag ["_law_script", "_law_at"] (spOf K sp_law_bag) := g_law_bag 1 F_law_bag ⟨hbl, hgc, (fun _ _ _ h => nomatch h), (fun _ _ h => nomatch h)⟩ 
  have G_law_take : GFn P w K mg base 2 _ fd_law_take ["_law_bag_here", "_law_many"] (spOf K sp_law_take) := g_law_take 1 F_law_take ⟨hbl, hgc, (fun _ _ _ h => nomatch h), (fun _ _ h => nomatch h)⟩ 
  have G_law_is_name : GFn P w K mg base 2 _ fd_law_is_name ["_law_thing"] (spOf K sp_law_is_name) := g_law_is_name 1 F_law_is_name ⟨hbl, hgc, (fun _ _ _ h => nomatch h), (fun _ _ h => nomatch h)⟩ 
  have G_is_clause : GFn P w K mg base 4 _ fd_is_clause ["value"] (spOf K sp_is_clause) := g_is_clause 3 F_is_clause ⟨hbl, hgc, (fun _ _ _ h => nomatch h), (fun _ _ h => nomatch h)⟩ (form_of (by omega) rfl V_is_name rfl (gr_plain (n := 1) (ks := []) (perm := [0]) F_is_name G_is_name (fun _ _ _ _ _ _ us ws h1 h2 => match us, ws, h1, h2 with | [_], [], _, _ => rfl)) (fun _ _ _ _ _ h => h))
  have G_law_pick : GFn P w K mg base 4 _ fd_law_pick ["_law_bag_here", "_law_some"] (spOf K sp_law_pick) := g_law_pick 3 F_law_pick ⟨hbl, hgc, (fun _ _ _ h => nomatch h), (fun _ _ h => nomatch h)⟩ (form_of (by omega) rfl V_law_take rfl (gr_plain (n := 2) (ks := []) (perm := [0, 1]) F_law_take G_law_take (fun _ _ _ _ _ _ us ws h1 h2 => match us, ws, h1, h2 with | [_, _], [], _, _ => rfl)) (fun _ _ _ _ _ h => h))
  have G_law_is_clause : GFn P w K mg base 4 _ fd_law_is_clause ["_law_thing"] (spOf K sp_law_is_clause) := g_law_is_clause 3 F_law_is_clause ⟨hbl, hgc, (fun _ _ _ h => nomatch h), (fun _ _ h => nomatch h)⟩ (form_of (by omega) rfl V_law_is_name rfl (gr_plain (n := 1) (ks := []) (perm := [0]) F_law_is_name G_law_is_name (fun _ _ _ _ _ _ us ws h1 h2 => match us, ws, h1, h2 with | [_], [], _, _ => rfl)) (fun _ _ _ _ _ h => h))
  have G_hook_fault : GFn P w K mg base 6 _ fd_hook_fault ["value"] (spOf K sp_hook_fault) := g_hook_fault 5 F_hook_fault ⟨hbl, hgc, (fun _ _ _ h => nomatch h), (fun _ _ h => nomatch h)⟩ (form_of (by omega) rfl V_is_clause rfl (gr_plain (n := 1) (ks := []) (perm := [0]) F_is_clause G_is_clause (fun _ _ _ _ _ _ us ws h1 h2 => match us, ws, h1, h2 with | [_], [], _, _ => rfl)) (fun _ _ _ _ _ h => h))
  have G_law_methods : GFn P w K mg base 6 _ fd_law_methods ["_law_bag_here"] (spOf K sp_law_methods) := g_law_methods 5 F_law_methods ⟨hbl, hgc, (fun _ _ _ h => nomatch h), (fun _ _ h => nomatch h)⟩ (form_of (by omega) rfl V_law_pick rfl (gr_plain (n := 2) (ks := []) (perm := [0, 1]) F_law_pick G_law_pick (fun _ _ _ _ _ _ us ws h1 h2 => match us, ws, h1, h2 with | [_, _], [], _, _ => rfl)) (fun _ _ _ _ _ h => h)) (form_of (by omega) rfl V_law_take rfl (gr_plain (n := 2) (ks := []) (perm := [0, 1]) F_law_take G_law_take (fun _ _ _ _ _ _ us ws h1 h2 => match us, ws, h1, h2 with | [_, _], [], _, _ => rfl)) (fun _ _ _ _ _ h => h))
  have G_law_hook : GFn P w K mg base 6 _ fd_law_hook ["_law_bag_here", "_law_six"] (spOf K sp_law_hook) := g_law_hook 5 F_law_hook ⟨hbl, hgc, (fun _ _ _ h => nomatch h), (fun _ _ h => nomatch h)⟩ (form_of (by omega) rfl V_law_take rfl (gr_plain (n := 2) (ks := []) (perm := [0, 1]) F_law_take G_law_take (fun _ _ _ _ _ _ us ws h1 h2 => match us, ws, h1, h2 with | [_, _], [], _, _ => rfl)) (fun _ _ _ _ _ h => h)) (form_of (by omega) rfl V_law_pick rfl (gr_plain (n := 2) (ks := []) (perm := [0, 1]) F_law_pick G_law_pick (fun _ _ _ _ _ _ us ws h1 h2 => match us, ws, h1, h2 with | [_, _], [], _, _ => rfl)) (fun _ _ _ _ _ h => h))
  have G_law_any : GFn P w K mg base 6 _ fd_law_any ["_law_bag_here"] (spOf K sp_law_any) := g_law_any 5 F_law_any ⟨hbl, hgc, (fun _ _ _ h => nomatch h), (fun _ _ h => nomatch h)⟩ (form_of (by omega) rfl V_law_pick rfl (gr_plain (n := 2) (ks := []) (perm := [0, 1]) F_law_pick G_law_pick (fun _ _ _ _ _ _ us ws h1 h2 => match us, ws, h1, h2 with | [_, _], [], _, _ => rfl)) (fun _ _ _ _ _ h => h))
  have G_law_fault : GFn P w K mg base 6 _ fd_law_fault ["_law_thing"] (spOf K sp_law_fault) := g_law_fault 5 F_law_fault ⟨hbl, hgc, (fun _ _ _ h => nomatch h), (fun _ _ h => nomatch h)⟩ (form_of (by omega) rfl V_law_is_clause rfl (gr_plain (n := 1) (ks := []) (perm := [0]) F_law_is_clause G_law_is_clause (fun _ _ _ _ _ _ us ws h1 h2 => match us, ws, h1, h2 with | [_], [], _, _ => rfl)) (fun _ _ _ _ _ h => h))
  have GZ_law_bent : ∀ n, GFn P w K mg base (8 + 2 * n) (He.ga K "_law_bent") fd_law_bent ["_law_bag_here", "_law_thing"] (spOf K (z_law_bent n)) := by
    intro n
    induction n with
    | zero => exact gfn_no F_law_bent sc_law_bent
    | succ n ih =>
      exact GFn.mono (g_law_bent (8 + 2 * n + 1) F_law_bent ⟨hbl, hgc, (fun _ _ _ h => nomatch h), (fun _ _ h => nomatch h)⟩ (form_of (by omega) rfl V_law_take rfl (gr_plain (n := 2) (ks := []) (perm := [0, 1]) F_law_take G_law_take (fun _ _ _ _ _ _ us ws h1 h2 => match us, ws, h1, h2 with | [_, _], [], _, _ => rfl)) (fun _ _ _ _ _ h => h)) (form_of (by omega) rfl V_law_any rfl (gr_plain (n := 1) (ks := []) (perm := [0]) F_law_any G_law_any (fun _ _ _ _ _ _ us ws h1 h2 => match us, ws, h1, h2 with | [_], [], _, _ => rfl)) (fun _ _ _ _ _ h => h)) (form_of (by omega) rfl V_law_pick rfl (gr_plain (n := 2) (ks := []) (perm := [0, 1]) F_law_pick G_law_pick (fun _ _ _ _ _ _ us ws h1 h2 => match us, ws, h1, h2 with | [_, _], [], _, _ => rfl)) (fun _ _ _ _ _ h => h)) (form_of (by omega) rfl V_law_bent rfl (gr_plain (n := 2) (ks := []) (perm := [0, 1]) F_law_bent ih (fun _ _ _ _ _ _ us ws h1 h2 => match us, ws, h1, h2 with | [_, _], [], _, _ => rfl)) (fun _ _ _ _ _ h => h)) (len_law_bent n) (pure_law_bent n)) (by omega)
  have G_law_bent := GZ_law_bent 4
  exact g_law 17 F_law ⟨hbl, hgc, (fun _ _ _ h => nomatch h), (fun _ _ h => nomatch h)⟩ (form_of (by omega) rfl V_law_bag rfl (gr_plain (n := 2) (ks := []) (perm := [0, 1]) F_law_bag G_law_bag (fun _ _ _ _ _ _ us ws h1 h2 => match us, ws, h1, h2 with | [_, _], [], _, _ => rfl)) (fun _ _ _ _ _ h => h)) (form_of (by omega) rfl V_law_hook rfl (gr_plain (n := 2) (ks := []) (perm := [0, 1]) F_law_hook G_law_hook (fun _ _ _ _ _ _ us ws h1 h2 => match us, ws, h1, h2 with | [_, _], [], _, _ => rfl)) (fun _ _ _ _ _ h => h)) (form_of (by omega) rfl V_law_methods rfl (gr_plain (n := 1) (ks := []) (perm := [0]) F_law_methods G_law_methods (fun _ _ _ _ _ _ us ws h1 h2 => match us, ws, h1, h2 with | [_], [], _, _ => rfl)) (fun _ _ _ _ _ h => h)) (form_of (by omega) rfl V_law_any rfl (gr_plain (n := 1) (ks := []) (perm := [0]) F_law_any G_law_any (fun _ _ _ _ _ _ us ws h1 h2 => match us, ws, h1, h2 with | [_], [], _, _ => rfl)) (fun _ _ _ _ _ h => h)) (form_of (by omega) rfl V_law_bent rfl (gr_plain (n := 2) (ks := []) (perm := [0, 1]) F_law_bent G_law_bent (fun _ _ _ _ _ _ us ws h1 h2 => match us, ws, h1, h2 with | [_, _], [], _, _ => rfl)) (fun _ _ _ _ _ h => h)) (form_of (by omega) rfl V_hook_fault rfl (gr_plain (n := 1) (ks := []) (perm := [0]) F_hook_fault G_hook_fault (fun _ _ _ _ _ _ us ws h1 h2 => match us, ws, h1, h2 with | [_], [], _, _ => rfl)) (fun _ _ _ _ _ h => h)) (form_of (by omega) rfl V_law_fault rfl (gr_plain (n := 1) (ks := []) (perm := [0]) F_law_fault G_law_fault (fun _ _ _ _ _ _ us ws h1 h2 => match us, ws, h1, h2 with | [_], [], _, _ => rfl)) (fun _ _ _ _ _ h => h)) (form_of (by omega) rfl V_hook_fault rfl (gr_plain (n := 0) (ks := ["value"]) (perm := [0]) F_hook_fault G_hook_fault (fun _ _ _ _ _ _ us ws h1 h2 => match us, ws, h1, h2 with | [], [_], _, _ => rfl)) (fun _ _ _ _ _ h => h))
end K14
open PySem PySem.W PySem.Calls PyProof.Rows
theorem PySem.Challenge.cw_sworntypes_k14_forms_of_hooks_holds : PySem.Challenge.rw_sworntypes_k14_forms_of_hooks.Holds := by
  w_on; o_law
  refine HandSHeadRun.head_any (r := OpenLaw.row PySem.Challenge.rw_sworntypes_k14_forms_of_hooks) (q := view (OpenLaw.row PySem.Challenge.rw_sworntypes_k14_forms_of_hooks).prog [18]) (H := K14.hk) (ob := K14.ob) (M := 2000) (loose := K14.names) (d := HandSHeadRun.topDef (OpenLaw.row PySem.Challenge.rw_sworntypes_k14_forms_of_hooks).prog 18) (kwd := []) K14.ob_eq
    (by kernel_rfl) (fun s => by kernel_rfl) K14.run (by kernel_rfl) (by kernel_rfl) (by kernel_rfl) (by rfl) (by first | assumption | decide +kernel) (by decide +kernel) ⟨rfl, rfl, rfl, rfl, rfl, by decide +kernel⟩ ?hw ?hc
  case hw => w_witness2
  case hc =>
    refine Y.walk_ofY (l := PySem.Challenge.rw_sworntypes_k14_forms_of_hooks) (lv := 18) (x := "_law_script") (sp := K14.sp_law) rfl (by kernel_rfl) ⟨rfl, by decide, by decide⟩ K14.law_law ?F
    intro w mg fa h Y G hmg0
    obtain ⟨K, KX, c⟩ := Y
    have hmg : mg ("law" : PySem.Str) = some (.ref fa) := by
      have e : (HandSHeadRun.topDef (OpenLaw.row PySem.Challenge.rw_sworntypes_k14_forms_of_hooks).prog 18).name = ("law" : PySem.Str) := by kernel_rfl
      rw [← e]
      exact hmg0
    obtain ⟨fd, hb, hF⟩ := K14.facts (P := (PySem.Challenge.rw_sworntypes_k14_forms_of_hooks).prog) (w := w) KX G hmg c
    exact ⟨K, fd, KX, hb, hF⟩


