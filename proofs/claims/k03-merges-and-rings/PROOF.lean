import PyProof.Rows.All
import Wide.All
import OpenK.AllK
import Wide.FinOn
import HandS.ForMost
import HandS.TupAny
import HandS.Flow
import HandS.Deep
import HandS.More
import HandS.ForExc
import HandS.Defaults
import HandS.CallSlots
import HandS.Small
import HandS.NoneIn
import KE.KUnpackStar
import HandS.Style
import KE.KStateDown
import Lean
import HandS.Base
import HandS.Call
import HandS.Ends
import HandS.Words
import HandS.WordsExc
import HandS.Head0
import HandS.Head1
import HandS.Head2
import HandS.HeadEnd
import HandS.EndBits
import HandS.HeadHook1
import HandS.HeadHook2
import PyProof.ReprBulk
import PySem.Challenge.RW_sworntypes_k03_whole_merges_and_rings
set_option Elab.async false
set_option linter.all false
set_option maxRecDepth 100000
set_option maxHeartbeats 4000000
/-! Y1: plain data D, a store of mutable cells, how the hand layer's heap bears them. -/
namespace Y
open PySem PySem.Spec PyProof.Rows L2

/-- plain data; cell n: a mutable object of the store; adr: a class or def of the module -/
inductive D where
  | non | bl (b : Bool) | int (i : Int) | str (x : Str)
  | lst (xs : List D) | tup (xs : List D) | xl (xs : List D) | xt (xs : List D)
  | dic (kvs : List (D × D)) | dit (kvs : List (D × D))
  | cell (n : Nat) | adr (a : Addr) | ty (n : String)
  deriving Inhabited
/-- a mutable object -/
inductive O where
  | lst (xs : List D) | dic (kvs : List (D × D)) | dit (kvs : List (D × D)) | ins (C : Addr) (fs : List (Str × D))
  deriving Inhabited
abbrev S := Nat → Option O
def S.set (s : S) (n : Nat) (o : O) : S := fun m => if m = n then some o else s m
def S.del (s : S) (n : Nat) : S := fun m => if m = n then none else s m
theorem S.set_same {s : S} {n : Nat} {o : O} : s.set n o n = some o := by unfold S.set; rw [if_pos rfl]
theorem S.set_ne {s : S} {n m : Nat} {o : O} (h : m ≠ n) : s.set n o m = s m := by unfold S.set; rw [if_neg h]
theorem S.del_same {s : S} {n : Nat} : s.del n n = none := by unfold S.del; rw [if_pos rfl]
theorem S.del_ne {s : S} {n m : Nat} (h : m ≠ n) : s.del n m = s m := by unfold S.del; rw [if_neg h]
theorem S.set_set {s : S} {n : Nat} {o u : O} : (s.set n o).set n u = s.set n u := by
  funext m; unfold S.set; split <;> rfl
/-- which addresses are settled for good, which are held as they stand for someone around, where the cells stand -/
structure Wd where
  F : Addr → Prop
  Z : Addr → Prop
  r : Nat → Option Addr
  nx : Nat
def core : HO → HO
  | .frz _ (.dK k) => .dK k
  | .frz _ (.dT k) => .dT k
  | o => o
/-- it stays; or a dict was locked -/
def Kp (o o' : Option HO) : Prop := o' = o ∨ ∃ ob u, o = some u ∧ o' = some (.frz ob u) ∧ core (.frz ob u) = u
theorem Kp.of {o o' : Option HO} (h : o' = o) : Kp o o' := .inl h
theorem Kp.core {o o' : Option HO} (h : Kp o o') : o'.map Y.core = o.map Y.core := by
  rcases h with h | ⟨ob, u, h1, h2, h3⟩
  · rw [h]
  · rw [h1, h2]
    show some (Y.core (.frz ob u)) = some (Y.core u)
    rw [h3]
    cases u with
    | dK k => rfl
    | dT k => rfl
    | _ => cases h3
theorem Kp.trans {o o' o2 : Option HO} (h : Kp o o') (h' : Kp o' o2) : Kp o o2 := by
  rcases h with h | ⟨ob, u, h1, h2, h3⟩
  · subst h; exact h'
  · rcases h' with h' | ⟨ob', u', q1, q2, q3⟩
    · exact .inr ⟨ob, u, h1, h'.trans h2, h3⟩
    · rw [h2] at q1
      cases q1
      cases q3
theorem Kp.frz {o o' : Option HO} {ob : Obj} {u : HO} (h : Kp o o') (e : o = some (.frz ob u)) : o' = some (.frz ob u) := by
  rcases h with h | ⟨ob', u', h1, h2, h3⟩
  · rw [h, e]
  · rw [e] at h1
    cases h1
    cases h3
def Keep (W : Wd) (H H' : Hp) : Prop := ∀ a, W.F a → Kp (H a) (H' a)
structure Sub (W : Wd) (H : Hp) (W' : Wd) (H' : Hp) : Prop where
  f : ∀ a, W.F a → W'.F a
  r : ∀ n a, W.r n = some a → W'.r n = some a
  k : Keep W H H'
structure Ext (W : Wd) (H : Hp) (W' : Wd) (H' : Hp) : Prop extends Sub W H W' H' where
  z : W'.Z = W.Z
  kz : ∀ a, W.Z a → H' a = H a
theorem Ext.refl (W : Wd) (H : Hp) : Ext W H W H := ⟨⟨fun _ h => h, fun _ _ h => h, fun _ _ => Kp.of rfl⟩, rfl, fun _ _ => rfl⟩
theorem Ext.trans {W W1 W2 : Wd} {H H1 H2 : Hp} (a : Ext W H W1 H1) (b : Ext W1 H1 W2 H2) : Ext W H W2 H2 :=
  ⟨⟨fun x h => b.f x (a.f x h), fun n x h => b.r n x (a.r n x h), fun x h => (a.k x h).trans (b.k x (a.f x h))⟩, b.z.trans a.z, fun x h => (b.kz x (by rw [a.z]; exact h)).trans (a.kz x h)⟩
theorem core_lst {o : Option HO} {xs : List V} (h : o.map core = some (.lst xs)) : o = some (.lst xs) := by
  cases o with
  | none => cases h
  | some u =>
    have h' : core u = .lst xs := Option.some.inj h
    cases u with
    | frz o u => cases u <;> cases h'
    | _ => exact congrArg some h'
theorem core_tup {o : Option HO} {xs : List V} (h : o.map core = some (.tup xs)) : o = some (.tup xs) := by
  cases o with
  | none => cases h
  | some u =>
    have h' : core u = .tup xs := Option.some.inj h
    cases u with
    | frz o u => cases u <;> cases h'
    | _ => exact congrArg some h'
theorem core_frzl {o : Option HO} {ob : Obj} {xs : List V} (h : o.map core = some (.frz ob (.lst xs))) : o = some (.frz ob (.lst xs)) := by
  cases o with
  | none => cases h
  | some u =>
    have h' : core u = .frz ob (.lst xs) := Option.some.inj h
    cases u with
    | frz o u => cases u <;> first | (cases h'; done) | (cases h'; rfl)
    | _ => cases h'
theorem Keep.lst {W : Wd} {H H' : Hp} {a : Addr} {xs : List V} (k : Keep W H H') (f : W.F a) (h : H a = some (.lst xs)) : H' a = some (.lst xs) :=
  core_lst ((k a f).core.trans (by rw [h]; rfl))
theorem Keep.tup {W : Wd} {H H' : Hp} {a : Addr} {xs : List V} (k : Keep W H H') (f : W.F a) (h : H a = some (.tup xs)) : H' a = some (.tup xs) :=
  core_tup ((k a f).core.trans (by rw [h]; rfl))
theorem Keep.frzl {W : Wd} {H H' : Hp} {a : Addr} {ob : Obj} {xs : List V} (k : Keep W H H') (f : W.F a) (h : H a = some (.frz ob (.lst xs))) : H' a = some (.frz ob (.lst xs)) :=
  core_frzl ((k a f).core.trans (by rw [h]; rfl))

/-- a key as data -/
def kD : Key → D
  | .inl i => .int i
  | .inr x => .str x
/-- a list, a tuple that stands for good from outside -/
def XL (K : PySem.W.Frag) (W : Wd) (H : Hp) (a : Addr) (vs : List V) : Prop := (W.F a ∧ (H a = some (.lst vs) ∨ ∃ o, H a = some (.frz o (.lst vs)))) ∨ SqL K (fun _ => none) a vs
def XT (K : PySem.W.Frag) (W : Wd) (H : Hp) (a : Addr) (vs : List V) : Prop := (W.F a ∧ H a = some (.tup vs)) ∨ SqT K (fun _ => none) a vs
mutual
/-- at the heap H the value v stands for the data d -/
inductive Rep (K : PySem.W.Frag) (W : Wd) (H : Hp) : V → D → Prop
  | non : Rep K W H .non .non
  | bl (b : Bool) : Rep K W H (.bl b) (.bl b)
  | int (i : Int) : Rep K W H (.int i) (.int i)
  | str (x : Str) : Rep K W H (.str x) (.str x)
  | lst {a : Addr} {vs : List V} {ds : List D} : W.F a → H a = some (.lst vs) → Reps K W H vs ds → Rep K W H (.ref a) (.lst ds)
  | tup {a : Addr} {vs : List V} {ds : List D} : W.F a → H a = some (.tup vs) → Reps K W H vs ds → Rep K W H (.ref a) (.tup ds)
  | xl {a : Addr} {vs : List V} {ds : List D} : XL K W H a vs → Reps K W H vs ds → Rep K W H (.ref a) (.xl ds)
  | xt {a : Addr} {vs : List V} {ds : List D} : XT K W H a vs → Reps K W H vs ds → Rep K W H (.ref a) (.xt ds)
  | dK {a : Addr} {kvs : List (Key × V)} {ds : List (D × D)} : W.F a → (H a).map core = some (.dK kvs) → RepK K W H kvs ds → Rep K W H (.ref a) (.dic ds)
  | dT {a : Addr} {kvs : List (List Key × V)} {ds : List (D × D)} : W.F a → (H a).map core = some (.dT kvs) → RepT K W H kvs ds → Rep K W H (.ref a) (.dit ds)
  | cell {n : Nat} {a : Addr} : W.r n = some a → Rep K W H (.ref a) (.cell n)
  | adr (a : Addr) : Rep K W H (.ref a) (.adr a)
  | ty (n : String) : Rep K W H (.ty n) (.ty n)
inductive Reps (K : PySem.W.Frag) (W : Wd) (H : Hp) : List V → List D → Prop
  | nil : Reps K W H [] []
  | cons {v : V} {vs : List V} {d : D} {ds : List D} : Rep K W H v d → Reps K W H vs ds → Reps K W H (v :: vs) (d :: ds)
inductive RepK (K : PySem.W.Frag) (W : Wd) (H : Hp) : List (Key × V) → List (D × D) → Prop
  | nil : RepK K W H [] []
  | cons {k : Key} {v : V} {d : D} {kvs : List (Key × V)} {ds : List (D × D)} : Rep K W H v d → RepK K W H kvs ds → RepK K W H ((k, v) :: kvs) ((kD k, d) :: ds)
inductive RepT (K : PySem.W.Frag) (W : Wd) (H : Hp) : List (List Key × V) → List (D × D) → Prop
  | nil : RepT K W H [] []
  | cons {k : List Key} {v : V} {d : D} {kvs : List (List Key × V)} {ds : List (D × D)} : Rep K W H v d → RepT K W H kvs ds → RepT K W H ((k, v) :: kvs) ((.tup (k.map kD), d) :: ds)
end
inductive RepF (K : PySem.W.Frag) (W : Wd) (H : Hp) : List (Str × V) → List (Str × D) → Prop
  | nil : RepF K W H [] []
  | cons {f : Str} {v : V} {d : D} {fv : List (Str × V)} {fs : List (Str × D)} : Rep K W H v d → RepF K W H fv fs → RepF K W H ((f, v) :: fv) ((f, d) :: fs)
def RepO (K : PySem.W.Frag) (W : Wd) (H : Hp) (a : Addr) : O → Prop
  | .lst ds => ∃ vs, H a = some (.lst vs) ∧ Reps K W H vs ds
  | .dic ds => ∃ kvs, H a = some (.dK kvs) ∧ RepK K W H kvs ds
  | .dit ds => ∃ kvs, H a = some (.dT kvs) ∧ RepT K W H kvs ds
  | .ins C fs => ∃ dx fv, H a = some (.ins C dx fv) ∧ RepF K W H fv fs
/-- the store is borne -/
structure Rel (K : PySem.W.Frag) (W : Wd) (s : S) (H : Hp) : Prop where
  cells : ∀ n o, s n = some o → ∃ a, W.r n = some a ∧ (¬ W.F a ∧ ¬ W.Z a) ∧ RepO K W H a o
  inj : ∀ n m a, W.r n = some a → W.r m = some a → s n ≠ none → s m ≠ none → n = m
  nx : ∀ n a, W.r n = some a → n < W.nx
  fr : ∀ a, W.F a → ∃ o, H a = some o
  zf : ∀ a, W.Z a → ¬ W.F a ∧ ∃ o, H a = some o
section
variable {K : PySem.W.Frag} {W W' : Wd} {H H' : Hp} {s : S}
theorem XL.sub {a : Addr} {vs : List V} (e : Sub W H W' H') (h : XL K W H a vs) : XL K W' H' a vs := by
  rcases h with ⟨f, h | ⟨o, h⟩⟩ | h
  · exact .inl ⟨e.f _ f, .inl (e.k.lst f h)⟩
  · exact .inl ⟨e.f _ f, .inr ⟨o, e.k.frzl f h⟩⟩
  · exact .inr h
theorem XT.sub {a : Addr} {vs : List V} (e : Sub W H W' H') (h : XT K W H a vs) : XT K W' H' a vs := by
  rcases h with ⟨f, h⟩ | h
  · exact .inl ⟨e.f _ f, e.k.tup f h⟩
  · exact .inr h
mutual
theorem Rep.sub {v : V} {d : D} (e : Sub W H W' H') : Rep K W H v d → Rep K W' H' v d
  | .non => .non
  | .bl b => .bl b
  | .int i => .int i
  | .str x => .str x
  | .lst f h r => .lst (e.f _ f) (e.k.lst f h) (Reps.sub e r)
  | .tup f h r => .tup (e.f _ f) (e.k.tup f h) (Reps.sub e r)
  | .xl h r => .xl (h.sub e) (Reps.sub e r)
  | .xt h r => .xt (h.sub e) (Reps.sub e r)
  | .dK f h r => .dK (e.f _ f) ((e.k _ f).core.trans h) (RepK.sub e r)
  | .dT f h r => .dT (e.f _ f) ((e.k _ f).core.trans h) (RepT.sub e r)
  | .cell h => .cell (e.r _ _ h)
  | .adr a => .adr a
  | .ty n => .ty n
theorem Reps.sub {vs : List V} {ds : List D} (e : Sub W H W' H') : Reps K W H vs ds → Reps K W' H' vs ds
  | .nil => .nil
  | .cons r rs => .cons (Rep.sub e r) (Reps.sub e rs)
theorem RepK.sub {vs : List (Key × V)} {ds : List (D × D)} (e : Sub W H W' H') : RepK K W H vs ds → RepK K W' H' vs ds
  | .nil => .nil
  | .cons r rs => .cons (Rep.sub e r) (RepK.sub e rs)
theorem RepT.sub {vs : List (List Key × V)} {ds : List (D × D)} (e : Sub W H W' H') : RepT K W H vs ds → RepT K W' H' vs ds
  | .nil => .nil
  | .cons r rs => .cons (Rep.sub e r) (RepT.sub e rs)
end
theorem Rep.mono {v : V} {d : D} (e : Ext W H W' H') (h : Rep K W H v d) : Rep K W' H' v d := h.sub e.toSub
theorem Reps.mono {vs : List V} {ds : List D} (e : Ext W H W' H') (h : Reps K W H vs ds) : Reps K W' H' vs ds := h.sub e.toSub
theorem RepK.mono {vs : List (Key × V)} {ds : List (D × D)} (e : Ext W H W' H') (h : RepK K W H vs ds) : RepK K W' H' vs ds := h.sub e.toSub
theorem RepT.mono {vs : List (List Key × V)} {ds : List (D × D)} (e : Ext W H W' H') (h : RepT K W H vs ds) : RepT K W' H' vs ds := h.sub e.toSub
theorem RepF.sub {fv : List (Str × V)} {fs : List (Str × D)} (e : Sub W H W' H') (h : RepF K W H fv fs) : RepF K W' H' fv fs := by
  induction h with
  | nil => exact .nil
  | cons r _ ih => exact .cons (r.sub e) ih
theorem RepF.mono {fv : List (Str × V)} {fs : List (Str × D)} (e : Ext W H W' H') (h : RepF K W H fv fs) : RepF K W' H' fv fs := h.sub e.toSub
/-- an object's description, where its own address keeps its content -/
theorem RepO.sub {a : Addr} {o : O} (e : Sub W H W' H') (ha : H' a = H a) (h : RepO K W H a o) : RepO K W' H' a o := by
  cases o with
  | lst ds => obtain ⟨vs, h1, h2⟩ := h; exact ⟨vs, ha.trans h1, h2.sub e⟩
  | dic ds => obtain ⟨vs, h1, h2⟩ := h; exact ⟨vs, ha.trans h1, h2.sub e⟩
  | dit ds => obtain ⟨vs, h1, h2⟩ := h; exact ⟨vs, ha.trans h1, h2.sub e⟩
  | ins C fs => obtain ⟨dx, fv, h1, h2⟩ := h; exact ⟨dx, fv, ha.trans h1, h2.sub e⟩
theorem RepO.mono {a : Addr} {o : O} (e : Ext W H W' H') (ha : H' a = H a) (h : RepO K W H a o) : RepO K W' H' a o := h.sub e.toSub ha
theorem RepO.there {a : Addr} {o : O} (h : RepO K W H a o) : ∃ u, H a = some u := by
  cases o with
  | lst ds => obtain ⟨vs, h1, h2⟩ := h; exact ⟨_, h1⟩
  | dic ds => obtain ⟨vs, h1, h2⟩ := h; exact ⟨_, h1⟩
  | dit ds => obtain ⟨vs, h1, h2⟩ := h; exact ⟨_, h1⟩
  | ins C fs => obtain ⟨dx, fv, h1, h2⟩ := h; exact ⟨_, h1⟩
theorem Reps.length {vs : List V} {ds : List D} (h : Reps K W H vs ds) : vs.length = ds.length := by
  induction vs generalizing ds with
  | nil => cases h; rfl
  | cons v vs ih => cases h with | cons _ r => simp [ih r]
theorem Reps.app {vs us : List V} {ds es : List D} (h : Reps K W H vs ds) (h' : Reps K W H us es) : Reps K W H (vs ++ us) (ds ++ es) := by
  induction vs generalizing ds with
  | nil => cases h; exact h'
  | cons v vs ih => cases h with | cons a r => exact .cons a (ih r)
theorem Reps.get {vs : List V} {ds : List D} {i : Nat} {d : D} (h : Reps K W H vs ds) (e : ds[i]? = some d) : ∃ v, vs[i]? = some v ∧ Rep K W H v d := by
  induction vs generalizing ds i with
  | nil => cases h; simp at e
  | cons v vs ih =>
    cases h with
    | cons a r =>
      cases i with
      | zero => simp at e; subst e; exact ⟨v, rfl, a⟩
      | succ i =>
        obtain ⟨w, e1, e2⟩ := ih r (i := i) (by simpa using e)
        exact ⟨w, by simpa using e1, e2⟩
theorem Reps.getV {vs : List V} {ds : List D} {i : Nat} {v : V} (h : Reps K W H vs ds) (e : vs[i]? = some v) : ∃ d, ds[i]? = some d ∧ Rep K W H v d := by
  induction vs generalizing ds i with
  | nil => cases h; simp at e
  | cons v' vs ih =>
    cases h with
    | cons a r =>
      cases i with
      | zero => simp at e; subst e; exact ⟨_, rfl, a⟩
      | succ i =>
        obtain ⟨w, e1, e2⟩ := ih r (i := i) (by simpa using e)
        exact ⟨w, by simpa using e1, e2⟩
theorem Reps.take {vs : List V} {ds : List D} (n : Nat) (h : Reps K W H vs ds) : Reps K W H (vs.take n) (ds.take n) := by
  induction vs generalizing ds n with
  | nil => cases h; simp; exact .nil
  | cons v vs ih =>
    cases h with
    | cons a r =>
      cases n with
      | zero => exact .nil
      | succ n => exact .cons a (ih n r)
theorem Reps.drop {vs : List V} {ds : List D} (n : Nat) (h : Reps K W H vs ds) : Reps K W H (vs.drop n) (ds.drop n) := by
  induction vs generalizing ds n with
  | nil => cases h; simp; exact .nil
  | cons v vs ih =>
    cases h with
    | cons a r =>
      cases n with
      | zero => exact .cons a r
      | succ n => exact ih n r
theorem Reps.set {vs : List V} {ds : List D} {i : Nat} {v : V} {d : D} (h : Reps K W H vs ds) (q : Rep K W H v d) : Reps K W H (vs.set i v) (ds.set i d) := by
  induction vs generalizing ds i with
  | nil => cases h; exact .nil
  | cons v vs ih =>
    cases h with
    | cons a r =>
      cases i with
      | zero => exact .cons q r
      | succ i => exact .cons a (ih r)
theorem Reps.reverse {vs : List V} {ds : List D} (h : Reps K W H vs ds) : Reps K W H vs.reverse ds.reverse := by
  induction vs generalizing ds with
  | nil => cases h; exact .nil
  | cons v vs ih =>
    cases h with
    | cons a r =>
      simp only [List.reverse_cons]
      exact (ih r).app (.cons a .nil)
theorem Reps.eraseIdx {vs : List V} {ds : List D} {i : Nat} (h : Reps K W H vs ds) : Reps K W H (vs.eraseIdx i) (ds.eraseIdx i) := by
  induction vs generalizing ds i with
  | nil => cases h; exact .nil
  | cons v vs ih =>
    cases h with
    | cons a r =>
      cases i with
      | zero => exact r
      | succ i => exact .cons a (ih r)

/-! ### steps of the state -/
/-- a new settled object -/
def Wd.add (W : Wd) (p : Addr) : Wd := { W with F := fun a => W.F a ∨ a = p }
theorem Ext.add {p : Addr} {u : HO} (R : Rel K W s H) (hp : H p = none) : Ext W H (W.add p) (upd H p u) :=
  ⟨⟨fun _ h => .inl h, fun _ _ h => h, fun a f => Kp.of (by
    obtain ⟨o, e⟩ := R.fr a f
    rw [upd_ne (ne_of_none e hp)])⟩, rfl, fun a z => by
    obtain ⟨_, o, e⟩ := R.zf a z
    rw [upd_ne (ne_of_none e hp)]⟩
theorem Rel.add {p : Addr} {u : HO} (R : Rel K W s H) (hp : H p = none) : Rel K (W.add p) s (upd H p u) := by
  refine ⟨fun n o e => ?_, R.inj, R.nx, fun a f => ?_, fun a z => ?_⟩
  · obtain ⟨a, h1, h2, h3⟩ := R.cells n o e
    obtain ⟨v, hv⟩ := h3.there
    have ne : a ≠ p := ne_of_none hv hp
    refine ⟨a, h1, ⟨fun z => ?_, h2.2⟩, h3.mono (Ext.add R hp) (upd_ne ne)⟩
    rcases z with z | z
    · exact h2.1 z
    · exact ne z
  · rcases f with f | f
    · obtain ⟨o, e⟩ := R.fr a f
      exact ⟨o, by rw [upd_ne (ne_of_none e hp)]; exact e⟩
    · subst f; exact ⟨u, upd_same⟩
  · obtain ⟨h1, o, e⟩ := R.zf a z
    have ne : a ≠ p := ne_of_none e hp
    refine ⟨fun q => ?_, o, by rw [upd_ne ne]; exact e⟩
    rcases q with q | q
    · exact h1 q
    · exact ne q
/-- a new cell -/
def Wd.new (W : Wd) (p : Addr) : Wd := { W with r := fun n => if n = W.nx then some p else W.r n, nx := W.nx + 1 }
theorem Rel.nxr (R : Rel K W s H) : W.r W.nx = none := by
  cases e : W.r W.nx with
  | none => rfl
  | some a => exact absurd (R.nx _ _ e) (Nat.lt_irrefl _)
theorem Rel.nxs (R : Rel K W s H) : s W.nx = none := by
  cases e : s W.nx with
  | none => rfl
  | some o =>
    obtain ⟨a, h1, _⟩ := R.cells _ _ e
    rw [R.nxr] at h1; cases h1
theorem Ext.new {p : Addr} {H' : Hp} (R : Rel K W s H) (hk : ∀ a u, H a = some u → H' a = some u) : Ext W H (W.new p) H' :=
  ⟨⟨fun _ h => h, fun n a h => by
    show (if n = W.nx then some p else W.r n) = some a
    rw [if_neg (fun e => by subst e; rw [R.nxr] at h; cases h)]; exact h, fun a f => Kp.of (by
    obtain ⟨u, e⟩ := R.fr a f
    rw [hk a u e, e])⟩, rfl, fun a z => by
    obtain ⟨_, u, e⟩ := R.zf a z
    rw [hk a u e, e]⟩
/-- the new object at p; other addresses may have come beside it (an instance's own dict) -/
theorem Rel.new {p : Addr} {o : O} {H' : Hp} (R : Rel K W s H) (hp : H p = none) (hk : ∀ a u, H a = some u → H' a = some u) (ho : RepO K (W.new p) H' p o) : Rel K (W.new p) (s.set W.nx o) H' := by
  have kp := hk
  have nZ : ¬ W.Z p := fun z => by
    obtain ⟨_, u, e⟩ := R.zf p z
    rw [hp] at e; cases e
  have nF : ¬ W.F p := fun z => by
    obtain ⟨u, e⟩ := R.fr p z
    rw [hp] at e; cases e
  refine ⟨fun n o' e => ?_, fun n m a h1 h2 l1 l2 => ?_, fun n a h => ?_, fun a f => ?_, fun a z => ?_⟩
  · by_cases hn : n = W.nx
    · subst hn
      rw [S.set_same] at e; cases e
      exact ⟨p, by show (if W.nx = W.nx then some p else _) = some p; rw [if_pos rfl], ⟨nF, nZ⟩, ho⟩
    · rw [S.set_ne hn] at e
      obtain ⟨a, h1, h2, h3⟩ := R.cells n o' e
      obtain ⟨v, hv⟩ := h3.there
      exact ⟨a, (Ext.new R kp).r _ _ h1, h2, h3.mono (Ext.new R kp) ((hk a v hv).trans hv.symm)⟩
  · have live : ∀ n, n ≠ W.nx → s.set W.nx o n ≠ none → W.r n = some a → a ≠ p := fun n hn l h => by
      rw [S.set_ne hn] at l
      cases e : s n with
      | none => exact absurd e l
      | some o' =>
        obtain ⟨b, q1, q2, q3⟩ := R.cells n o' e
        rw [h] at q1; cases q1
        obtain ⟨v, hv⟩ := q3.there
        exact ne_of_none hv hp
    have u1 : (if n = W.nx then some p else W.r n) = some a := h1
    have u2 : (if m = W.nx then some p else W.r m) = some a := h2
    by_cases hn : n = W.nx
    · by_cases hm : m = W.nx
      · rw [hn, hm]
      · rw [if_pos hn] at u1
        rw [if_neg hm] at u2
        cases u1
        exact absurd rfl (live m hm l2 u2)
    · by_cases hm : m = W.nx
      · rw [if_neg hn] at u1
        rw [if_pos hm] at u2
        cases u2
        exact absurd rfl (live n hn l1 u1)
      · rw [if_neg hn] at u1
        rw [if_neg hm] at u2
        rw [S.set_ne hn] at l1
        rw [S.set_ne hm] at l2
        exact R.inj n m a u1 u2 l1 l2
  · have u1 : (if n = W.nx then some p else W.r n) = some a := h
    show n < W.nx + 1
    by_cases hn : n = W.nx
    · omega
    · rw [if_neg hn] at u1
      have := R.nx n a u1
      omega
  · obtain ⟨u, e⟩ := R.fr a f
    exact ⟨u, hk a u e⟩
  · obtain ⟨h1, u, e⟩ := R.zf a z
    exact ⟨h1, u, hk a u e⟩
theorem Wd.new_r (W : Wd) (p : Addr) : (W.new p).r W.nx = some p := by show (if W.nx = W.nx then some p else _) = some p; rw [if_pos rfl]
/-- a cell is written -/
theorem Ext.write {n : Nat} {o : O} {a : Addr} {u : HO} (R : Rel K W s H) (hn : s n = some o) (ha : W.r n = some a) : Ext W H W (upd H a u) :=
  ⟨⟨fun _ h => h, fun _ _ h => h, fun b f => Kp.of (by
    obtain ⟨c, h1, h2, _⟩ := R.cells n o hn
    rw [ha] at h1; cases h1
    rw [upd_ne (by intro z; subst z; exact h2.1 f)])⟩, rfl, fun b z => by
    obtain ⟨c, h1, h2, _⟩ := R.cells n o hn
    rw [ha] at h1; cases h1
    rw [upd_ne (by intro q; subst q; exact h2.2 z)]⟩
theorem Rel.write {n : Nat} {o o' : O} {a : Addr} {u : HO} (R : Rel K W s H) (hn : s n = some o) (ha : W.r n = some a) (ho : RepO K W (upd H a u) a o') : Rel K W (s.set n o') (upd H a u) := by
  obtain ⟨c, q1, q2, _⟩ := R.cells n o hn
  rw [ha] at q1; cases q1
  refine ⟨fun m o1 e => ?_, fun m k b h1 h2 l1 l2 => R.inj m k b h1 h2 ?_ ?_, R.nx, fun b f => ?_, fun b z => ?_⟩
  · by_cases hm : m = n
    · subst hm
      rw [S.set_same] at e; cases e
      exact ⟨a, ha, q2, ho⟩
    · rw [S.set_ne hm] at e
      obtain ⟨b, h1, h2, h3⟩ := R.cells m o1 e
      refine ⟨b, h1, h2, h3.mono (Ext.write R hn ha) (upd_ne fun z => ?_)⟩
      subst z
      exact hm (R.inj m n b h1 ha (by rw [e]; simp) (by rw [hn]; simp))
  · by_cases hm : m = n
    · subst hm; rw [hn]; simp
    · rw [S.set_ne hm] at l1; exact l1
  · by_cases hm : k = n
    · subst hm; rw [hn]; simp
    · rw [S.set_ne hm] at l2; exact l2
  · obtain ⟨v, e⟩ := R.fr b f
    exact ⟨v, by rw [upd_ne (by intro z; subst z; exact q2.1 f)]; exact e⟩
  · obtain ⟨h1, v, e⟩ := R.zf b z
    exact ⟨h1, v, by rw [upd_ne (by intro q; subst q; exact q2.2 z)]; exact e⟩
/-- a cell is settled -/
theorem Ext.fix (a : Addr) : Ext W H (W.add a) H := ⟨⟨fun _ h => .inl h, fun _ _ h => h, fun _ _ => Kp.of rfl⟩, rfl, fun _ _ => rfl⟩
theorem Rel.fix {n : Nat} {o : O} {a : Addr} (R : Rel K W s H) (hn : s n = some o) (ha : W.r n = some a) : Rel K (W.add a) (s.del n) H := by
  obtain ⟨c, q1, q2, q3⟩ := R.cells n o hn
  rw [ha] at q1; cases q1
  refine ⟨fun m o1 e => ?_, fun m k b h1 h2 l1 l2 => R.inj m k b h1 h2 ?_ ?_, R.nx, fun b f => ?_, fun b z => ?_⟩
  · by_cases hm : m = n
    · subst hm
      rw [S.del_same] at e; cases e
    · rw [S.del_ne hm] at e
      obtain ⟨b, h1, h2, h3⟩ := R.cells m o1 e
      refine ⟨b, h1, ⟨fun z => ?_, h2.2⟩, h3.mono (Ext.fix a) rfl⟩
      rcases z with z | z
      · exact h2.1 z
      · subst z
        exact hm (R.inj m n b h1 ha (by rw [e]; simp) (by rw [hn]; simp))
  · by_cases hm : m = n
    · subst hm; rw [hn]; simp
    · rw [S.del_ne hm] at l1; exact l1
  · by_cases hm : k = n
    · subst hm; rw [hn]; simp
    · rw [S.del_ne hm] at l2; exact l2
  · rcases f with f | f
    · exact R.fr b f
    · subst f; exact q3.there
  · obtain ⟨h1, v, e⟩ := R.zf b z
    refine ⟨fun q => ?_, v, e⟩
    rcases q with q | q
    · exact h1 q
    · subst q; exact q2.2 z
/-- a settled dict is locked -/
theorem Ext.lock {a : Addr} {ob : Obj} {u : HO} (R : Rel K W s H) (f : W.F a) (e : H a = some u) (c : core (.frz ob u) = u) : Ext W H W (upd H a (.frz ob u)) :=
  ⟨⟨fun _ h => h, fun _ _ h => h, fun b _ => by
    by_cases z : b = a
    · subst z
      exact .inr ⟨ob, u, e, upd_same, c⟩
    · exact Kp.of (upd_ne z)⟩, rfl, fun b z => upd_ne (by intro q; subst q; exact (R.zf _ z).1 f)⟩
theorem Rel.lock {a : Addr} {ob : Obj} {u : HO} (R : Rel K W s H) (f : W.F a) (e : H a = some u) (c : core (.frz ob u) = u) : Rel K W s (upd H a (.frz ob u)) := by
  refine ⟨fun n o q => ?_, R.inj, R.nx, fun b g => ?_, fun b z => ?_⟩
  · obtain ⟨b, h1, h2, h3⟩ := R.cells n o q
    have ne : b ≠ a := by intro z; subst z; exact h2.1 f
    exact ⟨b, h1, h2, h3.mono (Ext.lock R f e c) (upd_ne ne)⟩
  · by_cases z : b = a
    · subst z; exact ⟨_, upd_same⟩
    · obtain ⟨o, q⟩ := R.fr b g
      exact ⟨o, by rw [upd_ne z]; exact q⟩
  · obtain ⟨h1, o, q⟩ := R.zf b z
    exact ⟨h1, o, by rw [upd_ne (by intro y; subst y; exact h1 f)]; exact q⟩
/-! ### an object that is held -/
def Wd.hold (W : Wd) (p : Addr) : Wd := { W with Z := fun a => W.Z a ∨ a = p }
def Wd.wz (W : Wd) (Z : Addr → Prop) : Wd := { W with Z := Z }
theorem Sub.hold {p : Addr} {u : HO} (R : Rel K W s H) (hp : H p = none) : Sub W H (W.hold p) (upd H p u) :=
  ⟨fun _ h => h, fun _ _ h => h, (Ext.add R hp).k⟩
theorem Rel.hold {p : Addr} {u : HO} (R : Rel K W s H) (hp : H p = none) : Rel K (W.hold p) s (upd H p u) := by
  refine ⟨fun n o e => ?_, R.inj, R.nx, fun a f => ?_, fun a z => ?_⟩
  · obtain ⟨a, h1, h2, h3⟩ := R.cells n o e
    obtain ⟨v, hv⟩ := h3.there
    have ne : a ≠ p := ne_of_none hv hp
    exact ⟨a, h1, ⟨h2.1, fun z => z.elim h2.2 ne⟩, h3.sub (Sub.hold R hp) (upd_ne ne)⟩
  · obtain ⟨o, e⟩ := R.fr a f
    exact ⟨o, by rw [upd_ne (ne_of_none e hp)]; exact e⟩
  · rcases z with z | z
    · obtain ⟨h1, o, e⟩ := R.zf a z
      exact ⟨h1, o, by rw [upd_ne (ne_of_none e hp)]; exact e⟩
    · subst z
      refine ⟨fun f => ?_, u, upd_same⟩
      obtain ⟨o, e⟩ := R.fr _ f
      rw [hp] at e; cases e
/-- a held object is changed -/
theorem Sub.rehold {p : Addr} {u : HO} (R : Rel K W s H) (hz : W.Z p) : Sub W H W (upd H p u) :=
  ⟨fun _ h => h, fun _ _ h => h, fun a f => Kp.of (by rw [upd_ne (by intro z; subst z; exact (R.zf _ hz).1 f)])⟩
theorem Rel.rehold {p : Addr} {u : HO} (R : Rel K W s H) (hz : W.Z p) : Rel K W s (upd H p u) := by
  refine ⟨fun n o e => ?_, R.inj, R.nx, fun a f => ?_, fun a z => ?_⟩
  · obtain ⟨a, h1, h2, h3⟩ := R.cells n o e
    have ne : a ≠ p := by intro z; subst z; exact h2.2 hz
    exact ⟨a, h1, h2, h3.sub (Sub.rehold R hz) (upd_ne ne)⟩
  · obtain ⟨o, e⟩ := R.fr a f
    exact ⟨o, by rw [upd_ne (by intro z; subst z; exact (R.zf _ hz).1 f)]; exact e⟩
  · obtain ⟨h1, o, e⟩ := R.zf a z
    by_cases hp : a = p
    · exact ⟨h1, u, by rw [hp]; exact upd_same⟩
    · exact ⟨h1, o, by rw [upd_ne hp]; exact e⟩
/-- what is held alters nothing of what values stand for -/
theorem Sub.wz (Z : Addr → Prop) : Sub W H (W.wz Z) H := ⟨fun _ h => h, fun _ _ h => h, fun _ _ => Kp.of rfl⟩
theorem Rel.wz {Z : Addr → Prop} (R : Rel K W s H) (h : ∀ a, Z a → W.Z a) : Rel K (W.wz Z) s H :=
  ⟨fun n o e => let ⟨a, h1, h2, h3⟩ := R.cells n o e; ⟨a, h1, ⟨h2.1, fun z => h2.2 (h a z)⟩, h3.sub (Sub.wz Z) rfl⟩, R.inj, R.nx, R.fr, fun a z => R.zf a (h a z)⟩
end
end Y


set_option autoImplicit false
/-! Y2: readings over plain data, lifted to the hand layer's readings; operators, comparisons, subscripts. -/
namespace Y
open PySem PySem.Spec PyProof.Rows L2

abbrev St := L2.St
abbrev Nv := List (Option D)
structure RelE (K : PySem.W.Frag) (W : Wd) (H : Hp) (e : Nv) (σ : St) : Prop where
  len : e.length = σ.length
  at_ : ∀ (i : Nat) (d : D), e[i]? = some (some d) → ∃ v, σ[i]? = some (some v) ∧ Rep K W H v d
abbrev DTE := Nv → S → (D → S → Prop) → Prop
abbrev DTT := Nv → S → (Bool → S → Prop) → Prop
abbrev DTA := Nv → S → (List D → S → Prop) → Prop
/-- what every state is known to lie behind -/
structure Lk where
  p : Wd → Hp → Prop
  up : ∀ {W H W' H'}, p W H → Ext W H W' H' → p W' H'
/-- a state -/
structure Stt (K : PySem.W.Frag) (L : Lk) (W : Wd) (e : Nv) (s : S) (σ : St) (H : Hp) : Prop where
  ext : L.p W H
  env : RelE K W H e σ
  rel : Rel K W s H
theorem RelE.mono {K : PySem.W.Frag} {W W' : Wd} {H H' : Hp} {e : Nv} {σ : St} (h : RelE K W H e σ) (x : Ext W H W' H') : RelE K W' H' e σ :=
  ⟨h.len, fun i d q => let ⟨v, a, b⟩ := h.at_ i d q; ⟨v, a, b.mono x⟩⟩
theorem RelE.set {K : PySem.W.Frag} {W : Wd} {H : Hp} {e : Nv} {σ : St} {i : Nat} {v : V} {d : D} (h : RelE K W H e σ) (r : Rep K W H v d) : RelE K W H (e.set i (some d)) (σ.set i (some v)) := by
  refine ⟨by simp [h.len], fun j c q => ?_⟩
  by_cases hj : i = j
  · subst hj
    by_cases hl : i < e.length
    · rw [List.getElem?_set_self hl] at q
      cases q
      exact ⟨v, by rw [List.getElem?_set_self (by rw [← h.len]; exact hl)], r⟩
    · rw [List.getElem?_eq_none (by simpa using hl)] at q; cases q
  · rw [List.getElem?_set_ne hj] at q
    obtain ⟨w, a, b⟩ := h.at_ j c q
    exact ⟨w, by rw [List.getElem?_set_ne hj]; exact a, b⟩
theorem Stt.after {K : PySem.W.Frag} {L : Lk} {W W' : Wd} {e : Nv} {s s' : S} {σ : St} {H H' : Hp} (h : Stt K L W e s σ H) (x : Ext W H W' H') (r : Rel K W' s' H') : Stt K L W' e s' σ H' := ⟨L.up h.ext x, h.env.mono x, r⟩
def lift (K : PySem.W.Frag) (L : Lk) (t : DTE) : TE := fun σ H Q => ∃ W e s Qd, Stt K L W e s σ H ∧ t e s Qd ∧ ∀ d s' W' v H', Qd d s' → Ext W H W' H' → Rel K W' s' H' → Rep K W' H' v d → Q v H'
def liftT (K : PySem.W.Frag) (L : Lk) (t : DTT) : TT := fun σ H Q => ∃ W e s Qd, Stt K L W e s σ H ∧ t e s Qd ∧ ∀ d s' W' H', Qd d s' → Ext W H W' H' → Rel K W' s' H' → Q d H'
def liftA (K : PySem.W.Frag) (L : Lk) (t : DTA) : TA := fun σ H Q => ∃ W e s Qd, Stt K L W e s σ H ∧ t e s Qd ∧ ∀ ds s' W' vs H', Qd ds s' → Ext W H W' H' → Rel K W' s' H' → Reps K W' H' vs ds → Q vs H'
theorem _root_.L2.PE.wk {X : Cx} {e : Expr} {t t' : TE} (h : PE X e t) (w : ∀ σ H Q, t' σ H Q → t σ H Q) : PE X e t' := ⟨fun pins s σ H Q I q => h.run pins s σ H Q I (w σ H Q q)⟩
theorem _root_.L2.PT.wk {X : Cx} {e : Expr} {t t' : TT} (h : PT X e t) (w : ∀ σ H Q, t' σ H Q → t σ H Q) : PT X e t' := ⟨fun pins s σ H Q I q => h.run pins s σ H Q I (w σ H Q q)⟩
theorem _root_.L2.PW.wk {X : Cx} {e : Expr} {t t' : TT} (h : PW X e t) (w : ∀ σ H Q, t' σ H Q → t σ H Q) : PW X e t' := ⟨fun wh pins s σ H Q I q => h.run wh pins s σ H Q I (w σ H Q q)⟩
theorem _root_.L2.PA.wk {X : Cx} {e : List Expr} {t t' : TA} (h : PA X e t) (w : ∀ σ H Q, t' σ H Q → t σ H Q) : PA X e t' := ⟨fun pos pins s σ H Q I q => h.run pos pins s σ H Q I (w σ H Q q)⟩
theorem _root_.L2.PS.wk {X : Cx} {e : Stmt} {t t' : TS} (h : PS X e t) (w : ∀ D σ H, t' D σ H → t D σ H) : PS X e t' := ⟨fun pins s σ H D I q => h.run pins s σ H D I (w D σ H q)⟩
theorem _root_.L2.PSs.wk {X : Cx} {e : List Stmt} {t t' : TS} (h : PSs X e t) (w : ∀ D σ H, t' D σ H → t D σ H) : PSs X e t' := ⟨fun pins s σ H D I q => h.run pins s σ H D I (w D σ H q)⟩
theorem OpR.wk {X : Cx} {f : Value → Value → Sem Value} {r r' : R2} (h : OpR X f r) (w : ∀ x y H Q, r' x y H Q → r x y H Q) : OpR X f r' := fun pins s σ H x y v u Q I rx ry q => h pins s σ H x y v u Q I rx ry (w x y H Q q)
theorem CallR.wk {X : Cx} {f : Value} {r r' : List V → Hp → VK → Prop} (h : CallR X f r) (w : ∀ xs H Q, r' xs H Q → r xs H Q) : CallR X f r' := fun pins s σ H xs us Q I rx q => h pins s σ H xs us Q I rx (w xs H Q q)
theorem IxR.wk {X : Cx} {r r' : R2} (h : IxR X r) (w : ∀ x y H Q, r' x y H Q → r x y H Q) : IxR X r' := fun a b pins s σ H x y v u Q I rx ry q hs => h a b pins s σ H x y v u Q I rx ry (w x y H Q q) hs
theorem MtR.wk {X : Cx} {id : String} {r r' : V → List V → Hp → VK → Prop} (h : MtR X id r) (w : ∀ x xs H Q, r' x xs H Q → r x xs H Q) : MtR X id r' := fun pins s σ H x xs v us Q I rx rs q => h pins s σ H x xs v us Q I rx rs (w x xs H Q q)
theorem SlR.wk {X : Cx} {r r' : V → Option Int → Option Int → Hp → VK → Prop} (h : SlR X r) (w : ∀ x lo hi H Q, r' x lo hi H Q → r x lo hi H Q) : SlR X r' := fun pins s σ H x v vl vu lo hi sl Q I rx a b c q => h pins s σ H x v vl vu lo hi sl Q I rx a b c (w x lo hi H Q q)
theorem TruR.wk {X : Cx} {r r' : V → Hp → (Bool → Hp → Prop) → Prop} (h : TruR X r) (w : ∀ x H Q, r' x H Q → r x H Q) : TruR X r' := fun pins s σ H x v Q I rx q => h pins s σ H x v Q I rx (w x H Q q)

/-! ### what may be read -/
def lstOf : Option O → Option (List D)
  | some (.lst xs) => some xs
  | _ => none
theorem lstOf_some {o : Option O} {xs : List D} (h : lstOf o = some xs) : o = some (.lst xs) := by
  cases o with
  | none => cases h
  | some u => cases u with
    | lst ys => cases h; rfl
    | _ => cases h
/-- the items of a list that may be read | whose object is tracked | of a tuple -/
def seqL (s : S) : D → Option (List D)
  | .lst xs => some xs
  | .xl xs => some xs
  | .cell n => lstOf (s n)
  | _ => none
def dirL (s : S) : D → Option (List D)
  | .lst xs => some xs
  | .cell n => lstOf (s n)
  | _ => none
def seqT : D → Option (List D)
  | .tup xs => some xs
  | .xt xs => some xs
  | _ => none
section
variable {K : PySem.W.Frag} {W : Wd} {H : Hp} {s : S} {v : V} {d : D} {xs : List D}
theorem XL.sq {a : Addr} {vs : List V} (h : XL K W H a vs) : SqL K H a vs := by
  rcases h with ⟨_, h | ⟨o, h⟩⟩ | h
  · exact .inl (.inl h)
  · exact .inl (.inr ⟨o, h⟩)
  · rcases h with (h | ⟨o, h⟩) | h
    · cases h
    · cases h
    · exact .inr h
theorem XT.sq {a : Addr} {vs : List V} (h : XT K W H a vs) : SqT K H a vs := by
  rcases h with ⟨_, h⟩ | h
  · exact .inl (.inl h)
  · rcases h with (h | ⟨o, h⟩) | h
    · cases h
    · cases h
    · exact .inr h
theorem Rep.cellL {n : Nat} (R : Rel K W s H) (r : Rep K W H v (.cell n)) (e : s n = some (.lst xs)) : ∃ a vs, v = .ref a ∧ W.r n = some a ∧ H a = some (.lst vs) ∧ Reps K W H vs xs := by
  cases r with
  | cell h =>
    obtain ⟨a, h1, _, vs, h2, h3⟩ := R.cells n _ e
    rw [h] at h1; cases h1
    exact ⟨_, vs, rfl, h, h2, h3⟩
theorem dirL_ok (R : Rel K W s H) (r : Rep K W H v d) (e : dirL s d = some xs) : ∃ a vs, v = .ref a ∧ H a = some (.lst vs) ∧ Reps K W H vs xs := by
  cases d with
  | lst ys => cases e; cases r with | lst _ h2 h3 => exact ⟨_, _, rfl, h2, h3⟩
  | cell n =>
    obtain ⟨a, vs, h1, _, h2, h3⟩ := r.cellL R (lstOf_some e)
    exact ⟨a, vs, h1, h2, h3⟩
  | _ => cases e
theorem seqL_ok (R : Rel K W s H) (r : Rep K W H v d) (e : seqL s d = some xs) : ∃ a vs, v = .ref a ∧ SqL K H a vs ∧ Reps K W H vs xs := by
  cases d with
  | lst ys => cases e; cases r with | lst _ h2 h3 => exact ⟨_, _, rfl, SqL.of h2, h3⟩
  | xl ys => cases e; cases r with | xl h2 h3 => exact ⟨_, _, rfl, h2.sq, h3⟩
  | cell n =>
    obtain ⟨a, vs, h1, _, h2, h3⟩ := r.cellL R (lstOf_some e)
    exact ⟨a, vs, h1, SqL.of h2, h3⟩
  | _ => cases e
theorem seqT_ok (r : Rep K W H v d) (e : seqT d = some xs) : ∃ a vs, v = .ref a ∧ SqT K H a vs ∧ Reps K W H vs xs := by
  cases d with
  | tup ys => cases e; cases r with | tup _ h2 h3 => exact ⟨_, _, rfl, SqT.of h2, h3⟩
  | xt ys => cases e; cases r with | xt h2 h3 => exact ⟨_, _, rfl, h2.sq, h3⟩
  | _ => cases e
/-- a new list, a new tuple, settled at once -/
theorem new_lst {vs : List V} {p : Addr} (R : Rel K W s H) (hp : H p = none) (r : Reps K W H vs xs) : Rep K (W.add p) (upd H p (.lst vs)) (.ref p) (.lst xs) := .lst (.inr rfl) upd_same (r.mono (Ext.add R hp))
theorem new_tup {vs : List V} {p : Addr} (R : Rel K W s H) (hp : H p = none) (r : Reps K W H vs xs) : Rep K (W.add p) (upd H p (.tup vs)) (.ref p) (.tup xs) := .tup (.inr rfl) upd_same (r.mono (Ext.add R hp))
/-- a new list as a cell -/
theorem new_cell {vs : List V} {p : Addr} (R : Rel K W s H) (hp : H p = none) (r : Reps K W H vs xs) : Ext W H (W.new p) (upd H p (.lst vs)) ∧ Rel K (W.new p) (s.set W.nx (.lst xs)) (upd H p (.lst vs)) := by
  have kk : ∀ a u, H a = some u → upd H p (.lst vs) a = some u := fun a u e => by rw [upd_ne (ne_of_none e hp)]; exact e
  have x : Ext W H (W.new p) (upd H p (.lst vs)) := Ext.new R kk
  exact ⟨x, R.new hp kk ⟨vs, upd_same, r.mono x⟩⟩
end

/-! ### two-place operations -/
abbrev DR2 := D → D → S → (D → S → Prop) → Prop
def lift2 (K : PySem.W.Frag) (r : DR2) : R2 := fun x y H Q => ∃ W s dx dy Qd, Rel K W s H ∧ Rep K W H x dx ∧ Rep K W H y dy ∧ r dx dy s Qd ∧ ∀ d s' W' v H', Qd d s' → Ext W H W' H' → Rel K W' s' H' → Rep K W' H' v d → Q v H'
def dOp (r : DR2) (ta tb : DTE) : DTE := fun e s Q => ta e s fun x s1 => tb e s1 fun y s2 => r x y s2 Q
section
variable {X : Cx} {L : Lk} {a b c : Expr} {ta tb tc : DTE} {pos : Pos} {r r' : DR2}
theorem lift2_op {σ : St} {H : Hp} {Q : VK} (h : lift X.K L (dOp r ta tb) σ H Q) : tOp (lift2 X.K r) (lift X.K L ta) (lift X.K L tb) σ H Q := by
  obtain ⟨W, e, s, Qd, st, t, k⟩ := h
  refine ⟨W, e, s, _, st, t, fun d s1 W1 v H1 q1 x1 R1 p1 => ?_⟩
  refine ⟨W1, e, s1, _, st.after x1 R1, q1, fun d2 s2 W2 u H2 q2 x2 R2 p2 => ?_⟩
  exact ⟨W2, s2, d, d2, Qd, R2, p1.mono x2, p2, q2, fun d' s' W' v' H' q x' R' r' => k d' s' W' v' H' q (x1.trans (x2.trans x')) R' r'⟩
theorem de_op {op : Operator} (ho : OpR X (binaryOp op) (lift2 X.K r)) (ha : PE X a (lift X.K L ta)) (hb : PE X b (lift X.K L tb)) : PE X (.BinOp a op b pos) (lift X.K L (dOp r ta tb)) :=
  (pe_op ho ha hb).wk fun _ _ _ h => lift2_op h
theorem de_cmp {op : CmpOp} (ho : OpR X (compareOp op) (lift2 X.K r)) (ha : PE X a (lift X.K L ta)) (hb : PE X b (lift X.K L tb)) (hm : behindInMarks op b = false) : PE X (.Compare a [op] [b] pos) (lift X.K L (dOp r ta tb)) :=
  (pe_cmpR ho ha hb hm).wk fun _ _ _ h => lift2_op h
/-- a comparison as a test -/
def dTest (t : DTE) : DTT := fun e s Q => t e s fun x s1 => match x with | .bl k => Q k s1 | _ => False
theorem dt_cmp {op : CmpOp} (ho : OpR X (compareOp op) (lift2 X.K r)) (ha : PE X a (lift X.K L ta)) (hb : PE X b (lift X.K L tb)) (hm : behindInMarks op b = false) : PT X (.Compare a [op] [b] pos) (liftT X.K L (dTest (dOp r ta tb))) := by
  refine (pt_cmpR ho ha hb hm).wk fun σ H Q h => ?_
  obtain ⟨W, e, s, Qd, st, t, k⟩ := h
  refine lift2_op ⟨W, e, s, _, st, t, fun d s' W' v H' q x R p => ?_⟩
  cases p with
  | bl b => exact ⟨b, rfl, k b s' W' H' q x R⟩
  | _ => exact q.elim
/-- a op1 b op2 c -/
def dChain (r r' : DR2) (ta tb tc : DTE) : DTE := fun e s Q => ta e s fun x s1 => tb e s1 fun y s2 => r x y s2 fun z s3 => match z with
  | .bl k => if k = true then tc e s3 fun w s4 => r' y w s4 Q else Q (.bl false) s3
  | _ => False
theorem lift2_chain {σ : St} {H : Hp} {Q : VK} (h : lift X.K L (dChain r r' ta tb tc) σ H Q) : tChain (lift2 X.K r) (lift2 X.K r') (lift X.K L ta) (lift X.K L tb) (lift X.K L tc) σ H Q := by
  obtain ⟨W, e, s, Qd, st, t, k⟩ := h
  refine ⟨W, e, s, _, st, t, fun d s1 W1 v H1 q1 x1 R1 p1 => ?_⟩
  refine ⟨W1, e, s1, _, st.after x1 R1, q1, fun d2 s2 W2 u H2 q2 x2 R2 p2 => ?_⟩
  refine ⟨W2, s2, d, d2, _, R2, p1.mono x2, p2, q2, fun d3 s3 W3 z H3 q3 x3 R3 p3 => ?_⟩
  cases p3 with
  | bl b =>
    refine ⟨b, rfl, ?_⟩
    cases b with
    | false =>
      rw [if_neg Bool.false_ne_true]
      exact k (.bl false) s3 W3 _ H3 q3 (x1.trans (x2.trans x3)) R3 (.bl false)
    | true =>
      rw [if_pos rfl]
      have q3' : tc e s3 fun w s4 => r' d2 w s4 Qd := q3
      refine ⟨W3, e, s3, _, (st.after x1 R1).after (x2.trans x3) R3, q3', fun d4 s4 W4 w H4 q4 x4 R4 p4 => ?_⟩
      exact ⟨W4, s4, d2, d4, Qd, R4, p2.mono (x3.trans x4), p4, q4, fun d' s' W' v' H' q x' R' r' => k d' s' W' v' H' q (x1.trans (x2.trans (x3.trans (x4.trans x')))) R' r'⟩
  | _ => exact q3.elim
theorem de_chain {op op' : CmpOp} (ho : OpR X (compareOp op) (lift2 X.K r)) (ho' : OpR X (compareOp op') (lift2 X.K r')) (ha : PE X a (lift X.K L ta)) (hb : PE X b (lift X.K L tb)) (hc : PE X c (lift X.K L tc)) (hm : lastMarks [op, op'] [b, c] = false) :
    PE X (.Compare a [op, op'] [b, c] pos) (lift X.K L (dChain r r' ta tb tc)) := (pe_chain ho ho' ha hb hc hm).wk fun _ _ _ h => lift2_chain h
theorem dt_chain {op op' : CmpOp} (ho : OpR X (compareOp op) (lift2 X.K r)) (ho' : OpR X (compareOp op') (lift2 X.K r')) (ha : PE X a (lift X.K L ta)) (hb : PE X b (lift X.K L tb)) (hc : PE X c (lift X.K L tc)) (hm : lastMarks [op, op'] [b, c] = false) :
    PT X (.Compare a [op, op'] [b, c] pos) (liftT X.K L (dTest (dChain r r' ta tb tc))) := by
  refine (pt_chain ho ho' ha hb hc hm).wk fun σ H Q h => ?_
  obtain ⟨W, e, s, Qd, st, t, k⟩ := h
  refine lift2_chain ⟨W, e, s, _, st, t, fun d s' W' v H' q x R p => ?_⟩
  cases p with
  | bl b => exact ⟨b, rfl, k b s' W' H' q x R⟩
  | _ => exact q.elim
end

/-! ### arithmetic -/
def dAdd : DR2 := fun x y s Q => match x, y with
  | .int i, .int j => Q (.int (i + j)) s
  | .str a, .str b => a.length + b.length ≤ sizeLine ∧ Q (.str (a ++ b)) s
  | .tup a, .tup b => a.length + b.length ≤ sizeLine ∧ Q (.tup (a ++ b)) s
  | x, y => match dirL s x, dirL s y with
    | some a, some b => a.length + b.length ≤ sizeLine ∧ Q (.lst (a ++ b)) s
    | _, _ => False
def dSub : DR2 := fun x y s Q => match x, y with
  | .int i, .int j => Q (.int (i - j)) s
  | _, _ => False
def dMul : DR2 := fun x y s Q => match x, y with
  | .int i, .int j => CMul i j ∧ Q (.int (i * j)) s
  | x, .int k => match dirL s x with
    | some a => -(2 ^ 63) ≤ k ∧ k < 2 ^ 63 ∧ a.length * k.toNat ≤ sizeLine ∧ Q (.lst (List.replicate k.toNat a).flatten) s
    | none => False
  | _, _ => False
def dFdiv : DR2 := fun x y s Q => match x, y with
  | .int i, .int j => CDiv i j ∧ Q (.int (i / j)) s
  | _, _ => False
def dMod : DR2 := fun x y s Q => match x, y with
  | .int i, .int j => 0 < j ∧ Q (.int (i % j)) s
  | _, _ => False
def dPow : DR2 := fun x y s Q => match x, y with
  | .int i, .int j => CPow i j ∧ Q (.int (i ^ j.toNat)) s
  | _, _ => False
section
variable {X : Cx}
theorem o_sub : OpR X (binaryOp .Sub) (lift2 X.K dSub) := OpR.wk op_sub fun x y H Q h => by
  obtain ⟨W, s, dx, dy, Qd, R, rx, ry, h, k⟩ := h
  unfold dSub at h
  split at h
  · cases rx; cases ry; exact ⟨_, _, rfl, rfl, k _ _ W _ H h (Ext.refl W H) R (.int _)⟩
  · exact h.elim
theorem o_fdiv : OpR X (binaryOp .FloorDiv) (lift2 X.K dFdiv) := OpR.wk op_fdiv fun x y H Q h => by
  obtain ⟨W, s, dx, dy, Qd, R, rx, ry, h, k⟩ := h
  unfold dFdiv at h
  split at h
  · cases rx; cases ry; exact ⟨_, _, rfl, rfl, h.1, k _ _ W _ H h.2 (Ext.refl W H) R (.int _)⟩
  · exact h.elim
theorem o_mod : OpR X (binaryOp .Mod) (lift2 X.K dMod) := OpR.wk op_mod fun x y H Q h => by
  obtain ⟨W, s, dx, dy, Qd, R, rx, ry, h, k⟩ := h
  unfold dMod at h
  split at h
  · cases rx; cases ry; exact ⟨_, _, rfl, rfl, h.1, k _ _ W _ H h.2 (Ext.refl W H) R (.int _)⟩
  · exact h.elim
theorem o_pow : OpR X (binaryOp .Pow) (lift2 X.K dPow) := OpR.wk op_pow fun x y H Q h => by
  obtain ⟨W, s, dx, dy, Qd, R, rx, ry, h, k⟩ := h
  unfold dPow at h
  split at h
  · cases rx; cases ry; exact ⟨_, _, rfl, rfl, h.1, k _ _ W _ H h.2 (Ext.refl W H) R (.int _)⟩
  · exact h.elim
theorem Reps.rep {K : PySem.W.Frag} {W : Wd} {H : Hp} {vs : List V} {ds : List D} (r : Reps K W H vs ds) : ∀ n : Nat, Reps K W H (List.replicate n vs).flatten (List.replicate n ds).flatten
  | 0 => .nil
  | n + 1 => by
    rw [List.replicate_succ, List.replicate_succ, List.flatten_cons, List.flatten_cons]
    exact r.app (Reps.rep r n)
theorem o_add : OpR X (binaryOp .Add) (lift2 X.K dAdd) := OpR.wk (((op_add.or op_add_str).or op_catA).or op_cat) fun x y H Q h => by
  obtain ⟨W, s, dx, dy, Qd, R, rx, ry, h, k⟩ := h
  unfold dAdd at h
  split at h
  · cases rx; cases ry; exact .inl (.inl (.inl ⟨_, _, rfl, rfl, k _ _ W _ H h (Ext.refl W H) R (.int _)⟩))
  · cases rx; cases ry; exact .inl (.inl (.inr ⟨_, _, rfl, rfl, h.1, k _ _ W _ H h.2 (Ext.refl W H) R (.str _)⟩))
  · cases rx with
    | tup fa qa ra =>
      cases ry with
      | tup fb qb rb =>
        refine .inl (.inr ⟨_, _, _, _, rfl, rfl, SqT.of qa, SqT.of qb, by rw [ra.length, rb.length]; exact h.1, fun z => ?_, fun z z' => ?_, fun z z' p hp => ?_⟩)
        · subst z
          cases ra
          exact k _ _ W _ H h.2 (Ext.refl W H) R (.tup fb qb rb)
        · subst z'
          cases rb
          have e := h.2
          rw [List.append_nil] at e
          exact k _ _ W _ H e (Ext.refl W H) R (.tup fa qa ra)
        · exact k _ _ _ _ _ h.2 (Ext.add R hp) (Rel.add R hp) (new_tup R hp (ra.app rb))
  · split at h
    · rename_i ea eb
      obtain ⟨pa, va, rfl, qa, ra⟩ := dirL_ok R rx ea
      obtain ⟨pb, vb, rfl, qb, rb⟩ := dirL_ok R ry eb
      refine .inr ⟨pa, pb, va, vb, rfl, rfl, qa, qb, by rw [ra.length, rb.length]; exact h.1, fun p hp => ?_⟩
      exact k _ _ _ _ _ h.2 (Ext.add R hp) (Rel.add R hp) (new_lst R hp (ra.app rb))
    · exact h.elim
end

/-! ### dicts whose keys are ints and texts -/
def keyK : D → Option Key
  | .int i => some (.inl i)
  | .str x => some (.inr x)
  | _ => none
def dicOf : Option O → Option (List (D × D))
  | some (.dic kvs) => some kvs
  | _ => none
theorem dicOf_some {o : Option O} {xs : List (D × D)} (h : dicOf o = some xs) : o = some (.dic xs) := by
  cases o with
  | none => cases h
  | some u => cases u with
    | dic ys => cases h; rfl
    | _ => cases h
def mapD (s : S) : D → Option (List (D × D))
  | .dic kvs => some kvs
  | .cell n => dicOf (s n)
  | _ => none
def valD (kvs : List (D × D)) (k : Key) : Option D := (kvs.find? fun p => decide (keyK p.1 = some k)).map (·.2)
def putD (kvs : List (D × D)) (k : Key) (d : D) : List (D × D) :=
  if (kvs.any fun p => decide (keyK p.1 = some k)) = true then kvs.map (fun p => if keyK p.1 = some k then (p.1, d) else p) else kvs ++ [(kD k, d)]
theorem keyK_kD (k : Key) : keyK (kD k) = some k := by cases k <;> rfl
theorem kD_keyK {d : D} {k : Key} (h : keyK d = some k) : d = kD k := by
  cases d with
  | int i => cases h; rfl
  | str x => cases h; rfl
  | _ => cases h
theorem Rep.key {K : PySem.W.Frag} {W : Wd} {H : Hp} {v : V} {d : D} {k : Key} (r : Rep K W H v d) (h : keyK d = some k) : v = kV k := by
  cases r with
  | int i => cases h; rfl
  | str x => cases h; rfl
  | _ => cases h
theorem Rep.ofKey {K : PySem.W.Frag} {W : Wd} {H : Hp} (k : Key) : Rep K W H (kV k) (kD k) := by
  cases k with
  | inl i => exact .int i
  | inr x => exact .str x
section
variable {K : PySem.W.Frag} {W : Wd} {H : Hp} {s : S}
theorem core_dK {o : Option HO} {xs : List (Key × V)} (h : o.map core = some (.dK xs)) : o = some (.dK xs) ∨ ∃ ob, o = some (.frz ob (.dK xs)) := by
  cases o with
  | none => cases h
  | some u =>
    have h' : core u = .dK xs := Option.some.inj h
    cases u with
    | frz o u =>
      cases u with
      | dK k =>
        cases (show HO.dK k = HO.dK xs from h')
        exact .inr ⟨o, rfl⟩
      | dT k => exact nomatch (show HO.dT k = HO.dK xs from h')
      | _ => cases h'
    | _ => exact .inl (congrArg some h')
theorem mapD_ok {v : V} {d : D} {kvs : List (D × D)} (R : Rel K W s H) (r : Rep K W H v d) (e : mapD s d = some kvs) : ∃ a vs, v = .ref a ∧ Rd H a (.dK vs) ∧ RepK K W H vs kvs := by
  cases d with
  | dic ys =>
    cases e
    cases r with
    | dK f h rk => exact ⟨_, _, rfl, core_dK h, rk⟩
  | cell n =>
    obtain ⟨a, h1, _, vs, h2, h3⟩ := R.cells n _ (dicOf_some e)
    cases r with
    | cell h =>
      rw [h] at h1; cases h1
      exact ⟨_, vs, rfl, .inl h2, h3⟩
  | _ => cases e
theorem cellD_ok {v : V} {n : Nat} {kvs : List (D × D)} (R : Rel K W s H) (r : Rep K W H v (.cell n)) (e : s n = some (.dic kvs)) : ∃ a vs, v = .ref a ∧ W.r n = some a ∧ H a = some (.dK vs) ∧ RepK K W H vs kvs := by
  obtain ⟨a, h1, _, vs, h2, h3⟩ := R.cells n _ e
  cases r with
  | cell h =>
    rw [h] at h1; cases h1
    exact ⟨_, vs, rfl, h, h2, h3⟩
theorem RepK.length {vs : List (Key × V)} {ds : List (D × D)} (r : RepK K W H vs ds) : vs.length = ds.length := by
  induction vs generalizing ds with
  | nil => cases r; rfl
  | cons v vs ih => cases r with | cons _ r => simp [ih r]
theorem RepK.val {vs : List (Key × V)} {ds : List (D × D)} (k : Key) (r : RepK K W H vs ds) : (∀ d, valD ds k = some d → ∃ v, valV vs k = some v ∧ Rep K W H v d) ∧ (valD ds k = none → valV vs k = none) := by
  induction vs generalizing ds with
  | nil => cases r; exact ⟨fun d e => (nomatch e), fun _ => rfl⟩
  | cons p vs ih =>
    cases r with
    | @cons j v d _ ds a r =>
      obtain ⟨i1, i2⟩ := ih r
      unfold valD at i1 i2 ⊢
      unfold valV at i1 i2 ⊢
      simp only [List.find?_cons, keyK_kD, Option.some.injEq]
      by_cases e : j = k
      · rw [decide_eq_true e]
        exact ⟨fun d' q => (by cases q; exact ⟨v, rfl, a⟩), fun q => (nomatch q)⟩
      · rw [decide_eq_false e]
        exact ⟨i1, i2⟩
theorem RepK.app {vs us : List (Key × V)} {ds es : List (D × D)} (h : RepK K W H vs ds) (h' : RepK K W H us es) : RepK K W H (vs ++ us) (ds ++ es) := by
  induction vs generalizing ds with
  | nil => cases h; exact h'
  | cons v vs ih => cases h with | cons a r => exact .cons a (ih r)
theorem RepK.any {vs : List (Key × V)} {ds : List (D × D)} (k : Key) (r : RepK K W H vs ds) : (vs.any fun p => decide (p.1 = k)) = ds.any fun p => decide (keyK p.1 = some k) := by
  induction vs generalizing ds with
  | nil => cases r; rfl
  | cons p vs ih =>
    cases r with
    | cons a r =>
      rw [List.any_cons, List.any_cons, ih r]
      simp only [keyK_kD, Option.some.injEq]
theorem RepK.upd {vs : List (Key × V)} {ds : List (D × D)} (k : Key) {v : V} {d : D} (q : Rep K W H v d) (r : RepK K W H vs ds) : RepK K W H (vs.map fun p => if p.1 = k then (p.1, v) else p) (ds.map fun p => if keyK p.1 = some k then (p.1, d) else p) := by
  induction vs generalizing ds with
  | nil => cases r; exact .nil
  | cons p vs ih =>
    cases r with
    | @cons j w e _ ds a r =>
      rw [List.map_cons, List.map_cons]
      simp only [keyK_kD, Option.some.injEq]
      by_cases e : j = k
      · rw [if_pos e, if_pos e]
        exact .cons q (ih r)
      · rw [if_neg e, if_neg e]
        exact .cons a (ih r)
theorem RepK.put {vs : List (Key × V)} {ds : List (D × D)} (k : Key) {v : V} {d : D} (q : Rep K W H v d) (r : RepK K W H vs ds) : RepK K W H (putK vs k v) (putD ds k d) := by
  unfold putK putD
  rw [r.any k]
  split
  · exact r.upd k q
  · exact r.app (.cons q .nil)
theorem RepK.keys {vs : List (Key × V)} {ds : List (D × D)} (r : RepK K W H vs ds) : ds.map (·.1) = vs.map fun p => kD p.1 := by
  induction vs generalizing ds with
  | nil => cases r; rfl
  | cons p vs ih => cases r with | cons a r => rw [List.map_cons, List.map_cons, ih r]
theorem new_dic {p : Addr} (R : Rel K W s H) (hp : H p = none) : RepO K (W.add p) (upd H p (.dK [])) p (.dic []) := ⟨[], upd_same, .nil⟩
end
end Y


/-! Y3: products, comparisons, subscripts, slices, displays. -/
namespace Y
open PySem PySem.Spec PyProof.Rows L2

/-! ### data without cells -/
mutual
def D.py : D → Option PyData
  | .non => some .none
  | .bl b => some (.bool b)
  | .int i => some (.int i)
  | .str x => some (.str x)
  | .lst xs => (D.pys xs).map PyData.list
  | .xl xs => (D.pys xs).map PyData.list
  | .tup xs => (D.pys xs).map PyData.tuple
  | .xt xs => (D.pys xs).map PyData.tuple
  | .dic _ => none
  | .dit _ => none
  | .cell _ => none
  | .adr _ => none
  | .ty _ => none
def D.pys : List D → Option (List PyData)
  | [] => some []
  | d :: ds => match D.py d, D.pys ds with
    | some p, some ps => some (p :: ps)
    | _, _ => none
end
def pyS (s : S) : D → Option PyData
  | .cell n => (lstOf (s n)).bind fun xs => (D.pys xs).map PyData.list
  | d => d.py
theorem pys_cons {d : D} {ds : List D} {qs : List PyData} (h : D.pys (d :: ds) = some qs) : ∃ p ps, d.py = some p ∧ D.pys ds = some ps ∧ qs = p :: ps := by
  rw [D.pys] at h
  split at h
  · rename_i p ps e1 e2
    exact ⟨p, ps, e1, e2, (Option.some.inj h).symm⟩
  · cases h
section
variable {K : PySem.W.Frag} {W : Wd} {H : Hp} {s : S}
mutual
theorem Rep.dp {v : V} {d : D} {p : PyData} : Rep K W H v d → d.py = some p → Dp K H v p
  | .non, e => by rw [D.py] at e; cases e; exact .non
  | .bl b, e => by rw [D.py] at e; cases e; exact .bl b
  | .int b, e => by rw [D.py] at e; cases e; exact .int b
  | .str b, e => by rw [D.py] at e; cases e; exact .str b
  | .lst (ds := ds) f h r, e => by
    rw [D.py] at e
    cases q : D.pys ds with
    | none => rw [q] at e; cases e
    | some ps => rw [q] at e; cases e; exact .lst (SqL.of h) (Reps.dp r q)
  | .xl (ds := ds) h r, e => by
    rw [D.py] at e
    cases q : D.pys ds with
    | none => rw [q] at e; cases e
    | some ps => rw [q] at e; cases e; exact .lst h.sq (Reps.dp r q)
  | .tup (ds := ds) f h r, e => by
    rw [D.py] at e
    cases q : D.pys ds with
    | none => rw [q] at e; cases e
    | some ps => rw [q] at e; cases e; exact .tup (SqT.of h) (Reps.dp r q)
  | .xt (ds := ds) h r, e => by
    rw [D.py] at e
    cases q : D.pys ds with
    | none => rw [q] at e; cases e
    | some ps => rw [q] at e; cases e; exact .tup h.sq (Reps.dp r q)
  | .dK _ _ _, e => by rw [D.py] at e; cases e
  | .dT _ _ _, e => by rw [D.py] at e; cases e
  | .cell _, e => by rw [D.py] at e; cases e
  | .adr _, e => by rw [D.py] at e; cases e
  | .ty _, e => by rw [D.py] at e; cases e
theorem Reps.dp {vs : List V} {ds : List D} {ps : List PyData} : Reps K W H vs ds → D.pys ds = some ps → DpAll K H vs ps
  | .nil, e => by rw [D.pys] at e; cases e; exact .nil
  | .cons r rs, e => by
    obtain ⟨p, qs, e1, e2, rfl⟩ := pys_cons e
    exact .cons (Rep.dp r e1) (Reps.dp rs e2)
end
theorem pyS_dp {v : V} {d : D} {p : PyData} (R : Rel K W s H) (r : Rep K W H v d) (e : pyS s d = some p) : Dp K H v p := by
  cases d with
  | cell n =>
    have e : ((lstOf (s n)).bind fun xs => (D.pys xs).map PyData.list) = some p := e
    cases q : lstOf (s n) with
    | none => rw [q] at e; cases e
    | some xs =>
      rw [q] at e
      have e' : (D.pys xs).map PyData.list = some p := e
      cases q2 : D.pys xs with
      | none => rw [q2] at e'; cases e'
      | some ps =>
        rw [q2] at e'; cases e'
        obtain ⟨a, vs, rfl, _, h2, h3⟩ := r.cellL R (lstOf_some q)
        exact .lst (SqL.of h2) (h3.dp q2)
  | _ => exact r.dp e
end

/-! ### products -/
section
variable {X : Cx}
theorem map_rep {α β : Type} (f : α → β) (n : Nat) (xs : List α) : ((List.replicate n xs).flatten).map f = (List.replicate n (xs.map f)).flatten := by
  induction n with
  | zero => rfl
  | succ n ih => rw [List.replicate_succ, List.replicate_succ, List.flatten_cons, List.flatten_cons, List.map_append, ih]
theorem o_mul : OpR X (binaryOp .Mult) (lift2 X.K dMul) := OpR.wk (op_mul.or op_rep) fun x y H Q h => by
  obtain ⟨W, s, dx, dy, Qd, R, rx, ry, h, k⟩ := h
  unfold dMul at h
  split at h
  · cases rx; cases ry; exact .inl ⟨_, _, rfl, rfl, h.1, k _ _ W _ H h.2 (Ext.refl W H) R (.int _)⟩
  · split at h
    · rename_i ea
      obtain ⟨h1, h2, h3, h4⟩ := h
      obtain ⟨pa, va, rfl, qa, ra⟩ := dirL_ok R rx ea
      cases ry
      exact .inr ⟨pa, _, va, rfl, rfl, qa, h1, h2, by rw [ra.length]; exact h3, fun p hp => k _ _ _ _ _ h4 (Ext.add R hp) (Rel.add R hp) (new_lst R hp (ra.rep _))⟩
    · exact h.elim
  · exact h.elim
end

/-! ### comparisons -/
/-- == of plain scalars -/
def eqS : D → D → Option Bool
  | .non, .non => some true
  | .non, .int _ => some false | .int _, .non => some false | .non, .bl _ => some false | .bl _, .non => some false | .non, .str _ => some false | .str _, .non => some false
  | .int i, .int j => some (decide (i = j))
  | .bl i, .bl j => some (decide (i = j))
  | .str i, .str j => some (decide (i = j))
  | .int _, .str _ => some false | .str _, .int _ => some false | .bl _, .str _ => some false | .str _, .bl _ => some false
  | _, _ => none
def dEqB (x y : D) (s : S) (Q : Bool → Prop) : Prop := match eqS x y with
  | some b => Q b
  | none => match y with
    | .lst [] => (match seqL s x with
      | some xs => Q xs.isEmpty
      | none => False)
    | .tup [] => (match seqT x with
      | some xs => Q xs.isEmpty
      | none => False)
    | _ => match pyS s x, pyS s y with
      | some p, some q => SeqAt.shaped p = true ∧ SeqAt.shaped q = true ∧ Q (PyData.eqv p q)
      | _, _ => False
def dEq : DR2 := fun x y s Q => dEqB x y s fun b => Q (.bl b) s
def dNe : DR2 := fun x y s Q => dEqB x y s fun b => Q (.bl (!b)) s
/-- a list beside an empty one, a tuple beside an empty one -/
def rEq0 (K : PySem.W.Frag) (neg : Bool) : R2 := fun x y H Q => ∃ a b xs, x = .ref a ∧ y = .ref b ∧ ((SqL K H a xs ∧ SqL K H b []) ∨ (SqT K H a xs ∧ SqT K H b [])) ∧ Q (.bl (if neg then !xs.isEmpty else xs.isEmpty)) H
section
variable {X : Cx}
theorem vals_nil {us : List Value} (h : Vals [] us) : us = [] := by cases h; rfl
theorem op_eq0 (hu : X.A.units < cLine) : OpR X (compareOp .Eq) (rEq0 X.K false) := by
  intro pins s σ H x y v u Q I rx ry h
  obtain ⟨a, b, xs, rfl, rfl, h, q⟩ := h
  cases rx; cases ry
  have fin : EP X pins σ Q (.bool xs.isEmpty) s := ⟨.bl _, H, I, rfl, q⟩
  rcases h with ⟨h1, h2⟩ | ⟨h1, h2⟩
  · obtain ⟨its, r1, p1, _⟩ := I.list h1
    obtain ⟨its2, r2, p2, _⟩ := I.list h2
    cases vals_nil r2
    cases xs with
    | nil =>
      cases vals_nil r1
      exact SeqAt.RcAt.lists p1.isList p2.isList rfl hu (e := fun _ => true) (fun j h1 => absurd h1 (by simp)) _ _ _ _ fin
    | cons x xs =>
      refine SeqAt.RcAt.lists_lengths p1.isList p2.isList ?_ hu _ _ _ _ fin
      have := r1.length
      cases its with
      | nil => cases this
      | cons _ _ => simp
  · obtain ⟨its, r1, p1, _⟩ := I.tuple h1
    obtain ⟨its2, r2, p2, _⟩ := I.tuple h2
    cases vals_nil r2
    refine SeqAt.RcAt.tuples (show s.heap.IsTuple a its.toArray from p1) (show s.heap.IsTuple b _ from p2) hu (e := fun _ => true) (fun j h1 h2 => absurd h2 (by simp)) _ _ _ _ ?_
    cases xs with
    | nil => cases vals_nil r1; exact fin
    | cons x xs =>
      have := r1.length
      cases its with
      | nil => cases this
      | cons i its => exact fin
theorem op_ne0 (hu : X.A.units < cLine) : OpR X (compareOp .NotEq) (rEq0 X.K true) := by
  intro pins s σ H x y v u Q I rx ry h
  obtain ⟨a, b, xs, rfl, rfl, h, q⟩ := h
  cases rx; cases ry
  have fin : EP X pins σ Q (.bool (!xs.isEmpty)) s := ⟨.bl _, H, I, rfl, q⟩
  rcases h with ⟨h1, h2⟩ | ⟨h1, h2⟩
  · obtain ⟨its, r1, p1, _⟩ := I.list h1
    obtain ⟨its2, r2, p2, _⟩ := I.list h2
    cases vals_nil r2
    cases xs with
    | nil =>
      cases vals_nil r1
      exact SeqAt.RcNeAt.lists p1.isList p2.isList rfl hu (e := fun _ => true) (fun j h1 => absurd h1 (by simp)) _ _ _ _ fin
    | cons x xs =>
      refine SeqAt.RcNeAt.lists_lengths p1.isList p2.isList ?_ hu _ _ _ _ fin
      have := r1.length
      cases its with
      | nil => cases this
      | cons _ _ => simp
  · obtain ⟨its, r1, p1, _⟩ := I.tuple h1
    obtain ⟨its2, r2, p2, _⟩ := I.tuple h2
    cases vals_nil r2
    refine SeqAt.RcNeAt.tuples (show s.heap.IsTuple a its.toArray from p1) (show s.heap.IsTuple b _ from p2) hu (e := fun _ => true) (fun j h1 h2 => absurd h2 (by simp)) _ _ _ _ ?_
    cases xs with
    | nil => cases vals_nil r1; exact fin
    | cons x xs =>
      have := r1.length
      cases its with
      | nil => cases this
      | cons i its => exact fin
theorem eqS_V {K : PySem.W.Frag} {W : Wd} {H : Hp} {x y : V} {dx dy : D} {b : Bool} (rx : Rep K W H x dx) (ry : Rep K W H y dy) (h : eqS dx dy = some b) : scal x y = true ∧ decide (x = y) = b := by
  cases rx <;> cases ry <;> first
    | (cases h; exact ⟨rfl, by simp⟩)
    | (cases h; exact ⟨rfl, rfl⟩)
    | cases h
theorem dEqB_ok {K : PySem.W.Frag} {W : Wd} {H : Hp} {s : S} {x y : V} {dx dy : D} {Q : Bool → Prop} (R : Rel K W s H) (rx : Rep K W H x dx) (ry : Rep K W H y dy) (h : dEqB dx dy s Q) :
    (∃ b, scal x y = true ∧ decide (x = y) = b ∧ Q b) ∨ (∃ a b xs, x = .ref a ∧ y = .ref b ∧ ((SqL K H a xs ∧ SqL K H b []) ∨ (SqT K H a xs ∧ SqT K H b [])) ∧ Q xs.isEmpty) ∨
      ∃ p q, Dp K H x p ∧ Dp K H y q ∧ SeqAt.shaped p = true ∧ SeqAt.shaped q = true ∧ Q (PyData.eqv p q) := by
  unfold dEqB at h
  split at h
  · rename_i b e
    obtain ⟨h1, h2⟩ := eqS_V rx ry e
    exact .inl ⟨b, h1, h2, h⟩
  · split at h
    · split at h
      · rename_i e
        obtain ⟨a, vs, rfl, h1, h2⟩ := seqL_ok R rx e
        cases ry with
        | lst f hb r =>
          cases r
          refine .inr (.inl ⟨a, _, vs, rfl, rfl, .inl ⟨h1, SqL.of hb⟩, ?_⟩)
          cases h2 <;> exact h
      · exact h.elim
    · split at h
      · rename_i e
        obtain ⟨a, vs, rfl, h1, h2⟩ := seqT_ok rx e
        cases ry with
        | tup f hb r =>
          cases r
          refine .inr (.inl ⟨a, _, vs, rfl, rfl, .inr ⟨h1, SqT.of hb⟩, ?_⟩)
          cases h2 <;> exact h
      · exact h.elim
    · split at h
      · rename_i p q e1 e2
        exact .inr (.inr ⟨p, q, pyS_dp R rx e1, pyS_dp R ry e2, h⟩)
      · exact h.elim
theorem o_eq (hu : X.A.units + 64 < cLine) : OpR X (compareOp .Eq) (lift2 X.K dEq) := OpR.wk ((op_eq.or (op_eq0 (by omega))).or (op_eqD hu)) fun x y H Q h => by
  obtain ⟨W, s, dx, dy, Qd, R, rx, ry, h, k⟩ := h
  have fin : ∀ b, Qd (.bl b) s → Q (.bl b) H := fun b q => k _ _ W _ H q (Ext.refl W H) R (.bl b)
  rcases dEqB_ok R rx ry h with ⟨b, h1, h2, h3⟩ | ⟨a, b, xs, h1, h2, h3, h4⟩ | ⟨p, q, h1, h2, h3, h4, h5⟩
  · exact .inl (.inl ⟨h1, by rw [h2]; exact fin b h3⟩)
  · exact .inl (.inr ⟨a, b, xs, h1, h2, h3, fin _ h4⟩)
  · exact .inr ⟨p, q, h1, h2, h3, h4, fin _ h5⟩
theorem o_ne (hu : X.A.units + 64 < cLine) : OpR X (compareOp .NotEq) (lift2 X.K dNe) := OpR.wk ((op_ne.or (op_ne0 (by omega))).or (op_neD hu)) fun x y H Q h => by
  obtain ⟨W, s, dx, dy, Qd, R, rx, ry, h, k⟩ := h
  have fin : ∀ b, Qd (.bl b) s → Q (.bl b) H := fun b q => k _ _ W _ H q (Ext.refl W H) R (.bl b)
  rcases dEqB_ok R rx ry h with ⟨b, h1, h2, h3⟩ | ⟨a, b, xs, h1, h2, h3, h4⟩ | ⟨p, q, h1, h2, h3, h4, h5⟩
  · exact .inl (.inl ⟨h1, by rw [h2]; exact fin _ h3⟩)
  · exact .inl (.inr ⟨a, b, xs, h1, h2, h3, fin _ h4⟩)
  · exact .inr ⟨p, q, h1, h2, h3, h4, fin _ h5⟩
def dOrd (p : Int → Int → Bool) : DR2 := fun x y s Q => match x, y with
  | .int i, .int j => Q (.bl (p i j)) s
  | _, _ => False
theorem ord_ok {f : Value → Value → Sem Value} {p : Int → Int → Bool} (h : OpR X f (rI0 fun i j => .bl (p i j))) : OpR X f (lift2 X.K (dOrd p)) := OpR.wk h fun x y H Q h => by
  obtain ⟨W, s, dx, dy, Qd, R, rx, ry, h, k⟩ := h
  unfold dOrd at h
  split at h
  · cases rx; cases ry; exact ⟨_, _, rfl, rfl, k _ _ W _ H h (Ext.refl W H) R (.bl _)⟩
  · exact h.elim
def dIsN : DR2 := fun x y s Q => match y, x with
  | .non, .non => Q (.bl true) s
  | .non, _ => Q (.bl false) s
  | _, _ => False
def dNotN : DR2 := fun x y s Q => match y, x with
  | .non, .non => Q (.bl false) s
  | .non, _ => Q (.bl true) s
  | _, _ => False
theorem o_is : OpR X (compareOp .Is) (lift2 X.K dIsN) := OpR.wk op_isN fun x y H Q h => by
  obtain ⟨W, s, dx, dy, Qd, R, rx, ry, h, k⟩ := h
  unfold dIsN at h
  split at h
  · cases rx; cases ry; exact ⟨rfl, k _ _ W _ H h (Ext.refl W H) R (.bl _)⟩
  · cases ry
    refine ⟨rfl, ?_⟩
    have e : decide (x = V.non) = false := by
      refine decide_eq_false fun z => ?_
      subst z
      cases rx
      rename_i hh
      exact hh rfl
    rw [e]
    exact k _ _ W _ H h (Ext.refl W H) R (.bl _)
  · exact h.elim
theorem o_isnot : OpR X (compareOp .IsNot) (lift2 X.K dNotN) := OpR.wk op_notN fun x y H Q h => by
  obtain ⟨W, s, dx, dy, Qd, R, rx, ry, h, k⟩ := h
  unfold dNotN at h
  split at h
  · cases rx; cases ry; exact ⟨rfl, k _ _ W _ H h (Ext.refl W H) R (.bl _)⟩
  · cases ry
    refine ⟨rfl, ?_⟩
    have e : decide (x = V.non) = false := by
      refine decide_eq_false fun z => ?_
      subst z
      cases rx
      rename_i hh
      exact hh rfl
    rw [e]
    exact k _ _ W _ H h (Ext.refl W H) R (.bl _)
  · exact h.elim
end
end Y


/-! Y4: truth, and, or, not, names, subscripts, slices, displays, in. -/
namespace Y
open PySem PySem.Spec PyProof.Rows L2

/-! ### truth -/
def dTru (d : D) (s : S) (Q : Bool → Prop) : Prop := match d with
  | .non => Q false
  | .bl b => Q b
  | .int i => Q (i != 0)
  | .str x => x.length ≤ sizeLine ∧ Q ((x.length : Int) != 0)
  | d => match seqL s d with
    | some xs => Q (!xs.isEmpty)
    | none => match seqT d with
      | some xs => Q (!xs.isEmpty)
      | none => False
theorem isEmpty_reps {K : PySem.W.Frag} {W : Wd} {H : Hp} {vs : List V} {ds : List D} (r : Reps K W H vs ds) : vs.isEmpty = ds.isEmpty := by cases r <;> rfl
theorem dTru_ok {K : PySem.W.Frag} {W : Wd} {H : Hp} {s : S} {v : V} {d : D} {Q : Bool → Prop} (R : Rel K W s H) (r : Rep K W H v d) (h : dTru d s Q) : ∃ k, TruV K v H k ∧ Q k := by
  unfold dTru at h
  split at h
  · cases r; exact ⟨_, rfl, h⟩
  · cases r; exact ⟨_, rfl, h⟩
  · cases r; exact ⟨_, rfl, h⟩
  · cases r; exact ⟨_, ⟨h.1, rfl⟩, h.2⟩
  · split at h
    · rename_i e
      obtain ⟨a, vs, rfl, h1, h2⟩ := seqL_ok R r e
      exact ⟨_, .inl ⟨vs, h1, rfl⟩, by rw [isEmpty_reps h2]; exact h⟩
    · split at h
      · rename_i e
        obtain ⟨a, vs, rfl, h1, h2⟩ := seqT_ok r e
        exact ⟨_, .inr (.inl ⟨vs, h1, rfl⟩), by rw [isEmpty_reps h2]; exact h⟩
      · exact h.elim
section
variable {X : Cx} {L : Lk} {a b c : Expr} {ta tb tc : DTE} {u v : DTT} {pos : Pos} {rest : List Expr}
def dTruE (t : DTE) : DTT := fun e s Q => t e s fun x s1 => dTru x s1 fun k => Q k s1
theorem dt_tru (ha : PE X a (lift X.K L ta)) (he : ∀ whole, isTrue a X.env whole = (do let v ← whole; standAt a.pos; holding [v] (truthy v))) : PT X a (liftT X.K L (dTruE ta)) := by
  refine (pt_truth ha he).wk fun σ H Q h => ?_
  obtain ⟨W, e, s, Qd, st, t, k⟩ := h
  refine ⟨W, e, s, _, st, t, fun d s' W' w H' q x R p => ?_⟩
  obtain ⟨z, h1, h2⟩ := dTru_ok R p q
  exact ⟨z, h1, k z s' W' H' h2 x R⟩
def dAnd (u v : DTT) : DTT := fun e s Q => u e s fun c s1 => if c = true then v e s1 Q else Q false s1
def dOr (u v : DTT) : DTT := fun e s Q => u e s fun c s1 => if c = true then Q true s1 else v e s1 Q
def dNot (u : DTT) : DTT := fun e s Q => u e s fun c s1 => Q (!c) s1
theorem lift_and {σ : St} {H : Hp} {Q : Bool → Hp → Prop} (h : liftT X.K L (dAnd u v) σ H Q) : tAnd (liftT X.K L u) (liftT X.K L v) σ H Q := by
  obtain ⟨W, e, s, Qd, st, t, k⟩ := h
  refine ⟨W, e, s, _, st, t, fun d s1 W1 H1 q x R => ?_⟩
  cases d with
  | true =>
    rw [if_pos rfl] at q ⊢
    exact ⟨W1, e, s1, Qd, st.after x R, q, fun d2 s2 W2 H2 q2 x2 R2 => k d2 s2 W2 H2 q2 (x.trans x2) R2⟩
  | false =>
    rw [if_neg Bool.false_ne_true] at q ⊢
    exact k _ _ _ _ q x R
theorem lift_or {σ : St} {H : Hp} {Q : Bool → Hp → Prop} (h : liftT X.K L (dOr u v) σ H Q) : tOr (liftT X.K L u) (liftT X.K L v) σ H Q := by
  obtain ⟨W, e, s, Qd, st, t, k⟩ := h
  refine ⟨W, e, s, _, st, t, fun d s1 W1 H1 q x R => ?_⟩
  cases d with
  | false =>
    rw [if_neg Bool.false_ne_true] at q ⊢
    exact ⟨W1, e, s1, Qd, st.after x R, q, fun d2 s2 W2 H2 q2 x2 R2 => k d2 s2 W2 H2 q2 (x.trans x2) R2⟩
  | true =>
    rw [if_pos rfl] at q ⊢
    exact k _ _ _ _ q x R
theorem dw_and1 (ha : PT X a (liftT X.K L u)) : PW X (.BoolOp .And [a] pos) (liftT X.K L u) := pw_and1 ha
theorem dw_or1 (ha : PT X a (liftT X.K L u)) : PW X (.BoolOp .Or [a] pos) (liftT X.K L u) := pw_or1 ha
theorem dw_and (ha : PT X a (liftT X.K L u)) (hb : PW X (.BoolOp .And (b :: rest) pos) (liftT X.K L v)) : PW X (.BoolOp .And (a :: b :: rest) pos) (liftT X.K L (dAnd u v)) := (pw_and ha hb).wk fun _ _ _ h => lift_and h
theorem dw_or (ha : PT X a (liftT X.K L u)) (hb : PW X (.BoolOp .Or (b :: rest) pos) (liftT X.K L v)) : PW X (.BoolOp .Or (a :: b :: rest) pos) (liftT X.K L (dOr u v)) := (pw_or ha hb).wk fun _ _ _ h => lift_or h
theorem dt_not (ha : PT X a (liftT X.K L u)) : PT X (.UnaryOp .Not a pos) (liftT X.K L (dNot u)) := (pt_not ha).wk fun σ H Q h => by
  obtain ⟨W, e, s, Qd, st, t, k⟩ := h
  exact ⟨W, e, s, _, st, t, fun d s1 W1 H1 q x R => k _ _ _ _ q x R⟩
/-- a and b, a or b, not a as values, by truth -/
def dAndV (ta tb : DTE) : DTE := fun e s Q => ta e s fun x s1 => dTru x s1 fun k => if k = true then tb e s1 Q else Q x s1
def dOrV (ta tb : DTE) : DTE := fun e s Q => ta e s fun x s1 => dTru x s1 fun k => if k = true then Q x s1 else tb e s1 Q
def dNotV (ta : DTE) : DTE := fun e s Q => ta e s fun x s1 => dTru x s1 fun k => Q (.bl (!k)) s1
theorem de_and (ha : PE X a (lift X.K L ta)) (hb : PE X (.BoolOp .And (b :: rest) pos) (lift X.K L tb)) : PE X (.BoolOp .And (a :: b :: rest) pos) (lift X.K L (dAndV ta tb)) := (pe_andT ha hb).wk fun σ H Q h => by
  obtain ⟨W, e, s, Qd, st, t, k⟩ := h
  refine ⟨W, e, s, _, st, t, fun d s1 W1 w H1 q x R p => ?_⟩
  obtain ⟨z, h1, h2⟩ := dTru_ok R p q
  refine ⟨z, h1, ?_⟩
  cases z with
  | true =>
    rw [if_pos rfl] at h2 ⊢
    exact ⟨W1, e, s1, Qd, st.after x R, h2, fun d2 s2 W2 v2 H2 q2 x2 R2 p2 => k d2 s2 W2 v2 H2 q2 (x.trans x2) R2 p2⟩
  | false =>
    rw [if_neg Bool.false_ne_true] at h2 ⊢
    exact k _ _ _ _ _ h2 x R p
theorem de_or (ha : PE X a (lift X.K L ta)) (hb : PE X (.BoolOp .Or (b :: rest) pos) (lift X.K L tb)) : PE X (.BoolOp .Or (a :: b :: rest) pos) (lift X.K L (dOrV ta tb)) := (pe_orT ha hb).wk fun σ H Q h => by
  obtain ⟨W, e, s, Qd, st, t, k⟩ := h
  refine ⟨W, e, s, _, st, t, fun d s1 W1 w H1 q x R p => ?_⟩
  obtain ⟨z, h1, h2⟩ := dTru_ok R p q
  refine ⟨z, h1, ?_⟩
  cases z with
  | false =>
    rw [if_neg Bool.false_ne_true] at h2 ⊢
    exact ⟨W1, e, s1, Qd, st.after x R, h2, fun d2 s2 W2 v2 H2 q2 x2 R2 p2 => k d2 s2 W2 v2 H2 q2 (x.trans x2) R2 p2⟩
  | true =>
    rw [if_pos rfl] at h2 ⊢
    exact k _ _ _ _ _ h2 x R p
theorem de_not (ha : PE X a (lift X.K L ta)) : PE X (.UnaryOp .Not a pos) (lift X.K L (dNotV ta)) := (pe_notT ha).wk fun σ H Q h => by
  obtain ⟨W, e, s, Qd, st, t, k⟩ := h
  refine ⟨W, e, s, _, st, t, fun d s1 W1 w H1 q x R p => ?_⟩
  obtain ⟨z, h1, h2⟩ := dTru_ok R p q
  exact ⟨z, h1, k _ _ _ _ _ h2 x R (.bl _)⟩
def dIfE (u : DTT) (ta tb : DTE) : DTE := fun e s Q => u e s fun c s1 => if c = true then ta e s1 Q else tb e s1 Q
theorem de_ife (hc : PT X c (liftT X.K L u)) (ha : PE X a (lift X.K L ta)) (hb : PE X b (lift X.K L tb)) : PE X (.IfExp c a b pos) (lift X.K L (dIfE u ta tb)) := (pe_ifExp hc ha hb).wk fun σ H Q h => by
  obtain ⟨W, e, s, Qd, st, t, k⟩ := h
  refine ⟨W, e, s, _, st, t, fun d s1 W1 H1 q x R => ?_⟩
  cases d with
  | true =>
    rw [if_pos rfl] at q ⊢
    exact ⟨W1, e, s1, Qd, st.after x R, q, fun d2 s2 W2 v2 H2 q2 x2 R2 p2 => k d2 s2 W2 v2 H2 q2 (x.trans x2) R2 p2⟩
  | false =>
    rw [if_neg Bool.false_ne_true] at q ⊢
    exact ⟨W1, e, s1, Qd, st.after x R, q, fun d2 s2 W2 v2 H2 q2 x2 R2 p2 => k d2 s2 W2 v2 H2 q2 (x.trans x2) R2 p2⟩

/-! ### names, constants -/
def dVar (i : Nat) : DTE := fun e s Q => match e[i]? with
  | some (some d) => Q d s
  | _ => False
theorem lift_var {i : Nat} {σ : St} {H : Hp} {Q : VK} (h : lift X.K L (dVar i) σ H Q) : tVar i σ H Q := by
  obtain ⟨W, e, s, Qd, st, t, k⟩ := h
  unfold dVar at t
  split at t
  · rename_i d q
    obtain ⟨v, h1, h2⟩ := st.env.at_ i d q
    exact ⟨v, h1, k d s W v H t (Ext.refl W H) st.rel h2⟩
  · exact t.elim
def dC (d : D) : DTE := fun _ s Q => Q d s
theorem lift_c {v : V} {d : D} (hr : ∀ K W H, Rep K W H v d) {σ : St} {H : Hp} {Q : VK} (h : lift X.K L (dC d) σ H Q) : tC v σ H Q := by
  obtain ⟨W, e, s, Qd, st, t, k⟩ := h
  exact k d s W v H t (Ext.refl W H) st.rel (hr _ _ _)

/-! ### subscripts -/
def dIx : DR2 := fun x i s Q => match mapD s x with
  | some kvs => (match keyK i with
    | some κ => (match valD kvs κ with
      | some d => Q d s
      | none => False)
    | none => False)
  | none => match i with
  | .int k => (match seqL s x with
    | some xs => (match atI xs k with
      | some d => Q d s
      | none => False)
    | none => match seqT x with
      | some xs => (match atI xs k with
        | some d => Q d s
        | none => False)
      | none => match x with
        | .str z => z.length ≤ sizeLine ∧ (match atI z.cps.toList k with
          | some c => Q (.str ⟨#[c]⟩) s
          | none => False)
        | _ => False)
  | _ => False
theorem Reps.atI {K : PySem.W.Frag} {W : Wd} {H : Hp} {vs : List V} {ds : List D} {k : Int} {d : D} (r : Reps K W H vs ds) (h : L2.atI ds k = some d) : ∃ v, L2.atI vs k = some v ∧ Rep K W H v d := by
  unfold L2.atI at h ⊢
  rw [r.length]
  cases e : ixN ds.length k with
  | none => rw [e] at h; cases h
  | some j =>
    rw [e] at h
    exact r.get (i := j) h
theorem ix_dict (hu : X.A.units + 1 < cLine) : IxR X (fun x y H Q => ∃ a v, x = .ref a ∧ DGet H a y (some v) ∧ Q v H) := by
  intro value slice pins s σ H x y v u Q I rx ry h hs
  obtain ⟨a, z, rfl, g, q⟩ := h
  cases (show v = Value.ref a from rx)
  have hT := dict_typeIs I g
  have body : wpAny (model X.prog X.w) X.A (subscripted slice false (.ref a) u) (fun r t => wpAny (model X.prog X.w) X.A (letTemporaryGo value (.ref a) r >>= fun _ => pure r) (EP X pins σ Q) X.xe t) X.xe s := by
    rw [hs]
    exact wpAny_operating (d_getItem hu I g ry fun w' s1 I1 rw' => wpAny_bind (wpAny_letTemporaryGo (wpAny_pure ⟨z, H, I1, rw', q⟩)))
  unfold subscriptTail
  apply wpAny_bind
  rw [getitemInPython_of_ne hT.not_modules]
  apply wpAny_bind
  refine wpAny_specialOf hT PySem.F.slot_dict_getitem.lookup ?_
  first
    | exact wpAny_pure (wpAny_bind body)
    | exact wpAny_bind (wpAny_pure (wpAny_bind body))
    | exact wpAny_bind body
theorem x_ix (hu : X.A.units + 1 < cLine) : IxR X (lift2 X.K dIx) := IxR.wk (((ix_list.or ix_tup).or ix_str).or (ix_dict hu)) fun x y H Q h => by
  obtain ⟨W, s, dx, dy, Qd, R, rx, ry, h, k⟩ := h
  unfold dIx at h
  split at h
  · rename_i kvs em
    split at h
    · rename_i κ ek
      split at h
      · rename_i d ev
        obtain ⟨a, vs, rfl, h1, h2⟩ := mapD_ok R rx em
        obtain ⟨v, h3, h4⟩ := (h2.val κ).1 d ev
        cases ry.key ek
        exact .inr ⟨a, v, rfl, .inl ⟨vs, κ, h1, rfl, h3.symm⟩, k _ _ W _ H h (Ext.refl W H) R h4⟩
      · exact h.elim
    · exact h.elim
  refine .inl ?_
  split at h
  · cases ry
    split at h
    · rename_i e
      split at h
      · rename_i e2
        obtain ⟨a, vs, rfl, h1, h2⟩ := seqL_ok R rx e
        obtain ⟨v, h3, h4⟩ := h2.atI e2
        exact .inl (.inl ⟨a, vs, _, v, rfl, rfl, h1, h3, k _ _ W _ H h (Ext.refl W H) R h4⟩)
      · exact h.elim
    · split at h
      · rename_i e
        split at h
        · rename_i e2
          obtain ⟨a, vs, rfl, h1, h2⟩ := seqT_ok rx e
          obtain ⟨v, h3, h4⟩ := h2.atI e2
          exact .inl (.inr ⟨a, vs, _, v, rfl, rfl, h1, h3, k _ _ W _ H h (Ext.refl W H) R h4⟩)
        · exact h.elim
      · split at h
        · cases rx
          obtain ⟨h0, h⟩ := h
          split at h
          · rename_i e2
            exact .inr ⟨_, _, _, rfl, rfl, h0, e2, k _ _ W _ H h (Ext.refl W H) R (.str _)⟩
          · exact h.elim
        · exact h.elim
  · exact h.elim
theorem de_ix (hu : X.A.units + 1 < cLine) (ha : PE X a (lift X.K L ta)) (hb : PE X b (lift X.K L tb)) (hs : PlainIx b) : PE X (.Subscript a b pos) (lift X.K L (dOp dIx ta tb)) := (pe_ix (x_ix hu) ha hb hs).wk fun _ _ _ h => lift2_op h

/-! ### slices -/
def dcut {α : Type} (xs : List α) (lo hi : Option Int) : List α := (xs.drop (HT.sIx xs.length 0 lo)).take (HT.sIx xs.length xs.length hi - HT.sIx xs.length 0 lo)
abbrev DTO := Nv → S → (Option Int → S → Prop) → Prop
def dNoP : DTO := fun _ s Q => Q none s
def dPart (t : DTE) : DTO := fun e s Q => t e s fun x s1 => match x with
  | .int i => Q (some i) s1
  | _ => False
def liftO (K : PySem.W.Frag) (L : Lk) (t : DTO) : TO := fun σ H Q => ∃ W e s Qd, Stt K L W e s σ H ∧ t e s Qd ∧ ∀ d s' W' H', Qd d s' → Ext W H W' H' → Rel K W' s' H' → Q d H'
theorem _root_.L2.PO.wk {X : Cx} {e : Option Expr} {t t' : TO} (h : PO X e t) (w : ∀ σ H Q, t' σ H Q → t σ H Q) : PO X e t' := ⟨fun pins s σ H Q I q => h.run pins s σ H Q I (w σ H Q q)⟩
theorem do_none : PO X none (liftO X.K L dNoP) := po_none.wk fun σ H Q h => by
  obtain ⟨W, e, s, Qd, st, t, k⟩ := h
  exact k _ _ W H t (Ext.refl W H) st.rel
theorem do_some (h : PE X a (lift X.K L ta)) : PO X (some a) (liftO X.K L (dPart ta)) := (po_some h).wk fun σ H Q h => by
  obtain ⟨W, e, s, Qd, st, t, k⟩ := h
  refine ⟨W, e, s, _, st, t, fun d s1 W1 w H1 q x R p => ?_⟩
  cases p with
  | int i => exact ⟨i, rfl, k _ _ _ _ q x R⟩
  | _ => exact q.elim
def dSlR (x : D) (lo hi : Option Int) (s : S) (Q : D → S → Prop) : Prop := match x with
  | .str z => z.length ≤ sizeLine ∧ Q (.str (cutS z lo hi)) s
  | .tup xs => Q (.tup (dcut xs lo hi)) s
  | x => match seqL s x with
    | some xs => Q (.lst (dcut xs lo hi)) s
    | none => False
def dSl (te : DTE) (tl th : DTO) : DTE := fun e s Q => te e s fun x s1 => tl e s1 fun l s2 => th e s2 fun h s3 => dSlR x l h s3 Q
theorem Reps.cut {K : PySem.W.Frag} {W : Wd} {H : Hp} {vs : List V} {ds : List D} (lo hi : Option Int) (r : Reps K W H vs ds) : Reps K W H (cutV vs lo hi) (dcut ds lo hi) := by
  unfold cutV dcut
  rw [r.length]
  exact (r.drop _).take _
theorem cut_whole {α : Type} {xs : List α} {lo hi : Option Int} (h : HT.sIx xs.length 0 lo = 0 ∧ HT.sIx xs.length xs.length hi = xs.length) : dcut xs lo hi = xs := by
  unfold dcut
  rw [h.1, h.2]
  simp
theorem s_sl : SlR X (fun x lo hi H Q => ∃ W s dx Qd, Rel X.K W s H ∧ Rep X.K W H x dx ∧ dSlR dx lo hi s Qd ∧ ∀ d s' W' v H', Qd d s' → Ext W H W' H' → Rel X.K W' s' H' → Rep X.K W' H' v d → Q v H') := SlR.wk ((sl_list.or sl_tupA).or sl_str) fun x lo hi H Q h => by
  obtain ⟨W, s, dx, Qd, R, rx, h, k⟩ := h
  unfold dSlR at h
  split at h
  · cases rx; exact .inr ⟨_, rfl, h.1, k _ _ W _ H h.2 (Ext.refl W H) R (.str _)⟩
  · cases rx with
    | tup f q r =>
      refine .inl (.inr ⟨_, _, rfl, SqT.of q, fun z => ?_, fun z p hp => ?_⟩)
      · rw [r.length] at z
        rw [cut_whole z] at h
        exact k _ _ W _ H h (Ext.refl W H) R (.tup f q r)
      · exact k _ _ _ _ _ h (Ext.add R hp) (Rel.add R hp) (new_tup R hp (r.cut lo hi))
  · split at h
    · rename_i e
      obtain ⟨a, vs, rfl, h1, h2⟩ := seqL_ok R rx e
      exact .inl (.inl ⟨a, vs, rfl, h1, fun p hp => k _ _ _ _ _ h (Ext.add R hp) (Rel.add R hp) (new_lst R hp (h2.cut lo hi))⟩)
    · exact h.elim
theorem de_sl {lo hi : Option Expr} {tl th : DTO} {p2 : Pos} (he : PE X a (lift X.K L ta)) (hl : PO X lo (liftO X.K L tl)) (hu : PO X hi (liftO X.K L th)) : PE X (.Subscript a (.Slice lo hi none p2) pos) (lift X.K L (dSl ta tl th)) := (pe_slice s_sl he hl hu).wk fun σ H Q h => by
  obtain ⟨W, e, s, Qd, st, t, k⟩ := h
  refine ⟨W, e, s, _, st, t, fun d s1 W1 w H1 q x R p => ?_⟩
  refine ⟨W1, e, s1, _, st.after x R, q, fun l s2 W2 H2 q2 x2 R2 => ?_⟩
  refine ⟨W2, e, s2, _, (st.after x R).after x2 R2, q2, fun u s3 W3 H3 q3 x3 R3 => ?_⟩
  exact ⟨W3, s3, d, Qd, R3, p.mono (x2.trans x3), q3, fun d' s' W' v' H' q x' R' r' => k d' s' W' v' H' q (x.trans (x2.trans (x3.trans x'))) R' r'⟩

/-! ### argument lists, displays -/
def dNil : DTA := fun _ s Q => Q [] s
def dCons (t : DTE) (r : DTA) : DTA := fun e s Q => t e s fun x s1 => r e s1 fun xs s2 => Q (x :: xs) s2
theorem da_nil : PA X [] (liftA X.K L dNil) := pa_nil.wk fun σ H Q h => by
  obtain ⟨W, e, s, Qd, st, t, k⟩ := h
  exact k _ _ W _ H t (Ext.refl W H) st.rel .nil
theorem da_cons {r : DTA} (ha : PE X a (lift X.K L ta)) (hr : PA X rest (liftA X.K L r)) (hs : starEach (a :: rest) X.env = (false, eval a X.env) :: starEach rest X.env) : PA X (a :: rest) (liftA X.K L (dCons ta r)) := (pa_cons ha hr hs).wk fun σ H Q h => by
  obtain ⟨W, e, s, Qd, st, t, k⟩ := h
  refine ⟨W, e, s, _, st, t, fun d s1 W1 w H1 q x R p => ?_⟩
  exact ⟨W1, e, s1, _, st.after x R, q, fun ds s2 W2 vs H2 q2 x2 R2 p2 => k _ _ _ _ _ q2 (x.trans x2) R2 (.cons (p.mono x2) p2)⟩
def dTup (r : DTA) : DTE := fun e s Q => r e s fun xs s1 => xs.length ≤ sizeLine ∧ Q (.tup xs) s1
def dLst (r : DTA) : DTE := fun e s Q => r e s fun xs s1 => xs.length ≤ sizeLine ∧ Q (.lst xs) s1
def dLstC (r : DTA) : DTE := fun e s Q => r e s fun xs s1 => xs.length ≤ sizeLine ∧ ∀ n, s1 n = none → Q (.cell n) (s1.set n (.lst xs))
theorem de_tup {r : DTA} {n : Nat} (h : PA X rest (liftA X.K L r)) : PE X (.Tuple rest n pos) (lift X.K L (dTup r)) := (pe_tup h).wk fun σ H Q h => by
  obtain ⟨W, e, s, Qd, st, t, k⟩ := h
  refine ⟨W, e, s, _, st, t, fun d s1 W1 w H1 q x R p => ⟨by rw [p.length]; exact q.1, fun z hp => ?_⟩⟩
  exact k _ _ _ _ _ q.2 (x.trans (Ext.add R hp)) (Rel.add R hp) (new_tup R hp p)
theorem de_lst {r : DTA} (h : PA X rest (liftA X.K L r)) : PE X (.List rest pos) (lift X.K L (dLst r)) := (pe_lst h).wk fun σ H Q h => by
  obtain ⟨W, e, s, Qd, st, t, k⟩ := h
  refine ⟨W, e, s, _, st, t, fun d s1 W1 w H1 q x R p => ⟨by rw [p.length]; exact q.1, fun z hp => ?_⟩⟩
  exact k _ _ _ _ _ q.2 (x.trans (Ext.add R hp)) (Rel.add R hp) (new_lst R hp p)
theorem de_lstC {r : DTA} (h : PA X rest (liftA X.K L r)) : PE X (.List rest pos) (lift X.K L (dLstC r)) := (pe_lst h).wk fun σ H Q h => by
  obtain ⟨W, e, s, Qd, st, t, k⟩ := h
  refine ⟨W, e, s, _, st, t, fun d s1 W1 w H1 q x R p => ⟨by rw [p.length]; exact q.1, fun z hp => ?_⟩⟩
  obtain ⟨y, R'⟩ := new_cell R hp p
  exact k _ _ _ _ _ (q.2 _ R.nxs) (x.trans y) R' (.cell (Wd.new_r _ _))

/-! ### in -/
def flatD : D → Bool
  | .non => true
  | .bl _ => true
  | .int _ => true
  | .str _ => true
  | _ => false
def eqF : D → D → Bool
  | .non, .non => true
  | .bl a, .bl b => a == b
  | .bl a, .int b => (if a then 1 else 0) == b
  | .int a, .bl b => a == (if b then 1 else 0)
  | .int a, .int b => a == b
  | .str a, .str b => a == b
  | _, _ => false
def dInB (x y : D) (s : S) (Q : Bool → Prop) : Prop := match x, y with
  | .str a, .str b => (match a.cps.toList with
    | [c] => Q (decide (c ∈ b.cps.toList))
    | _ => Q (!(Builtin.Str.occurrences b a 0 b.length 1).isEmpty))
  | x, y => match seqT y with
    | some ys => flatD x = true ∧ ys.all flatD = true ∧ Q (ys.any fun z => eqF z x)
    | none => match seqL s y with
      | some ys => (match flatD x && ys.all flatD with
        | true => Q (ys.any fun z => eqF z x)
        | false => (match pyS s x, D.pys ys with
          | some p, some qs => SeqAt.shaped p = true ∧ SeqAt.shaped (.list qs) = true ∧ Q (qs.any fun z => PyData.eqv z p)
          | _, _ => False))
      | none => match mapD s y with
        | some kvs => (match keyK x with
          | some κ => Q (valD kvs κ).isSome
          | none => False)
        | none => False
def dIn : DR2 := fun x y s Q => dInB x y s fun b => Q (.bl b) s
def dNotIn : DR2 := fun x y s Q => dInB x y s fun b => Q (.bl (!b)) s
theorem flat_V {K : PySem.W.Frag} {W : Wd} {H : Hp} {v : V} {d : D} (r : Rep K W H v d) (h : flatD d = true) : flatV v = true := by
  cases r <;> first | rfl | cases h
theorem eqF_V {K : PySem.W.Frag} {W : Wd} {H : Hp} {v u : V} {d e : D} (r : Rep K W H v d) (q : Rep K W H u e) (h : flatD d = true) (h2 : flatD e = true) : eqV v u = eqF d e := by
  cases r <;> first | (cases h; done) | (cases q <;> first | rfl | (cases h2; done))
theorem any_V {K : PySem.W.Frag} {W : Wd} {H : Hp} {u : V} {e : D} (q : Rep K W H u e) (h2 : flatD e = true) : ∀ {vs : List V} {ds : List D}, Reps K W H vs ds → ds.all flatD = true → vs.all flatV = true ∧ inV u vs = ds.any fun z => eqF z e := by
  intro vs
  induction vs with
  | nil => intro ds r _; cases r; exact ⟨rfl, rfl⟩
  | cons v vs ih =>
    intro ds r h
    cases r with
    | cons a r =>
      rw [List.all_cons, Bool.and_eq_true] at h
      obtain ⟨i1, i2⟩ := ih r h.2
      refine ⟨by rw [List.all_cons, flat_V a h.1, i1]; rfl, ?_⟩
      show ((v :: vs).any fun y => eqV y u) = _
      rw [List.any_cons, List.any_cons, eqF_V a q h.1 h2]
      congr 1
theorem str1 {a : Str} {c : Nat} (h : a.cps.toList = [c]) : a = ⟨#[c]⟩ := by
  cases a with
  | mk cps =>
    congr 1
    have h' : cps.toList = [c] := h
    cases cps
    simp at h'
    rw [h']
theorem dInB_ok {K : PySem.W.Frag} {W : Wd} {H : Hp} {s : S} {x y : V} {dx dy : D} {Q : Bool → Prop} (R : Rel K W s H) (rx : Rep K W H x dx) (ry : Rep K W H y dy) (h : dInB dx dy s Q) :
    (∃ (c : Nat) (z : Str), x = .str ⟨#[c]⟩ ∧ y = .str z ∧ Q (decide (c ∈ z.cps.toList))) ∨ (∃ a b, x = .str a ∧ y = .str b ∧ Q (!(Builtin.Str.occurrences b a 0 b.length 1).isEmpty)) ∨
    (∃ p xs, y = .ref p ∧ (SqL K H p xs ∨ SqT K H p xs) ∧ flatV x = true ∧ xs.all flatV = true ∧ Q (inV x xs)) ∨
    (∃ a o, y = .ref a ∧ DGet H a x o ∧ Q o.isSome) ∨
    ∃ p qs, Dp K H x p ∧ Dp K H y (.list qs) ∧ SeqAt.shaped p = true ∧ SeqAt.shaped (.list qs) = true ∧ Q (qs.any fun z => PyData.eqv z p) := by
  unfold dInB at h
  split at h
  · cases rx; cases ry
    split at h
    · rename_i e
      exact .inl ⟨_, _, by rw [str1 e], rfl, h⟩
    · exact .inr (.inl ⟨_, _, rfl, rfl, h⟩)
  · split at h
    · rename_i e
      obtain ⟨p, vs, rfl, h1, h2⟩ := seqT_ok ry e
      obtain ⟨f1, f2⟩ := any_V rx h.1 h2 h.2.1
      exact .inr (.inr (.inl ⟨p, vs, rfl, .inr h1, flat_V rx h.1, f1, by rw [f2]; exact h.2.2⟩))
    · split at h
      · rename_i e
        obtain ⟨p, vs, rfl, h1, h2⟩ := seqL_ok R ry e
        split at h
        · rename_i ef
          rw [Bool.and_eq_true] at ef
          obtain ⟨f1, f2⟩ := any_V rx ef.1 h2 ef.2
          exact .inr (.inr (.inl ⟨p, vs, rfl, .inl h1, flat_V rx ef.1, f1, by rw [f2]; exact h⟩))
        · split at h
          · rename_i pp qs e1 e2
            exact .inr (.inr (.inr (.inr ⟨pp, qs, pyS_dp R rx e1, .lst h1 (h2.dp e2), h⟩)))
          · exact h.elim
      · split at h
        · rename_i kvs em
          split at h
          · rename_i κ ek
            obtain ⟨a, vs, rfl, h1, h2⟩ := mapD_ok R ry em
            cases rx.key ek
            refine .inr (.inr (.inr (.inl ⟨a, valV vs κ, rfl, .inl ⟨vs, κ, h1, rfl, rfl⟩, ?_⟩)))
            cases ev : valD kvs κ with
            | none =>
              rw [ev] at h
              rw [(h2.val κ).2 ev]
              exact h
            | some d =>
              obtain ⟨v, h3, _⟩ := (h2.val κ).1 d ev
              rw [ev] at h
              rw [h3]
              exact h
          · exact h.elim
        · exact h.elim
theorem op_inDict (hu : X.A.units + 1 < cLine) : OpR X (compareOp .In) (fun x y H Q => ∃ a o, y = .ref a ∧ DGet H a x o ∧ Q (.bl o.isSome) H) := by
  intro pins s σ H x y v u Q I rx ry h
  obtain ⟨a, o, rfl, g, q⟩ := h
  cases (show u = Value.ref a from ry)
  exact d_in hu I g rx fun s1 I1 => ⟨.bl o.isSome, H, I1, rfl, q⟩
theorem op_notInDict (hu : X.A.units + 1 < cLine) : OpR X (compareOp .NotIn) (fun x y H Q => ∃ a o, y = .ref a ∧ DGet H a x o ∧ Q (.bl (!o.isSome)) H) := by
  intro pins s σ H x y v u Q I rx ry h
  obtain ⟨a, o, rfl, g, q⟩ := h
  cases (show u = Value.ref a from ry)
  exact d_notIn hu I g rx fun s1 I1 => ⟨.bl (!o.isSome), H, I1, rfl, q⟩
theorem o_in (hu : X.A.units + 65 < cLine) : OpR X (compareOp .In) (lift2 X.K dIn) := OpR.wk ((((op_in_sign.or op_in_str).or op_in_seq).or (op_inD hu)).or (op_inDict (by omega))) fun x y H Q h => by
  obtain ⟨W, s, dx, dy, Qd, R, rx, ry, h, k⟩ := h
  have fin : ∀ b, Qd (.bl b) s → Q (.bl b) H := fun b q => k _ _ W _ H q (Ext.refl W H) R (.bl b)
  rcases dInB_ok R rx ry h with ⟨c, z, h1, h2, h3⟩ | ⟨a, b, h1, h2, h3⟩ | ⟨p, xs, h1, h2, h3, h4, h5⟩ | ⟨a, o, h1, h2, h3⟩ | ⟨p, q, h1, h2, h3, h4, h5⟩
  · exact .inl (.inl (.inl (.inl ⟨c, z, h1, h2, fin _ h3⟩)))
  · exact .inl (.inl (.inl (.inr ⟨a, b, h1, h2, fin _ h3⟩)))
  · exact .inl (.inl (.inr ⟨p, xs, h1, h2, h3, h4, fin _ h5⟩))
  · exact .inr ⟨a, o, h1, h2, fin _ h3⟩
  · exact .inl (.inr ⟨p, q, h1, h2, h3, h4, fin _ h5⟩)
theorem o_notin (hu : X.A.units + 65 < cLine) : OpR X (compareOp .NotIn) (lift2 X.K dNotIn) := OpR.wk ((((op_notIn_sign.or op_notin_str).or op_notIn_seq).or (op_notInD hu)).or (op_notInDict (by omega))) fun x y H Q h => by
  obtain ⟨W, s, dx, dy, Qd, R, rx, ry, h, k⟩ := h
  have fin : ∀ b, Qd (.bl b) s → Q (.bl b) H := fun b q => k _ _ W _ H q (Ext.refl W H) R (.bl b)
  rcases dInB_ok R rx ry h with ⟨c, z, h1, h2, h3⟩ | ⟨a, b, h1, h2, h3⟩ | ⟨p, xs, h1, h2, h3, h4, h5⟩ | ⟨a, o, h1, h2, h3⟩ | ⟨p, q, h1, h2, h3, h4, h5⟩
  · exact .inl (.inl (.inl (.inl ⟨c, z, h1, h2, fin _ h3⟩)))
  · exact .inl (.inl (.inl (.inr ⟨a, b, h1, h2, fin _ h3⟩)))
  · exact .inl (.inl (.inr ⟨p, xs, h1, h2, h3, h4, fin _ h5⟩))
  · exact .inr ⟨a, o, h1, h2, fin _ h3⟩
  · exact .inl (.inr ⟨p, q, h1, h2, h3, h4, fin _ h5⟩)
end
end Y


/-! Y5: built-in functions and methods. -/
namespace Y
open PySem PySem.Spec PyProof.Rows L2

abbrev DC := List D → S → (D → S → Prop) → Prop
def lift1 (K : PySem.W.Frag) (r : DC) : List V → Hp → VK → Prop := fun vs H Q => ∃ W s ds Qd, Rel K W s H ∧ Reps K W H vs ds ∧ r ds s Qd ∧ ∀ d s' W' v H', Qd d s' → Ext W H W' H' → Rel K W' s' H' → Rep K W' H' v d → Q v H'
def dCall (r : DC) (t : DTA) : DTE := fun e s Q => t e s fun ds s1 => r ds s1 Q
theorem Reps.one {K : PySem.W.Frag} {W : Wd} {H : Hp} {vs : List V} {d : D} (r : Reps K W H vs [d]) : ∃ v, vs = [v] ∧ Rep K W H v d := by
  cases r with | cons a b => cases b; exact ⟨_, rfl, a⟩
theorem Reps.two {K : PySem.W.Frag} {W : Wd} {H : Hp} {vs : List V} {d c : D} (r : Reps K W H vs [d, c]) : ∃ v u, vs = [v, u] ∧ Rep K W H v d ∧ Rep K W H u c := by
  cases r with | cons a b => cases b with | cons b c => cases c; exact ⟨_, _, rfl, a, b⟩
section
variable {X : Cx} {L : Lk} {a b c : Expr} {ta tb tc : DTE} {u v : DTT} {pos p apos : Pos} {es : List Expr} {r : DTA} {x : Str}
theorem lift1_call {rc : DC} {σ : St} {H : Hp} {Q : VK} (h : lift X.K L (dCall rc r) σ H Q) : tCB (lift1 X.K rc) (liftA X.K L r) σ H Q := by
  obtain ⟨W, e, s, Qd, st, t, k⟩ := h
  refine ⟨W, e, s, _, st, t, fun ds s1 W1 vs H1 q x1 R1 p1 => ?_⟩
  exact ⟨W1, s1, ds, Qd, R1, p1, q, fun d' s' W' v' H' q x' R' r' => k d' s' W' v' H' q (x1.trans x') R' r'⟩
theorem de_callB {id : String} {rc : DC} (hc : CallR X (.builtin id) (lift1 X.K rc)) (hg : Gl X x) (hm : X.mg x = none) (hv : bootBuiltins x = some (.builtin id)) (ha : PA X (a :: es) (liftA X.K L r)) (hn : x ≠ "__name__") (hdb : (x == ("__debug__" : Str)) = false)
    (he : starEach (a :: es) X.env = (false, eval a X.env) :: starEach es X.env) (hpl : (backTo pos (starEach es X.env)).any (·.1) = false) : PE X (.Call (.Name x p) (a :: es) [] pos) (lift X.K L (dCall rc r)) :=
  (pe_callB hc hg hm hv ha hn hdb he hpl).wk fun _ _ _ h => lift1_call h
theorem de_callTy {T : String} {rc : DC} (hc : CallR X (.type T) (lift1 X.K rc)) (hg : Gl X x) (hm : X.mg x = none) (hv : bootBuiltins x = some (.type T)) (ha : PA X (a :: es) (liftA X.K L r)) (hn : x ≠ "__name__") (hdb : (x == ("__debug__" : Str)) = false)
    (he : starEach (a :: es) X.env = (false, eval a X.env) :: starEach es X.env) (hpl : (backTo pos (starEach es X.env)).any (·.1) = false) : PE X (.Call (.Name x p) (a :: es) [] pos) (lift X.K L (dCall rc r)) :=
  (pe_callTy hc hg hm hv ha hn hdb he hpl).wk fun _ _ _ h => lift1_call h

/-! ### len, abs, max, min, all, any, list, tuple, repr, sorted -/
def seqQ (s : S) (d : D) : Option (List D) := match seqL s d with
  | some xs => some xs
  | none => seqT d
theorem seqQ_ok {K : PySem.W.Frag} {W : Wd} {H : Hp} {s : S} {v : V} {d : D} {xs : List D} (R : Rel K W s H) (rp : Rep K W H v d) (e : seqQ s d = some xs) : ∃ a vs, v = .ref a ∧ (SqL K H a vs ∨ SqT K H a vs) ∧ Reps K W H vs xs := by
  unfold seqQ at e
  split at e
  · rename_i e1
    cases e
    obtain ⟨a, vs, h1, h2, h3⟩ := seqL_ok R rp e1
    exact ⟨a, vs, h1, .inl h2, h3⟩
  · obtain ⟨a, vs, h1, h2, h3⟩ := seqT_ok rp e
    exact ⟨a, vs, h1, .inr h2, h3⟩
def dLen : DC := fun ds s Q => match ds with
  | [.str z] => z.length ≤ sizeLine ∧ Q (.int z.length) s
  | [d] => (match seqQ s d with
    | some xs => Q (.int xs.length) s
    | none => match mapD s d with
      | some kvs => Q (.int kvs.length) s
      | none => False)
  | _ => False
theorem call_lenK : CallR X (.builtin "len") (fun xs H Q => ∃ a kvs, xs = [V.ref a] ∧ Rd H a (.dK kvs) ∧ Q (.int kvs.length) H) := by
  intro pins s σ H xs us Q I r h
  obtain ⟨a, kvs, rfl, e, q⟩ := h
  rw [Vals.ref1 r]
  exact d_len I e fun t s1 I1 => ⟨.int kvs.length, H, I1, ⟨t, rfl⟩, q⟩
theorem c_len : CallR X (.builtin "len") (lift1 X.K dLen) := CallR.wk (call_len.or call_lenK) fun vs H Q h => by
  obtain ⟨W, s, ds, Qd, R, rs, h, k⟩ := h
  unfold dLen at h
  split at h
  · obtain ⟨w, rfl, rw⟩ := rs.one
    cases rw
    refine .inl ?_
    exact ⟨_, _, rfl, ⟨h.1, rfl⟩, k _ _ W _ H h.2 (Ext.refl W H) R (.int _)⟩
  · obtain ⟨w, rfl, rw⟩ := rs.one
    split at h
    · rename_i e
      obtain ⟨a, us, rfl, h1, h2⟩ := seqQ_ok R rw e
      refine .inl ⟨_, us.length, rfl, h1.imp (fun z => ⟨us, z, rfl⟩) (fun z => ⟨us, z, rfl⟩), ?_⟩
      rw [h2.length]
      exact k _ _ W _ H h (Ext.refl W H) R (.int _)
    · split at h
      · rename_i kvs em
        obtain ⟨a, us, rfl, h1, h2⟩ := mapD_ok R rw em
        refine .inr ⟨a, us, rfl, h1, ?_⟩
        rw [h2.length]
        exact k _ _ W _ H h (Ext.refl W H) R (.int _)
      · exact h.elim
  · exact h.elim
def dAbs : DC := fun ds s Q => match ds with
  | [.int i] => Q (.int (if i < 0 then -i else i)) s
  | _ => False
theorem c_abs : CallR X (.builtin "abs") (lift1 X.K dAbs) := CallR.wk call_abs fun vs H Q h => by
  obtain ⟨W, s, ds, Qd, R, rs, h, k⟩ := h
  unfold dAbs at h
  split at h
  · obtain ⟨w, rfl, rw⟩ := rs.one
    cases rw
    exact ⟨_, rfl, k _ _ W _ H h (Ext.refl W H) R (.int _)⟩
  · exact h.elim
def dMax : DC := fun ds s Q => match ds with
  | [.int i, .int j] => Q (.int (if j > i then j else i)) s
  | _ => False
def dMin : DC := fun ds s Q => match ds with
  | [.int i, .int j] => Q (.int (if j < i then j else i)) s
  | _ => False
theorem c_max (hc : X.calm = true) : CallR X (.builtin "max") (lift1 X.K dMax) := CallR.wk (call_max2 hc) fun vs H Q h => by
  obtain ⟨W, s, ds, Qd, R, rs, h, k⟩ := h
  unfold dMax at h
  split at h
  · obtain ⟨w, w', rfl, rw, rw'⟩ := rs.two
    cases rw; cases rw'
    exact ⟨_, _, rfl, k _ _ W _ H h (Ext.refl W H) R (.int _)⟩
  · exact h.elim
theorem c_min (hc : X.calm = true) : CallR X (.builtin "min") (lift1 X.K dMin) := CallR.wk (call_min2 hc) fun vs H Q h => by
  obtain ⟨W, s, ds, Qd, R, rs, h, k⟩ := h
  unfold dMin at h
  split at h
  · obtain ⟨w, w', rfl, rw, rw'⟩ := rs.two
    cases rw; cases rw'
    exact ⟨_, _, rfl, k _ _ W _ H h (Ext.refl W H) R (.int _)⟩
  · exact h.elim
/-- the truth values of a list of such -/
def bls : List D → Option (List Bool)
  | [] => some []
  | .bl b :: r => (bls r).map (b :: ·)
  | _ => none
theorem bls_V {K : PySem.W.Frag} {W : Wd} {H : Hp} : ∀ {vs : List V} {ds : List D} {bs : List Bool}, Reps K W H vs ds → bls ds = some bs → vs = bs.map V.bl := by
  intro vs
  induction vs with
  | nil => intro ds bs r h; cases r; cases h; rfl
  | cons v vs ih =>
    intro ds bs r h
    cases r with
    | @cons _ _ d ds a r =>
      cases d with
      | bl b =>
        cases a
        have h' : (bls ds).map (b :: ·) = some bs := h
        cases e : bls ds with
        | none => rw [e] at h'; cases h'
        | some cs => rw [e] at h'; cases h'; rw [ih r e]; rfl
      | _ => cases h
def dAll : DC := fun ds s Q => match ds with
  | [d] => (match (seqL s d).bind bls with
    | some bs => Q (.bl (bs.all id)) s
    | none => False)
  | _ => False
def dAny : DC := fun ds s Q => match ds with
  | [d] => (match (seqL s d).bind bls with
    | some bs => Q (.bl (bs.any id)) s
    | none => False)
  | _ => False
theorem c_all (hc : X.calm = true) : CallR X (.builtin "all") (lift1 X.K dAll) := CallR.wk (cr_all hc) fun vs H Q h => by
  obtain ⟨W, s, ds, Qd, R, rs, h, k⟩ := h
  unfold dAll at h
  split at h
  · rename_i d
    obtain ⟨w, rfl, rw⟩ := rs.one
    split at h
    · rename_i bs e
      cases e1 : seqL s d with
      | none => rw [e1] at e; cases e
      | some xs =>
        rw [e1] at e
        obtain ⟨a, us, rfl, h1, h2⟩ := seqL_ok R rw e1
        rw [bls_V h2 e] at h1
        exact ⟨a, bs, rfl, h1, k _ _ W _ H h (Ext.refl W H) R (.bl _)⟩
    · exact h.elim
  · exact h.elim
theorem c_any (hc : X.calm = true) : CallR X (.builtin "any") (lift1 X.K dAny) := CallR.wk (cr_any hc) fun vs H Q h => by
  obtain ⟨W, s, ds, Qd, R, rs, h, k⟩ := h
  unfold dAny at h
  split at h
  · rename_i d
    obtain ⟨w, rfl, rw⟩ := rs.one
    split at h
    · rename_i bs e
      cases e1 : seqL s d with
      | none => rw [e1] at e; cases e
      | some xs =>
        rw [e1] at e
        obtain ⟨a, us, rfl, h1, h2⟩ := seqL_ok R rw e1
        rw [bls_V h2 e] at h1
        exact ⟨a, bs, rfl, h1, k _ _ W _ H h (Ext.refl W H) R (.bl _)⟩
    · exact h.elim
  · exact h.elim
def dList : DC := fun ds s Q => match ds with
  | [d] => (match seqQ s d with
    | some xs => Q (.lst xs) s
    | none => False)
  | _ => False
def dListC : DC := fun ds s Q => match ds with
  | [d] => (match seqQ s d with
    | some xs => ∀ n, s n = none → Q (.cell n) (s.set n (.lst xs))
    | none => False)
  | _ => False
theorem c_list : CallR X (.type "list") (lift1 X.K dList) := CallR.wk call_list_of fun vs H Q h => by
  obtain ⟨W, s, ds, Qd, R, rs, h, k⟩ := h
  unfold dList at h
  split at h
  · obtain ⟨w, rfl, rw⟩ := rs.one
    split at h
    · rename_i e
      obtain ⟨a, us, rfl, h1, h2⟩ := seqQ_ok R rw e
      exact ⟨a, us, rfl, h1, fun p hp => k _ _ _ _ _ h (Ext.add R hp) (Rel.add R hp) (new_lst R hp h2)⟩
    · exact h.elim
  · exact h.elim
theorem c_listC : CallR X (.type "list") (lift1 X.K dListC) := CallR.wk call_list_of fun vs H Q h => by
  obtain ⟨W, s, ds, Qd, R, rs, h, k⟩ := h
  unfold dListC at h
  split at h
  · obtain ⟨w, rfl, rw⟩ := rs.one
    split at h
    · rename_i e
      obtain ⟨a, us, rfl, h1, h2⟩ := seqQ_ok R rw e
      refine ⟨a, us, rfl, h1, fun p hp => ?_⟩
      obtain ⟨y, R'⟩ := new_cell R hp h2
      exact k _ _ _ _ _ (h _ R.nxs) y R' (.cell (Wd.new_r _ _))
    · exact h.elim
  · exact h.elim
def dTuple : DC := fun ds s Q => match ds with
  | [.tup xs] => Q (.tup xs) s
  | [d] => (match seqL s d with
    | some xs => Q (.tup xs) s
    | none => False)
  | _ => False
theorem c_tuple : CallR X (.type "tuple") (lift1 X.K dTuple) := CallR.wk call_tuple_of fun vs H Q h => by
  obtain ⟨W, s, ds, Qd, R, rs, h, k⟩ := h
  unfold dTuple at h
  split at h
  · obtain ⟨w, rfl, rw⟩ := rs.one
    cases rw with
    | tup f q r => exact ⟨_, _, rfl, .inr ⟨SqT.of q, k _ _ W _ H h (Ext.refl W H) R (.tup f q r)⟩⟩
  · obtain ⟨w, rfl, rw⟩ := rs.one
    split at h
    · rename_i e
      obtain ⟨a, us, rfl, h1, h2⟩ := seqL_ok R rw e
      exact ⟨a, us, rfl, .inl ⟨h1, fun p hp => k _ _ _ _ _ h (Ext.add R hp) (Rel.add R hp) (new_tup R hp h2)⟩⟩
    · exact h.elim
  · exact h.elim
/-- repr of plain data -/
theorem call_repr_D (hg : X.A.guards = some []) (hu : X.A.units + 70 < cLine) : CallR X (.builtin "repr") (fun xs H Q => ∃ v q, xs = [v] ∧ Dp X.K H v q ∧ q.showable = true ∧ q.hasDict = false ∧ q.depth ≤ 64 ∧ q.shown.length ≤ sizeLine ∧ Q (.str q.shown) H) := by
  intro pins s σ H xs us Q I r h
  obtain ⟨v, q, rfl, hd, h1, h2, h3, h4, hq⟩ := h
  obtain ⟨u, rfl, ru⟩ := vals1 r
  have hd0 := hd
  cases hd with
  | non => cases ru; exact PySem.P.repr_of_none ⟨.str _, H, I.tok _, ⟨_, rfl⟩, hq⟩
  | bl b => cases ru; exact PySem.P.repr_of_bool ⟨.str _, H, I.tok _, ⟨_, rfl⟩, hq⟩
  | int i =>
    obtain ⟨t, rfl⟩ := ru
    exact PySem.P.repr_of_int (of_decide_eq_true h1) ⟨.str _, H, I.tok _, ⟨_, rfl⟩, hq⟩
  | str z =>
    obtain ⟨t, rfl⟩ := ru
    exact PySem.P.repr_of_str ⟨.str _, H, I.tok _, ⟨_, rfl⟩, hq⟩ h4
  | lst h' _ =>
    cases ru
    obtain ⟨as, rd⟩ := Dp.reads I _ _ _ hd0 rfl
    refine repr_of_reads' rd h1 (fun z => absurd z (by rw [h2]; simp)) hg (by omega) (fun _ _ e => e) (fun h' u tk hk => ?_) h4
    exact ⟨.str _, H, I.kept (t' := tk) hk, ⟨_, rfl⟩, hq⟩
  | tup h' _ =>
    cases ru
    obtain ⟨as, rd⟩ := Dp.reads I _ _ _ hd0 rfl
    refine repr_of_reads' rd h1 (fun z => absurd z (by rw [h2]; simp)) hg (by omega) (fun _ _ e => e) (fun h' u tk hk => ?_) h4
    exact ⟨.str _, H, I.kept (t' := tk) hk, ⟨_, rfl⟩, hq⟩
def dRepr : DC := fun ds s Q => match ds with
  | [d] => (match pyS s d with
    | some q => q.showable = true ∧ q.hasDict = false ∧ q.depth ≤ 64 ∧ q.shown.length ≤ sizeLine ∧ Q (.str q.shown) s
    | none => False)
  | _ => False
theorem c_repr (hg : X.A.guards = some []) (hu : X.A.units + 70 < cLine) : CallR X (.builtin "repr") (lift1 X.K dRepr) := CallR.wk (call_repr_D hg hu) fun vs H Q h => by
  obtain ⟨W, s, ds, Qd, R, rs, h, k⟩ := h
  unfold dRepr at h
  split at h
  · obtain ⟨w, rfl, rw⟩ := rs.one
    split at h
    · rename_i q e
      obtain ⟨h1, h2, h3, h4, h5⟩ := h
      exact ⟨w, q, rfl, pyS_dp R rw e, h1, h2, h3, h4, k _ _ W _ H h5 (Ext.refl W H) R (.str _)⟩
    · exact h.elim
  · exact h.elim
/-- the texts of a list of such -/
def strsD : List D → Option (List Str)
  | [] => some []
  | .str b :: r => (strsD r).map (b :: ·)
  | _ => none
theorem strsD_V {K : PySem.W.Frag} {W : Wd} {H : Hp} : ∀ {vs : List V} {ds : List D} {bs : List Str}, Reps K W H vs ds → strsD ds = some bs → vs = bs.map V.str := by
  intro vs
  induction vs with
  | nil => intro ds bs r h; cases r; cases h; rfl
  | cons v vs ih =>
    intro ds bs r h
    cases r with
    | @cons _ _ d ds a r =>
      cases d with
      | str b =>
        cases a
        have h' : (strsD ds).map (b :: ·) = some bs := h
        cases e : strsD ds with
        | none => rw [e] at h'; cases h'
        | some cs => rw [e] at h'; cases h'; rw [ih r e]; rfl
      | _ => cases h
theorem reps_strs {K : PySem.W.Frag} {W : Wd} {H : Hp} : ∀ (ys : List Str), Reps K W H (ys.map V.str) (ys.map D.str)
  | [] => .nil
  | y :: ys => .cons (.str y) (reps_strs ys)
def dSorted : DC := fun ds s Q => match ds with
  | [d] => (match (seqL s d).bind strsD with
    | some xs => xs.length < 64 ∧ ∀ ys, ys.Perm xs → sortedS ys = true → Q (.lst (ys.map D.str)) s
    | none => match (mapD s d).bind fun kvs => strsD (kvs.map (·.1)) with
      | some xs => xs.length < 64 ∧ ∀ ys, ys.Perm xs → sortedS ys = true → Q (.lst (ys.map D.str)) s
      | none => False)
  | _ => False
theorem keys_strs {K : PySem.W.Frag} {W : Wd} {H : Hp} : ∀ {vs : List (Key × V)} {ds : List (D × D)} {bs : List Str}, RepK K W H vs ds → strsD (ds.map (·.1)) = some bs → vs.map (·.1) = bs.map Sum.inr := by
  intro vs
  induction vs with
  | nil => intro ds bs r h; cases r; cases h; rfl
  | cons p vs ih =>
    intro ds bs r h
    cases r with
    | @cons k v d _ ds a r =>
      cases k with
      | inl i => cases h
      | inr x =>
        have h' : (strsD (ds.map (·.1))).map (x :: ·) = some bs := h
        cases e : strsD (ds.map (·.1)) with
        | none => rw [e] at h'; cases h'
        | some cs =>
          rw [e] at h'; cases h'
          rw [List.map_cons, ih r e]; rfl
theorem c_sorted (hc : X.calm = true) : CallR X (.builtin "sorted") (lift1 X.K dSorted) := CallR.wk (cr_sortedS.or (call_sortedD hc)) fun vs H Q h => by
  obtain ⟨W, s, ds, Qd, R, rs, h, k⟩ := h
  unfold dSorted at h
  split at h
  · rename_i d
    obtain ⟨w, rfl, rw⟩ := rs.one
    split at h
    · rename_i bs e
      cases e1 : seqL s d with
      | none => rw [e1] at e; cases e
      | some xs =>
        rw [e1] at e
        obtain ⟨a, us, rfl, h1, h2⟩ := seqL_ok R rw e1
        rw [strsD_V h2 e] at h1
        exact .inl ⟨a, bs, rfl, h1, h.1, fun ys p h3 h4 hp => k _ _ _ _ _ (h.2 ys h3 h4) (Ext.add R hp) (Rel.add R hp) (new_lst R hp (reps_strs ys))⟩
    · split at h
      · rename_i bs e
        cases e1 : mapD s d with
        | none => rw [e1] at e; cases e
        | some kvs =>
          rw [e1] at e
          obtain ⟨a, us, rfl, h1, h2⟩ := mapD_ok R rw e1
          exact .inr ⟨a, us, bs, rfl, h1, keys_strs h2 e, h.1, fun ys p h3 h4 hp => k _ _ _ _ _ (h.2 ys h3 h4) (Ext.add R hp) (Rel.add R hp) (new_lst R hp (reps_strs ys))⟩
      · exact h.elim
  · exact h.elim

/-! ### methods of lists -/
abbrev DM := D → List D → S → (D → S → Prop) → Prop
def liftM (K : PySem.W.Frag) (r : DM) : V → List V → Hp → VK → Prop := fun v vs H Q => ∃ W s d ds Qd, Rel K W s H ∧ Rep K W H v d ∧ Reps K W H vs ds ∧ r d ds s Qd ∧ ∀ d s' W' v H', Qd d s' → Ext W H W' H' → Rel K W' s' H' → Rep K W' H' v d → Q v H'
/-- the receiver is a list -/
def isL (s : S) (d : D) : Prop := (seqL s d).isSome = true
def dMeth (P : S → D → Prop) (rm : DM) (t : DTE) (ts : DTA) : DTE := fun e s Q => t e s fun d s1 => P s1 d ∧ ts e s1 fun ds s2 => rm d ds s2 Q
theorem isL_ty {K : PySem.W.Frag} {W : Wd} {H : Hp} {s : S} {v : V} {d : D} (R : Rel K W s H) (rp : Rep K W H v d) (h : isL s d) : tyV K "list" v H := by
  unfold isL at h
  cases e : seqL s d with
  | none => rw [e] at h; cases h
  | some xs =>
    obtain ⟨a, vs, rfl, h1, _⟩ := seqL_ok R rp e
    exact .inl ⟨rfl, vs, h1⟩
theorem liftM_bm {T : String} {P : S → D → Prop} {rm : DM} (hT : ∀ {W : Wd} {H : Hp} {s : S} {v : V} {d : D}, Rel X.K W s H → Rep X.K W H v d → P s d → tyV X.K T v H) {σ : St} {H : Hp} {Q : VK} (h : lift X.K L (dMeth P rm ta r) σ H Q) :
    tBM X.K T (liftM X.K rm) (lift X.K L ta) (liftA X.K L r) σ H Q := by
  obtain ⟨W, e, s, Qd, st, t, k⟩ := h
  refine ⟨W, e, s, _, st, t, fun d s1 W1 v H1 q x1 R1 p1 => ⟨hT R1 p1 q.1, ?_⟩⟩
  refine ⟨W1, e, s1, _, st.after x1 R1, q.2, fun ds s2 W2 vs H2 q2 x2 R2 p2 => ?_⟩
  exact ⟨W2, s2, d, ds, Qd, R2, p1.mono x2, p2, q2, fun d' s' W' v' H' q x' R' r' => k d' s' W' v' H' q (x1.trans (x2.trans x')) R' r'⟩
theorem liftM_bm0 {T : String} {P : S → D → Prop} {rm : DM} (hT : ∀ {W : Wd} {H : Hp} {s : S} {v : V} {d : D}, Rel X.K W s H → Rep X.K W H v d → P s d → tyV X.K T v H) {σ : St} {H : Hp} {Q : VK} (h : lift X.K L (dMeth P rm ta dNil) σ H Q) :
    tBM0 X.K T (liftM X.K rm) (lift X.K L ta) σ H Q := by
  obtain ⟨W, e, s, Qd, st, t, k⟩ := h
  refine ⟨W, e, s, _, st, t, fun d s1 W1 v H1 q x1 R1 p1 => ⟨hT R1 p1 q.1, ?_⟩⟩
  exact ⟨W1, s1, d, [], Qd, R1, p1, .nil, q.2, fun d' s' W' v' H' q x' R' r' => k d' s' W' v' H' q (x1.trans x') R' r'⟩
def dAppend : DM := fun d ds s Q => match d, ds with
  | .cell n, [y] => (match s n with
    | some (.lst xs) => xs.length < sizeLine ∧ Q .non (s.set n (.lst (xs ++ [y])))
    | _ => False)
  | _, _ => False
theorem m_append : MtR X "list.append" (liftM X.K dAppend) := MtR.wk mt_append fun v vs H Q h => by
  obtain ⟨W, s, d, ds, Qd, R, rv, rs, h, k⟩ := h
  unfold dAppend at h
  split at h
  · split at h
    · rename_i n y _ xs e
      obtain ⟨w, rfl, rw⟩ := rs.one
      obtain ⟨a, us, rfl, h1, h2, h3⟩ := rv.cellL R e
      have x := Ext.write (u := .lst (us ++ [w])) R e h1
      refine ⟨a, us, w, rfl, rfl, h2, by rw [h3.length]; exact h.1, ?_⟩
      exact k _ _ _ _ _ h.2 x (Rel.write R e h1 ⟨_, upd_same, (h3.app (.cons rw .nil)).mono x⟩) .non
    · exact h.elim
  · exact h.elim
def dExtend : DM := fun d ds s Q => match d, ds with
  | .cell n, [y] => (match s n with
    | some (.lst xs) => (match dirL s y with
      | some zs => xs.length + zs.length ≤ sizeLine ∧ Q .non (s.set n (.lst (xs ++ zs)))
      | none => False)
    | _ => False)
  | _, _ => False
theorem m_extend : MtR X "list.extend" (liftM X.K dExtend) := MtR.wk mt_extend fun v vs H Q h => by
  obtain ⟨W, s, d, ds, Qd, R, rv, rs, h, k⟩ := h
  unfold dExtend at h
  split at h
  · split at h
    · rename_i n y _ xs e
      split at h
      · rename_i zs ez
        obtain ⟨w, rfl, rw⟩ := rs.one
        obtain ⟨a, us, rfl, h1, h2, h3⟩ := rv.cellL R e
        obtain ⟨b, ts, rfl, g1, g2⟩ := dirL_ok R rw ez
        have x := Ext.write (u := .lst (us ++ ts)) R e h1
        refine ⟨a, b, us, ts, rfl, rfl, h2, g1, by rw [h3.length, g2.length]; exact h.1, ?_⟩
        exact k _ _ _ _ _ h.2 x (Rel.write R e h1 ⟨_, upd_same, (h3.app g2).mono x⟩) .non
      · exact h.elim
    · exact h.elim
  · exact h.elim
def dPop : DM := fun d ds s Q => match d, ds with
  | .cell n, [] => (match s n with
    | some (.lst xs) => (match xs[xs.length - 1]? with
      | some y => Q y (s.set n (.lst xs.dropLast))
      | none => False)
    | _ => False)
  | _, _ => False
theorem Reps.dropLast {K : PySem.W.Frag} {W : Wd} {H : Hp} {vs : List V} {ds : List D} (h : Reps K W H vs ds) : Reps K W H vs.dropLast ds.dropLast := by
  rw [List.dropLast_eq_take, List.dropLast_eq_take, h.length]
  exact h.take _
theorem m_pop : MtR X "list.pop" (liftM X.K dPop) := MtR.wk mt_pop fun v vs H Q h => by
  obtain ⟨W, s, d, ds, Qd, R, rv, rs, h, k⟩ := h
  unfold dPop at h
  split at h
  · split at h
    · rename_i n _ xs e
      split at h
      · rename_i y e2
        cases rs
        obtain ⟨a, us, rfl, h1, h2, h3⟩ := rv.cellL R e
        obtain ⟨w, h4, h5⟩ := h3.get e2
        have x := Ext.write (u := .lst us.dropLast) R e h1
        refine ⟨a, us, w, rfl, rfl, h2, by rw [h3.length]; exact h4, ?_⟩
        exact k _ _ _ _ _ h x (Rel.write R e h1 ⟨_, upd_same, h3.dropLast.mono x⟩) (h5.mono x)
      · exact h.elim
    · exact h.elim
  · exact h.elim
def dPopAt : DM := fun d ds s Q => match d, ds with
  | .cell n, [.int i] => (match s n with
    | some (.lst xs) => 0 ≤ i ∧ i < 2 ^ 63 ∧ (match xs[i.toNat]? with
      | some y => Q y (s.set n (.lst (xs.eraseIdx i.toNat)))
      | none => False)
    | _ => False)
  | _, _ => False
theorem m_popAt : MtR X "list.pop" (liftM X.K dPopAt) := MtR.wk mt_popAt fun v vs H Q h => by
  obtain ⟨W, s, d, ds, Qd, R, rv, rs, h, k⟩ := h
  unfold dPopAt at h
  split at h
  · split at h
    · rename_i n i _ xs e
      obtain ⟨g1, g2, h⟩ := h
      split at h
      · rename_i y e2
        obtain ⟨w, rfl, rw⟩ := rs.one
        cases rw
        obtain ⟨a, us, rfl, h1, h2, h3⟩ := rv.cellL R e
        obtain ⟨w, h4, h5⟩ := h3.get e2
        have x := Ext.write (u := .lst (us.eraseIdx i.toNat)) R e h1
        have hl : i.toNat < us.length := (List.getElem?_eq_some_iff.mp h4).1
        refine ⟨a, us, i, i.toNat, w, rfl, rfl, h2, by omega, g2, seqIndex_of g1 (by omega), h4, ?_⟩
        exact k _ _ _ _ _ h x (Rel.write R e h1 ⟨_, upd_same, h3.eraseIdx.mono x⟩) (h5.mono x)
      · exact h.elim
    · exact h.elim
  · exact h.elim
end
end Y


/-! Y6: defs and their calls. -/
namespace Y
open PySem PySem.Spec PyProof.Rows L2

/-! ### a def's promise where no repr runs around it -/
structure GFn (P : Program) (w : World) (K : PySem.W.Frag) (mg : Str → Option Value) (base : Heap) (k : Nat) (f : Addr) (fd : FuncData) (ps : List Str) (sp : Sp) : Prop where
  len : ∀ vs H Q E, sp vs H Q E → vs.length = ps.length
  run : ∀ (A : Around) (out : List Env) (s : Shared) (H : Hp) (args : Args) (us : List Value) (vs : List V) (Q : VK) (E : XK), Room k A → A.guards = some [] →
    Env0 P w K mg base A out s H → BindsTo s fd args (ps.zip us) → Vals vs us → sp vs H Q E → codeAny (model P w) A (.call (.ref f) args) (CR (L2.CX P w) out P w H s Q E) s
section
variable {P : Program} {w : World} {K : PySem.W.Frag} {mg : Str → Option Value} {base : Heap} {k : Nat} {f : Addr} {fd : FuncData} {ps : List Str} {sp : Sp}
theorem GFn.mono {j : Nat} (F : GFn P w K mg base j f fd ps sp) (h : j ≤ k) : GFn P w K mg base k f fd ps sp :=
  ⟨F.len, fun A out s H args us vs Q E hr => F.run A out s H args us vs Q E (hr.mono h)⟩
theorem GFn.of (F : FnOk P w K mg base (L2.CX P w) k f fd ps sp) : GFn P w K mg base k f fd ps sp :=
  ⟨F.len, fun A out s H args us vs Q E hr _ => F.run A out s H args us vs Q E hr⟩
abbrev cxG (P : Program) (w : World) (K : PySem.W.Frag) (mg : Str → Option Value) (base : Heap) (N : List Str) (qual : Str) (sc : Scope) (f : Addr) (cd : Value) (A : Around) (out : List Env) (s : Shared) (H : Hp) (E : XK) : Cx :=
  cxOf (L2.CX P w) P w K mg base N qual sc f cd A out s H E
/-- the rule for a def of the text -/
theorem gfn_of {x qual : Str} {params : Arguments} {body : List Stmt} {sc : Scope} {dvs : List V} {kws : List (Str × V)} {N : List Str} (F : FunD K x qual params body sc dvs kws f fd) (S : FnScope N ps sc) (len : ∀ vs H Q E, sp vs H Q E → vs.length = ps.length)
    (hb : ∀ (cdv : Value) (A : Around) (out : List Env) (s : Shared) (H : Hp) (vs : List V) (Q : VK) (E : XK), Room k (A.deeper (envOfC qual sc s.heap.objs.size f cdv)) → A.guards = some [] → sp vs H Q E →
      ∃ t, PSs (cxG P w K mg base N qual sc f cdv A out s H E) body t ∧ t { nx := fun _ H' => Q .non H', rt := Q } (start N vs) H) : GFn P w K mg base (k + 1) f fd ps sp := by
  obtain ⟨oc, od, dV, kV, doc, pm, an, cdv, ct, osl, rfl, lk, hcd, _, _⟩ := F.ex
  constructor
  · exact len
  · intro A out s H args us vs Q E hr hg e0 bd rv hsp
    have hl : vs.length = ps.length := len _ _ _ _ hsp
    have keep : ∀ b o, base.get? b = some o → s.heap.get? b = some o := fun b o e => (e0.bs b o e).1
    have KX : K.In s.heap := e0.mod.kin.keeps keep
    have lim : s.heap.NoLimit := e0.mod.nolimit.keeps keep
    have kinds : ∀ y ∈ ps.zip us, sc.names.lookup y.1 = some .local ∨ (sc.names.lookup y.1 = some .cell ∧ ((cellsFrom (s.heap.objs.size + 1) sc.names []).lookup y.1).isSome = true) := by
      rintro ⟨n, v⟩ hy
      cases S.par n (List.of_mem_zip hy).1 with
      | inl q => exact .inl q
      | inr q => exact .inr ⟨q, PySem.W.cellsFrom_some _ _ _ (.inl q)⟩
    apply codeAny_call_function hr.depth (KX _ _ lk) rfl S.co S.gen rfl (PySem.W.codeRec_of KX hcd)
    apply bd
    apply wpAny_newFunctionEnv_cells S.kind kinds
    intro env he s1 xx
    subst he
    refine ⟨lim.keeps xx.toInCall.keep, ?_⟩
    apply codeAny_func
    obtain ⟨t, ht, hq⟩ := hb cdv A out s H vs Q E (hr.deeper _) hg hsp
    have I := inv_start (CX := L2.CX P w) (cd := cdv) (E := E) S hr.hd e0 hl rv xx
    refine wpAny_mono (ht.run [] s1 (start N vs) H _ I hq) ?_ (fun _ _ z => z)
    intro fl s' hs
    cases fl with
    | ret u =>
      obtain ⟨v, σ', H', J, r1, q⟩ := hs
      exact ⟨v, H', J.os, J.bare, J.base, J.hok, r1, q⟩
    | next =>
      obtain ⟨σ', H', J, q⟩ := hs
      exact ⟨V.non, H', J.os, J.bare, J.base, J.hok, rfl, q⟩
    | brk => obtain ⟨_, _, _, q⟩ := hs; exact q.elim
    | cont => obtain ⟨_, _, _, q⟩ := hs; exact q.elim
end
section
variable {X : Cx} {k : Nat} {f : Addr} {fd : FuncData} {ps ks : List Str} {sp : Sp} {dvs : List V} {ds : List Value} {E : St → XK} {x : Str} {p pos : Pos} {a : Expr} {es : List Expr} {kws : List Keyword} {t tk : TA}
/-- what a callee lets out is wished for at the caller's slots -/
def PassG (X : Cx) (E : St → XK) : Prop := ∀ (pins : List (Addr × Obj)) (σ : St) (H : Hp) (s : Shared) (e : Value) (s' : Shared), Inv X pins σ H s → L2.CX X.prog X.w X.stack H s (E σ) e s' → X.xe e s'
theorem run_G {pins : List (Addr × Obj)} {σ : St} {H : Hp} {s : Shared} {Q : VK} {us zs : List Value} {kw : List (Str × Value)} {vs : List V} (F : GFn X.prog X.w X.K X.mg X.base k f fd ps sp) (hr : Room k X.A) (hg : X.A.guards = some []) (hx : PassG X E)
    (I : Inv X pins σ H s) (hb : zs.length = ps.length → BindsTo s fd ⟨us, kw⟩ (ps.zip zs)) (r : Vals vs zs) (h : sp vs H Q (E σ)) : wpAny (model X.prog X.w) X.A (call (.ref f) us kw) (EP X pins σ Q) X.xe s := by
  have hl : zs.length = ps.length := by rw [← r.length]; exact F.len _ _ _ _ h
  apply wpAny_call
  refine codeAny_mono (F.run X.A X.stack s H _ zs vs Q (E σ) hr hg I.env0 (hb hl) r h) ?_
  intro res s' hq
  cases res with
  | error e => exact hx pins σ H s e s' I hq
  | ok fl => cases fl with
    | ret u => exact I.after hq
    | next => exact (show False from hq).elim
    | brk => exact (show False from hq).elim
    | cont => exact (show False from hq).elim
def tCallG (sp : Sp) (dvs : List V) (E : St → XK) (t : TA) : TE := fun σ H Q => t σ H fun vs H1 => sp (vs ++ dvs) H1 Q (E σ)
theorem pe_callG (F : GFn X.prog X.w X.K X.mg X.base k f fd ps sp) (hr : Room k X.A) (hgd : X.A.guards = some []) (hg : Gl X x) (hm : X.mg x = some (.ref f)) (hk : PySem.W.keepIn X.K (.ref f) = true) (hb : Binds X.K fd ps ds) (hd : Vals dvs ds) (hx : PassG X E)
    (ha : PA X (a :: es) t) (hdb : (x == ("__debug__" : Str)) = false) (he : starEach (a :: es) X.env = (false, eval a X.env) :: starEach es X.env) (hpl : (backTo pos (starEach es X.env)).any (·.1) = false) :
    PE X (.Call (.Name x p) (a :: es) [] pos) (tCallG sp dvs E t) := by
  constructor
  intro pins s σ H Q I h
  apply wpAny_Call_Name_kw
  apply ld_glob I hg hm _ hdb
  apply PySem.W.callWith_K (h₀ := X.base) I.ok.mod.kin hk _ he hpl
  refine thn (ha.run pos pins s σ H _ I h) ?_
  rintro us s1 ⟨vs, H1, I1, r, q⟩
  exact ⟨I1.kIn, run_G F hr hgd hx I1 (fun hl => hb s1 us I1.kIn hl) (r.append hd) q⟩
theorem pe_callG0 (F : GFn X.prog X.w X.K X.mg X.base k f fd ps sp) (hr : Room k X.A) (hgd : X.A.guards = some []) (hg : Gl X x) (hm : X.mg x = some (.ref f)) (hk : PySem.W.keepIn X.K (.ref f) = true) (hb : Binds X.K fd ps ds) (hd : Vals dvs ds) (hx : PassG X E)
    (hdb : (x == ("__debug__" : Str)) = false) : PE X (.Call (.Name x p) [] [] pos) (tCallG sp dvs E tNil) := by
  constructor
  intro pins s σ H Q I h
  apply wpAny_Call_Name_kw
  apply ld_glob I hg hm _ hdb
  exact PySem.W.callWith_K0 I.kIn hk (run_G F hr hgd hx I (fun hl => hb s [] I.kIn hl) (Vals.append .nil hd) h)
def tCallGK (n m : Nat) (sp : Sp) (gV : List V → List V → List V) (E : St → XK) (t tk : TA) : TE := fun σ H Q => t σ H fun vs H1 => tk σ H1 fun zs H2 => vs.length = n ∧ zs.length = m ∧ sp (gV vs zs) H2 Q (E σ)
variable {n : Nat} {g : List Value → List Value → List Value} {gV : List V → List V → List V}
theorem pe_callGK (F : GFn X.prog X.w X.K X.mg X.base k f fd ps sp) (hr : Room k X.A) (hgd : X.A.guards = some []) (hg : Gl X x) (hm : X.mg x = some (.ref f)) (hk : PySem.W.keepIn X.K (.ref f) = true) (hb : KBn X.K fd ps n ks g gV) (hx : PassG X E)
    (ha : PA X (a :: es) t) (hkw : PK X kws tk) (hall : (backToKw pos (keywordEach kws X.env)).all (·.1.isSome) = true) (hks : (backToKw pos (keywordEach kws X.env)).filterMap (·.1) = ks) (hdb : (x == ("__debug__" : Str)) = false)
    (he : starEach (a :: es) X.env = (false, eval a X.env) :: starEach es X.env) (hpl : ((backTo pos (starEach (a :: es) X.env)).any (·.1) || (backToKw pos (keywordEach kws X.env)).any (·.1.isNone)) = false) :
    PE X (.Call (.Name x p) (a :: es) kws pos) (tCallGK n ks.length sp gV E t tk) := by
  constructor
  intro pins s σ H Q I h
  apply wpAny_Call_Name_kw
  apply ld_glob I hg hm _ hdb
  apply PySem.W.callWith_KW (h₀ := X.base) I.ok.mod.kin hk hall _ hpl he
  refine thn (ha.run pos pins s σ H _ I h) ?_
  rintro us s1 ⟨vs, H1, I1, r, q⟩
  refine thn (hkw.run pos pins s1 σ H1 _ I1 q) ?_
  rintro ws s2 ⟨zs, H2, I2, rz, l1, l2, q2⟩
  refine ⟨I2.kIn, ?_⟩
  rw [hks]
  exact run_G F hr hgd hx I2 (fun _ => hb.to s2 us ws I2.kIn (r.length.symm.trans l1) (rz.length.symm.trans l2)) (hb.rel r rz) q2
theorem pe_callGK0 (F : GFn X.prog X.w X.K X.mg X.base k f fd ps sp) (hr : Room k X.A) (hgd : X.A.guards = some []) (hg : Gl X x) (hm : X.mg x = some (.ref f)) (hk : PySem.W.keepIn X.K (.ref f) = true) (hb : KBn X.K fd ps n ks g gV) (hx : PassG X E)
    (hkw : PK X kws tk) (hall : (backToKw pos (keywordEach kws X.env)).all (·.1.isSome) = true) (hks : (backToKw pos (keywordEach kws X.env)).filterMap (·.1) = ks) (hdb : (x == ("__debug__" : Str)) = false)
    (hpl : ((backTo pos (starEach ([] : List Expr) X.env)).any (·.1) || (backToKw pos (keywordEach kws X.env)).any (·.1.isNone)) = false) :
    PE X (.Call (.Name x p) [] kws pos) (tCallGK n ks.length sp gV E tNil tk) := by
  constructor
  intro pins s σ H Q I h
  apply wpAny_Call_Name_kw
  apply ld_glob I hg hm _ hdb
  apply PySem.W.callWith_KW0 (h₀ := X.base) I.ok.mod.kin hk hall _ hpl
  refine thn (hkw.run pos pins s σ H _ I h) ?_
  rintro ws s2 ⟨zs, H2, I2, rz, l1, l2, q2⟩
  refine ⟨I2.kIn, ?_⟩
  rw [hks]
  exact run_G F hr hgd hx I2 (fun _ => hb.to s2 [] ws I2.kIn l1 (rz.length.symm.trans l2)) (hb.rel .nil rz) q2
end

/-! ### promises over plain data -/
/-- an exception's class, fields, the store -/
abbrev DX := Value → List (Str × D) → S → Prop
abbrev DXE := Nv → DX
abbrev DSp := List D → S → (D → S → Prop) → DX → Prop
def RepX (K : PySem.W.Frag) (W : Wd) (H : Hp) (d : Option Addr) (fl : List (Str × D)) : Prop := (d = none ∧ fl = []) ∨ ∃ a fv, d = some a ∧ W.F a ∧ H a = some (.xd fv) ∧ RepF K W H fv fl
def spOf (K : PySem.W.Frag) (sp : DSp) : Sp := fun vs H Q E => ∃ W s as Qd Ed, Rel K W s H ∧ Reps K W H vs as ∧ sp as s Qd Ed ∧
  (∀ d s' W' v H', Qd d s' → Ext W H W' H' → Rel K W' s' H' → Rep K W' H' v d → Q v H') ∧ ∀ c fl s' W' dd H', Ed c fl s' → Ext W H W' H' → Rel K W' s' H' → RepX K W' H' dd fl → E c dd H'
/-- what the code around does with an exception -/
def Tk (X : Cx) (L : Lk) (EX : DXE) : Prop := ∃ Wx : WX, Takes X Wx ∧ ∀ c dd σ H, (∃ W e s fl, Stt X.K L W e s σ H ∧ EX e c fl s ∧ RepX X.K W H dd fl) → Wx c dd σ H
def EL (K : PySem.W.Frag) (L : Lk) (EX : DXE) : St → XK := fun σ c dd H => ∃ W e s fl, Stt K L W e s σ H ∧ EX e c fl s ∧ RepX K W H dd fl
theorem Tk.pass {X : Cx} {L : Lk} {EX : DXE} (t : Tk X L EX) : PassG X (EL X.K L EX) := by
  obtain ⟨Wx, tk, h⟩ := t
  intro pins σ H s e s' I c
  exact tk e s' (XE.of_call I (fun c dd H' q => h c dd σ H' q) c)
def EX0 : DXE := fun _ _ _ _ => False
theorem Tk.none {X : Cx} {L : Lk} : Tk X L EX0 := by
  refine ⟨fun _ _ _ _ => False, fun u s' h => ?_, fun c dd σ H ⟨_, _, _, _, _, h, _⟩ => h⟩
  obtain ⟨_, _, _, _, _, _, _, _, _, _, _, _, _, _, _, _, h⟩ := h
  exact h.elim
def dCallF (sp : DSp) (dd : List D) (EX : DXE) (r : DTA) : DTE := fun e s Q => r e s fun ds s1 => sp (ds ++ dd) s1 Q (EX e)
def arr (perm : List Nat) (xs : List D) : List D := perm.map fun j => xs.getD j .non
def arrV (perm : List Nat) (xs : List V) : List V := perm.map fun j => xs.getD j .non
def dCallFK (sp : DSp) (perm : List Nat) (n m : Nat) (dd : List D) (EX : DXE) (r rk : DTA) : DTE := fun e s Q => r e s fun ds s1 => rk e s1 fun zs s2 => ds.length = n ∧ zs.length = m ∧ sp (arr perm (ds ++ zs ++ dd)) s2 Q (EX e)
theorem Reps.arr {K : PySem.W.Frag} {W : Wd} {H : Hp} {vs : List V} {ds : List D} (r : Reps K W H vs ds) : ∀ perm : List Nat, Reps K W H (arrV perm vs) (Y.arr perm ds)
  | [] => .nil
  | j :: perm => by
    refine .cons ?_ (Reps.arr r perm)
    show Rep K W H (vs.getD j V.non) (ds.getD j D.non)
    rw [List.getD_eq_getElem?_getD, List.getD_eq_getElem?_getD]
    cases e : ds[j]? with
    | none =>
      have e2 : vs[j]? = none := by
        rw [List.getElem?_eq_none_iff] at e ⊢
        rw [r.length]; exact e
      rw [e2]; exact .non
    | some d =>
      obtain ⟨v, h1, h2⟩ := r.get e
      rw [h1]; exact h2
section
variable {X : Cx} {L : Lk} {k : Nat} {f : Addr} {fd : FuncData} {ps ks : List Str} {sp : DSp} {dvs : List V} {ds : List Value} {dd : List D} {EX : DXE} {x : Str} {p pos : Pos} {a : Expr} {es : List Expr} {kws : List Keyword} {r rk : DTA}
theorem lift_sp {σ : St} {H : Hp} {Q : VK} {W : Wd} {e : Nv} {s : S} {vs : List V} {as : List D} {Qd : D → S → Prop} (st : Stt X.K L W e s σ H) (rs : Reps X.K W H vs as) (h : sp as s Qd (EX e))
    (k : ∀ d s' W' v H', Qd d s' → Ext W H W' H' → Rel X.K W' s' H' → Rep X.K W' H' v d → Q v H') : spOf X.K sp vs H Q (EL X.K L EX σ) :=
  ⟨W, s, as, Qd, EX e, st.rel, rs, h, k, fun c fl s' W' dd H' q x R' rx => ⟨W', e, s', fl, st.after x R', q, rx⟩⟩
theorem de_callF (F : GFn X.prog X.w X.K X.mg X.base k f fd ps (spOf X.K sp)) (hr : Room k X.A) (hgd : X.A.guards = some []) (hg : Gl X x) (hm : X.mg x = some (.ref f)) (hk : PySem.W.keepIn X.K (.ref f) = true) (hb : Binds X.K fd ps ds) (hd : Vals dvs ds) (hdd : ∀ W H, Reps X.K W H dvs dd) (tk : Tk X L EX)
    (ha : PA X (a :: es) (liftA X.K L r)) (hdb : (x == ("__debug__" : Str)) = false) (he : starEach (a :: es) X.env = (false, eval a X.env) :: starEach es X.env) (hpl : (backTo pos (starEach es X.env)).any (·.1) = false) :
    PE X (.Call (.Name x p) (a :: es) [] pos) (lift X.K L (dCallF sp dd EX r)) := (pe_callG F hr hgd hg hm hk hb hd tk.pass ha hdb he hpl).wk fun σ H Q h => by
  obtain ⟨W, e, s, Qd, st, t, kk⟩ := h
  refine ⟨W, e, s, _, st, t, fun as s1 W1 vs H1 q x R p => ?_⟩
  exact lift_sp (st.after x R) (p.app (hdd _ _)) q fun d s' W' v H' q' x' R' r' => kk d s' W' v H' q' (x.trans x') R' r'
theorem de_callF0 (F : GFn X.prog X.w X.K X.mg X.base k f fd ps (spOf X.K sp)) (hr : Room k X.A) (hgd : X.A.guards = some []) (hg : Gl X x) (hm : X.mg x = some (.ref f)) (hk : PySem.W.keepIn X.K (.ref f) = true) (hb : Binds X.K fd ps ds) (hd : Vals dvs ds) (hdd : ∀ W H, Reps X.K W H dvs dd) (tk : Tk X L EX)
    (hdb : (x == ("__debug__" : Str)) = false) : PE X (.Call (.Name x p) [] [] pos) (lift X.K L (dCallF sp dd EX dNil)) := (pe_callG0 F hr hgd hg hm hk hb hd tk.pass hdb).wk fun σ H Q h => by
  obtain ⟨W, e, s, Qd, st, t, kk⟩ := h
  exact lift_sp st (hdd _ _) t fun d s' W' v H' q' x' R' r' => kk d s' W' v H' q' x' R' r'
/-- how a call with keywords puts its values: positional ones, the keywords', the defaults; perm picks from these -/
def GV (perm : List Nat) (dvs : List V) (vs zs : List V) : List V := arrV perm (vs ++ zs ++ dvs)
theorem lift_kw {σ : St} {H : Hp} {Q : VK} {perm : List Nat} {n m : Nat} (hdd : ∀ W H, Reps X.K W H dvs dd) (h : lift X.K L (dCallFK sp perm n m dd EX r rk) σ H Q) : tCallGK n m (spOf X.K sp) (GV perm dvs) (EL X.K L EX) (liftA X.K L r) (liftA X.K L rk) σ H Q := by
  obtain ⟨W, e, s, Qd, st, t, kk⟩ := h
  refine ⟨W, e, s, _, st, t, fun as s1 W1 vs H1 q x R p => ?_⟩
  refine ⟨W1, e, s1, _, st.after x R, q, fun bs s2 W2 zs H2 q2 x2 R2 p2 => ?_⟩
  refine ⟨by rw [p.length]; exact q2.1, by rw [p2.length]; exact q2.2.1, ?_⟩
  exact lift_sp ((st.after x R).after x2 R2) ((((p.mono x2).app p2).app (hdd _ _)).arr perm) q2.2.2 fun d s' W' v H' q' x' R' r' => kk d s' W' v H' q' (x.trans (x2.trans x')) R' r'
variable {n : Nat} {g : List Value → List Value → List Value} {perm : List Nat}
theorem de_callFK (F : GFn X.prog X.w X.K X.mg X.base k f fd ps (spOf X.K sp)) (hr : Room k X.A) (hgd : X.A.guards = some []) (hg : Gl X x) (hm : X.mg x = some (.ref f)) (hk : PySem.W.keepIn X.K (.ref f) = true) (hb : KBn X.K fd ps n ks g (GV perm dvs)) (hdd : ∀ W H, Reps X.K W H dvs dd) (tk : Tk X L EX)
    (ha : PA X (a :: es) (liftA X.K L r)) (hkw : PK X kws (liftA X.K L rk)) (hall : (backToKw pos (keywordEach kws X.env)).all (·.1.isSome) = true) (hks : (backToKw pos (keywordEach kws X.env)).filterMap (·.1) = ks) (hdb : (x == ("__debug__" : Str)) = false)
    (he : starEach (a :: es) X.env = (false, eval a X.env) :: starEach es X.env) (hpl : ((backTo pos (starEach (a :: es) X.env)).any (·.1) || (backToKw pos (keywordEach kws X.env)).any (·.1.isNone)) = false) :
    PE X (.Call (.Name x p) (a :: es) kws pos) (lift X.K L (dCallFK sp perm n ks.length dd EX r rk)) := (pe_callGK F hr hgd hg hm hk hb tk.pass ha hkw hall hks hdb he hpl).wk fun σ H Q h => lift_kw hdd h
theorem de_callFK0 (F : GFn X.prog X.w X.K X.mg X.base k f fd ps (spOf X.K sp)) (hr : Room k X.A) (hgd : X.A.guards = some []) (hg : Gl X x) (hm : X.mg x = some (.ref f)) (hk : PySem.W.keepIn X.K (.ref f) = true) (hb : KBn X.K fd ps n ks g (GV perm dvs)) (hdd : ∀ W H, Reps X.K W H dvs dd) (tk : Tk X L EX)
    (hkw : PK X kws (liftA X.K L rk)) (hall : (backToKw pos (keywordEach kws X.env)).all (·.1.isSome) = true) (hks : (backToKw pos (keywordEach kws X.env)).filterMap (·.1) = ks) (hdb : (x == ("__debug__" : Str)) = false)
    (hpl : ((backTo pos (starEach ([] : List Expr) X.env)).any (·.1) || (backToKw pos (keywordEach kws X.env)).any (·.1.isNone)) = false) :
    PE X (.Call (.Name x p) [] kws pos) (lift X.K L (dCallFK sp perm n ks.length dd EX dNil rk)) := (pe_callGK0 F hr hgd hg hm hk hb tk.pass hkw hall hks hdb hpl).wk fun σ H Q h => by
  obtain ⟨W, e, s, Qd, st, t, kk⟩ := lift_kw hdd h
  exact kk [] s W [] H t (Ext.refl W H) st.rel .nil
theorem dk_nil : PK X [] (liftA X.K L dNil) := ⟨fun pos pins s σ H Q I h => (pk_nil (X := X)).run pos pins s σ H Q I (by
  obtain ⟨W, e, s, Qd, st, t, k⟩ := h
  exact k _ _ W _ H t (Ext.refl W H) st.rel .nil)⟩
theorem dk_cons {ta : DTE} {nm : Option Str} {kpos : Pos} (ha : PE X a (lift X.K L ta)) (hr : PK X kws (liftA X.K L rk)) : PK X (⟨nm, a, kpos⟩ :: kws) (liftA X.K L (dCons ta rk)) := ⟨fun pos pins s σ H Q I h => (pk_cons ha hr).run pos pins s σ H Q I (by
  obtain ⟨W, e, s, Qd, st, t, k⟩ := h
  refine ⟨W, e, s, _, st, t, fun d s1 W1 w H1 q x R p => ?_⟩
  exact ⟨W1, e, s1, _, st.after x R, q, fun ds s2 W2 vs H2 q2 x2 R2 p2 => k _ _ _ _ _ q2 (x.trans x2) R2 (.cons (p.mono x2) p2)⟩)⟩
end
end Y


/-! Y7: statements, loops, comprehensions. -/
namespace Y
open PySem PySem.Spec PyProof.Rows L2

/-! ### statements -/
structure DEnds where
  nx : Nv → S → Prop
  rt : D → S → Prop
  bk : Nv → S → Prop := fun _ _ => False
  ct : Nv → S → Prop := fun _ _ => False
abbrev DTS := DEnds → Nv → S → Prop
structure EndsOk (K : PySem.W.Frag) (L : Lk) (Dd : DEnds) (De : Ends) : Prop where
  nx : ∀ W e s σ H, Stt K L W e s σ H → Dd.nx e s → De.nx σ H
  rt : ∀ W d s v H, L.p W H → Rel K W s H → Rep K W H v d → Dd.rt d s → De.rt v H
  bk : ∀ W e s σ H, Stt K L W e s σ H → Dd.bk e s → De.bk σ H
  ct : ∀ W e s σ H, Stt K L W e s σ H → Dd.ct e s → De.ct σ H
def Lk.le (L L' : Lk) : Prop := ∀ W H, L.p W H → L'.p W H
theorem Lk.le.refl (L : Lk) : L.le L := fun _ _ h => h
theorem Stt.le {K : PySem.W.Frag} {L L' : Lk} {W : Wd} {e : Nv} {s : S} {σ : St} {H : Hp} (h : Stt K L W e s σ H) (q : L.le L') : Stt K L' W e s σ H := ⟨q _ _ h.ext, h.env, h.rel⟩
def liftS (K : PySem.W.Frag) (L0 : Lk) (t : DTS) : TS := fun De σ H => ∃ L W e s Dd, L.le L0 ∧ Stt K L W e s σ H ∧ t Dd e s ∧ EndsOk K L Dd De
abbrev DTG := D → Nv → S → (Nv → S → Prop) → Prop
/-- is: the slots that are stored -/
def liftG (K : PySem.W.Frag) (L0 : Lk) (is : List Nat) (g : DTG) : TG := fun v σ H Q => ∃ L W e s d Qd, L.le L0 ∧ Stt K L W e s σ H ∧ Rep K W H v d ∧ g d e s Qd ∧
  ∀ e' s' W' σ' H', Qd e' s' → Stt K L W' e' s' σ' H' → Ext W H W' H' → (∀ vs, (∀ i ∈ is, i ∈ vs) → wipe σ' vs = wipe σ vs) → Q σ' H'
theorem _root_.L2.PG.wk {X : Cx} {e : Expr} {t t' : TG} (h : PG X e t) (w : ∀ v σ H Q, t' v σ H Q → t v σ H Q) : PG X e t' := ⟨fun pins s σ H v u Q I r q => h.run pins s σ H v u Q I r (w v σ H Q q)⟩
theorem Stt.set {K : PySem.W.Frag} {L : Lk} {W : Wd} {e : Nv} {s : S} {σ : St} {H : Hp} {v : V} {d : D} (st : Stt K L W e s σ H) (i : Nat) (r : Rep K W H v d) : Stt K L W (e.set i (some d)) s (σ.set i (some v)) H := ⟨st.ext, st.env.set r, st.rel⟩
theorem wipe_set {i : Nat} {x : Option V} : ∀ {vs : List Nat} {σ : St}, i ∈ vs → wipe (σ.set i x) vs = wipe σ vs
  | [], _, h => absurd h (by simp)
  | v :: vs, σ, h => by
    unfold wipe
    by_cases hm : i ∈ vs
    · rw [wipe_set hm]
    · have e : i = v := by
        rcases List.mem_cons.mp h with h | h
        · exact h
        · exact absurd h hm
      subst e
      have go : ∀ (us : List Nat), i ∉ us → wipe (σ.set i x) us = (wipe σ us).set i x := by
        intro us
        induction us with
        | nil => intro _; rfl
        | cons u us ih =>
          intro hn
          simp only [List.mem_cons, not_or] at hn
          unfold wipe
          rw [ih hn.2, List.set_comm _ _ hn.1]
      rw [go vs hm, List.set_set]
def wipeD (e : Nv) : List Nat → Nv
  | [] => e
  | v :: vs => (wipeD e vs).set v none
theorem RelE.clr {K : PySem.W.Frag} {W : Wd} {H : Hp} {e : Nv} {σ : St} (h : RelE K W H e σ) (i : Nat) : RelE K W H (e.set i none) (σ.set i none) := by
  refine ⟨by simp [h.len], fun j c q => ?_⟩
  by_cases hj : i = j
  · subst hj
    by_cases hl : i < e.length
    · rw [List.getElem?_set_self hl] at q; cases q
    · rw [List.getElem?_eq_none (by simpa using hl)] at q; cases q
  · rw [List.getElem?_set_ne hj] at q
    obtain ⟨w, a, b⟩ := h.at_ j c q
    exact ⟨w, by rw [List.getElem?_set_ne hj]; exact a, b⟩
theorem RelE.wipe {K : PySem.W.Frag} {W : Wd} {H : Hp} {e : Nv} {σ : St} (h : RelE K W H e σ) : ∀ vs, RelE K W H (wipeD e vs) (L2.wipe σ vs)
  | [] => h
  | v :: vs => (h.wipe vs).clr v
theorem wipe_wipe : ∀ (vs us : List Nat) (σ : St), (∀ i ∈ us, i ∈ vs) → wipe (wipe σ us) vs = wipe σ vs
  | vs, [], σ, _ => rfl
  | vs, u :: us, σ, h => by
    show wipe ((wipe σ us).set u none) vs = _
    rw [wipe_set (h u (by simp)), wipe_wipe vs us σ fun i hi => h i (by simp [hi])]
section
variable {X : Cx} {L : Lk} {a b c : Expr} {te ta tb : DTE} {u v : DTT} {t t2 t3 : DTS} {pos p apos : Pos} {es : List Expr} {x : Str}
def dSeq (t u : DTS) : DTS := fun D e s => t { D with nx := fun e s => u D e s } e s
def dNext : DTS := fun D e s => D.nx e s
theorem ds_cons {st : Stmt} {rest : List Stmt} (h1 : PS X st (liftS X.K L t)) (h2 : PSs X rest (liftS X.K L t2)) : PSs X (st :: rest) (liftS X.K L (dSeq t t2)) := (pss_cons h1 h2).wk fun De σ H h => by
  obtain ⟨L1, W, e, s, Dd, hl, st, q, ok⟩ := h
  exact ⟨L1, W, e, s, _, hl, st, q, ⟨fun W' e' s' σ' H' st' q' => ⟨L1, W', e', s', Dd, hl, st', q', ok⟩, ok.rt, ok.bk, ok.ct⟩⟩
theorem ds_nil : PSs X [] (liftS X.K L dNext) := pss_nil.wk fun De σ H h => by
  obtain ⟨L1, W, e, s, Dd, hl, st, q, ok⟩ := h
  exact ok.nx _ _ _ _ _ st q
theorem ds_pass : PS X (.Pass pos) (liftS X.K L dNext) := ps_pass.wk fun De σ H h => by
  obtain ⟨L1, W, e, s, Dd, hl, st, q, ok⟩ := h
  exact ok.nx _ _ _ _ _ st q
theorem ds_break : PS X (.Break pos) (liftS X.K L fun D e s => D.bk e s) := ps_break.wk fun De σ H h => by
  obtain ⟨L1, W, e, s, Dd, hl, st, q, ok⟩ := h
  exact ok.bk _ _ _ _ _ st q
theorem ds_continue : PS X (.Continue pos) (liftS X.K L fun D e s => D.ct e s) := ps_continue.wk fun De σ H h => by
  obtain ⟨L1, W, e, s, Dd, hl, st, q, ok⟩ := h
  exact ok.ct _ _ _ _ _ st q
/-- an expression from a statement's state -/
theorem lift_of {σ : St} {H : Hp} {Q : VK} {L1 : Lk} {W : Wd} {e : Nv} {s : S} {Qd : D → S → Prop} (hl : L1.le L) (st : Stt X.K L1 W e s σ H) (q : te e s Qd)
    (k : ∀ d s' W' v H', Stt X.K L1 W' e s' σ H' → Ext W H W' H' → Rep X.K W' H' v d → Qd d s' → Q v H') : lift X.K L te σ H Q :=
  ⟨W, e, s, Qd, st.le hl, q, fun d s' W' v H' q' x R r => k d s' W' v H' (st.after x R) x r q'⟩
theorem liftT_of {σ : St} {H : Hp} {Q : Bool → Hp → Prop} {L1 : Lk} {W : Wd} {e : Nv} {s : S} {Qd : Bool → S → Prop} (hl : L1.le L) (st : Stt X.K L1 W e s σ H) (q : u e s Qd)
    (k : ∀ d s' W' H', Stt X.K L1 W' e s' σ H' → Ext W H W' H' → Qd d s' → Q d H') : liftT X.K L u σ H Q :=
  ⟨W, e, s, Qd, st.le hl, q, fun d s' W' H' q' x R => k d s' W' H' (st.after x R) x q'⟩
def dExpr (te : DTE) : DTS := fun D e s => te e s fun _ s1 => D.nx e s1
theorem ds_expr (he : PE X a (lift X.K L te)) (hs : swapsWith a none pos.line X.env = pure false) : PS X (.Expr a pos) (liftS X.K L (dExpr te)) := (ps_expr he hs).wk fun De σ H h => by
  obtain ⟨L1, W, e, s, Dd, hl, st, q, ok⟩ := h
  exact lift_of hl st q fun d s' W' v H' st' _ _ q' => ok.nx _ _ _ _ _ st' q'
def dRet (te : DTE) : DTS := fun D e s => te e s D.rt
theorem ds_ret (he : PE X a (lift X.K L te)) : PS X (.Return (some a) pos) (liftS X.K L (dRet te)) := (ps_ret he).wk fun De σ H h => by
  obtain ⟨L1, W, e, s, Dd, hl, st, q, ok⟩ := h
  exact lift_of hl st q fun d s' W' v H' st' _ r q' => ok.rt _ _ _ _ _ st'.ext st'.rel r q'
theorem ds_retN : PS X (.Return none pos) (liftS X.K L fun D _ s => D.rt .non s) := ps_retN.wk fun De σ H h => by
  obtain ⟨L1, W, e, s, Dd, hl, st, q, ok⟩ := h
  exact ok.rt _ _ _ _ _ st.ext st.rel .non q
def dIfS (u : DTT) (t t2 : DTS) : DTS := fun D e s => u e s fun b s1 => if b = true then t D e s1 else t2 D e s1
theorem ds_if {p q : List Stmt} (hc : PT X c (liftT X.K L u)) (ha : PSs X p (liftS X.K L t)) (hb : PSs X q (liftS X.K L t2)) : PS X (.If c p q pos) (liftS X.K L (dIfS u t t2)) := (ps_if hc ha hb).wk fun De σ H h => by
  obtain ⟨L1, W, e, s, Dd, hl, st, q, ok⟩ := h
  refine liftT_of hl st q fun d s' W' H' st' _ q' => ?_
  cases d with
  | true =>
    rw [if_pos rfl] at q' ⊢
    exact ⟨L1, W', e, s', Dd, hl, st', q', ok⟩
  | false =>
    rw [if_neg Bool.false_ne_true] at q' ⊢
    exact ⟨L1, W', e, s', Dd, hl, st', q', ok⟩
/-! ### targets -/
def gN (i : Nat) : DTG := fun d e s Q => Q (e.set i (some d)) s
theorem dg_name {i : Nat} {x : Str} (hN : X.N.Nodup) (hi : X.N[i]? = some x) (hx : Loc X.env.scope x) (hf : X.fn x = true ∨ X.env.scope.names.lookup x = some .local) : PG X (.Name x pos) (liftG X.K L [i] (gN i)) := (pg_name hN hi hx hf).wk fun v σ H Q h => by
  obtain ⟨L1, W, e, s, d, Qd, hl, st, r, q, k⟩ := h
  exact k _ _ _ _ _ q (st.set i r) (Ext.refl W H) fun vs hv => wipe_set (hv i (by simp))
def dAsg (te : DTE) (g : DTG) : DTS := fun D e s => te e s fun d s1 => g d e s1 D.nx
theorem lift_asg {is : List Nat} {g : DTG} {De : Ends} {σ : St} {H : Hp} (h : liftS X.K L (dAsg te g) De σ H) : tAsg (lift X.K L te) (liftG X.K L is g) De σ H := by
  obtain ⟨L1, W, e, s, Dd, hl, st, q, ok⟩ := h
  refine lift_of hl st q fun d s' W' v H' st' _ r q' => ?_
  exact ⟨L1, W', e, s', d, _, hl, st', r, q', fun e2 s2 W2 σ2 H2 q2 st2 _ _ => ok.nx _ _ _ _ _ st2 q2⟩
theorem gname_of {i : Nat} {v : V} {σ : St} {H : Hp} {Q : St → Hp → Prop} (h : liftG X.K L [i] (gN i) v σ H Q) : gName i v σ H Q := by
  obtain ⟨L1, W, e, s, d, Qd, hl, st, r, q, k⟩ := h
  exact k _ _ _ _ _ q (st.set i r) (Ext.refl W H) fun vs hv => wipe_set (hv i (by simp))
theorem ds_set {i : Nat} {p' : Pos} (hN : X.N.Nodup) (hi : X.N[i]? = some x) (hx : Loc X.env.scope x) (he : PE X a (lift X.K L te)) (hs : swapsWith a (some (.Name x p')) pos.line X.env = pure false) (hf : X.fn x = true ∨ X.env.scope.names.lookup x = some .local) :
    PS X (.Assign [.Name x p'] a pos) (liftS X.K L (dAsg te (gN i))) := (ps_set hN hi hx he hs hf).wk fun De σ H h => by
  have h2 : tAsg (lift X.K L te) (liftG X.K L [i] (gN i)) De σ H := lift_asg h
  obtain ⟨W, e, s, Qd, st, q, k⟩ := h2
  exact ⟨W, e, s, Qd, st, q, fun d s' W' v H' q' x' R r => gname_of (k d s' W' v H' q' x' R r)⟩
theorem ds_asg {tg : Expr} {is : List Nat} {g : DTG} (he : PE X a (lift X.K L te)) (hg : PG X tg (liftG X.K L is g)) (hs : swapsWithSole [tg] a pos.line X.env = pure false) (hw : swappedStores [tg] a X.env = pure none)
    (h1 : (assignEach [tg] X.env).map (·.2) = [assign tg X.env]) : PS X (.Assign [tg] a pos) (liftS X.K L (dAsg te g)) := (ps_asg he hg hs hw h1).wk fun De σ H h => lift_asg h
/-- several targets, a tuple unpacked -/
def liftGs (K : PySem.W.Frag) (L0 : Lk) (is : List Nat) (g : List D → Nv → S → (Nv → S → Prop) → Prop) : TGs := fun vs σ H Q => ∃ L W e s ds Qd, L.le L0 ∧ Stt K L W e s σ H ∧ Reps K W H vs ds ∧ g ds e s Qd ∧
  ∀ e' s' W' σ' H', Qd e' s' → Stt K L W' e' s' σ' H' → Ext W H W' H' → (∀ vs, (∀ i ∈ is, i ∈ vs) → wipe σ' vs = wipe σ vs) → Q σ' H'
theorem _root_.L2.PGs.wk {X : Cx} {e : List Expr} {t t' : TGs} (h : PGs X e t) (w : ∀ v σ H Q, t' v σ H Q → t v σ H Q) : PGs X e t' := ⟨fun pins s σ H v u Q I r q => h.run pins s σ H v u Q I r (w v σ H Q q)⟩
def gsNil : List D → Nv → S → (Nv → S → Prop) → Prop := fun ds e s Q => ds = [] ∧ Q e s
def gsCons (g : DTG) (gs : List D → Nv → S → (Nv → S → Prop) → Prop) : List D → Nv → S → (Nv → S → Prop) → Prop := fun ds e s Q => match ds with
  | [] => False
  | d :: r => g d e s fun e1 s1 => gs r e1 s1 Q
theorem dgs_nil : PGs X [] (liftGs X.K L [] gsNil) := pgs_nil.wk fun v σ H Q h => by
  obtain ⟨L1, W, e, s, ds, Qd, hl, st, r, ⟨q0, q⟩, k⟩ := h
  subst q0
  cases r
  exact ⟨rfl, k _ _ _ _ _ q st (Ext.refl W H) fun _ _ => rfl⟩
theorem dgs_cons {is js : List Nat} {g : DTG} {gs : List D → Nv → S → (Nv → S → Prop) → Prop} (h1 : PG X a (liftG X.K L is g)) (h2 : PGs X es (liftGs X.K L js gs)) (hs : (assignEach (a :: es) X.env).map (·.2) = assign a X.env :: (assignEach es X.env).map (·.2)) :
    PGs X (a :: es) (liftGs X.K L (is ++ js) (gsCons g gs)) := (pgs_cons h1 h2 hs).wk fun v σ H Q h => by
  obtain ⟨L1, W, e, s, ds, Qd, hl, st, r, q, k⟩ := h
  cases r with
  | nil => exact False.elim q
  | cons r rr =>
    refine ⟨_, _, rfl, L1, W, e, s, _, _, hl, st, r, q, fun e1 s1 W1 σ1 H1 q1 st1 x1 w1 => ?_⟩
    refine ⟨L1, W1, e1, s1, _, _, hl, st1, rr.mono x1, q1, fun e2 s2 W2 σ2 H2 q2 st2 x2 w2 => ?_⟩
    refine k _ _ _ _ _ q2 st2 (x1.trans x2) fun us hu => ?_
    rw [w2 us fun i hi => hu i (by simp [hi]), w1 us fun i hi => hu i (by simp [hi])]
def gTupD (n : Nat) (gs : List D → Nv → S → (Nv → S → Prop) → Prop) : DTG := fun d e s Q => match seqT d with
  | some xs => xs.length = n ∧ gs xs e s Q
  | none => False
theorem dg_tup {k n : Nat} {is : List Nat} {gs : List D → Nv → S → (Nv → S → Prop) → Prop} (hc : X.calm = true) (h : PGs X es (liftGs X.K L is gs)) (hn : (assignEach es X.env).length = n) (hst : (assignEach es X.env).findIdx? (·.1) = none) :
    PG X (.Tuple es k pos) (liftG X.K L is (gTupD n gs)) := (pg_tup hc h hn hst).wk fun v σ H Q h => by
  obtain ⟨L1, W, e, s, d, Qd, hl, st, r, q, k⟩ := h
  unfold gTupD at q
  split at q
  · rename_i xs e1
    obtain ⟨p, vs, rfl, h1, h2⟩ := seqT_ok r e1
    exact ⟨p, vs, rfl, h1, by rw [h2.length]; exact q.1, L1, W, e, s, xs, Qd, hl, st, h2, q.2, k⟩
  · exact q.elim
/-- o[i] = .. -/
abbrev DSet := D → D → D → S → (S → Prop) → Prop
def liftSet (K : PySem.W.Frag) (r : DSet) : TSet := fun o i v H Q => ∃ W s dO dI dV Qd, Rel K W s H ∧ Rep K W H o dO ∧ Rep K W H i dI ∧ Rep K W H v dV ∧ r dO dI dV s Qd ∧ ∀ s' W' H', Qd s' → Ext W H W' H' → Rel K W' s' H' → Q H'
def dSetL : DSet := fun o i v s Q => match o with
  | .cell n => (match s n with
    | some (.lst xs) => (match i with
      | .int k => (match ixN xs.length k with
        | some j => Q (s.set n (.lst (xs.set j v)))
        | none => False)
      | _ => False)
    | some (.dic kvs) => (match keyK i with
      | some κ => kvs.length < sizeLine ∧ Q (s.set n (.dic (putD kvs κ v)))
      | none => False)
    | _ => False)
  | _ => False
theorem _root_.L2.PSet.or {X : Cx} {r r' : TSet} (h : PSet X r) (h' : PSet X r') : PSet X (fun o i v H Q => r o i v H Q ∨ r' o i v H Q) := fun pins s σ H o i v ov iv u Q I ro ri rv q =>
  q.elim (h pins s σ H o i v ov iv u Q I ro ri rv) (h' pins s σ H o i v ov iv u Q I ro ri rv)
theorem PSet.wk {r r' : TSet} (h : PSet X r) (w : ∀ o i v H Q, r' o i v H Q → r o i v H Q) : PSet X r' := fun pins s σ H o i v ov iv u Q I ro ri rv q => h pins s σ H o i v ov iv u Q I ro ri rv (w o i v H Q q)
theorem pset_list (hu : X.A.units + 1 < cLine) : PSet X (liftSet X.K dSetL) := PSet.wk (L2.PSet.or set_list (set_dict hu)) fun o i v H Q h => by
  obtain ⟨W, s, dO, dI, dV, Qd, R, ro, ri, rv, q, k⟩ := h
  unfold dSetL at q
  split at q
  · split at q
    · rename_i n _ xs e
      split at q
      · split at q
        · rename_i j e2
          cases ri
          obtain ⟨a, us, rfl, h1, h2, h3⟩ := ro.cellL R e
          have x := Ext.write (u := .lst (us.set j v)) R e h1
          refine .inl ⟨a, us, _, j, rfl, rfl, h2, by rw [h3.length]; exact e2, ?_⟩
          exact k _ _ _ q x (Rel.write R e h1 ⟨_, upd_same, (h3.set rv).mono x⟩)
        · exact q.elim
      · exact q.elim
    · rename_i n _ kvs e
      split at q
      · rename_i κ ek
        obtain ⟨a, us, rfl, h1, h2, h3⟩ := cellD_ok R ro e
        cases ri.key ek
        have x := Ext.write (u := .dK (putK us κ v)) R e h1
        refine .inr ⟨a, _, rfl, .inl ⟨us, κ, h2, rfl, by rw [h3.length]; exact q.1, rfl⟩, ?_⟩
        exact k _ _ _ q.2 x (Rel.write R e h1 ⟨_, upd_same, (h3.put κ rv).mono x⟩)
      · exact q.elim
    · exact q.elim
  · exact q.elim
def gSubD (to ti : DTE) (r : DSet) : DTG := fun d e s Q => to e s fun o s1 => ti e s1 fun i s2 => r o i d s2 fun s3 => Q e s3
theorem dg_sub {to ti : DTE} {r : DSet} (ho : PE X a (lift X.K L to)) (hi : PE X b (lift X.K L ti)) (hs : PSet X (liftSet X.K r))
    (ha : ∀ v, assign (.Subscript a b pos) X.env v = (do
      let ov ← holding [v] (eval a X.env)
      let iv ← holding [v, ov] (eval b X.env)
      standAt pos
      holding [v, ov, iv] (setItem ov iv v)
      release [v, ov, iv] [])) : PG X (.Subscript a b pos) (liftG X.K L [] (gSubD to ti r)) := (pg_sub ho hi hs ha).wk fun v σ H Q h => by
  obtain ⟨L1, W, e, s, d, Qd, hl, st, r, q, k⟩ := h
  refine lift_of hl st q fun o s1 W1 o' H1 st1 x1 r1 q1 => ?_
  refine lift_of hl st1 q1 fun i s2 W2 i' H2 st2 x2 r2 q2 => ?_
  exact ⟨W2, s2, o, i, d, _, st2.rel, r1.mono x2, r2, r.mono (x1.trans x2), q2, fun s3 W3 H3 q3 x3 R3 => k _ _ _ _ _ q3 (st2.after x3 R3) (x1.trans (x2.trans x3)) fun _ _ => rfl⟩
/-- a, b = x, y of plain local names -/
def dPar (i j : Nat) (r : DTA) : DTS := fun D e s => r e s fun ds s1 => match ds with
  | [x, y] => D.nx ((e.set i (some x)).set j (some y)) s1
  | _ => False
theorem ds_par {i j : Nat} {x y : Str} {a b : Expr} {r : DTA} {px py pt : Pos} {kt k2 : Nat} {pt2 : Pos} (hc : X.calm = true) (hN : X.N.Nodup) (hi : X.N[i]? = some x) (hj : X.N[j]? = some y) (hij : i ≠ j)
    (hx : X.env.scope.names.lookup x = some .local) (hy : X.env.scope.names.lookup y = some .local) (ha : PA X [a, b] (liftA X.K L r)) (h1 : PS X (.Assign [.Tuple [.Name x px, .Name y py] kt pt] (.Tuple [a, b] k2 pt2) pos) (tPar i j (liftA X.K L r))) :
    PS X (.Assign [.Tuple [.Name x px, .Name y py] kt pt] (.Tuple [a, b] k2 pt2) pos) (liftS X.K L (dPar i j r)) := h1.wk fun De σ H h => by
  obtain ⟨L1, W, e, s, Dd, hl, st, q, ok⟩ := h
  refine ⟨W, e, s, _, st.le hl, q, fun ds s' W' vs H' q' x' R rs => ?_⟩
  have st' := st.after x' R
  cases rs with
  | nil => exact False.elim q'
  | cons r1 rs => cases rs with
    | nil => exact False.elim q'
    | cons r2 rs => cases rs with
      | nil => exact ⟨_, _, rfl, ok.nx _ _ _ _ _ ((st'.set i r1).set j r2) q'⟩
      | cons _ _ => exact False.elim q'
end
end Y


/-! Y8: loops and comprehensions. -/
namespace Y
open PySem PySem.Spec PyProof.Rows L2

/-- the walk J draws the items xs while ok holds of the store -/
def ItOk (K : PySem.W.Frag) (W1 : Wd) (H1 : Hp) (J : It) (ok : S → Prop) (xs : List D) : Prop := ∀ (i : Nat) (W : Wd) (s : S) (H : Hp), Sub W1 H1 W H → Rel K W s H → ok s →
  (∀ d, xs[i]? = some d → J.go i H ∧ ∀ x H', J.yld i H x H' → ∃ W', Ext W H W' H' ∧ Rel K W' s H' ∧ Rep K W' H' x d) ∧ (xs.length ≤ i → J.stop i H)
abbrev DTI := Nv → S → ((S → Prop) → List D → S → Prop) → Prop
def liftI (K : PySem.W.Frag) (L : Lk) (t : DTI) : TI := fun σ H R => ∃ W e s Rd, Stt K L W e s σ H ∧ t e s Rd ∧ ∀ ok xs s' W' H' J, Rd ok xs s' → Ext W H W' H' → Rel K W' s' H' → ItOk K W' H' J ok xs → R J H'
theorem _root_.L2.PI.wk {X : Cx} {tg e : Expr} {t t' : TI} (h : PI X tg e t) (w : ∀ σ H R, t' σ H R → t σ H R) : PI X tg e t' := ⟨fun pins s σ H R I q => h.run pins s σ H R I (w σ H R q)⟩
theorem Sub.trans {W W1 W2 : Wd} {H H1 H2 : Hp} (a : Sub W H W1 H1) (b : Sub W1 H1 W2 H2) : Sub W H W2 H2 :=
  ⟨fun x h => b.f x (a.f x h), fun n x h => b.r n x (a.r n x h), fun x h => (a.k x h).trans (b.k x (a.f x h))⟩
/-- the turns, from the left -/
def dGo (ok : S → Prop) (g : DTG) (tb el : DTS) (Dd : DEnds) : List D → Nv → S → Prop
  | [], e, s => ok s ∧ el Dd e s
  | x :: xs, e, s => ok s ∧ g x e s fun e1 s1 => tb { Dd with nx := dGo ok g tb el Dd xs, ct := dGo ok g tb el Dd xs, bk := Dd.nx } e1 s1
def dFor (it : DTI) (g : DTG) (tb el : DTS) : DTS := fun D e s => it e s fun ok xs s1 => dGo ok g tb el D xs e s1
section
variable {X : Cx} {L : Lk} {a b c : Expr} {te ta tb : DTE} {u v : DTT} {t el : DTS} {pos p apos : Pos} {es : List Expr} {x : Str} {it : DTI} {g : DTG} {is : List Nat}
/-- what lies behind a state -/
def Lk.behind (L : Lk) (W1 : Wd) (H1 : Hp) : Lk := ⟨fun W H => L.p W H ∧ Sub W1 H1 W H, fun h x => ⟨L.up h.1 x, h.2.trans x.toSub⟩⟩
theorem EndsOk.le {K : PySem.W.Frag} {L L' : Lk} {Dd : DEnds} {De : Ends} (h : EndsOk K L Dd De) (q : L'.le L) : EndsOk K L' Dd De :=
  ⟨fun W e s σ H st => h.nx W e s σ H (st.le q), fun W d s v H l => h.rt W d s v H (q _ _ l), fun W e s σ H st => h.bk W e s σ H (st.le q), fun W e s σ H st => h.ct W e s σ H (st.le q)⟩
theorem lift_for {De : Ends} {σ : St} {H : Hp} (h : liftS X.K L (dFor it g t el) De σ H) : tForE (liftI X.K L it) (liftG X.K L is g) (liftS X.K L t) (liftS X.K L el) De σ H := by
  obtain ⟨L1, W, e, s, Dd, hl, st, q, ok⟩ := h
  refine ⟨W, e, s, _, st.le hl, q, fun okk xs s1 W1 H1 J q1 x1 R1 io => ?_⟩
  have st1 := st.after x1 R1
  have hle : (L1.behind W1 H1).le L1 := fun _ _ z => z.1
  refine ⟨fun i m σ H => m = xs.length - i ∧ i ≤ xs.length ∧ ∃ W e s, Stt X.K (L1.behind W1 H1) W e s σ H ∧ dGo okk g t el Dd (xs.drop i) e s, ⟨xs.length, by simp, Nat.zero_le _, W1, e, s1, ⟨⟨st1.ext, (Ext.refl W1 H1).toSub⟩, st1.env, st1.rel⟩, q1⟩, ?_⟩
  rintro i m σ2 H2 ⟨rfl, hi, W2, e2, s2, st2, q2⟩
  have io0 := io i W2 s2 H2 st2.ext.2 st2.rel
  by_cases hlt : i < xs.length
  · rw [List.drop_eq_getElem_cons hlt] at q2
    obtain ⟨o1, q2⟩ := q2
    obtain ⟨go, yy⟩ := (io0 o1).1 xs[i] (by simp [hlt])
    refine .inr ⟨go, fun σ' H' => ∃ W' e' s', Stt X.K (L1.behind W1 H1) W' e' s' σ' H' ∧ dGo okk g t el Dd (xs.drop (i + 1)) e' s', fun σ' H' z => ⟨xs.length - (i + 1), by omega, rfl, hlt, z⟩, fun x H' y => ?_⟩
    obtain ⟨W3, x3, R3, r3⟩ := yy x H' y
    refine ⟨L1.behind W1 H1, W3, e2, s2, xs[i], _, fun _ _ z => hl _ _ z.1, st2.after x3 R3, r3, q2, fun e4 s4 W4 σ4 H4 q4 st4 x4 _ => ?_⟩
    exact ⟨L1.behind W1 H1, W4, e4, s4, _, fun _ _ z => hl _ _ z.1, st4, q4, ⟨fun W e s σ H st q => ⟨W, e, s, st, q⟩, (ok.le hle).rt, fun W e s σ H st q => (ok.le hle).nx W e s σ H st q, fun W e s σ H st q => ⟨W, e, s, st, q⟩⟩⟩
  · have e : i = xs.length := by omega
    subst e
    rw [List.drop_length] at q2
    exact .inl ⟨(io0 q2.1).2 (Nat.le_refl _), L1, W2, e2, s2, Dd, hl, st2.le hle, q2.2, ok⟩
theorem ds_for {body orelse : List Stmt} {tg iter : Expr} (hp : PassesOwn (model X.prog X.w) X.A X.env X.xe) (hc : X.calm = true) (hi : PI X tg iter (liftI X.K L it)) (hg : PG X tg (liftG X.K L is g)) (hb : PSs X body (liftS X.K L t)) (ho : PSs X orelse (liftS X.K L el))
    (hs : ∀ x, foldedSetIterable iter X.env x = pure x) : PS X (.For tg iter body orelse pos) (liftS X.K L (dFor it g t el)) := (ps_forE hp hc hi hg hb ho hs).wk fun De σ H h => lift_for h
/-- while: the invariant with its measure -/
def dWhile (c : DTT) (tb : DTS) : DTS := fun D e s => ∃ I : Nat → Nv → S → Prop, (∃ m, I m e s) ∧ ∀ m e s, I m e s → c e s fun b s1 =>
  if b = true then tb { D with nx := fun e' s' => ∃ m', m' < m ∧ I m' e' s', ct := fun e' s' => ∃ m', m' < m ∧ I m' e' s', bk := D.nx } e s1 else D.nx e s1
theorem ds_while {body : List Stmt} (hp : PassesOwn (model X.prog X.w) X.A X.env X.xe) (hc : PT X c (liftT X.K L u)) (hb : PSs X body (liftS X.K L t)) : PS X (.While c body [] pos) (liftS X.K L (dWhile u t)) := (ps_while hp hc hb).wk fun De σ H h => by
  obtain ⟨L1, W, e, s, Dd, hl, st, ⟨I, ⟨m0, i0⟩, turn⟩, ok⟩ := h
  refine ⟨fun m σ H => ∃ W e s, Stt X.K L1 W e s σ H ∧ I m e s, ⟨m0, W, e, s, st, i0⟩, ?_⟩
  rintro m σ1 H1 ⟨W1, e1, s1, st1, i1⟩
  refine liftT_of hl st1 (turn m e1 s1 i1) fun d s' W' H' st' _ q' => ?_
  cases d with
  | true =>
    rw [if_pos rfl] at q' ⊢
    refine ⟨fun σ H => ∃ W e s, Stt X.K L1 W e s σ H ∧ ∃ m', m' < m ∧ I m' e s, fun σ2 H2 ⟨W2, e2, s2, st2, m', hm, i2⟩ => ⟨m', hm, W2, e2, s2, st2, i2⟩, ?_⟩
    exact ⟨L1, W', e1, s', _, hl, st', q', ⟨fun W e s σ H st q => ⟨W, e, s, st, q⟩, ok.rt, fun W e s σ H st q => ok.nx W e s σ H st q, fun W e s σ H st q => ⟨W, e, s, st, q⟩⟩⟩
  | false =>
    rw [if_neg Bool.false_ne_true] at q' ⊢
    exact ok.nx _ _ _ _ _ st' q'

/-! ### what is walked -/
/-- an expression whose value is walked: a list, a tuple, a text -/
def dItE (te : DTE) : DTI := fun e s R => te e s fun d s1 => match seqL s1 d with
  | some xs => xs.length ≤ sizeLine → R (fun s => seqL s d = some xs) xs s1
  | none => match seqT d with
    | some xs => xs.length ≤ sizeLine → R (fun _ => True) xs s1
    | none => match d with
      | .str z => R (fun _ => True) (z.cps.toList.map fun c => .str ⟨#[c]⟩) s1
      | .dic kvs => kvs.length ≤ sizeLine → R (fun _ => True) (kvs.map (·.1)) s1
      | _ => False
theorem Reps.drawn {K : PySem.W.Frag} {W : Wd} {H : Hp} {vs : List V} {ds : List D} {i : Nat} {v : V} {d : D} (r : Reps K W H vs ds) (h : vs[i]? = some v) (h2 : ds[i]? = some d) : Rep K W H v d := by
  obtain ⟨d', e, q⟩ := r.getV h
  rw [h2] at e; cases e
  exact q
theorem di_e {tg iter : Expr} (hl : PE X iter (lift X.K L te)) : PI X tg iter (liftI X.K L (dItE te)) := by
  refine ⟨fun pins s σ H R I h => ?_⟩
  obtain ⟨W, e, sd, Rd, st, q, k⟩ := h
  refine thn (hl.run pins s σ H (fun v H' => ∃ d s' W', Ext W H W' H' ∧ Rel X.K W' s' H' ∧ Rep X.K W' H' v d ∧ (match seqL s' d with
    | some xs => xs.length ≤ sizeLine → Rd (fun s => seqL s d = some xs) xs s'
    | none => match seqT d with
      | some xs => xs.length ≤ sizeLine → Rd (fun _ => True) xs s'
      | none => match d with
        | .str z => Rd (fun _ => True) (z.cps.toList.map fun c => .str ⟨#[c]⟩) s'
        | .dic kvs => kvs.length ≤ sizeLine → Rd (fun _ => True) (kvs.map (·.1)) s'
        | _ => False)) I ⟨W, e, sd, _, st, q, fun d s' W' v H' q' x R' r => ⟨d, s', W', x, R', r, q'⟩⟩) ?_
  rintro u s1 ⟨v, H1, I1, r1, d, s', W', x, R', rd, q'⟩
  split at q'
  · rename_i xs e1
    obtain ⟨a, vs, rfl, h1, h2⟩ := seqL_ok R' rd e1
    cases r1
    obtain ⟨its, rv, pl, hz⟩ := I1.list h1
    apply wpAny_pyIter_list pl.isList
    have go : R (Itl X.K a) H1 := k _ _ _ _ _ _ (q' (by rw [← h2.length]; exact hz)) x R' fun i W s H sub Rr ok => by
      obtain ⟨a', us, e2, g1, g2⟩ := seqL_ok Rr (rd.sub sub) ok
      cases e2
      refine ⟨fun dd hd => ?_, fun hl => ⟨us, g1, by rw [g2.length]; exact hl⟩⟩
      obtain ⟨y, hy, ry⟩ := g2.get hd
      refine ⟨⟨us, y, g1, hy⟩, ?_⟩
      rintro z H' ⟨rfl, hz⟩
      exact ⟨W, Ext.refl _ _, Rr, g2.drawn (hz us g1) hd⟩
    exact ⟨_, [s1.heap.objs.size], _, _, H1, rfl, I1.kept (t' := s1.toks) fun b o e => Heap.get?_push_of_some _ e, turn_list a _, ⟨_, Heap.get?_push_size _ rfl, rfl, rfl⟩, fun b hb => by
      have e : b = s1.heap.objs.size := by simpa using hb
      subst e
      exact I1.fpOk (Nat.le_refl _) (I1.hok.fresh (Nat.le_refl _)), go⟩
  · split at q'
    · rename_i xs e1
      obtain ⟨a, vs, rfl, h1, h2⟩ := seqT_ok rd e1
      cases r1
      obtain ⟨its, rv, pl, hz⟩ := I1.tuple h1
      apply wpAny_pyIter_tuple (show s1.heap.IsTuple a its.toArray from pl)
      have go : R (Itt X.K a) H1 := k _ _ _ _ _ _ (q' (by rw [← h2.length]; exact hz)) x R' fun i W s H sub Rr ok => by
        obtain ⟨a', us, e2, g1, g2⟩ := seqT_ok (rd.sub sub) e1
        cases e2
        refine ⟨fun dd hd => ?_, fun hl => ⟨us, g1, by rw [g2.length]; exact hl⟩⟩
        obtain ⟨y, hy, ry⟩ := g2.get hd
        refine ⟨⟨us, y, g1, hy⟩, ?_⟩
        rintro z H' ⟨rfl, hz⟩
        exact ⟨W, Ext.refl _ _, Rr, g2.drawn (hz us g1) hd⟩
      exact ⟨_, [s1.heap.objs.size], _, _, H1, rfl, I1.kept (t' := s1.toks) fun b o e => Heap.get?_push_of_some _ e, turn_tuple a _, ⟨_, Heap.get?_push_size _ rfl, rfl, rfl⟩, fun b hb => by
        have e : b = s1.heap.objs.size := by simpa using hb
        subst e
        exact I1.fpOk (Nat.le_refl _) (I1.hok.fresh (Nat.le_refl _)), go⟩
    · split at q'
      · rename_i z _ _
        cases rd
        obtain ⟨t, rfl⟩ := r1
        have go : R (Its z) H1 := k _ _ _ _ _ _ q' x R' fun i W s H sub Rr ok => by
          refine ⟨fun dd hd => ?_, fun hl => ?_⟩
          · rw [List.getElem?_map] at hd
            cases e : z.cps.toList[i]? with
            | none => rw [e] at hd; cases hd
            | some c =>
              rw [e] at hd
              have hd' : D.str ⟨#[c]⟩ = dd := Option.some.inj hd
              subst hd'
              have hi : i < z.cps.size := by
                have := (List.getElem?_eq_some_iff.mp e).1
                simpa using this
              refine ⟨hi, ?_⟩
              rintro w H' ⟨rfl, c', hc, rfl⟩
              have e' : z.cps[i]? = some c := by simpa using e
              rw [hc] at e'; cases e'
              exact ⟨W, Ext.refl _ _, Rr, .str _⟩
          · show z.cps.size ≤ i
            simpa using hl
        cases ha : z.cps.all (· < 128)
        · exact wpAny_pyIter_wide ha (pi_one (tk := s1.toks) I1 _ (turn_str _ z t "str_iterator" (.inr rfl)) ⟨_, Heap.get?_push_size _ rfl, rfl, rfl⟩ go)
        · exact wpAny_pyIter_ascii ha (pi_one (tk := s1.toks) I1 _ (turn_str _ z t "str_ascii_iterator" (.inl rfl)) ⟨_, Heap.get?_push_size _ rfl, rfl, rfl⟩ go)
      · rename_i kvs _ _
        cases rd with
        | @dK a us _ f h rk =>
          cases (show u = Value.ref a from r1)
          have main : ∀ (ob : Obj) (H2 : Hp), Inv X pins σ H2 s1 → H2 a = some (.frz ob (.dK us)) → Ext W H W' H2 → Rel X.K W' s' H2 → wpAny (model X.prog X.w) X.A (pyIter (.ref a)) (PIE X pins σ tg R) X.xe s1 := fun ob H2 I2 h2 x2 R2 => by
            obtain ⟨g1, g2, g3, es, ep, vs, g4, g5, g6, g7⟩ := I2.frzK h2
            obtain ⟨z, _⟩ := dk_rd I2.hok (.inr ⟨ob, h2⟩)
            have go : R (Itk a ob us) H2 := k _ _ _ _ _ _ (q' (by rw [← rk.length]; exact z)) x2 R2 fun i W3 s3 H3 sub Rr ok => by
              have h3 : H3 a = some (.frz ob (.dK us)) := (sub.k a f).frz h2
              rw [rk.keys]
              refine ⟨fun dd hd => ?_, fun hl => ⟨h3, by rw [List.length_map] at hl; exact hl⟩⟩
              rw [List.getElem?_map] at hd
              cases e : us[i]? with
              | none => rw [e] at hd; cases hd
              | some p =>
                rw [e] at hd
                have hd' : kD p.1 = dd := Option.some.inj hd
                subst hd'
                refine ⟨⟨h3, (List.getElem?_eq_some_iff.mp e).1⟩, ?_⟩
                rintro w H' ⟨rfl, κ, v, e2, rfl⟩
                rw [e] at e2
                cases e2
                exact ⟨W3, Ext.refl _ _, Rr, Rep.ofKey κ⟩
            refine iter_keys g1 g2 g3 g4 (pi_one (tk := s1.toks) I2 _ (turn_keys _ g4) ⟨_, Heap.get?_push_size _ rfl, rfl, ?_⟩ go)
            rw [g5] <;> rfl
          rcases core_dK h with h | ⟨ob, h⟩
          · obtain ⟨ob, I2⟩ := I1.lock h trivial
            exact main ob _ I2 upd_same (x.trans (Ext.lock R' f h rfl)) (Rel.lock R' f h rfl)
          · exact main ob H1 I1 h x R'
      · exact q'.elim
/-- range(n), range(m, n) -/
def dItR1 (r : DTA) : DTI := fun e s R => r e s fun ds s1 => match ds with
  | [.int j] => -(2 ^ 62) ≤ j ∧ j < 2 ^ 62 ∧ R (fun _ => True) ((List.range j.toNat).map fun i => .int (i : Nat)) s1
  | _ => False
def dItR2 (r : DTA) : DTI := fun e s R => r e s fun ds s1 => match ds with
  | [.int i, .int j] => (-(2 ^ 62) ≤ i ∧ i < 2 ^ 62 ∧ -(2 ^ 62) ≤ j ∧ j < 2 ^ 62) ∧ R (fun _ => True) ((List.range (j - i).toNat).map fun k => .int (i + (k : Nat))) s1
  | _ => False
theorem itok_range {K : PySem.W.Frag} {W : Wd} {H : Hp} (lo : Int) (n : Nat) : ItOk K W H (Itr lo n) (fun _ => True) ((List.range n).map fun k => .int (lo + (k : Nat))) := fun i W s H sub Rr ok => by
  refine ⟨fun dd hd => ?_, fun hl => ?_⟩
  · rw [List.getElem?_map] at hd
    by_cases hi : i < n
    · rw [List.getElem?_range hi] at hd
      have hd' : D.int (lo + (i : Nat)) = dd := Option.some.inj hd
      subst hd'
      refine ⟨hi, ?_⟩
      rintro w H' ⟨rfl, rfl⟩
      exact ⟨W, Ext.refl _ _, Rr, .int _⟩
    · rw [List.getElem?_eq_none (by simpa using hi)] at hd; cases hd
  · show n ≤ i
    simpa using hl
theorem di_range1 {tg : Expr} {r : DTA} (hg : Gl X "range") (hm : X.mg "range" = none) (ha : PA X [a] (liftA X.K L r)) (hs : starEach [a] X.env = [(false, eval a X.env)]) : PI X tg (.Call (.Name "range" p) [a] [] pos) (liftI X.K L (dItR1 r)) := (pi_range1 hg hm ha hs).wk fun σ H R h => by
  obtain ⟨W, e, s, Rd, st, q, k⟩ := h
  refine ⟨W, e, s, _, st, q, fun ds s1 W1 vs H1 q1 x1 R1 rs => ?_⟩
  split at q1
  · obtain ⟨v, rfl, rv⟩ := rs.one
    cases rv
    refine ⟨_, rfl, q1.1, q1.2.1, k _ _ _ _ _ _ q1.2.2 x1 R1 ?_⟩
    rename_i j
    have := itok_range (K := X.K) (W := W1) (H := H1) 0 j.toNat
    simpa using this
  · exact q1.elim
theorem di_range2 {tg : Expr} {r : DTA} (hg : Gl X "range") (hm : X.mg "range" = none) (ha : PA X [a, b] (liftA X.K L r)) (hs : starEach [a, b] X.env = [(false, eval a X.env), (false, eval b X.env)]) (hs2 : starEach [b] X.env = [(false, eval b X.env)]) : PI X tg (.Call (.Name "range" p) [a, b] [] pos) (liftI X.K L (dItR2 r)) := (pi_range2 hg hm ha hs hs2).wk fun σ H R h => by
  obtain ⟨W, e, s, Rd, st, q, k⟩ := h
  refine ⟨W, e, s, _, st, q, fun ds s1 W1 vs H1 q1 x1 R1 rs => ?_⟩
  split at q1
  · obtain ⟨v, v', rfl, rv, rv'⟩ := rs.two
    cases rv; cases rv'
    exact ⟨_, _, rfl, q1.1, k _ _ _ _ _ _ q1.2 x1 R1 (itok_range _ _)⟩
  · exact q1.elim

/-! ### comprehensions -/
def LT : Lk := ⟨fun _ _ => True, fun _ _ => trivial⟩
def dLc (ok : S → Prop) (g : DTG) (tt : DTT) (te : DTE) (e0 : Nv) : List D → S → (List D → S → Prop) → Prop
  | [], s, Q => ok s ∧ Q [] s
  | x :: xs, s, Q => ok s ∧ g x e0 s fun e1 s1 => tt e1 s1 fun b s2 => if b = true then te e1 s2 fun d s3 => dLc ok g tt te e0 xs s3 fun ds s4 => Q (d :: ds) s4 else dLc ok g tt te e0 xs s2 Q
def dComp (it : DTI) (g : DTG) (tt : DTT) (te : DTE) (vs : List Nat) : DTE := fun e s Q => it e s fun ok xs s1 => xs.length ≤ sizeLine ∧ dLc ok g tt te (wipeD e vs) xs s1 fun ds s2 => Q (.lst ds) s2
def dCompC (it : DTI) (g : DTG) (tt : DTT) (te : DTE) (vs : List Nat) : DTE := fun e s Q => it e s fun ok xs s1 => xs.length ≤ sizeLine ∧ dLc ok g tt te (wipeD e vs) xs s1 fun ds s2 => ∀ n, s2 n = none → Q (.cell n) (s2.set n (.lst ds))
theorem RelE.sub {K : PySem.W.Frag} {W W' : Wd} {H H' : Hp} {e : Nv} {σ : St} (h : RelE K W H e σ) (x : Sub W H W' H') : RelE K W' H' e σ :=
  ⟨h.len, fun i d q => let ⟨v, a, b⟩ := h.at_ i d q; ⟨v, a, b.sub x⟩⟩
theorem Reps.snoc {K : PySem.W.Frag} {W : Wd} {H : Hp} {vs : List V} {ds : List D} {v : V} {d : D} (r : Reps K W H vs ds) (q : Rep K W H v d) : Reps K W H (vs ++ [v]) (ds ++ [d]) := r.app (.cons q .nil)
/-- an object that nobody knows is settled, becomes a cell -/
theorem Rel.adopt {K : PySem.W.Frag} {W : Wd} {H : Hp} {s : S} {p : Addr} {u : HO} (R : Rel K W s H) (hp : H p = some u) (hl : ∀ n o, s n = some o → W.r n ≠ some p) (hz : ¬ W.Z p) : Rel K (W.add p) s H := by
  refine ⟨fun n o e => ?_, R.inj, R.nx, fun a f => ?_, fun a z => ?_⟩
  · obtain ⟨a, h1, h2, h3⟩ := R.cells n o e
    refine ⟨a, h1, ⟨fun z => ?_, h2.2⟩, h3.mono (Ext.fix p) rfl⟩
    rcases z with z | z
    · exact h2.1 z
    · subst z; exact hl n o e h1
  · rcases f with f | f
    · exact R.fr a f
    · subst f; exact ⟨u, hp⟩
  · obtain ⟨h1, o, e⟩ := R.zf a z
    refine ⟨fun q => ?_, o, e⟩
    rcases q with q | q
    · exact h1 q
    · subst q; exact hz z
theorem Ext.newC {K : PySem.W.Frag} {W : Wd} {H : Hp} {s : S} (p : Addr) (R : Rel K W s H) : Ext W H (W.new p) H := Ext.new R fun _ _ e => e
theorem Rel.adoptC {K : PySem.W.Frag} {W : Wd} {H : Hp} {s : S} {p : Addr} {o : O} (R : Rel K W s H) (hf : ¬ W.F p) (hl : ∀ n o, s n = some o → W.r n ≠ some p) (hz : ¬ W.Z p) (ho : RepO K (W.new p) H p o) : Rel K (W.new p) (s.set W.nx o) H := by
  have x := Ext.newC p R
  have nr : ∀ n, n ≠ W.nx → (W.new p).r n = W.r n := fun n hn => if_neg hn
  refine ⟨fun n o' e => ?_, fun n m a h1 h2 l1 l2 => ?_, fun n a h => ?_, R.fr, R.zf⟩
  · by_cases hn : n = W.nx
    · subst hn
      rw [S.set_same] at e; cases e
      exact ⟨p, Wd.new_r W p, ⟨hf, hz⟩, ho⟩
    · rw [S.set_ne hn] at e
      obtain ⟨a, h1, h2, h3⟩ := R.cells n o' e
      exact ⟨a, x.r _ _ h1, h2, h3.mono x rfl⟩
  · by_cases hn : n = W.nx
    · by_cases hm : m = W.nx
      · rw [hn, hm]
      · exfalso
        rw [hn, Wd.new_r] at h1; cases h1
        rw [nr m hm] at h2
        rw [S.set_ne hm] at l2
        cases e : s m with
        | none => exact l2 e
        | some o' => exact hl m o' e h2
    · by_cases hm : m = W.nx
      · exfalso
        rw [hm, Wd.new_r] at h2; cases h2
        rw [nr n hn] at h1
        rw [S.set_ne hn] at l1
        cases e : s n with
        | none => exact l1 e
        | some o' => exact hl n o' e h1
      · rw [nr n hn] at h1
        rw [nr m hm] at h2
        rw [S.set_ne hn] at l1
        rw [S.set_ne hm] at l2
        exact R.inj n m a h1 h2 l1 l2
  · show n < W.nx + 1
    by_cases hn : n = W.nx
    · omega
    · rw [nr n hn] at h
      have := R.nx n a h
      omega
/-- the core: what the new list holds at the end, its address held on the way -/
theorem lift_lc {vs : List Nat} {σ : St} {H : Hp} {Q : VK} {tt : DTT} (hv : ∀ i ∈ is, i ∈ vs)
    (h : ∃ W e s Rd, Stt X.K L W e s σ H ∧ it e s (fun ok xs s1 => xs.length ≤ sizeLine ∧ dLc ok g tt te (wipeD e vs) xs s1 Rd) ∧
      ∀ ds s' W' acc H' p, Rd ds s' → Ext W H W' H' → Rel X.K W' s' H' → ¬ W'.F p → (∀ n o, s' n = some o → W'.r n ≠ some p) → ¬ W'.Z p → H' p = some (.lst acc) → Reps X.K W' H' acc ds → Q (.ref p) H') :
    tLc (liftI X.K L it) (liftG X.K LT is g) (liftT X.K LT tt) (lift X.K LT te) vs σ H Q := by
  obtain ⟨W, e, s, Rd, st, q, k⟩ := h
  refine ⟨W, e, s, _, st, q, fun ok xs s1 W1 H1 J q1 x1 R1 io p hp => ?_⟩
  obtain ⟨hlen, q1⟩ := q1
  have R2 : Rel X.K (W1.hold p) s1 (upd H1 p (.lst [])) := R1.hold hp
  have s12 : Sub W1 H1 (W1.hold p) (upd H1 p (.lst [])) := Sub.hold R1 hp
  have zp : (W1.hold p).Z p := .inr rfl
  have zne : ∀ a, W1.Z a → a ≠ p := fun a z => by
    obtain ⟨_, o, eo⟩ := R1.zf a z
    exact ne_of_none eo hp
  let Iv : Nat → Hp → Prop := fun i Hc => ∃ W2 s2 acc ds, Sub (W1.hold p) (upd H1 p (.lst [])) W2 Hc ∧ W2.Z = (W1.hold p).Z ∧ (∀ a, W1.Z a → Hc a = H1 a) ∧ Rel X.K W2 s2 Hc ∧ Hc p = some (.lst acc) ∧ acc.length ≤ i ∧ Reps X.K W2 Hc acc ds ∧
    dLc ok g tt te (wipeD e vs) (xs.drop i) s2 fun ds' s' => Rd (ds ++ ds') s'
  refine ⟨fun i m Hc => m = xs.length - i ∧ i ≤ xs.length ∧ Iv i Hc, ⟨xs.length, by simp, Nat.zero_le _, W1.hold p, s1, [], [], ⟨fun _ h => h, fun _ _ h => h, fun _ _ => Kp.of rfl⟩, rfl, fun a z => upd_ne (zne a z), R2, upd_same, Nat.le_refl _, .nil, q1⟩, ?_⟩
  rintro i m Hc ⟨rfl, hi, W2, s2, acc, ds, sb, ez, kz, Rc, hpc, hal, rs, qc⟩
  by_cases hlt : i < xs.length
  · rw [List.drop_eq_getElem_cons hlt] at qc
    obtain ⟨ok2, qc⟩ := qc
    obtain ⟨go, yy⟩ := (io i W2 s2 Hc (s12.trans sb) Rc ok2).1 xs[i] (by simp [hlt])
    refine .inr ⟨go, fun H' => i + 1 ≤ xs.length ∧ Iv (i + 1) H', fun H' z => ⟨xs.length - (i + 1), by omega, rfl, z⟩, fun x H' y => ?_⟩
    obtain ⟨W3, x3, R3, r3⟩ := yy x H' y
    have hz2 : ∀ a, W1.Z a ∨ a = p → W2.Z a := fun a z => by rw [ez]; exact z
    have envW : RelE X.K W3 H' (wipeD e vs) (wipe σ vs) := (((st.env.mono x1).sub (s12.trans sb)).mono x3).wipe vs
    refine ⟨LT, W3, wipeD e vs, s2, xs[i], _, fun _ _ _ => trivial, ⟨trivial, envW, R3⟩, r3, qc, fun e4 s4 W4 σ4 H4 q4 st4 x4 w4 => ?_⟩
    refine ⟨(w4 vs hv).trans (wipe_wipe vs vs σ fun _ h => h), ?_⟩
    refine ⟨W4, e4, s4, _, st4, q4, fun b s5 W5 H5 q5 x5 R5 => ?_⟩
    have st5 := st4.after x5 R5
    have x25 : Ext W2 Hc W5 H5 := x3.trans (x4.trans x5)
    cases b with
    | false =>
      dsimp only at q5 ⊢
      rw [if_neg Bool.false_ne_true] at q5 ⊢
      refine ⟨hlt, W5, s5, acc, ds, sb.trans x25.toSub, x25.z.trans ez, fun a z => ?_, R5, ?_, by omega, rs.mono x25, q5⟩
      · rw [x25.kz a (hz2 a (.inl z)), kz a z]
      · rw [x25.kz p (hz2 p (.inr rfl)), hpc]
    | true =>
      dsimp only at q5 ⊢
      rw [if_pos rfl] at q5 ⊢
      refine ⟨W5, e4, s5, _, st5, q5, fun d s6 W6 v H6 q6 x6 R6 r6 => ?_⟩
      have x26 := x25.trans x6
      have hp6 : H6 p = some (.lst acc) := by rw [x26.kz p (hz2 p (.inr rfl)), hpc]
      have z6 : W6.Z p := by rw [x26.z]; exact hz2 p (.inr rfl)
      refine ⟨acc, hp6, by omega, hlt, W6, s6, acc ++ [v], ds ++ [d], (sb.trans x26.toSub).trans (Sub.rehold R6 z6), x26.z.trans ez, fun a z => ?_, R6.rehold z6, upd_same, by simp; omega, ((rs.mono x26).snoc r6).sub (Sub.rehold R6 z6), ?_⟩
      · rw [upd_ne (zne a z), x26.kz a (hz2 a (.inl z)), kz a z]
      · simpa using q6
  · have ei : i = xs.length := by omega
    subst ei
    rw [List.drop_length] at qc
    obtain ⟨ok2, qc⟩ := qc
    refine .inl ⟨(io _ W2 s2 Hc (s12.trans sb) Rc ok2).2 (Nat.le_refl _), ?_⟩
    rw [List.append_nil] at qc
    have zp2 : W2.Z p := by rw [ez]; exact zp
    refine k ds s2 (W2.wz W.Z) acc Hc p qc ⟨((x1.toSub.trans s12).trans sb).trans (Sub.wz _), rfl, fun a z => ?_⟩ (Rc.wz fun a z => ?_) (Rc.zf p zp2).1 (fun n o eo hn => ?_) (fun z => ?_) hpc (rs.sub (Sub.wz _))
    · have z1 : W1.Z a := by rw [x1.z]; exact z
      rw [kz a z1, x1.kz a z]
    · rw [ez]; exact .inl (by rw [x1.z]; exact z)
    · obtain ⟨a, h1, h2, _⟩ := Rc.cells n o eo
      have h1' : W2.r n = some p := hn
      rw [h1] at h1'; cases h1'
      exact h2.2 zp2
    · exact zne p (by rw [x1.z]; exact z) rfl
variable {elt tg iter : Expr} {ifs : List Expr} {scope : Scope} {own : List (Str × Nat)} {tt : DTT}
theorem de_comp (hc : X.calm = true) (hN : X.N.Nodup) (hi : PI X tg iter (liftI X.K L it)) (ok : BlkOk X.N X.env.scope scope own) (hv : ∀ i ∈ is, i ∈ own.map (·.2))
    (hg : ∀ (s : Shared) (H : Hp) (C : Addr) (cl : List (Str × Addr)) (fp : List Addr), PG (X.blk s H scope (compEnvC scope cl C X.env) fp) tg (liftG X.K LT is g))
    (ht : ∀ (s : Shared) (H : Hp) (C : Addr) (cl : List (Str × Addr)) (fp : List Addr), PTs (X.blk s H scope (compEnvC scope cl C X.env) fp) ifs (liftT X.K LT tt))
    (he : ∀ (s : Shared) (H : Hp) (C : Addr) (cl : List (Str × Addr)) (fp : List Addr), PE (X.blk s H scope (compEnvC scope cl C X.env) fp) elt (lift X.K LT te)) (hs : ∀ x, foldedSetIterable iter X.env x = pure x) :
    PE X (.ListComp elt [⟨tg, iter, ifs, 0⟩] scope pos) (lift X.K L (dComp it g tt te (own.map (·.2)))) := (pe_lc hc hN hi ok hg ht he hs).wk fun σ H Q h => by
  obtain ⟨W, e, s, Qd, st, q, k⟩ := h
  refine lift_lc hv ⟨W, e, s, _, st, q, fun ds s' W' acc H' p q' x R nf nl nz hp rs => ?_⟩
  exact k _ _ _ _ _ q' (x.trans (Ext.fix p)) (R.adopt hp nl nz) (.lst (.inr rfl) hp (rs.mono (Ext.fix p)))
theorem de_compC (hc : X.calm = true) (hN : X.N.Nodup) (hi : PI X tg iter (liftI X.K L it)) (ok : BlkOk X.N X.env.scope scope own) (hv : ∀ i ∈ is, i ∈ own.map (·.2))
    (hg : ∀ (s : Shared) (H : Hp) (C : Addr) (cl : List (Str × Addr)) (fp : List Addr), PG (X.blk s H scope (compEnvC scope cl C X.env) fp) tg (liftG X.K LT is g))
    (ht : ∀ (s : Shared) (H : Hp) (C : Addr) (cl : List (Str × Addr)) (fp : List Addr), PTs (X.blk s H scope (compEnvC scope cl C X.env) fp) ifs (liftT X.K LT tt))
    (he : ∀ (s : Shared) (H : Hp) (C : Addr) (cl : List (Str × Addr)) (fp : List Addr), PE (X.blk s H scope (compEnvC scope cl C X.env) fp) elt (lift X.K LT te)) (hs : ∀ x, foldedSetIterable iter X.env x = pure x) :
    PE X (.ListComp elt [⟨tg, iter, ifs, 0⟩] scope pos) (lift X.K L (dCompC it g tt te (own.map (·.2)))) := (pe_lc hc hN hi ok hg ht he hs).wk fun σ H Q h => by
  obtain ⟨W, e, s, Qd, st, q, k⟩ := h
  refine lift_lc hv ⟨W, e, s, _, st, q, fun ds s' W' acc H' p q' x R nf nl nz hp rs => ?_⟩
  have y := Ext.newC p R
  exact k _ _ _ _ _ (q' _ R.nxs) (x.trans y) (R.adoptC nf nl nz ⟨acc, hp, rs.mono y⟩) (.cell (Wd.new_r _ _))
/-- name = [..] on one line -/
theorem ds_setLc {i : Nat} {y : Str} {py spos : Pos} (hc : X.calm = true) (hN : X.N.Nodup) (hy : X.N[i]? = some y) (hyl : X.env.scope.names.lookup y = some .local) (hsw : swapsWith (.ListComp elt [⟨tg, iter, ifs, 0⟩] scope pos) (some (.Name y py)) spos.line X.env = pure true)
    (hi : PI X tg iter (liftI X.K L it)) (ok : BlkOk X.N X.env.scope scope own) (hv : ∀ i ∈ is, i ∈ own.map (·.2))
    (hg : ∀ (s : Shared) (H : Hp) (C : Addr) (cl : List (Str × Addr)) (fp : List Addr), PG (X.blk s H scope (compEnvC scope cl C X.env) fp) tg (liftG X.K LT is g))
    (ht : ∀ (s : Shared) (H : Hp) (C : Addr) (cl : List (Str × Addr)) (fp : List Addr), PTs (X.blk s H scope (compEnvC scope cl C X.env) fp) ifs (liftT X.K LT tt))
    (he : ∀ (s : Shared) (H : Hp) (C : Addr) (cl : List (Str × Addr)) (fp : List Addr), PE (X.blk s H scope (compEnvC scope cl C X.env) fp) elt (lift X.K LT te)) (hs : ∀ x, foldedSetIterable iter X.env x = pure x) :
    PS X (.Assign [.Name y py] (.ListComp elt [⟨tg, iter, ifs, 0⟩] scope pos) spos) (liftS X.K L (dAsg (dComp it g tt te (own.map (·.2))) (gN i))) := (ps_setLc hc hN hy hyl hsw hi ok hg ht he hs).wk fun De σ H h => by
  obtain ⟨L1, W, e, s, Dd, hl, st, q, ok⟩ := h
  refine lift_lc hv ⟨W, e, s, _, st.le hl, q, fun ds s' W' acc H' p q' x R nf nl nz hp rs => ?_⟩
  have st' := st.after (x.trans (Ext.fix p)) (R.adopt hp nl nz)
  exact ok.nx _ _ _ _ _ (st'.set i (.lst (.inr rfl) hp (rs.mono (Ext.fix p)))) q'
theorem ds_setLcC {i : Nat} {y : Str} {py spos : Pos} (hc : X.calm = true) (hN : X.N.Nodup) (hy : X.N[i]? = some y) (hyl : X.env.scope.names.lookup y = some .local) (hsw : swapsWith (.ListComp elt [⟨tg, iter, ifs, 0⟩] scope pos) (some (.Name y py)) spos.line X.env = pure true)
    (hi : PI X tg iter (liftI X.K L it)) (ok : BlkOk X.N X.env.scope scope own) (hv : ∀ i ∈ is, i ∈ own.map (·.2))
    (hg : ∀ (s : Shared) (H : Hp) (C : Addr) (cl : List (Str × Addr)) (fp : List Addr), PG (X.blk s H scope (compEnvC scope cl C X.env) fp) tg (liftG X.K LT is g))
    (ht : ∀ (s : Shared) (H : Hp) (C : Addr) (cl : List (Str × Addr)) (fp : List Addr), PTs (X.blk s H scope (compEnvC scope cl C X.env) fp) ifs (liftT X.K LT tt))
    (he : ∀ (s : Shared) (H : Hp) (C : Addr) (cl : List (Str × Addr)) (fp : List Addr), PE (X.blk s H scope (compEnvC scope cl C X.env) fp) elt (lift X.K LT te)) (hs : ∀ x, foldedSetIterable iter X.env x = pure x) :
    PS X (.Assign [.Name y py] (.ListComp elt [⟨tg, iter, ifs, 0⟩] scope pos) spos) (liftS X.K L (dAsg (dCompC it g tt te (own.map (·.2))) (gN i))) := (ps_setLc hc hN hy hyl hsw hi ok hg ht he hs).wk fun De σ H h => by
  obtain ⟨L1, W, e, s, Dd, hl, st, q, ok⟩ := h
  refine lift_lc hv ⟨W, e, s, _, st.le hl, q, fun ds s' W' acc H' p q' x R nf nl nz hp rs => ?_⟩
  have y := Ext.newC p R
  have st' := st.after (x.trans y) (R.adoptC (o := .lst ds) nf nl nz ⟨acc, hp, rs.mono y⟩)
  exact ok.nx _ _ _ _ _ (st'.set i (.cell (Wd.new_r _ _))) (q' _ R.nxs)
def dYes : DTT := fun _ s Q => Q true s
theorem dts_nil : PTs X [] (liftT X.K L dYes) := ⟨fun pins s σ H Q I h => pts_nil.run pins s σ H Q I (by
  obtain ⟨W, e, s, Qd, st, q, k⟩ := h
  exact k _ _ W H q (Ext.refl W H) st.rel)⟩
theorem dts_one (h : PT X c (liftT X.K L u)) : PTs X [c] (liftT X.K L u) := pts_one h
end
end Y


/-! Y8b: a list unpacked, with and without a star at the end. -/
namespace Y
open PySem PySem.Spec PySem.Calls PyProof.Rows L2
theorem _root_.L2.PG.or {X : Cx} {e : Expr} {t t' : TG} (h : PG X e t) (h' : PG X e t') : PG X e (fun v σ H Q => t v σ H Q ∨ t' v σ H Q) :=
  ⟨fun pins s σ H v u Q I r q => q.elim (h.run pins s σ H v u Q I r) (h'.run pins s σ H v u Q I r)⟩
section
variable {X : Cx} {L : Lk} {a b c : Expr} {te ta tb : DTE} {pos p apos : Pos} {es : List Expr} {x : Str}
theorem star_items {prog : Program} {w : World} {A : Around} {E : Value → Shared → Prop} {s : Shared} {l : Addr} {items : Array Value} {i : Nat} {Q : List Value → Shared → Prop}
    (hl : s.heap.IsList l items) (hh : A.handled = none) (hn : i ≤ items.size) (hz : items.size ≤ sizeLine)
    (h : ∀ (g : Heap) (tk : Nat), (∀ b o, s.heap.get? b = some o → g.get? b = some o) →
      Q (items.toList.take i ++ [.ref g.objs.size]) { s with heap := g.push { cls := .type "list", data := .seq (items.toList.drop i).toArray }, toks := tk }) : wpAny (model prog w) A (unpackItems (.ref l) (i + 1) (some i)) Q E s := by
  have hll : l < s.heap.objs.size := by
    obtain ⟨o, ho, _⟩ := hl
    exact Heap.lt_size ho
  have hlt : l ≠ s.heap.objs.size := Nat.ne_of_lt hll
  unfold unpackItems notIterableAtAll
  refine wpAny_bind (wpAny_bind (wpAny_specialOf hl.typeIs slot_list_iter.lookup (wpAny_pure ?_)))
  simp only [Bool.false_eq_true, if_false]
  refine wpAny_bind (wpAny_holding (wpAny_pyIter_list hl (wpAny_bind (wpAny_holding (PySem.W.kun_draw hlt i 0 _ _ ⟨_, Heap.get?_push_size _ rfl, rfl, rfl⟩ (hl.push _) (by omega) fun g1 it1 sb1 => ?_)))))
  have hl1 : g1.IsList l items := (hl.push _).extBut sb1.extBut hlt
  rw [Nat.zero_add] at it1
  have z1 : s.heap.objs.size < g1.objs.size := by
    obtain ⟨oi, hoi, _⟩ := it1
    exact Heap.lt_size hoi
  have z2 : l < g1.objs.size := Nat.lt_trans hll z1
  have el : (items.toList.take i).length = i := by rw [List.length_take, Array.length_toList]; omega
  rw [List.drop_zero, if_neg (by rw [el]; omega)]
  refine wpAny_bind (wpAny_holding (PySem.W.kun_collect (s := { s with heap := g1 }) (T := "list_iterator") (.inr (.inr (.inl rfl))) (Walks.list (A := A.in1) hh s.heap.objs.size l hlt items) (fun j u st => st.1.typeIs) (k := i) hn ⟨it1, hl1⟩ z1 z2 (fun g2 tk k2 => ?_) hz))
  have e0 : i + 1 - 1 - i = 0 := by omega
  show wpAny _ _ (if (items.toList.drop i).length < i + 1 - 1 - i then _ else _) _ _ _
  rw [e0, if_neg (Nat.not_lt_zero _)]
  show wpAny _ _ (newList ((items.toList.drop i).take ((items.toList.drop i).length - 0)) >>= fun d => pure (items.toList.take i ++ [d] ++ (items.toList.drop i).drop ((items.toList.drop i).length - 0))) _ _ _
  rw [Nat.sub_zero, List.take_length, List.drop_length]
  have kk : ∀ b o, s.heap.get? b = some o → g2.get? b = some o := fun b o e => k2 b o (Nat.ne_of_lt (Heap.lt_size e)) (sb1.extBut b o (Nat.ne_of_lt (Heap.lt_size e)) (Heap.get?_push_of_some _ e))
  refine wpAny_bind (wpAny_newList (wpAny_pure ?_) (by rw [List.length_drop, Array.length_toList]; omega))
  rw [List.append_nil]
  exact h g2 tk kk
/-- first, *rest = a list -/
theorem pg_star {k n : Nat} {t : TGs} (hc : X.calm = true) (h : PGs X es t) (hn : (assignEach es X.env).length = n + 1) (hst : (assignEach es X.env).findIdx? (·.1) = some n) :
    PG X (.Tuple es k pos) (fun v σ H Q => ∃ a xs, v = .ref a ∧ SqL X.K H a xs ∧ n ≤ xs.length ∧ ∀ q, H q = none → t (xs.take n ++ [.ref q]) σ (upd H q (.lst (xs.drop n))) Q) := by
  refine ⟨fun pins s σ H v u Q I r hw => ?_⟩
  obtain ⟨a, xs, e1, hq, hl, hw⟩ := hw
  subst e1
  cases r
  obtain ⟨its, rv, pl, hz⟩ := I.list hq
  have hl' : s.heap.IsList a its.toArray := by
    obtain ⟨o, m, e, c, d, q⟩ := pl
    exact ⟨o, e, c, m, q⟩
  have ez : its.length = xs.length := rv.length.symm
  rw [PyProof.Rows.assign_Tuple]
  refine wpAny_bind (wpAny_standAt ?_)
  unfold unpack
  rw [hn, hst]
  refine wpAny_bind (wpAny_holding (star_items hl' (I.ok.hd hc) (by rw [List.size_toArray, ez]; exact hl) (by rw [List.size_toArray, ez]; exact hz) fun g tk hk => ?_))
  have I1 : Inv X pins σ H { s with heap := g, toks := tk } := I.kept hk
  have rd := rv.drop n
  have I2 : Inv X pins σ (upd H g.objs.size (.lst (xs.drop n))) { s with heap := g.push (seqObj "list" (its.drop n).toArray 0), toks := tk } :=
    I1.laid (t' := tk) (fun b u e => Heap.get?_push_of_some _ e) (Nat.le_refl _)
      (show ObjOk X.prog X.w _ _ _ (.lst (xs.drop n)) from ⟨by rw [List.length_drop]; omega, its.drop n, 0, rd, Heap.get?_push_size _ rfl⟩)
  exact h.run pins _ σ _ _ _ Q I2 ((rv.take n).append (.cons (show RelV (.ref g.objs.size) _ from rfl) .nil)) (hw _ (I1.hok.fresh (Nat.le_refl _)))
theorem pgs_consS {sp : Pos} {t : TG} {u : TGs} (h1 : PG X a t) (h2 : PGs X es u) : PGs X (.Starred a sp :: es) (gCons t u) := by
  refine ⟨fun pins s σ H vs us Q I r h => ?_⟩
  obtain ⟨v, vr, e1, h⟩ := h
  subst e1
  cases r with
  | cons r rr => exact assignInOrder_cons (thn (h1.run pins s σ H _ _ _ I r h) fun _ s1 ⟨σ1, H1, I1, q1⟩ => h2.run pins s1 σ1 H1 _ _ Q I1 rr q1)
theorem dgs_consS {is js : List Nat} {g : DTG} {gs : List D → Nv → S → (Nv → S → Prop) → Prop} {sp : Pos} (h1 : PG X a (liftG X.K L is g)) (h2 : PGs X es (liftGs X.K L js gs)) :
    PGs X (.Starred a sp :: es) (liftGs X.K L (is ++ js) (gsCons g gs)) := (pgs_consS h1 h2).wk fun v σ H Q h => by
  obtain ⟨L1, W, e, s, ds, Qd, hl, st, r, q, k⟩ := h
  cases r with
  | nil => exact False.elim q
  | cons r rr =>
    refine ⟨_, _, rfl, L1, W, e, s, _, _, hl, st, r, q, fun e1 s1 W1 σ1 H1 q1 st1 x1 w1 => ?_⟩
    refine ⟨L1, W1, e1, s1, _, _, hl, st1, rr.mono x1, q1, fun e2 s2 W2 σ2 H2 q2 st2 x2 w2 => ?_⟩
    refine k _ _ _ _ _ q2 st2 (x1.trans x2) fun us hu => ?_
    rw [w2 us fun i hi => hu i (by simp [hi]), w1 us fun i hi => hu i (by simp [hi])]
def gStarD (n : Nat) (gs : List D → Nv → S → (Nv → S → Prop) → Prop) : DTG := fun d e s Q => match seqL s d with
  | some xs => n ≤ xs.length ∧ gs (xs.take n ++ [.lst (xs.drop n)]) e s Q
  | none => False
theorem Stt.add {K : PySem.W.Frag} {L : Lk} {W : Wd} {e : Nv} {s : S} {σ : St} {H : Hp} {q : Addr} {o : HO} (st : Stt K L W e s σ H) (hq : H q = none) : Stt K L (W.add q) e s σ (upd H q o) := st.after (Ext.add st.rel hq) (Rel.add st.rel hq)
theorem dg_star {k n : Nat} {is : List Nat} {gs : List D → Nv → S → (Nv → S → Prop) → Prop} (hc : X.calm = true) (h : PGs X es (liftGs X.K L is gs)) (hn : (assignEach es X.env).length = n + 1) (hst : (assignEach es X.env).findIdx? (·.1) = some n) :
    PG X (.Tuple es k pos) (liftG X.K L is (gStarD n gs)) := (pg_star hc h hn hst).wk fun v σ H Q h => by
  obtain ⟨L1, W, e, s, d, Qd, hl, st, r, q, k⟩ := h
  unfold gStarD at q
  split at q
  · rename_i xs e1
    obtain ⟨p, vs, rfl, h1, h2⟩ := seqL_ok st.rel r e1
    refine ⟨p, vs, rfl, h1, by rw [h2.length]; exact q.1, fun a ha => ?_⟩
    refine ⟨L1, W.add a, e, s, _, Qd, hl, st.add ha, ?_, q.2, fun e' s' W' σ' H' q' st' x w => k _ _ _ _ _ q' st' ((Ext.add st.rel ha).trans x) w⟩
    exact ((h2.take n).mono (Ext.add st.rel ha)).app (.cons (new_lst st.rel ha (h2.drop n)) .nil)
  · exact q.elim
/-- a list or a tuple of that length -/
def gSeqD (n : Nat) (gs : List D → Nv → S → (Nv → S → Prop) → Prop) : DTG := fun d e s Q => match seqT d with
  | some xs => xs.length = n ∧ gs xs e s Q
  | none => match seqL s d with
    | some xs => xs.length = n ∧ gs xs e s Q
    | none => False
theorem dg_seq {k n : Nat} {is : List Nat} {gs : List D → Nv → S → (Nv → S → Prop) → Prop} (hc : X.calm = true) (h : PGs X es (liftGs X.K L is gs)) (hn : (assignEach es X.env).length = n) (hst : (assignEach es X.env).findIdx? (·.1) = none) :
    PG X (.Tuple es k pos) (liftG X.K L is (gSeqD n gs)) := ((dg_tup hc h hn hst).or (pg_unl hc h hn hst)).wk fun v σ H Q h => by
  obtain ⟨L1, W, e, s, d, Qd, hl, st, r, q, k⟩ := h
  unfold gSeqD at q
  split at q
  · rename_i xs e1
    exact .inl ⟨L1, W, e, s, d, Qd, hl, st, r, by unfold gTupD; rw [e1]; exact q, k⟩
  · split at q
    · rename_i xs e2
      obtain ⟨p, vs, rfl, h1, h2⟩ := seqL_ok st.rel r e2
      exact .inr ⟨p, vs, rfl, h1, by rw [h2.length]; exact q.1, L1, W, e, s, xs, Qd, hl, st, h2, q.2, k⟩
    · exact q.elim
end
end Y


/-! Y8c: enumerate, dicts made and asked. -/
namespace Y
open PySem PySem.Spec PySem.Calls PyProof.Rows L2
def enumD (xs : List D) : List D := xs.mapIdx fun i x => .tup [.int (i : Nat), x]
def dItEn (r : DTA) : DTI := fun e s R => r e s fun ds s1 => match ds with
  | [d] => (match seqL s1 d with
    | some xs => R (fun s => seqL s d = some xs) (enumD xs) s1
    | none => False)
  | _ => False
section
variable {X : Cx} {L : Lk} {a b c o f : Expr} {te ta tb td ty tx : DTE} {r : DTA} {pos p apos cpos tpos : Pos} {es elts : List Expr} {kk : Nat} {x : Str}
theorem di_enum (hg : Gl X "enumerate") (hm : X.mg "enumerate" = none) (ha : PA X [a] (liftA X.K L r)) (hs : starEach [a] X.env = [(false, eval a X.env)]) : PI X (.Tuple elts kk tpos) (.Call (.Name "enumerate" p) [a] [] pos) (liftI X.K L (dItEn r)) := (pi_enum hg hm ha hs).wk fun σ H R h => by
  obtain ⟨W, e, sd, Rd, st, q, k⟩ := h
  refine ⟨W, e, sd, _, st, q, fun ds s1 W1 vs H1 q1 x1 R1 rs => ?_⟩
  split at q1
  · rename_i d
    obtain ⟨v, rfl, rv⟩ := rs.one
    split at q1
    · rename_i xs e1
      obtain ⟨l, us, rfl, h1, h2⟩ := seqL_ok R1 rv e1
      refine ⟨l, us, rfl, h1, k _ _ _ _ _ _ q1 x1 R1 fun i W s H sub Rr ok => ?_⟩
      obtain ⟨l', us', e2, g1, g2⟩ := seqL_ok Rr (rv.sub sub) ok
      cases e2
      unfold enumD
      refine ⟨fun dd hd => ?_, fun hl => ⟨us', g1, by rw [List.length_mapIdx] at hl; rw [g2.length]; exact hl⟩⟩
      rw [List.getElem?_mapIdx] at hd
      cases e3 : xs[i]? with
      | none => rw [e3] at hd; cases hd
      | some z =>
        rw [e3] at hd
        have hd' : D.tup [.int (i : Nat), z] = dd := Option.some.inj hd
        subst hd'
        obtain ⟨y, hy, ry⟩ := g2.get e3
        refine ⟨⟨us', y, g1, hy⟩, ?_⟩
        rintro w H' ⟨T, y2, rfl, hT, rfl, hz⟩
        have r2 := g2.drawn (hz us' g1) e3
        exact ⟨_, Ext.add Rr hT, Rel.add Rr hT, new_tup Rr hT (.cons (.int _) (.cons r2 .nil))⟩
    · exact q1.elim
  · exact q1.elim
/-- {}: a dict whose keys are ints and texts -/
def dDNew : DTE := fun _ s Q => ∀ n, s n = none → Q (.cell n) (s.set n (.dic []))
theorem de_dnew : PE X (.Dict [] [] pos) (lift X.K L dDNew) := pe_dnewK.wk fun σ H Q h => by
  obtain ⟨W, e, s, Qd, st, q, k⟩ := h
  intro p hp
  have hk : ∀ a u, H a = some u → upd H p (.dK []) a = some u := fun a u e => by rw [upd_ne (ne_of_none e hp)]; exact e
  exact k _ _ _ _ _ (q _ st.rel.nxs) (Ext.new st.rel hk) (Rel.new st.rel hp hk ⟨[], upd_same, .nil⟩) (.cell (Wd.new_r _ _))
/-- d.get(k), d.get(k, x) -/
def dDGet1 (td ty : DTE) : DTE := fun e s Q => td e s fun d s1 => (mapD s1 d).isSome = true ∧ ty e s1 fun y s2 => match mapD s2 d, keyK y with
  | some kvs, some κ => Q ((valD kvs κ).getD .non) s2
  | _, _ => False
def dDGet2 (td ty tx : DTE) : DTE := fun e s Q => td e s fun d s1 => (mapD s1 d).isSome = true ∧ ty e s1 fun y s2 => tx e s2 fun z s3 => match mapD s3 d, keyK y with
  | some kvs, some κ => Q ((valD kvs κ).getD z) s3
  | _, _ => False
theorem isd_of {K : PySem.W.Frag} {W : Wd} {H : Hp} {s : S} {v : V} {d : D} (R : Rel K W s H) (r : Rep K W H v d) (h : (mapD s d).isSome = true) : ∃ a, v = .ref a ∧ IsD H a := by
  cases e : mapD s d with
  | none => rw [e] at h; cases h
  | some kvs =>
    obtain ⟨a, vs, rfl, h1, _⟩ := mapD_ok R r e
    exact ⟨a, rfl, .inl ⟨vs, h1⟩⟩
theorem dget_of {K : PySem.W.Frag} {W : Wd} {H : Hp} {s : S} {v y : V} {d z : D} {kvs : List (D × D)} {κ : Key} (R : Rel K W s H) (r : Rep K W H v d) (h : mapD s d = some kvs) (ry : Rep K W H y z) (hk : keyK z = some κ) :
    ∃ a o, v = .ref a ∧ DGet H a y o ∧ (∀ u w, Rep K W H u w → Rep K W H (o.getD u) ((valD kvs κ).getD w)) := by
  obtain ⟨a, vs, rfl, h1, h2⟩ := mapD_ok R r h
  cases ry.key hk
  refine ⟨a, _, rfl, .inl ⟨vs, κ, h1, rfl, rfl⟩, fun u w q => ?_⟩
  cases e : valD kvs κ with
  | none =>
    rw [(h2.val κ).2 e]
    exact q
  | some d =>
    obtain ⟨v, h3, h4⟩ := (h2.val κ).1 d e
    rw [h3]
    exact h4
theorem de_dget1 (hu : X.A.units + 1 < cLine) (ho : PE X o (lift X.K L td)) (he : PE X a (lift X.K L ty)) (m : M1 X o "get" apos a cpos) : PE X (.Call (.Attribute o "get" apos) [a] [] cpos) (lift X.K L (dDGet1 td ty)) := (pe_dget1 hu ho he m).wk fun σ H Q h => by
  obtain ⟨W, e, s, Qd, st, q, k⟩ := h
  refine ⟨W, e, s, _, st, q, fun d s1 W1 v H1 q1 x1 R1 r1 => ?_⟩
  obtain ⟨l, rfl, hd⟩ := isd_of R1 r1 q1.1
  refine ⟨l, rfl, hd, W1, e, s1, _, st.after x1 R1, q1.2, fun y s2 W2 w H2 q2 x2 R2 r2 => ?_⟩
  split at q2
  · rename_i kvs κ e1 e2
    obtain ⟨l', oo, e3, g, gg⟩ := dget_of R2 (r1.mono x2) e1 r2 e2
    cases e3
    exact ⟨oo, g, k _ _ _ _ _ q2 (x1.trans x2) R2 (gg _ _ .non)⟩
  · exact q2.elim
theorem de_dget2 (hu : X.A.units + 1 < cLine) (ho : PE X o (lift X.K L td)) (he : PE X a (lift X.K L ty)) (hf : PE X f (lift X.K L tx)) (m : M2 X o "get" apos a f cpos) : PE X (.Call (.Attribute o "get" apos) [a, f] [] cpos) (lift X.K L (dDGet2 td ty tx)) := (pe_dget2 hu ho he hf m).wk fun σ H Q h => by
  obtain ⟨W, e, s, Qd, st, q, k⟩ := h
  refine ⟨W, e, s, _, st, q, fun d s1 W1 v H1 q1 x1 R1 r1 => ?_⟩
  obtain ⟨l, rfl, hd⟩ := isd_of R1 r1 q1.1
  have st1 := st.after x1 R1
  refine ⟨l, rfl, hd, W1, e, s1, _, st1, q1.2, fun y s2 W2 w H2 q2 x2 R2 r2 => ?_⟩
  refine ⟨W2, e, s2, _, st1.after x2 R2, q2, fun z s3 W3 u H3 q3 x3 R3 r3 => ?_⟩
  split at q3
  · rename_i kvs κ e1 e2
    obtain ⟨l', oo, e3, g, gg⟩ := dget_of R3 (r1.mono (x2.trans x3)) e1 (r2.mono x3) e2
    cases e3
    exact ⟨oo, g, k _ _ _ _ _ q3 (x1.trans (x2.trans x3)) R3 (gg _ _ r3)⟩
  · exact q3.elim
end
end Y


/-! Y9: a small language for the text, its readings, the look that holds it beside the text, and that the readings are right. -/
namespace Y
open PySem PySem.Spec PyProof.Rows L2

inductive BI where | len | abs | max | min | all | any | list | listC | tuple | repr | sorted
inductive BM where | append | pop | popAt | extend
/-- s: the last one has the star -/
inductive Tg where | n (i : Nat) | t (is : List Nat) | s (is : List Nat)
mutual
inductive E where
  | var (i : Nat) | int (i : Int) | str (x : Str) | bl (b : Bool) | non
  | bin (op : Operator) (a b : E) | cmp (op : CmpOp) (a b : E) | chain (o1 o2 : CmpOp) (a b c : E)
  | and (a b : E) | or (a b : E) | not (a : E) | ife (c a b : E)
  | ix (a i : E) | sl (a lo hi : E) | tup (es : Es) | lst (c : Bool) (es : Es)
  | bi (f : BI) (es : Es) | call (g : Nat) (es ks : Es) | meth (m : BM) (r : E) (es : Es)
  | comp (c : Bool) (elt : E) (g : Tg) (it : Iw) (cs : Es) (own : List Nat)
  | frz (a : E) | nop
  | dnew | dget (a i d : E)
inductive Es where | nil | cons (e : E) (es : Es)
inductive Iw where | e (a : E) | r1 (a : E) | r2 (a b : E) | en (a : E)
end
mutual
inductive T where
  | set (i : Nat) (a : E) | asg (g : Tg) (a : E) | par (i j : Nat) (a b : E) | sub (r i a : E)
  | ex (a : E) | ret (a : E) | retN | ife (c : E) (p q : Ts) | whl (c : E) (p : Ts) | for_ (g : Tg) (it : Iw) (p q : Ts) | brk | cont | pass
inductive Ts where | nil | cons (t : T) (r : Ts)
end
/-! ### readings -/
def BI.rd : BI → DC
  | .len => dLen | .abs => dAbs | .max => dMax | .min => dMin | .all => dAll | .any => dAny | .list => dList | .listC => dListC | .tuple => dTuple | .repr => dRepr | .sorted => dSorted
def BM.rd : BM → DM
  | .append => dAppend | .pop => dPop | .popAt => dPopAt | .extend => dExtend
def binD : Operator → DR2
  | .Add => dAdd | .Sub => dSub | .Mult => dMul | .FloorDiv => dFdiv | .Mod => dMod | .Pow => dPow | _ => fun _ _ _ _ => False
def cmpD : CmpOp → DR2
  | .Eq => dEq | .NotEq => dNe | .Lt => dOrd fun i j => decide (i < j) | .LtE => dOrd fun i j => decide (i ≤ j) | .Gt => dOrd fun i j => decide (j < i) | .GtE => dOrd fun i j => decide (j ≤ i)
  | .Is => dIsN | .IsNot => dNotN | .In => dIn | .NotIn => dNotIn
def gsNames : List Nat → List D → Nv → S → (Nv → S → Prop) → Prop
  | [] => gsNil
  | i :: is => gsCons (gN i) (gsNames is)
def Tg.rd : Tg → DTG
  | .n i => gN i
  | .t is => gSeqD is.length (gsNames is)
  | .s is => gStarD (is.length - 1) (gsNames is)
def Tg.slots : Tg → List Nat
  | .n i => [i]
  | .t is => is
  | .s is => is
/-- the value as settled data -/
def dFrz (ta : DTE) : DTE := fun e s Q => ta e s fun d s1 => match d with
  | .cell n => (match s1 n with
    | some (.lst xs) => Q (.lst xs) (s1.del n)
    | some (.dic kvs) => Q (.dic kvs) (s1.del n)
    | some (.dit kvs) => Q (.dit kvs) (s1.del n)
    | _ => False)
  | d => Q d s1
/-- the calls' promises: by the number of a call's form -/
structure Cf where
  sp : Nat → DSp
  dd : Nat → List D
  perm : Nat → List Nat
  np : Nat → Nat
  nk : Nat → Nat
def partD (m : E) (t : DTE) : DTO := match m with
  | .nop => dNoP
  | _ => dPart t
def both (t : DTE) : DTE × DTT := (t, dTruE t)
mutual
def wp (c : Cf) (EX : DXE) : E → DTE × DTT
  | .var i => both (dVar i)
  | .int i => both (dC (.int i))
  | .str x => both (dC (.str x))
  | .bl b => both (dC (.bl b))
  | .non => both (dC .non)
  | .bin op a b => both (dOp (binD op) (wp c EX a).1 (wp c EX b).1)
  | .cmp op a b => (dOp (cmpD op) (wp c EX a).1 (wp c EX b).1, dTest (dOp (cmpD op) (wp c EX a).1 (wp c EX b).1))
  | .chain o1 o2 a b d => (dChain (cmpD o1) (cmpD o2) (wp c EX a).1 (wp c EX b).1 (wp c EX d).1, dTest (dChain (cmpD o1) (cmpD o2) (wp c EX a).1 (wp c EX b).1 (wp c EX d).1))
  | .and a b => (dAndV (wp c EX a).1 (wp c EX b).1, dAnd (wp c EX a).2 (wp c EX b).2)
  | .or a b => (dOrV (wp c EX a).1 (wp c EX b).1, dOr (wp c EX a).2 (wp c EX b).2)
  | .not a => (dNotV (wp c EX a).1, dNot (wp c EX a).2)
  | .ife d a b => (dIfE (wp c EX d).2 (wp c EX a).1 (wp c EX b).1, fun _ _ _ => False)
  | .ix a i => both (dOp dIx (wp c EX a).1 (wp c EX i).1)
  | .sl a lo hi => both (dSl (wp c EX a).1 (partD lo (wp c EX lo).1) (partD hi (wp c EX hi).1))
  | .tup es => both (dTup (wps c EX es))
  | .lst cl es => both (if cl then dLstC (wps c EX es) else dLst (wps c EX es))
  | .bi f es => both (dCall f.rd (wps c EX es))
  | .call g es ks => both (match ks with
    | .nil => dCallF (c.sp g) (c.dd g) EX (wps c EX es)
    | _ => dCallFK (c.sp g) (c.perm g) (c.np g) (c.nk g) (c.dd g) EX (wps c EX es) (wps c EX ks))
  | .meth m r es => both (dMeth isL m.rd (wp c EX r).1 (wps c EX es))
  | .comp cl elt g it cs own => both (if cl then dCompC (wpI c EX it) g.rd (wpC c cs) (wp c EX0 elt).1 own else dComp (wpI c EX it) g.rd (wpC c cs) (wp c EX0 elt).1 own)
  | .frz a => both (dFrz (wp c EX a).1)
  | .nop => both fun _ _ _ => False
  | .dnew => both dDNew
  | .dget a i d => both (match d with
    | .nop => dDGet1 (wp c EX a).1 (wp c EX i).1
    | _ => dDGet2 (wp c EX a).1 (wp c EX i).1 (wp c EX d).1)
def wps (c : Cf) (EX : DXE) : Es → DTA
  | .nil => dNil
  | .cons e es => dCons (wp c EX e).1 (wps c EX es)
def wpI (c : Cf) (EX : DXE) : Iw → DTI
  | .e a => dItE (wp c EX a).1
  | .r1 a => dItR1 (dCons (wp c EX a).1 dNil)
  | .r2 a b => dItR2 (dCons (wp c EX a).1 (dCons (wp c EX b).1 dNil))
  | .en a => dItEn (dCons (wp c EX a).1 dNil)
def wpC (c : Cf) : Es → DTT
  | .nil => dYes
  | .cons e _ => (wp c EX0 e).2
end
mutual
def wpS (c : Cf) (EX : DXE) : T → DTS
  | .set i a => dAsg (wp c EX a).1 (gN i)
  | .asg g a => dAsg (wp c EX a).1 g.rd
  | .par i j a b => dPar i j (dCons (wp c EX a).1 (dCons (wp c EX b).1 dNil))
  | .sub r i a => dAsg (wp c EX a).1 (gSubD (wp c EX r).1 (wp c EX i).1 dSetL)
  | .ex a => dExpr (wp c EX a).1
  | .ret a => dRet (wp c EX a).1
  | .retN => fun Dd _ s => Dd.rt .non s
  | .ife d p q => dIfS (wp c EX d).2 (wpSs c EX p) (wpSs c EX q)
  | .whl d p => dWhile (wp c EX d).2 (wpSs c EX p)
  | .for_ g it p q => dFor (wpI c EX it) g.rd (wpSs c EX p) (wpSs c EX q)
  | .brk => fun Dd e s => Dd.bk e s
  | .cont => fun Dd e s => Dd.ct e s
  | .pass => dNext
def wpSs (c : Cf) (EX : DXE) : Ts → DTS
  | .nil => dNext
  | .cons t r => dSeq (wpS c EX t) (wpSs c EX r)
end
/-! ### the look -/
structure Ctx where
  N : List Str
  sc : Scope
  cok : Str → Bool
structure CS where
  n : Nat
  fx : Nat → Str
  ks : Nat → List Str
def Ctx.blk (x : Ctx) (scope : Scope) : Ctx := ⟨x.N, relS scope x.sc, fun y => scope.names.lookup y == some .cell⟩
def visB (sc : Scope) (y : Str) : Bool := match sc.names.lookup y with
  | some .local => true | some .cell => true | some .free => true | _ => false
def storeB (x : Ctx) (y : Str) : Bool := match x.sc.names.lookup y with
  | some .local => true
  | some .cell => x.cok y
  | _ => false
def globB (sc : Scope) (y : Str) : Bool := match sc.names.lookup y with
  | some .globalImplicit => true | _ => false
def plainX : Expr → Bool
  | .Set .. => false | .Starred .. => false | .Slice .. => false | .GeneratorExp .. => false | .BoolOp .. => true | _ => true
def isComp : Expr → Bool
  | .ListComp .. => true | .SetComp .. => true | .DictComp .. => true | _ => false
def specialT : Expr → Bool
  | .UnaryOp .Not _ _ => true | .BoolOp .. => true | .IfExp .. => true | .Compare .. => true | _ => false
def call0 : Expr → Bool
  | .Call (.Name _ _) [] [] _ => true | _ => false
def BI.name : BI → Str
  | .len => "len" | .abs => "abs" | .max => "max" | .min => "min" | .all => "all" | .any => "any" | .list => "list" | .listC => "list" | .tuple => "tuple" | .repr => "repr" | .sorted => "sorted"
def BM.name : BM → Str
  | .append => "append" | .pop => "pop" | .popAt => "pop" | .extend => "extend"
def BM.n : BM → Nat
  | .append => 1 | .pop => 0 | .popAt => 1 | .extend => 1
def bltNames : List Str := ["len", "abs", "max", "min", "all", "any", "list", "tuple", "repr", "sorted", "range", "enumerate", "isinstance", "set", "dict", "int", "sum", "str", "bool", "reversed", "zip"]
def atCall : Expr → Option (Expr × Str × Pos × List Expr × Pos)
  | .Call (.Attribute o y ap) es [] cp => some (o, y, ap, es, cp)
  | _ => none
theorem atCall_some {e o : Expr} {y : Str} {ap cp : Pos} {es : List Expr} (h : atCall e = some (o, y, ap, es, cp)) : e = .Call (.Attribute o y ap) es [] cp := by
  unfold atCall at h
  split at h <;> first | (cases h; rfl) | cases h
def nmCall : Expr → Option (Str × Pos × List Expr × Pos)
  | .Call (.Name y p) es [] cp => some (y, p, es, cp)
  | _ => none
theorem nmCall_some {e : Expr} {y : Str} {p cp : Pos} {es : List Expr} (h : nmCall e = some (y, p, es, cp)) : e = .Call (.Name y p) es [] cp := by
  unfold nmCall at h
  split at h <;> first | (cases h; rfl) | cases h
def isTup : Expr → Bool
  | .Tuple .. => true | _ => false
def okStar (x : Ctx) : List Nat → List Expr → Bool
  | i :: is, e :: es => match e with
    | .Name y _ => decide (x.N[i]? = some y) && storeB x y && okStar x is es
    | .Starred (.Name y _) _ => decide (x.N[i]? = some y) && storeB x y && is.isEmpty && es.isEmpty
    | _ => false
  | _, _ => false
def okG (x : Ctx) : Tg → Expr → Bool
  | .n i, .Name y _ => decide (x.N[i]? = some y) && storeB x y
  | .t is, .Tuple es _ _ => is.length == es.length && (is.zip es).all fun p => match p.2 with
    | .Name y _ => decide (x.N[p.1]? = some y) && storeB x y
    | _ => false
  | .s is, .Tuple es _ _ => okStar x is es
  | _, _ => false
mutual
def okE (k : CS) (x : Ctx) : E → Expr → Bool
  | .var i => fun e => match e with
    | .Name y _ => decide (x.N[i]? = some y) && visB x.sc y && !(y == ("__debug__" : Str)) && !(y == ("__classdict__" : Str))
    | _ => false
  | .int i => fun e => match e with
    | .Constant (.int j) _ _ => decide (i = j)
    | _ => false
  | .str i => fun e => match e with
    | .Constant (.str j) _ _ => decide (i = j)
    | _ => false
  | .bl i => fun e => match e with
    | .Constant (.bool j) _ _ => decide (i = j)
    | _ => false
  | .non => fun e => match e with
    | .Constant .none _ _ => true
    | _ => false
  | .bin op a b => fun e => match e with
    | .BinOp a' op' b' _ => decide (op = op') && okE k x a a' && okE k x b b'
    | _ => false
  | .cmp op a b => fun e => match e with
    | .Compare a' [op'] [b'] _ => decide (op = op') && okE k x a a' && okE k x b b' && plainX b'
    | _ => false
  | .chain o1 o2 a b c => fun e => match e with
    | .Compare a' [o1', o2'] [b', c'] _ => decide (o1 = o1') && decide (o2 = o2') && okE k x a a' && okE k x b b' && okE k x c c' && plainX c'
    | _ => false
  | .and a b => fun e => match e with
    | .BoolOp .And (a' :: b' :: r) pos => okE k x a a' && (match r with
      | [] => okE k x b b'
      | c' :: r' => okE k x b (.BoolOp .And (b' :: c' :: r') pos))
    | _ => false
  | .or a b => fun e => match e with
    | .BoolOp .Or (a' :: b' :: r) pos => okE k x a a' && (match r with
      | [] => okE k x b b'
      | c' :: r' => okE k x b (.BoolOp .Or (b' :: c' :: r') pos))
    | _ => false
  | .not a => fun e => match e with
    | .UnaryOp .Not a' _ => okE k x a a'
    | _ => false
  | .ife c a b => fun e => match e with
    | .IfExp c' a' b' _ => okE k x c c' && okE k x a a' && okE k x b b'
    | _ => false
  | .ix a i => fun e => match e with
    | .Subscript a' i' _ => okE k x a a' && okE k x i i' && plainX i'
    | _ => false
  | .sl a lo hi => fun e => match e with
    | .Subscript a' (.Slice lo' hi' none _) _ => okE k x a a' && (match lo, lo' with
      | .nop, none => true
      | .nop, some _ => false
      | _, none => false
      | _, some l => okE k x lo l) && (match hi, hi' with
      | .nop, none => true
      | .nop, some _ => false
      | _, none => false
      | _, some l => okE k x hi l)
    | _ => false
  | .tup es => fun e => match e with
    | .Tuple es' _ _ => okEs k x es es'
    | _ => false
  | .lst _ es => fun e => match e with
    | .List es' _ => okEs k x es es'
    | _ => false
  | .bi f es => fun e => match e with
    | .Call (.Name y _) (a :: r) [] _ => decide (y = f.name) && globB x.sc y && okEs k x es (a :: r)
    | _ => false
  | .call g es ks => fun e => match e with
    | .Call (.Name y _) es' ks' _ => decide (g < k.n) && decide (y = k.fx g) && globB x.sc y && !(y == ("__debug__" : Str)) && okEs k x es es' && okKs k x ks ks' && decide (ks'.map (·.arg) = (k.ks g).map some)
    | _ => false
  | .meth m r es => fun e => match e with
    | .Call (.Attribute r' y ap) es' [] cp => decide (y = m.name) && okE k x r r' && okEs k x es es' && decide (es'.length = m.n) && (ap.endLine == cp.line) && !call0 r'
    | _ => false
  | .comp _ elt g it cs own => fun e => match e with
    | .ListComp elt' [⟨tg, iter, ifs, as⟩] scope _ => decide (as = 0) && okI k x it tg iter && okG (x.blk scope) g tg && okC k (x.blk scope) cs ifs && okE k (x.blk scope) elt elt' && blkC x.N x.sc scope (own.map fun i => (x.N.getD i "", i)) && g.slots.all (fun i => decide (i ∈ own))
    | _ => false
  | .frz a => fun e => !specialT e && okE k x a e
  | .nop => fun _ => false
  | .dnew => fun e => match e with
    | .Dict [] [] _ => true
    | _ => false
  | .dget a i d => fun e => match atCall e with
    | some (a', y, ap, [i'], cp) => decide (y = ("get" : Str)) && okE k x a a' && okE k x i i' && plainX i' && (ap.endLine == cp.line) && !call0 a' && (match d with | .nop => true | _ => false)
    | some (a', y, ap, [i', d'], cp) => decide (y = ("get" : Str)) && okE k x a a' && okE k x i i' && plainX i' && (ap.endLine == cp.line) && !call0 a' && okE k x d d' && plainX d' && (match d with | .nop => false | _ => true)
    | _ => false
def okEs (k : CS) (x : Ctx) : Es → List Expr → Bool
  | .nil => fun es => match es with
    | [] => true
    | _ => false
  | .cons a r => fun es => match es with
    | a' :: r' => okE k x a a' && plainX a' && okEs k x r r'
    | [] => false
def okKs (k : CS) (x : Ctx) : Es → List Keyword → Bool
  | .nil => fun es => match es with
    | [] => true
    | _ => false
  | .cons a r => fun es => match es with
    | ⟨_, a', _⟩ :: r' => okE k x a a' && okKs k x r r'
    | [] => false
def okI (k : CS) (x : Ctx) : Iw → Expr → Expr → Bool
  | .e a => fun _ e => okE k x a e && plainX e
  | .r1 a => fun _ e => match e with
    | .Call (.Name y _) [a'] [] _ => decide (y = ("range" : Str)) && globB x.sc y && okE k x a a' && plainX a'
    | _ => false
  | .r2 a b => fun _ e => match e with
    | .Call (.Name y _) [a', b'] [] _ => decide (y = ("range" : Str)) && globB x.sc y && okE k x a a' && plainX a' && okE k x b b' && plainX b'
    | _ => false
  | .en a => fun tg e => match nmCall e with
    | some (y, _, [a'], _) => isTup tg && decide (y = ("enumerate" : Str)) && globB x.sc y && okE k x a a' && plainX a'
    | _ => false
def okC (k : CS) (x : Ctx) : Es → List Expr → Bool
  | .nil => fun es => match es with
    | [] => true
    | _ => false
  | .cons a _ => fun es => match es with
    | [a'] => okE k x a a'
    | _ => false
end
def swapB (x : Ctx) (y : Str) (p : Pos) : Expr → Bool
  | .ListComp _ _ scope pos => decide (x.sc.names.lookup y = some .local) && (p.line == pos.line) && !(scope.names.any fun q => q.1 == y && (q.2 == .local || q.2 == .cell))
  | _ => false
def allLoc (sc : Scope) (ts : List Expr) : Bool := ts.all fun t => match t with
  | .Name y _ => sc.names.lookup y == some .local
  | _ => false
mutual
def okS (k : CS) (x : Ctx) : T → Stmt → Bool
  | .set i a => fun st => match st with
    | .Assign [.Name y p] e _ => decide (x.N[i]? = some y) && storeB x y && okE k x a e && (!isComp e || (match a with | .comp .. => true | _ => false))
    | _ => false
  | .asg g a => fun st => match st with
    | .Assign [.Tuple ts kk p] e _ => okG x g (.Tuple ts kk p) && okE k x a e && (match e with | .Tuple .. => !allLoc x.sc ts | .ListComp .. => false | .SetComp .. => false | .DictComp .. => false | _ => true)
    | _ => false
  | .par i j a b => fun st => match st with
    | .Assign [.Tuple [.Name y1 p1, .Name y2 p2] _ _] (.Tuple [e1, e2] _ _) _ => decide (x.N[i]? = some y1) && decide (x.N[j]? = some y2) && decide (i ≠ j) && decide (x.sc.names.lookup y1 = some .local) && decide (x.sc.names.lookup y2 = some .local) &&
        okE k x a e1 && okE k x b e2 && plainX e1 && plainX e2 && (p1.line == p2.line) && !((e1 :: e2 :: []).all (constantsAlone 8)) && !((e1 :: e2 :: []).all (foldedForSure 8))
    | _ => false
  | .sub r i a => fun st => match st with
    | .Assign [.Subscript r' i' _] e _ => okE k x r r' && okE k x i i' && okE k x a e && plainX i' && !isComp e
    | _ => false
  | .ex a => fun st => match st with
    | .Expr e _ => okE k x a e && !isComp e
    | _ => false
  | .ret a => fun st => match st with
    | .Return (some e) _ => okE k x a e
    | _ => false
  | .retN => fun st => match st with
    | .Return none _ => true
    | _ => false
  | .ife c p q => fun st => match st with
    | .If c' p' q' _ => okE k x c c' && okSs k x p p' && okSs k x q q'
    | _ => false
  | .whl c p => fun st => match st with
    | .While c' p' [] _ => okE k x c c' && okSs k x p p'
    | _ => false
  | .for_ g it p q => fun st => match st with
    | .For tg iter p' q' _ => okG x g tg && okI k x it tg iter && okSs k x p p' && okSs k x q q'
    | _ => false
  | .brk => fun st => match st with
    | .Break _ => true
    | _ => false
  | .cont => fun st => match st with
    | .Continue _ => true
    | _ => false
  | .pass => fun st => match st with
    | .Pass _ => true
    | _ => false
def okSs (k : CS) (x : Ctx) : Ts → List Stmt → Bool
  | .nil => fun st => match st with
    | [] => true
    | _ => false
  | .cons t r => fun st => match st with
    | t' :: r' => okS k x t t' && okSs k x r r'
    | [] => false
end
end Y


/-! Y10: the readings are right. -/
namespace Y
open PySem PySem.Spec PyProof.Rows L2

/-! ### what the forms of expressions give -/
theorem star_plain {a : Expr} {es : List Expr} {env : Env} (h : plainX a = true) : starEach (a :: es) env = (false, eval a env) :: starEach es env := by
  cases a <;> first | rfl | cases h
theorem star_any {es : List Expr} {env : Env} {pos : Pos} (h : es.all plainX = true) : (backTo pos (starEach es env)).any (·.1) = false := by
  induction es with
  | nil => rfl
  | cons a r ih =>
    rw [List.all_cons, Bool.and_eq_true] at h
    rw [star_plain h.1]
    show (false || (backTo pos (starEach r env)).any (·.1)) = false
    rw [ih h.2]; rfl
theorem plain_ix {b : Expr} (h : plainX b = true) : PlainIx b := fun o i => by
  cases b <;> first | rfl | cases h
theorem plain_mark {b : Expr} {op : CmpOp} (h : plainX b = true) : behindInMarks op b = false := by
  cases b <;> first | rfl | cases h
theorem tru_plain {e : Expr} {env : Env} (h : specialT e = false) : ∀ whole, isTrue e env whole = (do let v ← whole; standAt e.pos; holding [v] (truthy v)) := fun whole => by
  cases e with
  | UnaryOp op _ _ => cases op <;> first | rfl | cases h
  | BoolOp _ _ _ => cases h
  | IfExp _ _ _ _ => cases h
  | Compare _ _ _ _ => cases h
  | _ => rfl
theorem swaps_no {e : Expr} {t : Option Expr} {l : Nat} {env : Env} (h : isComp e = false) : swapsWith e t l env = pure false := by
  cases e <;> first | rfl | cases h
theorem fold_plain {e : Expr} {env : Env} (h : plainX e = true) : ∀ x, foldedSetIterable e env x = pure x := fun x => by
  cases e <;> first | rfl | cases h
theorem base_plain {o : Expr} {n : Str} {env : Env} {whole : Sem Value} (h : call0 o = false) : attributeBase o n env whole = whole := by
  unfold attributeBase
  split
  · cases h
  · rfl
theorem assign_sub {a b : Expr} {env : Env} {pos : Pos} (h : plainX b = true) : ∀ v, assign (.Subscript a b pos) env v = (do
      let ov ← holding [v] (eval a env)
      let iv ← holding [v, ov] (eval b env)
      standAt pos
      holding [v, ov, iv] (setItem ov iv v)
      release [v, ov, iv] []) := fun v => by
  cases b <;> first | rfl | cases h
theorem okEs_plain {k : CS} {x : Ctx} : ∀ {ms : Es} {es : List Expr}, okEs k x ms es = true → es.all plainX = true := by
  intro ms es
  induction es generalizing ms with
  | nil => intro _; rfl
  | cons a r ih =>
    intro h
    cases ms with
    | nil => cases h
    | cons m ms =>
      simp only [okEs, Bool.and_eq_true] at h
      rw [List.all_cons, h.1.2, ih h.2]; rfl
theorem lift_frz {K : PySem.W.Frag} {L : Lk} {ta : DTE} {σ : St} {H : Hp} {Q : VK} (h : lift K L (dFrz ta) σ H Q) : lift K L ta σ H Q := by
  obtain ⟨W, e, s, Qd, st, t, k⟩ := h
  refine ⟨W, e, s, _, st, t, fun d s1 W1 v H1 q x R r => ?_⟩
  split at q
  · rename_i n
    cases r with
    | @cell _ a hr =>
      split at q
      · rename_i xs e1
        obtain ⟨b, h1, h2, vs, h3, h4⟩ := R.cells n _ e1
        rw [hr] at h1; cases h1
        exact k _ _ _ _ _ q (x.trans (Ext.fix a)) (R.fix e1 hr) (.lst (.inr rfl) h3 (h4.mono (Ext.fix a)))
      · rename_i kvs e1
        obtain ⟨b, h1, h2, h3⟩ := R.cells n _ e1
        rw [hr] at h1; cases h1
        obtain ⟨vs, h3, h4⟩ := h3
        exact k _ _ _ _ _ q (x.trans (Ext.fix a)) (R.fix e1 hr) (.dK (.inr rfl) (by rw [h3]; rfl) (h4.mono (Ext.fix a)))
      · rename_i kvs e1
        obtain ⟨b, h1, h2, h3⟩ := R.cells n _ e1
        rw [hr] at h1; cases h1
        obtain ⟨vs, h3, h4⟩ := h3
        exact k _ _ _ _ _ q (x.trans (Ext.fix a)) (R.fix e1 hr) (.dT (.inr rfl) (by rw [h3]; rfl) (h4.mono (Ext.fix a)))
      · exact q.elim
  · exact k _ _ _ _ _ q x R r
/-! ### what is known around -/
def CfOk (X : Cx) (k : CS) (c : Cf) (j : Nat) : Prop := ∃ (lv : Nat) (f : Addr) (fd : FuncData) (ps : List Str) (ds : List Value) (dvs : List V), GFn X.prog X.w X.K X.mg X.base lv f fd ps (spOf X.K (c.sp j)) ∧ Room lv X.A ∧ X.mg (k.fx j) = some (.ref f) ∧
  PySem.W.keepIn X.K (.ref f) = true ∧ (∀ W H, Reps X.K W H dvs (c.dd j)) ∧ (k.ks j = [] → Binds X.K fd ps ds ∧ Vals dvs ds) ∧ (k.ks j ≠ [] → ∃ g, KBn X.K fd ps (c.np j) (k.ks j) g (GV (c.perm j) dvs) ∧ (k.ks j).length = c.nk j)
structure Good (X : Cx) (L : Lk) (k : CS) (x : Ctx) (EX : DXE) (c : Cf) : Prop where
  N : X.N = x.N
  nd : X.N.Nodup
  sc : X.env.scope = x.sc
  fn : ∀ y, x.cok y = true → X.fn y = true
  kind : X.env.scope.kind = .function
  calm : X.calm = true
  hu : X.A.units + 70 < cLine
  hg : X.A.guards = some []
  tk : Tk X L EX
  bl : ∀ y ∈ bltNames, X.mg y = none
  cf : ∀ j, j < k.n → CfOk X k c j
section
variable {X : Cx} {L : Lk} {k : CS} {x : Ctx} {EX : DXE} {c : Cf}
theorem Good.blk (g : Good X L k x EX c) {scope : Scope} (hk : scope.kind = .function) (s : Shared) (H : Hp) (C : Addr) (cl : List (Str × Addr)) (fp : List Addr) : Good (X.blk s H scope (compEnvC scope cl C X.env) fp) LT k (x.blk scope) EX0 c where
  N := g.N
  nd := g.nd
  sc := by
    show relabel scope X.env = relS scope x.sc
    rw [← g.sc]; rfl
  fn := fun y h => h
  kind := hk
  calm := g.calm
  hu := g.hu
  hg := g.hg
  tk := Tk.none
  bl := g.bl
  cf := g.cf
theorem Good.gl (g : Good X L k x EX c) {y : Str} (h : globB x.sc y = true) : Gl X y := by
  unfold globB at h
  split at h
  · rename_i e
    show X.env.scope.names.lookup y = _
    rw [g.sc]; exact e
  · cases h
theorem Good.vis (g : Good X L k x EX c) {y : Str} (h : visB x.sc y = true) : Vis X.env.scope y := by
  unfold visB at h
  rw [g.sc]
  split at h
  · rename_i e; exact .inl e
  · rename_i e; exact .inr (.inl e)
  · rename_i e; exact .inr (.inr e)
  · cases h
theorem Good.store (g : Good X L k x EX c) {y : Str} (h : storeB x y = true) : Loc X.env.scope y ∧ (X.fn y = true ∨ X.env.scope.names.lookup y = some .local) := by
  unfold storeB at h
  rw [g.sc]
  split at h
  · rename_i e; exact ⟨.inl e, .inr e⟩
  · rename_i e; exact ⟨.inr e, .inl (g.fn y h)⟩
  · cases h
theorem Good.nm (g : Good X L k x EX c) {y : Str} {i : Nat} (h : x.N[i]? = some y) : X.N[i]? = some y := by rw [g.N]; exact h
/-! ### operators -/
theorem op_never {f : Value → Value → Sem Value} {K : PySem.W.Frag} : OpR X f (lift2 K fun _ _ _ _ => False) := fun pins s σ H x y v u Q I rx ry h => by
  obtain ⟨_, _, _, _, _, _, _, _, h, _⟩ := h
  exact h.elim
theorem bin_ok (op : Operator) : OpR X (binaryOp op) (lift2 X.K (binD op)) := by
  cases op <;> first | exact o_add | exact o_sub | exact o_mul | exact o_fdiv | exact o_mod | exact o_pow | exact op_never
theorem cmp_ok (hu : X.A.units + 70 < cLine) (op : CmpOp) : OpR X (compareOp op) (lift2 X.K (cmpD op)) := by
  cases op
  · exact o_eq (by omega)
  · exact o_ne (by omega)
  · exact ord_ok op_lt
  · exact ord_ok op_le
  · exact ord_ok op_gt
  · exact ord_ok op_ge
  · exact o_is
  · exact o_isnot
  · exact o_in (by omega)
  · exact o_notin (by omega)
/-! ### built-ins by name -/
def BI.isTy : BI → Bool
  | .list => true | .listC => true | .tuple => true | _ => false
theorem bi_boot (f : BI) : (f.isTy = false → bootBuiltins f.name = some (.builtin (match f with | .len => "len" | .abs => "abs" | .max => "max" | .min => "min" | .all => "all" | .any => "any" | .repr => "repr" | _ => "sorted"))) ∧
    (f.isTy = true → bootBuiltins f.name = some (.type (match f with | .tuple => "tuple" | _ => "list"))) := by
  cases f <;> exact ⟨fun h => by first | exact absurd h (by decide) | decide +kernel, fun h => by first | exact absurd h (by decide) | decide +kernel⟩
theorem bi_free (g : Good X L k x EX c) (f : BI) : X.mg f.name = none := g.bl _ (by cases f <;> decide +kernel)
theorem bi_ok (g : Good X L k x EX c) {f : BI} {p pos : Pos} {a : Expr} {es : List Expr} {r : DTA} (hg : Gl X f.name) (ha : PA X (a :: es) (liftA X.K L r)) (hp : (a :: es).all plainX = true) : PE X (.Call (.Name f.name p) (a :: es) [] pos) (lift X.K L (dCall f.rd r)) := by
  rw [List.all_cons, Bool.and_eq_true] at hp
  have hn : f.name ≠ "__name__" := by cases f <;> decide +kernel
  have hd : (f.name == ("__debug__" : Str)) = false := by cases f <;> decide +kernel
  have h1 := star_plain (es := es) (env := X.env) hp.1
  have h2 := star_any (env := X.env) (pos := pos) hp.2
  have hm := bi_free g f
  obtain ⟨b1, b2⟩ := bi_boot f
  cases f
  · exact de_callB c_len hg hm (b1 rfl) ha hn hd h1 h2
  · exact de_callB c_abs hg hm (b1 rfl) ha hn hd h1 h2
  · exact de_callB (c_max g.calm) hg hm (b1 rfl) ha hn hd h1 h2
  · exact de_callB (c_min g.calm) hg hm (b1 rfl) ha hn hd h1 h2
  · exact de_callB (c_all g.calm) hg hm (b1 rfl) ha hn hd h1 h2
  · exact de_callB (c_any g.calm) hg hm (b1 rfl) ha hn hd h1 h2
  · exact de_callTy c_list hg hm (b2 rfl) ha hn hd h1 h2
  · exact de_callTy c_listC hg hm (b2 rfl) ha hn hd h1 h2
  · exact de_callTy c_tuple hg hm (b2 rfl) ha hn hd h1 h2
  · exact de_callB (c_repr g.hg g.hu) hg hm (b1 rfl) ha hn hd h1 h2
  · exact de_callB (c_sorted g.calm) hg hm (b1 rfl) ha hn hd h1 h2
theorem bm_ok {m : BM} {r : Expr} {es : List Expr} {ap cp : Pos} {ta : DTE} {ts : DTA} (hr : PE X r (lift X.K L ta)) (ha : PA X es (liftA X.K L ts)) (h0 : es = [] → ts = dNil) (hn : es.length = m.n) (hp : es.all plainX = true) (hl : (ap.endLine == cp.line) = true) (hc : call0 r = false) :
    PE X (.Call (.Attribute r m.name ap) es [] cp) (lift X.K L (dMeth isL m.rd ta ts)) := by
  have hb := base_plain (n := m.name) (env := X.env) (whole := eval r X.env) hc
  cases es with
  | nil =>
    cases h0 rfl
    cases m
    · cases hn
    · exact (pe_bm0 PySem.F.plainAttrs_list PySem.F.slot_list_pop PySem.F.type_list_pop m_pop hr hb hl).wk fun _ _ _ h => liftM_bm0 (fun a b d => isL_ty a b d) h
    · cases hn
    · cases hn
  | cons a es =>
    cases es with
    | cons _ _ => cases m <;> cases hn
    | nil =>
      rw [List.all_cons, Bool.and_eq_true] at hp
      have h1 := star_plain (es := []) (env := X.env) hp.1
      have hf : ((backTo cp (starEach [a] X.env)).all (fun x => !x.1) && (backToKw cp (keywordEach [] X.env)).all (fun x => x.1.isSome) && decide ([a].length + ([] : List Keyword).length + (if ([] : List Keyword).isEmpty then 0 else 1) < 30)) = true := by rw [h1]; rfl
      cases m
      · exact (pe_bm PySem.F.plainAttrs_list PySem.F.slot_list_append PySem.F.type_list_append m_append hr ha hb hf hl h1 rfl).wk fun _ _ _ h => liftM_bm (fun a b d => isL_ty a b d) h
      · cases hn
      · exact (pe_bm PySem.F.plainAttrs_list PySem.F.slot_list_pop PySem.F.type_list_pop m_popAt hr ha hb hf hl h1 rfl).wk fun _ _ _ h => liftM_bm (fun a b d => isL_ty a b d) h
      · exact (pe_bm PySem.F.plainAttrs_list PySem.F.slot_list_extend PySem.F.type_list_extend m_extend hr ha hb hf hl h1 rfl).wk fun _ _ _ h => liftM_bm (fun a b d => isL_ty a b d) h
theorem m1_ok {o a : Expr} {n : Str} {ap cp : Pos} (h1 : plainX a = true) (h2 : (ap.endLine == cp.line) = true) (h3 : call0 o = false) : M1 X o n ap a cp := by
  have s1 := star_plain (es := []) (env := X.env) h1
  exact ⟨base_plain h3, by rw [s1]; rfl, h2, by rw [s1]; rfl⟩
theorem m2_ok {o a b : Expr} {n : Str} {ap cp : Pos} (h1 : plainX a = true) (h1b : plainX b = true) (h2 : (ap.endLine == cp.line) = true) (h3 : call0 o = false) : M2 X o n ap a b cp := by
  have s1 := star_plain (es := [b]) (env := X.env) h1
  have s2 := star_plain (es := []) (env := X.env) h1b
  exact ⟨base_plain h3, by rw [s1, s2]; rfl, h2, by rw [s1, s2]; rfl⟩
/-! ### targets -/
theorem names_ok (g : Good X L k x EX c) : ∀ (is : List Nat) (es : List Expr), is.length = es.length → ((is.zip es).all fun p => match p.2 with
    | .Name y _ => decide (x.N[p.1]? = some y) && storeB x y
    | _ => false) = true → PGs X es (liftGs X.K L is (gsNames is))
  | [], [], _, _ => dgs_nil
  | i :: is, e :: es, hl, h => by
    rw [List.zip_cons_cons, List.all_cons, Bool.and_eq_true] at h
    obtain ⟨h1, h2⟩ := h
    cases e with
    | Name y p =>
      simp only [Bool.and_eq_true, decide_eq_true_eq] at h1
      obtain ⟨q1, q2⟩ := g.store h1.2
      exact dgs_cons (is := [i]) (dg_name g.nd (g.nm h1.1) q1 q2) (names_ok g is es (by simpa using hl) h2) rfl
    | _ => cases h1
  | [], _ :: _, hl, _ => by cases hl
  | _ :: _, [], hl, _ => by cases hl
theorem names_len : ∀ (is : List Nat) (es : List Expr) (env : Env), ((is.zip es).all fun p => match p.2 with
    | .Name y _ => decide (x.N[p.1]? = some y) && storeB x y
    | _ => false) = true → is.length = es.length → (assignEach es env).length = is.length ∧ (assignEach es env).findIdx? (·.1) = none
  | [], [], _, _, _ => ⟨rfl, rfl⟩
  | i :: is, e :: es, env, h, hl => by
    rw [List.zip_cons_cons, List.all_cons, Bool.and_eq_true] at h
    obtain ⟨h1, h2⟩ := h
    obtain ⟨q1, q2⟩ := names_len is es env h2 (by simpa using hl)
    cases e with
    | Name y p =>
      refine ⟨by show (assignEach es env).length + 1 = _; rw [q1]; rfl, ?_⟩
      show List.findIdx? (·.1) ((false, assign (.Name y p) env) :: assignEach es env) = none
      rw [List.findIdx?_cons, q2]; rfl
    | _ => cases h1
  | [], _ :: _, _, _, hl => by cases hl
  | _ :: _, [], _, _, hl => by cases hl
theorem star_ok (g : Good X L k x EX c) : ∀ (is : List Nat) (es : List Expr), okStar x is es = true → PGs X es (liftGs X.K L is (gsNames is)) ∧ (assignEach es X.env).length = is.length - 1 + 1 ∧ (assignEach es X.env).findIdx? (·.1) = some (is.length - 1)
  | [], _, h => by unfold okStar at h; cases h
  | _ :: _, [], h => by unfold okStar at h; cases h
  | i :: is, e :: es, h => by
    unfold okStar at h
    cases e with
    | Name y p =>
      simp only [Bool.and_eq_true, decide_eq_true_eq] at h
      obtain ⟨⟨h1, h2⟩, h3⟩ := h
      obtain ⟨q1, q2⟩ := g.store h2
      obtain ⟨r1, r2, r3⟩ := star_ok g is es h3
      have l1 : is.length - 1 + 1 = is.length := by
        cases is with
        | nil => unfold okStar at h3; cases h3
        | cons _ _ => rfl
      refine ⟨dgs_cons (is := [i]) (dg_name g.nd (g.nm h1) q1 q2) r1 rfl, ?_, ?_⟩
      · show (assignEach es X.env).length + 1 = _
        rw [r2, l1]; rfl
      · show List.findIdx? (·.1) ((false, assign (.Name y p) X.env) :: assignEach es X.env) = _
        rw [List.findIdx?_cons, r3]
        show some (is.length - 1 + 1) = some (is.length + 1 - 1)
        rw [l1]; rfl
    | Starred e p =>
      cases e with
      | Name y p =>
        simp only [Bool.and_eq_true, decide_eq_true_eq, List.isEmpty_iff] at h
        obtain ⟨⟨⟨h1, h2⟩, h3⟩, h4⟩ := h
        subst h3 h4
        obtain ⟨q1, q2⟩ := g.store h2
        exact ⟨dgs_consS (is := [i]) (dg_name g.nd (g.nm h1) q1 q2) dgs_nil, rfl, rfl⟩
      | _ => cases h
    | _ => cases h
theorem tg_ok (g : Good X L k x EX c) {t : Tg} {e : Expr} (h : okG x t e = true) : PG X e (liftG X.K L t.slots t.rd) := by
  unfold okG at h
  split at h
  · rename_i i y p
    simp only [Bool.and_eq_true, decide_eq_true_eq] at h
    obtain ⟨q1, q2⟩ := g.store h.2
    exact dg_name g.nd (g.nm h.1) q1 q2
  · rename_i is es kk p
    simp only [Bool.and_eq_true, beq_iff_eq] at h
    obtain ⟨q1, q2⟩ := names_len is es X.env h.2 h.1
    exact dg_seq g.calm (names_ok g is es h.1 h.2) q1 q2
  · rename_i is es kk p
    obtain ⟨q1, q2, q3⟩ := star_ok g is es h
    exact dg_star g.calm q1 q2 q3
  · cases h
end
end Y


/-! Y11: the readings are right, for every expression and statement. -/
namespace Y
open PySem PySem.Spec PyProof.Rows L2

structure Snd (X : Cx) (L : Lk) (t : DTE × DTT) (e : Expr) : Prop where
  pe : PE X e (lift X.K L t.1)
  pt : PT X e (liftT X.K L t.2)
  pw : ∀ op xs pos, e = .BoolOp op xs pos → PW X e (liftT X.K L t.2)
theorem snd_both {X : Cx} {L : Lk} {t : DTE} {e : Expr} (h : PE X e (lift X.K L t)) (hs : specialT e = false) : Snd X L (both t) e :=
  ⟨h, dt_tru h (tru_plain hs), fun op xs pos z => by subst z; cases hs⟩
theorem dt_false {X : Cx} {L : Lk} {e : Expr} : PT X e (liftT X.K L fun _ _ _ => False) := ⟨fun pins s σ H Q I h => by obtain ⟨_, _, _, _, _, h, _⟩ := h; exact h.elim⟩
theorem okKs_plain {k : CS} {x : Ctx} : ∀ {ms : Es} {ks : List Keyword}, okKs k x ms ks = true → True := fun _ => trivial
theorem kw_all {ks : List Str} {kws : List Keyword} {env : Env} {pos : Pos} (h : kws.map (·.arg) = ks.map some) :
    (backToKw pos (keywordEach kws env)).all (·.1.isSome) = true ∧ (backToKw pos (keywordEach kws env)).filterMap (·.1) = ks ∧ (backToKw pos (keywordEach kws env)).any (·.1.isNone) = false := by
  induction kws generalizing ks with
  | nil => cases ks with
    | nil => exact ⟨rfl, rfl, rfl⟩
    | cons _ _ => cases h
  | cons q r ih =>
    obtain ⟨n, v, p⟩ := q
    cases ks with
    | nil => cases h
    | cons m ms =>
      have h' : n :: r.map (·.arg) = some m :: ms.map some := h
      injection h' with h1 h2
      subst h1
      obtain ⟨i1, i2, i3⟩ := ih h2
      refine ⟨?_, ?_, ?_⟩
      · show (true && (backToKw pos (keywordEach r env)).all (·.1.isSome)) = true
        rw [i1]; rfl
      · show m :: (backToKw pos (keywordEach r env)).filterMap (·.1) = m :: ms
        rw [i2]
      · show (false || (backToKw pos (keywordEach r env)).any (·.1.isNone)) = false
        rw [i3]; rfl
mutual
theorem sE : ∀ (m : E) (e : Expr) (X : Cx) (L : Lk) (k : CS) (x : Ctx) (EX : DXE) (c : Cf), Good X L k x EX c → okE k x m e = true → Snd X L (wp c EX m) e
  | .var i, e, X, L, k, x, EX, c, g, h => by
    cases e with
    | Name y p =>
      simp only [okE, Bool.and_eq_true, decide_eq_true_eq, Bool.not_eq_true'] at h
      exact snd_both ((pe_var (g.nm h.1.1.1) (g.vis h.1.1.2) h.1.2 h.2).wk fun _ _ _ q => lift_var q) rfl
    | _ => cases h
  | .int i, e, X, L, k, x, EX, c, g, h => by
    cases e with
    | Constant v _ _ =>
      cases v with
      | int j =>
        simp only [okE, decide_eq_true_eq] at h
        subst h
        exact snd_both (pe_int.wk fun _ _ _ q => lift_c (fun _ _ _ => .int _) q) rfl
      | _ => cases h
    | _ => cases h
  | .str i, e, X, L, k, x, EX, c, g, h => by
    cases e with
    | Constant v _ _ =>
      cases v with
      | str j =>
        simp only [okE, decide_eq_true_eq] at h
        subst h
        exact snd_both (pe_str.wk fun _ _ _ q => lift_c (fun _ _ _ => .str _) q) rfl
      | _ => cases h
    | _ => cases h
  | .bl i, e, X, L, k, x, EX, c, g, h => by
    cases e with
    | Constant v _ _ =>
      cases v with
      | bool j =>
        simp only [okE, decide_eq_true_eq] at h
        subst h
        exact snd_both (pe_bl.wk fun _ _ _ q => lift_c (fun _ _ _ => .bl _) q) rfl
      | _ => cases h
    | _ => cases h
  | .non, e, X, L, k, x, EX, c, g, h => by
    cases e with
    | Constant v _ _ =>
      cases v with
      | none => exact snd_both (pe_non.wk fun _ _ _ q => lift_c (fun _ _ _ => .non) q) rfl
      | _ => cases h
    | _ => cases h
  | .bin op a b, e, X, L, k, x, EX, c, g, h => by
    cases e with
    | BinOp a' op' b' p =>
      simp only [okE, Bool.and_eq_true, decide_eq_true_eq] at h
      obtain ⟨⟨h0, h1⟩, h2⟩ := h
      subst h0
      exact snd_both (de_op (bin_ok op) (sE a a' X L k x EX c g h1).pe (sE b b' X L k x EX c g h2).pe) rfl
    | _ => cases h
  | .cmp op a b, e, X, L, k, x, EX, c, g, h => by
    cases e with
    | Compare a' ops bs p =>
      match ops, bs, h with
      | [op'], [b'], h =>
        simp only [okE, Bool.and_eq_true, decide_eq_true_eq] at h
        obtain ⟨⟨⟨h0, h1⟩, h2⟩, h3⟩ := h
        subst h0
        have i1 := (sE a a' X L k x EX c g h1).pe
        have i2 := (sE b b' X L k x EX c g h2).pe
        exact ⟨de_cmp (cmp_ok g.hu op) i1 i2 (plain_mark h3), dt_cmp (cmp_ok g.hu op) i1 i2 (plain_mark h3), fun _ _ _ z => by cases z⟩
      | [], _, h => simp [okE] at h
      | [_], [], h => simp [okE] at h
      | [_], _ :: _ :: _, h => simp [okE] at h
      | _ :: _ :: _, _, h => simp [okE] at h
    | _ => cases h
  | .chain o1 o2 a b d, e, X, L, k, x, EX, c, g, h => by
    cases e with
    | Compare a' ops bs p =>
      match ops, bs, h with
      | [p1, p2], [b', d'], h =>
        simp only [okE, Bool.and_eq_true, decide_eq_true_eq] at h
        obtain ⟨⟨⟨⟨⟨h0, h1⟩, h2⟩, h3⟩, h4⟩, h5⟩ := h
        subst h0; subst h1
        have i1 := (sE a a' X L k x EX c g h2).pe
        have i2 := (sE b b' X L k x EX c g h3).pe
        have i3 := (sE d d' X L k x EX c g h4).pe
        have hm : lastMarks [o1, o2] [b', d'] = false := plain_mark h5
        exact ⟨de_chain (cmp_ok g.hu o1) (cmp_ok g.hu o2) i1 i2 i3 hm, dt_chain (cmp_ok g.hu o1) (cmp_ok g.hu o2) i1 i2 i3 hm, fun _ _ _ z => by cases z⟩
      | [], _, h => simp [okE] at h
      | [_], _, h => simp [okE] at h
      | [_, _], [], h => simp [okE] at h
      | [_, _], [_], h => simp [okE] at h
      | [_, _], _ :: _ :: _ :: _, h => simp [okE] at h
      | _ :: _ :: _ :: _, _, h => simp [okE] at h
    | _ => cases h
  | .and a b, e, X, L, k, x, EX, c, g, h => by
    cases e with
    | BoolOp op xs p =>
      match op, xs, h with
      | .And, [a', b'], h =>
        simp only [okE, Bool.and_eq_true] at h
        have i1 := sE a a' X L k x EX c g h.1
        have i2 := sE b b' X L k x EX c g h.2
        have w := dw_and (pos := p) i1.pt (dw_and1 i2.pt)
        exact ⟨de_and i1.pe (pe_one i2.pe), w.pt, fun _ _ _ z => by cases z; exact w⟩
      | .And, a' :: b' :: c' :: r', h =>
        simp only [okE, Bool.and_eq_true] at h
        have i1 := sE a a' X L k x EX c g h.1
        have i2 := sE b _ X L k x EX c g h.2
        have w := dw_and i1.pt (i2.pw _ _ _ rfl)
        exact ⟨de_and i1.pe i2.pe, w.pt, fun _ _ _ z => by cases z; exact w⟩
      | .And, [], h => simp [okE] at h
      | .And, [_], h => simp [okE] at h
      | .Or, _, h => simp [okE] at h
    | _ => cases h
  | .or a b, e, X, L, k, x, EX, c, g, h => by
    cases e with
    | BoolOp op xs p =>
      match op, xs, h with
      | .Or, [a', b'], h =>
        simp only [okE, Bool.and_eq_true] at h
        have i1 := sE a a' X L k x EX c g h.1
        have i2 := sE b b' X L k x EX c g h.2
        have w := dw_or (pos := p) i1.pt (dw_or1 i2.pt)
        exact ⟨de_or i1.pe (pe_one i2.pe), w.pt, fun _ _ _ z => by cases z; exact w⟩
      | .Or, a' :: b' :: c' :: r', h =>
        simp only [okE, Bool.and_eq_true] at h
        have i1 := sE a a' X L k x EX c g h.1
        have i2 := sE b _ X L k x EX c g h.2
        have w := dw_or i1.pt (i2.pw _ _ _ rfl)
        exact ⟨de_or i1.pe i2.pe, w.pt, fun _ _ _ z => by cases z; exact w⟩
      | .Or, [], h => simp [okE] at h
      | .Or, [_], h => simp [okE] at h
      | .And, _, h => simp [okE] at h
    | _ => cases h
  | .not a, e, X, L, k, x, EX, c, g, h => by
    cases e with
    | UnaryOp op a' p =>
      match op, h with
      | .Not, h =>
        simp only [okE] at h
        have i1 := sE a a' X L k x EX c g h
        exact ⟨de_not i1.pe, dt_not i1.pt, fun _ _ _ z => by cases z⟩
      | .Invert, h => simp [okE] at h
      | .UAdd, h => simp [okE] at h
      | .USub, h => simp [okE] at h
    | _ => cases h
  | .ife d a b, e, X, L, k, x, EX, c, g, h => by
    cases e with
    | IfExp d' a' b' p =>
      simp only [okE, Bool.and_eq_true] at h
      exact ⟨de_ife (sE d d' X L k x EX c g h.1.1).pt (sE a a' X L k x EX c g h.1.2).pe (sE b b' X L k x EX c g h.2).pe, dt_false, fun _ _ _ z => by cases z⟩
    | _ => cases h
  | .ix a i, e, X, L, k, x, EX, c, g, h => by
    cases e with
    | Subscript a' i' p =>
      simp only [okE, Bool.and_eq_true] at h
      exact snd_both (de_ix (Nat.lt_of_le_of_lt (by omega) g.hu) (sE a a' X L k x EX c g h.1.1).pe (sE i i' X L k x EX c g h.1.2).pe (plain_ix h.2)) rfl
    | _ => cases h
  | .sl a lo hi, e, X, L, k, x, EX, c, g, h => by
    cases e with
    | Subscript a' i' p =>
      cases i' with
      | Slice lo' hi' st p2 =>
        cases st with
        | some _ => simp [okE] at h
        | none =>
          simp only [okE, Bool.and_eq_true] at h
          obtain ⟨⟨h1, h2⟩, h3⟩ := h
          have q1 : PO X lo' (liftO X.K L (partD lo (wp c EX lo).1)) := by
            cases lo' with
            | none => cases lo <;> first | exact do_none | cases h2
            | some l =>
              have hl : okE k x lo l = true := by cases lo <;> first | exact h2 | cases h2
              have i := do_some (sE lo l X L k x EX c g hl).pe
              cases lo <;> first | exact i | cases h2
          have q2 : PO X hi' (liftO X.K L (partD hi (wp c EX hi).1)) := by
            cases hi' with
            | none => cases hi <;> first | exact do_none | cases h3
            | some l =>
              have hl : okE k x hi l = true := by cases hi <;> first | exact h3 | cases h3
              have i := do_some (sE hi l X L k x EX c g hl).pe
              cases hi <;> first | exact i | cases h3
          exact snd_both (de_sl (sE a a' X L k x EX c g h1).pe q1 q2) rfl
      | _ => simp [okE] at h
    | _ => cases h
  | .tup es, e, X, L, k, x, EX, c, g, h => by
    cases e with
    | Tuple es' n p => exact snd_both (de_tup (sEs es es' X L k x EX c g h)) rfl
    | _ => cases h
  | .lst cl es, e, X, L, k, x, EX, c, g, h => by
    cases e with
    | List es' p =>
      have i := sEs es es' X L k x EX c g h
      cases cl with
      | true => exact snd_both (de_lstC i) rfl
      | false => exact snd_both (de_lst i) rfl
    | _ => cases h
  | .bi f es, e, X, L, k, x, EX, c, g, h => by
    cases e with
    | Call fn es' ks p =>
      match fn, es', ks, h with
      | .Name y p2, a :: r, [], h =>
        simp only [okE, Bool.and_eq_true, decide_eq_true_eq] at h
        obtain ⟨⟨h0, h1⟩, h2⟩ := h
        subst h0
        exact snd_both (bi_ok g (g.gl h1) (sEs es (a :: r) X L k x EX c g h2) (okEs_plain h2)) rfl
      | .Name _ _, [], _, h => simp [okE] at h
      | .Name _ _, _ :: _, _ :: _, h => simp [okE] at h
      | .BoolOp .., _, _, h => simp [okE] at h
      | .NamedExpr .., _, _, h => simp [okE] at h
      | .BinOp .., _, _, h => simp [okE] at h
      | .UnaryOp .., _, _, h => simp [okE] at h
      | .Lambda .., _, _, h => simp [okE] at h
      | .IfExp .., _, _, h => simp [okE] at h
      | .Dict .., _, _, h => simp [okE] at h
      | .Set .., _, _, h => simp [okE] at h
      | .ListComp .., _, _, h => simp [okE] at h
      | .SetComp .., _, _, h => simp [okE] at h
      | .DictComp .., _, _, h => simp [okE] at h
      | .GeneratorExp .., _, _, h => simp [okE] at h
      | .Await .., _, _, h => simp [okE] at h
      | .Yield .., _, _, h => simp [okE] at h
      | .YieldFrom .., _, _, h => simp [okE] at h
      | .Compare .., _, _, h => simp [okE] at h
      | .Call .., _, _, h => simp [okE] at h
      | .FormattedValue .., _, _, h => simp [okE] at h
      | .JoinedStr .., _, _, h => simp [okE] at h
      | .Constant .., _, _, h => simp [okE] at h
      | .Attribute .., _, _, h => simp [okE] at h
      | .Subscript .., _, _, h => simp [okE] at h
      | .Starred .., _, _, h => simp [okE] at h
      | .List .., _, _, h => simp [okE] at h
      | .Tuple .., _, _, h => simp [okE] at h
      | .Slice .., _, _, h => simp [okE] at h
    | _ => cases h
  | .call j es ks, e, X, L, k, x, EX, c, g, h => by
    cases e with
    | Call fn es' ks' p =>
      match fn, es', ks', h with
      | .Name y p2, es', ks', h =>
        simp only [okE, Bool.and_eq_true, decide_eq_true_eq, Bool.not_eq_true'] at h
        obtain ⟨⟨⟨⟨⟨⟨h0, h1⟩, h2⟩, h3⟩, h4⟩, h5⟩, h6⟩ := h
        subst h1
        obtain ⟨lv, f, fd, ps, ds, dvs, F, hr, hm, hk, hdd, hb, hkb⟩ := g.cf j h0
        have ie := sEs es es' X L k x EX c g h4
        have ik := sKs ks ks' X L k x EX c g h5
        have hp := okEs_plain h4
        obtain ⟨a1, a2, a3⟩ := kw_all (env := X.env) (pos := p) h6
        cases ks' with
        | nil =>
          have e0 : k.ks j = [] := by
            cases q : k.ks j with
            | nil => rfl
            | cons _ _ => rw [q] at h6; cases h6
          obtain ⟨b1, b2⟩ := hb e0
          cases ks with
          | cons _ _ => cases h5
          | nil =>
            cases es' with
            | nil =>
              cases es with
              | cons _ _ => cases h4
              | nil => exact snd_both (de_callF0 F hr g.hg (g.gl h2) hm hk b1 b2 hdd g.tk h3) rfl
            | cons a r =>
              rw [List.all_cons, Bool.and_eq_true] at hp
              exact snd_both (de_callF F hr g.hg (g.gl h2) hm hk b1 b2 hdd g.tk ie h3 (star_plain hp.1) (star_any hp.2)) rfl
        | cons q r =>
          have e0 : k.ks j ≠ [] := by
            intro z
            rw [z] at h6; cases h6
          obtain ⟨gg, b, ek⟩ := hkb e0
          cases ks with
          | nil => cases h5
          | cons m ms =>
            cases es' with
            | nil =>
              cases es with
              | cons _ _ => cases h4
              | nil => exact snd_both (by have z := de_callFK0 F hr g.hg (g.gl h2) (p := p2) (pos := p) hm hk b hdd g.tk ik a1 a2 h3 (by rw [a3]; rfl); rw [ek] at z; exact z) rfl
            | cons a r' =>
              have sa := star_any (env := X.env) (pos := p) hp
              rw [List.all_cons, Bool.and_eq_true] at hp
              exact snd_both (by have z := de_callFK F hr g.hg (g.gl h2) (p := p2) (pos := p) hm hk b hdd g.tk ie ik a1 a2 h3 (star_plain hp.1) (by rw [sa, a3]; rfl); rw [ek] at z; exact z) rfl
      | .BoolOp .., _, _, h => simp [okE] at h
      | .NamedExpr .., _, _, h => simp [okE] at h
      | .BinOp .., _, _, h => simp [okE] at h
      | .UnaryOp .., _, _, h => simp [okE] at h
      | .Lambda .., _, _, h => simp [okE] at h
      | .IfExp .., _, _, h => simp [okE] at h
      | .Dict .., _, _, h => simp [okE] at h
      | .Set .., _, _, h => simp [okE] at h
      | .ListComp .., _, _, h => simp [okE] at h
      | .SetComp .., _, _, h => simp [okE] at h
      | .DictComp .., _, _, h => simp [okE] at h
      | .GeneratorExp .., _, _, h => simp [okE] at h
      | .Await .., _, _, h => simp [okE] at h
      | .Yield .., _, _, h => simp [okE] at h
      | .YieldFrom .., _, _, h => simp [okE] at h
      | .Compare .., _, _, h => simp [okE] at h
      | .Call .., _, _, h => simp [okE] at h
      | .FormattedValue .., _, _, h => simp [okE] at h
      | .JoinedStr .., _, _, h => simp [okE] at h
      | .Constant .., _, _, h => simp [okE] at h
      | .Attribute .., _, _, h => simp [okE] at h
      | .Subscript .., _, _, h => simp [okE] at h
      | .Starred .., _, _, h => simp [okE] at h
      | .List .., _, _, h => simp [okE] at h
      | .Tuple .., _, _, h => simp [okE] at h
      | .Slice .., _, _, h => simp [okE] at h
    | _ => cases h
  | .meth m r es, e, X, L, k, x, EX, c, g, h => by
    cases e with
    | Call fn es' ks' p =>
      match fn, es', ks', h with
      | .Attribute r' y ap, es', [], h =>
        simp only [okE, Bool.and_eq_true, decide_eq_true_eq, Bool.not_eq_true'] at h
        obtain ⟨⟨⟨⟨⟨h0, h1⟩, h2⟩, h3⟩, h4⟩, h5⟩ := h
        subst h0
        refine snd_both (bm_ok (sE r r' X L k x EX c g h1).pe (sEs es es' X L k x EX c g h2) (fun z => ?_) h3 (okEs_plain h2) h4 h5) rfl
        subst z
        cases es with
        | nil => rfl
        | cons _ _ => cases h2
      | .Attribute _ _ _, _, _ :: _, h => simp [okE] at h
      | .BoolOp .., _, _, h => simp [okE] at h
      | .NamedExpr .., _, _, h => simp [okE] at h
      | .BinOp .., _, _, h => simp [okE] at h
      | .UnaryOp .., _, _, h => simp [okE] at h
      | .Lambda .., _, _, h => simp [okE] at h
      | .IfExp .., _, _, h => simp [okE] at h
      | .Dict .., _, _, h => simp [okE] at h
      | .Set .., _, _, h => simp [okE] at h
      | .ListComp .., _, _, h => simp [okE] at h
      | .SetComp .., _, _, h => simp [okE] at h
      | .DictComp .., _, _, h => simp [okE] at h
      | .GeneratorExp .., _, _, h => simp [okE] at h
      | .Await .., _, _, h => simp [okE] at h
      | .Yield .., _, _, h => simp [okE] at h
      | .YieldFrom .., _, _, h => simp [okE] at h
      | .Compare .., _, _, h => simp [okE] at h
      | .Call .., _, _, h => simp [okE] at h
      | .FormattedValue .., _, _, h => simp [okE] at h
      | .JoinedStr .., _, _, h => simp [okE] at h
      | .Constant .., _, _, h => simp [okE] at h
      | .Name .., _, _, h => simp [okE] at h
      | .Subscript .., _, _, h => simp [okE] at h
      | .Starred .., _, _, h => simp [okE] at h
      | .List .., _, _, h => simp [okE] at h
      | .Tuple .., _, _, h => simp [okE] at h
      | .Slice .., _, _, h => simp [okE] at h
    | _ => cases h
  | .comp cl elt t it cs own, e, X, L, k, x, EX, c, g, h => by
    cases e with
    | ListComp elt' gens scope p =>
      match gens, h with
      | [⟨tg, iter, ifs, as⟩], h =>
        simp only [okE, Bool.and_eq_true, decide_eq_true_eq] at h
        obtain ⟨⟨⟨⟨⟨⟨h0, h1⟩, h2⟩, h3⟩, h4⟩, h5⟩, h6⟩ := h
        subst h0
        have hb : BlkOk X.N X.env.scope scope (own.map fun i => (x.N.getD i "", i)) := by
          rw [g.N, g.sc]
          exact blkOk_by h5
        have ho : (own.map fun i => (x.N.getD i "", i)).map (·.2) = own := by
          rw [List.map_map]
          exact List.map_id' own
        have hv : ∀ i ∈ t.slots, i ∈ (own.map fun i => (x.N.getD i "", i)).map (·.2) := by
          rw [ho]
          intro i hi
          exact of_decide_eq_true (List.all_eq_true.mp h6 i hi)
        have gb := fun s H C cl fp => g.blk hb.kind s H C cl fp
        have i1 := sI it tg iter X L k x EX c g h1
        have hg := fun s H C cl fp => tg_ok (gb s H C cl fp) h2
        have ht := fun s H C cl fp => sC cs ifs _ k (x.blk scope) c (gb s H C cl fp) h3
        have he := fun s H C cl fp => (sE elt elt' _ LT k (x.blk scope) EX0 c (gb s H C cl fp) h4).pe
        cases cl with
        | true =>
          have q := de_compC (pos := p) g.calm g.nd i1.1 hb hv hg ht he (fold_plain i1.2)
          rw [ho] at q
          exact snd_both q rfl
        | false =>
          have q := de_comp (pos := p) g.calm g.nd i1.1 hb hv hg ht he (fold_plain i1.2)
          rw [ho] at q
          exact snd_both q rfl
      | [], h => simp [okE] at h
      | _ :: _ :: _, h => simp [okE] at h
    | _ => cases h
  | .frz a, e, X, L, k, x, EX, c, g, h => by
    simp only [okE, Bool.and_eq_true, Bool.not_eq_true'] at h
    exact snd_both ((sE a e X L k x EX c g h.2).pe.wk fun _ _ _ q => lift_frz q) h.1
  | .nop, e, X, L, k, x, EX, c, g, h => by cases h
  | .dnew, e, X, L, k, x, EX, c, g, h => by
    simp only [okE] at h
    split at h
    · exact snd_both de_dnew rfl
    · cases h
  | .dget a i d, e, X, L, k, x, EX, c, g, h => by
    have hu : X.A.units + 1 < cLine := Nat.lt_of_le_of_lt (by omega) g.hu
    simp only [okE] at h
    split at h
    · rename_i a' y ap i' cp e1
      cases atCall_some e1
      simp only [Bool.and_eq_true, Bool.not_eq_true', decide_eq_true_eq] at h
      obtain ⟨⟨⟨⟨⟨⟨h0, h1⟩, h2⟩, h3⟩, h4⟩, h5⟩, h6⟩ := h
      subst h0
      cases d with
      | nop => exact snd_both (de_dget1 hu (sE a a' X L k x EX c g h1).pe (sE i i' X L k x EX c g h2).pe (m1_ok h3 h4 h5)) rfl
      | _ => cases h6
    · rename_i a' y ap i' d' cp e1
      cases atCall_some e1
      simp only [Bool.and_eq_true, Bool.not_eq_true', decide_eq_true_eq] at h
      obtain ⟨⟨⟨⟨⟨⟨⟨⟨h0, h1⟩, h2⟩, h3⟩, h4⟩, h5⟩, h6⟩, h7⟩, h8⟩ := h
      subst h0
      have z := de_dget2 hu (sE a a' X L k x EX c g h1).pe (sE i i' X L k x EX c g h2).pe (sE d d' X L k x EX c g h6).pe (m2_ok (ap := ap) (cp := cp) (n := "get") (o := a') h3 h7 h4 h5)
      cases d with
      | nop => cases h8
      | _ => exact snd_both z rfl
    · cases h
theorem sEs : ∀ (ms : Es) (es : List Expr) (X : Cx) (L : Lk) (k : CS) (x : Ctx) (EX : DXE) (c : Cf), Good X L k x EX c → okEs k x ms es = true → PA X es (liftA X.K L (wps c EX ms))
  | .nil, es, X, L, k, x, EX, c, g, h => by
    cases es with
    | nil => exact da_nil
    | cons _ _ => cases h
  | .cons a r, es, X, L, k, x, EX, c, g, h => by
    cases es with
    | nil => cases h
    | cons a' r' =>
      simp only [okEs, Bool.and_eq_true] at h
      exact da_cons (sE a a' X L k x EX c g h.1.1).pe (sEs r r' X L k x EX c g h.2) (star_plain h.1.2)
theorem sKs : ∀ (ms : Es) (es : List Keyword) (X : Cx) (L : Lk) (k : CS) (x : Ctx) (EX : DXE) (c : Cf), Good X L k x EX c → okKs k x ms es = true → PK X es (liftA X.K L (wps c EX ms))
  | .nil, es, X, L, k, x, EX, c, g, h => by
    cases es with
    | nil => exact dk_nil
    | cons _ _ => cases h
  | .cons a r, es, X, L, k, x, EX, c, g, h => by
    cases es with
    | nil => cases h
    | cons q r' =>
      obtain ⟨n, a', p⟩ := q
      simp only [okKs, Bool.and_eq_true] at h
      exact dk_cons (sE a a' X L k x EX c g h.1).pe (sKs r r' X L k x EX c g h.2)
theorem sI : ∀ (m : Iw) (tg e : Expr) (X : Cx) (L : Lk) (k : CS) (x : Ctx) (EX : DXE) (c : Cf), Good X L k x EX c → okI k x m tg e = true → PI X tg e (liftI X.K L (wpI c EX m)) ∧ plainX e = true
  | .e a, tg, e, X, L, k, x, EX, c, g, h => by
    simp only [okI, Bool.and_eq_true] at h
    exact ⟨di_e (sE a e X L k x EX c g h.1).pe, h.2⟩
  | .r1 a, tg, e, X, L, k, x, EX, c, g, h => by
    cases e with
    | Call fn es ks p =>
      match fn, es, ks, h with
      | .Name y p2, [a'], [], h =>
        simp only [okI, Bool.and_eq_true, decide_eq_true_eq] at h
        obtain ⟨⟨⟨h0, h1⟩, h2⟩, h3⟩ := h
        subst h0
        have s1 := star_plain (es := []) (env := X.env) h3
        exact ⟨di_range1 (g.gl h1) (g.bl _ (by decide +kernel)) (da_cons (sE a a' X L k x EX c g h2).pe da_nil s1) s1, rfl⟩
      | .Name _ _, [], _, h => simp [okI] at h
      | .Name _ _, [_], _ :: _, h => simp [okI] at h
      | .Name _ _, _ :: _ :: _, _, h => simp [okI] at h
      | .BoolOp .., _, _, h => simp [okI] at h
      | .NamedExpr .., _, _, h => simp [okI] at h
      | .BinOp .., _, _, h => simp [okI] at h
      | .UnaryOp .., _, _, h => simp [okI] at h
      | .Lambda .., _, _, h => simp [okI] at h
      | .IfExp .., _, _, h => simp [okI] at h
      | .Dict .., _, _, h => simp [okI] at h
      | .Set .., _, _, h => simp [okI] at h
      | .ListComp .., _, _, h => simp [okI] at h
      | .SetComp .., _, _, h => simp [okI] at h
      | .DictComp .., _, _, h => simp [okI] at h
      | .GeneratorExp .., _, _, h => simp [okI] at h
      | .Await .., _, _, h => simp [okI] at h
      | .Yield .., _, _, h => simp [okI] at h
      | .YieldFrom .., _, _, h => simp [okI] at h
      | .Compare .., _, _, h => simp [okI] at h
      | .Call .., _, _, h => simp [okI] at h
      | .FormattedValue .., _, _, h => simp [okI] at h
      | .JoinedStr .., _, _, h => simp [okI] at h
      | .Constant .., _, _, h => simp [okI] at h
      | .Attribute .., _, _, h => simp [okI] at h
      | .Subscript .., _, _, h => simp [okI] at h
      | .Starred .., _, _, h => simp [okI] at h
      | .List .., _, _, h => simp [okI] at h
      | .Tuple .., _, _, h => simp [okI] at h
      | .Slice .., _, _, h => simp [okI] at h
    | _ => cases h
  | .r2 a b, tg, e, X, L, k, x, EX, c, g, h => by
    cases e with
    | Call fn es ks p =>
      match fn, es, ks, h with
      | .Name y p2, [a', b'], [], h =>
        simp only [okI, Bool.and_eq_true, decide_eq_true_eq] at h
        obtain ⟨⟨⟨⟨⟨h0, h1⟩, h2⟩, h3⟩, h4⟩, h5⟩ := h
        subst h0
        have s1 := star_plain (es := [b']) (env := X.env) h3
        have s2 := star_plain (es := []) (env := X.env) h5
        have s3 : starEach [a', b'] X.env = [(false, eval a' X.env), (false, eval b' X.env)] := by rw [s1, s2]; rfl
        exact ⟨di_range2 (g.gl h1) (g.bl _ (by decide +kernel)) (da_cons (sE a a' X L k x EX c g h2).pe (da_cons (sE b b' X L k x EX c g h4).pe da_nil s2) s1) s3 s2, rfl⟩
      | .Name _ _, [], _, h => simp [okI] at h
      | .Name _ _, [_], _, h => simp [okI] at h
      | .Name _ _, [_, _], _ :: _, h => simp [okI] at h
      | .Name _ _, _ :: _ :: _ :: _, _, h => simp [okI] at h
      | .BoolOp .., _, _, h => simp [okI] at h
      | .NamedExpr .., _, _, h => simp [okI] at h
      | .BinOp .., _, _, h => simp [okI] at h
      | .UnaryOp .., _, _, h => simp [okI] at h
      | .Lambda .., _, _, h => simp [okI] at h
      | .IfExp .., _, _, h => simp [okI] at h
      | .Dict .., _, _, h => simp [okI] at h
      | .Set .., _, _, h => simp [okI] at h
      | .ListComp .., _, _, h => simp [okI] at h
      | .SetComp .., _, _, h => simp [okI] at h
      | .DictComp .., _, _, h => simp [okI] at h
      | .GeneratorExp .., _, _, h => simp [okI] at h
      | .Await .., _, _, h => simp [okI] at h
      | .Yield .., _, _, h => simp [okI] at h
      | .YieldFrom .., _, _, h => simp [okI] at h
      | .Compare .., _, _, h => simp [okI] at h
      | .Call .., _, _, h => simp [okI] at h
      | .FormattedValue .., _, _, h => simp [okI] at h
      | .JoinedStr .., _, _, h => simp [okI] at h
      | .Constant .., _, _, h => simp [okI] at h
      | .Attribute .., _, _, h => simp [okI] at h
      | .Subscript .., _, _, h => simp [okI] at h
      | .Starred .., _, _, h => simp [okI] at h
      | .List .., _, _, h => simp [okI] at h
      | .Tuple .., _, _, h => simp [okI] at h
      | .Slice .., _, _, h => simp [okI] at h
    | _ => cases h
  | .en a, tg, e, X, L, k, x, EX, c, g, h => by
    simp only [okI] at h
    split at h
    · rename_i y p a' cp e1
      cases nmCall_some e1
      simp only [Bool.and_eq_true, decide_eq_true_eq] at h
      obtain ⟨⟨⟨⟨h0, h1⟩, h2⟩, h3⟩, h4⟩ := h
      subst h1
      have s1 := star_plain (es := []) (env := X.env) h4
      cases tg with
      | Tuple es kk p => exact ⟨di_enum (g.gl h2) (g.bl _ (by decide +kernel)) (da_cons (sE a a' X L k x EX c g h3).pe da_nil s1) s1, rfl⟩
      | _ => cases h0
    · cases h
theorem sC : ∀ (ms : Es) (es : List Expr) (X : Cx) (k : CS) (x : Ctx) (c : Cf), Good X LT k x EX0 c → okC k x ms es = true → PTs X es (liftT X.K LT (wpC c ms))
  | .nil, es, X, k, x, c, g, h => by
    cases es with
    | nil => exact dts_nil
    | cons _ _ => cases h
  | .cons a r, es, X, k, x, c, g, h => by
    match es, h with
    | [a'], h =>
      simp only [okC] at h
      exact dts_one (sE a a' X LT k x EX0 c g h).pt
    | [], h => cases h
    | _ :: _ :: _, h => simp [okC] at h
end
end Y


/-! Y12: the readings of statements are right; a def by its body. -/
namespace Y
open PySem PySem.Spec PyProof.Rows L2

theorem plain_star {e : Expr} : plainX e = true → (match e with | .Starred .. => true | _ => false) = false := by intro h; cases e <;> first | rfl | cases h
theorem swapped_two {x y : Str} {px py pt p2 : Pos} {kt k2 : Nat} {a b : Expr} {env : Env} (hk : env.scope.kind = .function) (hx : env.scope.names.lookup x = some .local) (hy : env.scope.names.lookup y = some .local) (hn : x ≠ y) (hl : (px.line == py.line) = true)
    (ha : plainX a = true) (hb : plainX b = true) (h1 : (a :: b :: []).all (constantsAlone 8) = false) (h2 : (a :: b :: []).all (foldedForSure 8) = false) :
    swappedStores [.Tuple [.Name x px, .Name y py] kt pt] (.Tuple [a, b] k2 p2) env = pure (some [x, y]) := by
  have hbk : env.blockKind = .function := by unfold Env.blockKind; rw [hk]; rfl
  have kx : env.kindOf x = some .local := hx
  have ky : env.kindOf y = some .local := hy
  have hs : ([a, b].any fun | .Starred .. => true | _ => false) = false := by
    rw [List.any_cons, List.any_cons, plain_star ha, plain_star hb]; rfl
  have hl' : (py.line == px.line) = true := by
    rw [beq_iff_eq] at hl ⊢; exact hl.symm
  have hd : ([x, y] : List Str).eraseDups.length = 2 := by
    have : (y == x) = false := beq_eq_false_iff_ne.mpr fun e => hn e.symm
    simp [List.eraseDups_cons, this]
  unfold swappedStores
  simp only [hs, hbk, kx, ky, hl', h1, h2, hd, Expr.pos, List.head?, Option.map, Option.getD, List.filterMap_cons, List.filterMap_nil, beq_self_eq_true, Bool.and_self, if_true, List.length_cons, List.length_nil]
  rw [if_neg (by decide), if_neg (by intro z; exact Bool.false_ne_true (hs.symm.trans z)), if_neg (by decide), if_neg (by decide), if_neg (by decide)]
theorem swapped_none {tg e : Expr} {env : Env} (h : (match e with | .Tuple .. => false | _ => true) = true) : swappedStores [tg] e env = pure none := by
  cases e <;> first | (cases h; done) | (unfold swappedStores; cases tg <;> rfl)
/-- a name of the targets is no plain local: the tuple is made and unpacked -/
theorem filterMap_lt {α β : Type} {f : α → Option β} : ∀ {l : List α}, (∃ a ∈ l, f a = none) → (l.filterMap f).length < l.length
  | [], h => by obtain ⟨a, h, _⟩ := h; cases h
  | x :: l, h => by
    obtain ⟨a, h1, h2⟩ := h
    have hle := List.length_filterMap_le f l
    rw [List.filterMap_cons]
    rcases List.mem_cons.mp h1 with e | h1
    · subst e
      rw [h2]
      show (l.filterMap f).length < l.length + 1
      omega
    · have ih := filterMap_lt (f := f) ⟨a, h1, h2⟩
      cases f x with
      | none => show (l.filterMap f).length < l.length + 1; omega
      | some b => show (l.filterMap f).length + 1 < l.length + 1; omega
theorem swapped_cells {ts : List Expr} {pt p2 : Pos} {kt k2 : Nat} {vs : List Expr} {env : Env} (h : allLoc env.scope ts = false) :
    swappedStores [.Tuple ts kt pt] (.Tuple vs k2 p2) env = pure none := by
  unfold allLoc at h
  rw [List.all_eq_false] at h
  obtain ⟨t, ht, hn⟩ := h
  have key : ∀ line : Nat, ((ts.filterMap fun t => match t with
      | .Name id pos => if env.kindOf id == some .local && pos.line == line then some id else none
      | _ => none).length != ts.length) = true := fun line => by
    rw [bne_iff_ne]
    refine Nat.ne_of_lt (filterMap_lt ⟨t, ht, ?_⟩)
    cases t with
    | Name y p =>
      have hn' : (env.kindOf y == some .local) = false := by
        cases q : (env.kindOf y == some .local) with
        | false => rfl
        | true => exact absurd q hn
      simp [hn']
    | _ => rfl
  unfold swappedStores
  dsimp only
  split
  · rfl
  · split
    · rfl
    · exact if_pos ((Bool.or_eq_true _ _).mpr (.inl (key _)))

structure GoodS (X : Cx) (L : Lk) (k : CS) (x : Ctx) (EX : DXE) (c : Cf) : Prop extends Good X L k x EX c where
  own : PassesOwn (model X.prog X.w) X.A X.env X.xe
theorem isComp_or (e : Expr) : isComp e = false ∨ (∃ a g s p, e = .ListComp a g s p) ∨ isComp e = true := by
  cases e <;> first | exact .inl rfl | exact .inr (.inr rfl)
theorem swap_comp {X : Cx} {x : Ctx} {y : Str} {p : Pos} {l : Nat} {e : Expr} (hsc : X.env.scope = x.sc) (hk : X.env.scope.kind = .function) (e1 : Expr) (gs : List Comprehension) (scope : Scope) (pos : Pos) :
    swapsWith (.ListComp e1 gs scope pos) (some (.Name y p)) l X.env = pure (decide (x.sc.names.lookup y = some .local) && (p.line == pos.line) && !(scope.names.any fun q => q.1 == y && (q.2 == .local || q.2 == .cell))) := by
  have hb : X.env.blockKind = .function := by unfold Env.blockKind; rw [hk]; rfl
  have ky : X.env.kindOf y = x.sc.names.lookup y := by show X.env.scope.names.lookup y = _; rw [hsc]
  have kd : (x.sc.names.lookup y == some .local) = decide (x.sc.names.lookup y = some .local) := by
    rw [Bool.eq_iff_iff]; simp
  unfold swapsWith
  simp only [hb, ky, Expr.pos, kd, beq_self_eq_true, Bool.true_and]
theorem set_comp {cl : Bool} {elt : E} {t : Tg} {it : Iw} {cs : Es} {own : List Nat} {elt' : Expr} {gens : List Comprehension} {scope : Scope} {p py sp : Pos} {y : Str} {i : Nat} {X : Cx} {L : Lk} {k : CS} {x : Ctx} {EX : DXE} {c : Cf} (g : Good X L k x EX c)
    (h : okE k x (.comp cl elt t it cs own) (.ListComp elt' gens scope p) = true) (hi : x.N[i]? = some y) (hs : storeB x y = true) :
    PS X (.Assign [.Name y py] (.ListComp elt' gens scope p) sp) (liftS X.K L (wpS c EX (.set i (.comp cl elt t it cs own)))) := by
  obtain ⟨q1, q2⟩ := g.store hs
  have ie := (sE _ _ X L k x EX c g h).pe
  have sw := swap_comp (p := py) (l := sp.line) (y := y) (e := .Name y py) g.sc g.kind elt' gens scope p
  match gens, h, ie, sw with
  | [⟨tg, iter, ifs, as⟩], h, ie, sw =>
    simp only [okE, Bool.and_eq_true, decide_eq_true_eq] at h
    obtain ⟨⟨⟨⟨⟨⟨h0, h1⟩, h2⟩, h3⟩, h4⟩, h5⟩, h6⟩ := h
    subst h0
    cases hb0 : (decide (x.sc.names.lookup y = some .local) && (py.line == p.line) && !(scope.names.any fun q => q.1 == y && (q.2 == .local || q.2 == .cell))) with
    | false =>
      rw [hb0] at sw
      exact ds_set g.nd (g.nm hi) q1 ie sw q2
    | true =>
      rw [hb0] at sw
      have hyl : X.env.scope.names.lookup y = some .local := by
        rw [g.sc]
        simp only [Bool.and_eq_true, decide_eq_true_eq] at hb0
        exact hb0.1.1
      have hb : BlkOk X.N X.env.scope scope (own.map fun i => (x.N.getD i "", i)) := by
        rw [g.N, g.sc]
        exact blkOk_by h5
      have ho : (own.map fun i => (x.N.getD i "", i)).map (·.2) = own := by
        rw [List.map_map]
        exact List.map_id' own
      have hv : ∀ i ∈ t.slots, i ∈ (own.map fun i => (x.N.getD i "", i)).map (·.2) := by
        rw [ho]
        intro i hi
        exact of_decide_eq_true (List.all_eq_true.mp h6 i hi)
      have gb := fun s H C cl fp => g.blk hb.kind s H C cl fp
      have i1 := sI it tg iter X L k x EX c g h1
      have hg := fun s H C cl fp => tg_ok (gb s H C cl fp) h2
      have ht := fun s H C cl fp => sC cs ifs _ k (x.blk scope) c (gb s H C cl fp) h3
      have he := fun s H C cl fp => (sE elt elt' _ LT k (x.blk scope) EX0 c (gb s H C cl fp) h4).pe
      cases cl with
      | true =>
        have q := ds_setLcC (pos := p) g.calm g.nd (g.nm hi) hyl sw i1.1 hb hv hg ht he (fold_plain i1.2)
        rw [ho] at q
        exact q
      | false =>
        have q := ds_setLc (pos := p) g.calm g.nd (g.nm hi) hyl sw i1.1 hb hv hg ht he (fold_plain i1.2)
        rw [ho] at q
        exact q
  | [], h, _, _ => simp [okE] at h
  | _ :: _ :: _, h, _, _ => simp [okE] at h
theorem nodup_ne {N : List Str} {i j : Nat} {a b : Str} (nd : N.Nodup) (hi : N[i]? = some a) (hj : N[j]? = some b) (h : i ≠ j) : a ≠ b := by
  intro e
  subst e
  obtain ⟨h1, h2⟩ := List.getElem?_eq_some_iff.mp hi
  obtain ⟨h3, h4⟩ := List.getElem?_eq_some_iff.mp hj
  have pw := List.pairwise_iff_getElem.mp nd
  rcases Nat.lt_or_gt_of_ne h with q | q
  · exact pw i j h1 h3 q (h2.trans h4.symm)
  · exact pw j i h3 h1 q (h4.trans h2.symm)
mutual
theorem sS : ∀ (m : T) (st : Stmt) (X : Cx) (L : Lk) (k : CS) (x : Ctx) (EX : DXE) (c : Cf), GoodS X L k x EX c → okS k x m st = true → PS X st (liftS X.K L (wpS c EX m))
  | .set i a, st, X, L, k, x, EX, c, g, h => by
    cases st with
    | Assign ts e p =>
      match ts, h with
      | [.Name y py], h =>
        simp only [okS, Bool.and_eq_true, decide_eq_true_eq] at h
        obtain ⟨⟨⟨h0, h1⟩, h2⟩, h3⟩ := h
        obtain ⟨q1, q2⟩ := g.store h1
        cases hc : isComp e with
        | false => exact ds_set g.nd (g.nm h0) q1 (sE a e X L k x EX c g.toGood h2).pe (swaps_no hc) q2
        | true =>
          rw [hc] at h3
          cases a with
          | comp cl elt t it cs own =>
            cases e with
            | ListComp e1 gs scope pos => exact set_comp g.toGood h2 h0 h1
            | _ => simp [okE] at h2
          | _ => simp at h3
      | [], h => simp [okS] at h
      | _ :: _ :: _, h => simp [okS] at h
      | [.BoolOp ..], h => simp [okS] at h
      | [.NamedExpr ..], h => simp [okS] at h
      | [.BinOp ..], h => simp [okS] at h
      | [.UnaryOp ..], h => simp [okS] at h
      | [.Lambda ..], h => simp [okS] at h
      | [.IfExp ..], h => simp [okS] at h
      | [.Dict ..], h => simp [okS] at h
      | [.Set ..], h => simp [okS] at h
      | [.ListComp ..], h => simp [okS] at h
      | [.SetComp ..], h => simp [okS] at h
      | [.DictComp ..], h => simp [okS] at h
      | [.GeneratorExp ..], h => simp [okS] at h
      | [.Await ..], h => simp [okS] at h
      | [.Yield ..], h => simp [okS] at h
      | [.YieldFrom ..], h => simp [okS] at h
      | [.Compare ..], h => simp [okS] at h
      | [.Call ..], h => simp [okS] at h
      | [.FormattedValue ..], h => simp [okS] at h
      | [.JoinedStr ..], h => simp [okS] at h
      | [.Constant ..], h => simp [okS] at h
      | [.Attribute ..], h => simp [okS] at h
      | [.Subscript ..], h => simp [okS] at h
      | [.Starred ..], h => simp [okS] at h
      | [.List ..], h => simp [okS] at h
      | [.Tuple ..], h => simp [okS] at h
      | [.Slice ..], h => simp [okS] at h
    | _ => cases h
  | .asg t a, st, X, L, k, x, EX, c, g, h => by
    cases st with
    | Assign ts e p =>
      match ts, h with
      | [.Tuple ts kk p2], h =>
        simp only [okS, Bool.and_eq_true] at h
        obtain ⟨⟨h0, h1⟩, h2⟩ := h
        have ie := (sE a e X L k x EX c g.toGood h1).pe
        have ig := tg_ok (L := L) g.toGood h0
        refine ds_asg ie ig ?_ ?_ rfl
        · show swapsWith e (some (.Tuple ts kk p2)) p.line X.env = pure false
          refine swaps_no ?_
          cases e <;> first | rfl | cases h2
        · cases e with
          | Tuple vs k2 p3 =>
            refine swapped_cells ?_
            rw [g.sc]
            simpa using h2
          | _ => exact swapped_none rfl
      | [], h => simp [okS] at h
      | _ :: _ :: _, h => simp [okS] at h
      | [.BoolOp ..], h => simp [okS] at h
      | [.NamedExpr ..], h => simp [okS] at h
      | [.BinOp ..], h => simp [okS] at h
      | [.UnaryOp ..], h => simp [okS] at h
      | [.Lambda ..], h => simp [okS] at h
      | [.IfExp ..], h => simp [okS] at h
      | [.Dict ..], h => simp [okS] at h
      | [.Set ..], h => simp [okS] at h
      | [.ListComp ..], h => simp [okS] at h
      | [.SetComp ..], h => simp [okS] at h
      | [.DictComp ..], h => simp [okS] at h
      | [.GeneratorExp ..], h => simp [okS] at h
      | [.Await ..], h => simp [okS] at h
      | [.Yield ..], h => simp [okS] at h
      | [.YieldFrom ..], h => simp [okS] at h
      | [.Compare ..], h => simp [okS] at h
      | [.Call ..], h => simp [okS] at h
      | [.FormattedValue ..], h => simp [okS] at h
      | [.JoinedStr ..], h => simp [okS] at h
      | [.Constant ..], h => simp [okS] at h
      | [.Attribute ..], h => simp [okS] at h
      | [.Subscript ..], h => simp [okS] at h
      | [.Starred ..], h => simp [okS] at h
      | [.Name ..], h => simp [okS] at h
      | [.List ..], h => simp [okS] at h
      | [.Slice ..], h => simp [okS] at h
    | _ => cases h
  | .par i j a b, st, X, L, k, x, EX, c, g, h => by
    cases st with
    | Assign ts e p =>
      unfold okS at h
      split at h
      · rename_i y1 p1 y2 p2 kk pp e1 e2 k2 pp2 ps heq
        cases heq
        simp only [Bool.and_eq_true, decide_eq_true_eq, Bool.not_eq_true'] at h
        obtain ⟨⟨⟨⟨⟨⟨⟨⟨⟨⟨⟨a0, a1⟩, a2⟩, a3⟩, a4⟩, a5⟩, a6⟩, a7⟩, a8⟩, a9⟩, a10⟩, a11⟩ := h
        have ia := (sE a e1 X L k x EX c g.toGood a5).pe
        have ib := (sE b e2 X L k x EX c g.toGood a6).pe
        have hx : X.env.scope.names.lookup y1 = some .local := by rw [g.sc]; exact a3
        have hy : X.env.scope.names.lookup y2 = some .local := by rw [g.sc]; exact a4
        have nx := g.nm a0
        have ny := g.nm a1
        have pa : PA X [e1, e2] (liftA X.K L (dCons (wp c EX a).1 (dCons (wp c EX b).1 dNil))) := da_cons ia (da_cons ib da_nil (star_plain a8)) (star_plain a7)
        exact ds_par g.calm g.nd nx ny a2 hx hy pa (ps_par g.calm g.nd nx ny a2 hx hy pa (swapped_two g.kind hx hy (nodup_ne g.nd nx ny a2) a9 a7 a8 a10 a11) rfl)
      · cases h
    | _ => cases h
  | .sub r i a, st, X, L, k, x, EX, c, g, h => by
    cases st with
    | Assign ts e p =>
      match ts, h with
      | [.Subscript r' i' p2], h =>
        simp only [okS, Bool.and_eq_true, Bool.not_eq_true'] at h
        obtain ⟨⟨⟨⟨h0, h1⟩, h2⟩, h3⟩, h4⟩ := h
        refine ds_asg (sE a e X L k x EX c g.toGood h2).pe (dg_sub (sE r r' X L k x EX c g.toGood h0).pe (sE i i' X L k x EX c g.toGood h1).pe (pset_list (Nat.lt_of_le_of_lt (by omega) g.hu)) (assign_sub h3)) ?_ ?_ rfl
        · show swapsWith e (some (.Subscript r' i' p2)) p.line X.env = pure false
          exact swaps_no h4
        · unfold swappedStores
          rfl
      | [], h => simp [okS] at h
      | _ :: _ :: _, h => simp [okS] at h
      | [.BoolOp ..], h => simp [okS] at h
      | [.NamedExpr ..], h => simp [okS] at h
      | [.BinOp ..], h => simp [okS] at h
      | [.UnaryOp ..], h => simp [okS] at h
      | [.Lambda ..], h => simp [okS] at h
      | [.IfExp ..], h => simp [okS] at h
      | [.Dict ..], h => simp [okS] at h
      | [.Set ..], h => simp [okS] at h
      | [.ListComp ..], h => simp [okS] at h
      | [.SetComp ..], h => simp [okS] at h
      | [.DictComp ..], h => simp [okS] at h
      | [.GeneratorExp ..], h => simp [okS] at h
      | [.Await ..], h => simp [okS] at h
      | [.Yield ..], h => simp [okS] at h
      | [.YieldFrom ..], h => simp [okS] at h
      | [.Compare ..], h => simp [okS] at h
      | [.Call ..], h => simp [okS] at h
      | [.FormattedValue ..], h => simp [okS] at h
      | [.JoinedStr ..], h => simp [okS] at h
      | [.Constant ..], h => simp [okS] at h
      | [.Attribute ..], h => simp [okS] at h
      | [.Starred ..], h => simp [okS] at h
      | [.Name ..], h => simp [okS] at h
      | [.List ..], h => simp [okS] at h
      | [.Tuple ..], h => simp [okS] at h
      | [.Slice ..], h => simp [okS] at h
    | _ => cases h
  | .ex a, st, X, L, k, x, EX, c, g, h => by
    cases st with
    | Expr e p =>
      simp only [okS, Bool.and_eq_true, Bool.not_eq_true'] at h
      exact ds_expr (sE a e X L k x EX c g.toGood h.1).pe (swaps_no h.2)
    | _ => cases h
  | .ret a, st, X, L, k, x, EX, c, g, h => by
    cases st with
    | Return v p =>
      cases v with
      | some e => exact ds_ret (sE a e X L k x EX c g.toGood h).pe
      | none => cases h
    | _ => cases h
  | .retN, st, X, L, k, x, EX, c, g, h => by
    cases st with
    | Return v p =>
      cases v with
      | some e => cases h
      | none => exact ds_retN
    | _ => cases h
  | .ife d p q, st, X, L, k, x, EX, c, g, h => by
    cases st with
    | If d' p' q' ps =>
      simp only [okS, Bool.and_eq_true] at h
      exact ds_if (sE d d' X L k x EX c g.toGood h.1.1).pt (sSs p p' X L k x EX c g h.1.2) (sSs q q' X L k x EX c g h.2)
    | _ => cases h
  | .whl d p, st, X, L, k, x, EX, c, g, h => by
    cases st with
    | While d' p' q' ps =>
      cases q' with
      | cons _ _ => simp [okS] at h
      | nil =>
        simp only [okS, Bool.and_eq_true] at h
        exact ds_while g.own (sE d d' X L k x EX c g.toGood h.1).pt (sSs p p' X L k x EX c g h.2)
    | _ => cases h
  | .for_ t it p q, st, X, L, k, x, EX, c, g, h => by
    cases st with
    | For tg iter p' q' ps =>
      simp only [okS, Bool.and_eq_true] at h
      obtain ⟨⟨⟨h0, h1⟩, h2⟩, h3⟩ := h
      have i1 := sI it tg iter X L k x EX c g.toGood h1
      exact ds_for g.own g.calm i1.1 (tg_ok g.toGood h0) (sSs p p' X L k x EX c g h2) (sSs q q' X L k x EX c g h3) (fold_plain i1.2)
    | _ => cases h
  | .brk, st, X, L, k, x, EX, c, g, h => by
    cases st with
    | Break p => exact ds_break
    | _ => cases h
  | .cont, st, X, L, k, x, EX, c, g, h => by
    cases st with
    | Continue p => exact ds_continue
    | _ => cases h
  | .pass, st, X, L, k, x, EX, c, g, h => by
    cases st with
    | Pass p => exact ds_pass
    | _ => cases h
theorem sSs : ∀ (m : Ts) (st : List Stmt) (X : Cx) (L : Lk) (k : CS) (x : Ctx) (EX : DXE) (c : Cf), GoodS X L k x EX c → okSs k x m st = true → PSs X st (liftS X.K L (wpSs c EX m))
  | .nil, st, X, L, k, x, EX, c, g, h => by
    cases st with
    | nil => exact ds_nil
    | cons _ _ => cases h
  | .cons t r, st, X, L, k, x, EX, c, g, h => by
    cases st with
    | nil => cases h
    | cons t' r' =>
      simp only [okSs, Bool.and_eq_true] at h
      exact ds_cons (sS t t' X L k x EX c g h.1) (sSs r r' X L k x EX c g h.2)
end
/-! ### a def by its body -/
/-- the forms of calls that a def's body may use -/
def Forms (P : Program) (w : World) (K : PySem.W.Frag) (mg : Str → Option Value) (base : Heap) (lv : Nat) (k : CS) (c : Cf) : Prop := ∀ j, j < k.n → ∃ (f : Addr) (fd : FuncData) (ps : List Str) (ds : List Value) (dvs : List V), GFn P w K mg base lv f fd ps (spOf K (c.sp j)) ∧ mg (k.fx j) = some (.ref f) ∧
  PySem.W.keepIn K (.ref f) = true ∧ (∀ W H, Reps K W H dvs (c.dd j)) ∧ (k.ks j = [] → Binds K fd ps ds ∧ Vals dvs ds) ∧ (k.ks j ≠ [] → ∃ g, KBn K fd ps (c.np j) (k.ks j) g (GV (c.perm j) dvs) ∧ (k.ks j).length = c.nk j)
def nvOf (N : List Str) (as : List D) : Nv := as.map some ++ List.replicate (N.length - as.length) none
theorem rel_start {K : PySem.W.Frag} {W : Wd} {H : Hp} {N : List Str} {vs : List V} {as : List D} (r : Reps K W H vs as) : RelE K W H (nvOf N as) (L2.start N vs) := by
  have hl := r.length
  refine ⟨by simp [nvOf, L2.start, hl], fun i d e => ?_⟩
  unfold nvOf at e
  unfold L2.start
  by_cases hi : i < as.length
  · rw [List.getElem?_append_left (by simpa using hi), List.getElem?_map] at e
    cases q : as[i]? with
    | none => rw [q] at e; cases e
    | some z =>
      rw [q] at e
      cases e
      obtain ⟨v, h1, h2⟩ := r.get q
      exact ⟨v, by rw [List.getElem?_append_left (by simpa [hl] using hi), List.getElem?_map, h1]; rfl, h2⟩
  · rw [List.getElem?_append_right (by simpa using hi), List.getElem?_replicate] at e
    split at e <;> cases e
theorem def_ok {P : Program} {w : World} {K : PySem.W.Frag} {mg : Str → Option Value} {base : Heap} {lv : Nat} {f : Addr} {fd : FuncData} {qn qual : Str} {params : Arguments} {body : List Stmt} {sc : Scope} {dvs : List V} {kws : List (Str × V)} {N ps : List Str} {k : CS} {c : Cf} {m : Ts} {sp : DSp}
    (F : FunD K qn qual params body sc dvs kws f fd) (hsc : FnScope N ps sc) (hch : okSs k ⟨N, sc, fun _ => true⟩ m body = true) (hbl : ∀ y ∈ bltNames, mg y = none) (hcf : Forms P w K mg base lv k c)
    (hlen : ∀ as s Q Ex, sp as s Q Ex → as.length = ps.length)
    (hsp : ∀ as s Q Ex, sp as s Q Ex → wpSs c (fun _ => Ex) m { nx := fun _ s' => Q .non s', rt := Q } (nvOf N as) s) : GFn P w K mg base (lv + 1) f fd ps (spOf K sp) := by
  refine gfn_of F hsc (fun vs H Q E h => ?_) (fun cdv A out s H vs Q E hr hg h => ?_)
  · obtain ⟨W, s, as, Qd, Ed, R, rs, hs, _, _⟩ := h
    rw [rs.length]
    exact hlen _ _ _ _ hs
  · obtain ⟨W, sd, as, Qd, Ed, R, rs, hs, kq, ke⟩ := h
    let L : Lk := ⟨fun W' H' => Ext W H W' H', fun h x => h.trans x⟩
    have hu := hr.un
    have g : GoodS (cxG P w K mg base N qual sc f cdv A out s H E) L k ⟨N, sc, fun _ => true⟩ (fun _ => Ed) c :=
      { N := rfl, nd := hsc.nd, sc := rfl, fn := fun _ _ => rfl, kind := hsc.kind, calm := rfl, hu := (by
          show (A.deeper _).units + 70 < cLine
          omega), hg := hg, tk := (by
          refine ⟨fun cls d _ H' => E cls d H', takes_of rfl rfl rfl rfl, ?_⟩
          rintro cl dd σ H' ⟨W', e, s', fl, st, hE, rx⟩
          exact ke _ _ _ _ _ _ hE st.ext st.rel rx), bl := hbl, cf := (fun j hj => by
          obtain ⟨f, fd, ps, ds, dvs, G, h1, h2, h3, h4, h5⟩ := hcf j hj
          exact ⟨lv, f, fd, ps, ds, dvs, G, hr, h1, h2, h3, h4, h5⟩), own := passes_of rfl }
    refine ⟨_, sSs m body _ L k _ _ c g hch, L, W, nvOf N as, sd, _, Lk.le.refl L, ⟨Ext.refl W H, rel_start rs, R⟩, hsp _ _ _ _ hs, ⟨fun W' e s' σ H' st q => kq _ _ _ _ _ q st.ext st.rel .non, fun W' s' d v H' x R' r q => kq _ _ _ _ _ q x R' r, fun _ _ _ _ _ _ q => q.elim, fun _ _ _ _ _ _ q => q.elim⟩⟩
end Y


/-! Y13: the end of a law: from the law's promise on data. -/
namespace Y
open PySem PySem.Spec PyProof.Rows L2
/-- what the law's def promises: True, and nothing raised -/
def LawSp (sp : DSp) : Prop := ∀ (ns : List Int) (s : S), ns.length ≤ 63 → (∀ z ∈ ns, Builtin.Int.intBits z ≤ 1048576) → (∀ n, s n = none) → sp [.xl (ns.map .int)] s (fun d _ => d = .bl true) fun _ _ _ => False
theorem reps_ints {K : PySem.W.Frag} {W : Wd} {H : Hp} : ∀ ns : List Int, Reps K W H (ns.map V.int) (ns.map D.int)
  | [] => .nil
  | n :: r => .cons (.int n) (reps_ints r)
theorem sp_start {K : PySem.W.Frag} {sp : DSp} {H : Hp} {a : Addr} {ns : List Int} (h : LawSp sp) (h1 : ns.length ≤ 63) (h2 : ∀ z ∈ ns, Builtin.Int.intBits z ≤ 1048576) (hS : SqL K H a (ns.map V.int)) :
    spOf K sp [.ref a] H (fun v _ => v = .bl true) fun _ _ _ => False := by
  refine ⟨⟨fun b => ∃ o, H b = some o, fun _ => False, fun _ => none, 0⟩, fun _ => none, [.xl (ns.map .int)], fun d _ => d = .bl true, fun _ _ _ => False, ⟨fun n o e => (nomatch e), fun n m b e => (nomatch e), fun n b e => (nomatch e), fun b e => e, fun b e => False.elim e⟩, .cons (.xl ?_ (reps_ints ns)) .nil, h ns _ h1 h2 fun _ => rfl, fun d s' W' v H' e _ _ r => ?_, fun c fl s' W' dd H' q => False.elim q⟩
  · rcases hS with q | q
    · refine .inl ⟨?_, ?_⟩
      · rcases q with q | ⟨o, q⟩
        · exact ⟨_, q⟩
        · exact ⟨_, q⟩
      · rcases q with q | ⟨o, q⟩
        · exact .inl q
        · exact .inr ⟨o, q⟩
    · exact .inr (.inr q)
  · subst e
    cases r
    rfl
section
variable {P : Program} {w : World} {K : PySem.W.Frag} {mg mb : Str → Option Value} {lv : Nat} {fa a : Addr} {fd : FuncData} {x : Str} {sp : DSp} {t : Shared} {us : List Value} {ns : List Int}
/-- the script as it lies: one of the module's objects, or held -/
noncomputable def scH (K : PySem.W.Frag) (a : Addr) (us : List Value) (ns : List Int) : Hp := fun b => if b = a ∧ K.lookup a = none then some (.frz { cls := .type "list", data := .seq us.toArray } (.lst (ns.map V.int))) else none
theorem scH_cases (b : Addr) : scH K a us ns b = none ∨ (b = a ∧ K.lookup a = none ∧ scH K a us ns b = some (.frz { cls := .type "list", data := .seq us.toArray } (.lst (ns.map V.int)))) := by
  by_cases h : b = a ∧ K.lookup a = none
  · exact .inr ⟨h.1, h.2, if_pos h⟩
  · exact .inl (if_neg h)
theorem end_call (kin : K.In t.heap) (ng : t.heap.Ns mainGlobals mg) (nb : t.heap.Ns builtinsNs mb) (bb : ∀ y : Str, y ≠ "__name__" → mb y = bootBuiltins y) (nl : t.heap.NoLimit) (g0 : t.gens = #[])
    (ga : t.heap.get? a = some { cls := .type "list", data := .seq us.toArray }) (ia : IntsAre us ns) (l1 : ns.length ≤ 63) (l2 : ∀ z ∈ ns, Builtin.Int.intBits z ≤ 1048576) (rm : Room lv callerA)
    (G : ∀ base : Heap, K.In base → base.Ns mainGlobals mg → GFn P w K mg base lv fa fd [x] (spOf K sp)) (bd : ∀ (s : Shared) (u : Value), BindsTo s fd ⟨[u], []⟩ [(x, u)]) (law : LawSp sp) :
    codeAny (model P w) callerA (.call (.ref fa) ⟨[.ref a], []⟩) (fun r s' => r = .ok (.ret (.bool true)) ∧ OldK t.heap s'.heap ∧ s'.os = t.os ∧ AllBare s'.gens) t := by
  have vi := vals_ints ia
  have z64 : ns.length ≤ sizeLine := Nat.le_trans l1 (by decide)
  generalize eH : scH K a us ns = H
  have hc : ∀ b, H b = none ∨ (b = a ∧ K.lookup a = none ∧ H b = some (.frz { cls := .type "list", data := .seq us.toArray } (.lst (ns.map V.int)))) := fun b => by subst eH; exact scH_cases b
  have nodict : ∀ {b : Addr} {o : Obj} {es : Array DictEntry} {n : Nat}, t.heap.get? b = some o → o.data = .dict es n → H b = none := fun {b o es n} e d => by
    rcases hc b with q | ⟨rfl, _, _⟩
    · exact q
    · rw [ga] at e
      cases e
      exact nomatch d
  have ns_h : ∀ {b : Addr} {m : Str → Option Value}, t.heap.Ns b m → (hidT t.heap H).Ns b m := fun {b m} ⟨o, es, n, e, d, r⟩ => ⟨o, es, n, hidT_get e (nodict e d), d, r⟩
  have kb : K.In (hidT t.heap H) := fun b o e => hidT_get (kin b o e) (by
    rcases hc b with q | ⟨rfl, q, _⟩
    · exact q
    · rw [q] at e; cases e)
  have hok : HOk P w H t.heap := fun b u e => by
    rcases hc b with q | ⟨rfl, _, q⟩
    · rw [q] at e; cases e
    · rw [q] at e
      cases e
      exact ⟨ga, by rw [List.length_map]; exact z64, us, 0, vi, ga⟩
  have e0 : Env0 P w K mg (hidT t.heap H) callerA [] t H :=
    { frames := rfl, mod := ⟨kb, ns_h ng, ⟨mb, ns_h nb, bb⟩, (by obtain ⟨m, p, q⟩ := nl; exact ⟨m, ns_h p, q⟩)⟩, bs := fun _ _ e => of_hidT e, bsz := Nat.le_of_eq (hidT_size _ _), funs := trivial, frf := fun b h => absurd (show b ∈ ([] : List Addr) from h) (by simp), hok := hok, bare := .of_eq g0 }
  have hS : SqL K H a (ns.map V.int) := by
    cases q : K.lookup a with
    | none =>
      subst eH
      exact .inl (.inr ⟨_, if_pos ⟨rfl, q⟩⟩)
    | some o =>
      have e := kin a o q
      rw [ga] at e
      cases e
      exact .inr ⟨_, us.toArray, _, q, rfl, rfl, rfl, by rw [List.size_toArray, ia.length]; exact z64, vi⟩
  refine codeAny_mono ((G _ kb (ns_h ng)).run callerA [] t H ⟨[.ref a], []⟩ [.ref a] [.ref a] _ _ rm rfl e0 (bd t (.ref a)) (.cons rfl .nil) (sp_start law l1 l2 hS)) fun r s' h => ?_
  match r, h with
  | .error e, h =>
    obtain ⟨_, _, _, _, _, _, _, _, _, _, _, _, z⟩ := h
    exact z.elim
  | .ok (.ret u), ⟨v, H', os, bare, un, hok', rv, q⟩ =>
    subst q
    have eu : u = Value.bool true := rv
    subst eu
    refine ⟨rfl, OldK.of_keep fun b o e => ?_, os, bare⟩
    rcases hc b with q | ⟨_, _, q⟩
    · exact un.keep b o e q (fun z => absurd (show b ∈ ([] : List Addr) from z) (by simp)) (by simp)
    · have k1 := (hok b _ q).1
      rw [e] at k1
      cases k1
      exact (hok' b _ (un.frzs b _ _ q)).1
theorem walk_ofY {l : PySem.W.OpenLaw} {q : Program} {loose : List Str} {XP : (Str → Option Value) → Heap → Prop} {YP : World → Heap → Prop} {d : DefRec} (hn : l.most = some 63) (hdf : d.params.defaults = []) (rm : Room lv callerA) (law : LawSp sp)
    (F : ∀ (w : World) (mg : Str → Option Value) (fa : Addr) (h : Heap), YP w h → h.Ns mainGlobals mg → mg d.name = some (.ref fa) →
      ∃ (K : PySem.W.Frag) (fd : FuncData), K.In h ∧ (∀ (s : Shared) (u : Value), BindsTo s fd ⟨[u], []⟩ [(x, u)]) ∧ ∀ base : Heap, K.In base → base.Ns mainGlobals mg → GFn l.prog w K mg base lv fa fd [x] (spOf K sp)) :
    PySem.W.WalkO q loose XP YP l.row.toRowW d [] (fun f vs => PySem.call f vs) := by
  refine Att.attach_callB hn hdf fun w _ t mg mb fa _ _ _ _ a us ns G Y _ _ _ hmg hobj hints hlen hbits hg => ?_
  obtain ⟨K, fd, kin, bd, hF⟩ := F w mg fa _ Y G.T.g hmg
  exact end_call kin G.T.g G.T.b G.T.builtins G.T.nolimit hg hobj hints hlen hbits rm hF bd law
end
end Y


/-! Y14: what a caller wants of a def, the forms. -/
namespace Y
open PySem PySem.Spec PyProof.Rows L2
def CalOk (P : Program) (w : World) (K : PySem.W.Frag) (mg : Str → Option Value) (base : Heap) (lv : Nat) (st : Stmt) (x : Str) (ps : List Str) (sp : DSp) : Prop := ∃ (f : Addr) (fd : FuncData),
  FunD K x x (defArgs st) (defBody st) (defScope st) [] [] f fd ∧ GFn P w K mg base lv f fd ps (spOf K sp) ∧ mg x = some (.ref f) ∧ Binds K fd ps []
def FormAt (P : Program) (w : World) (K : PySem.W.Frag) (mg : Str → Option Value) (base : Heap) (lv : Nat) (k : CS) (c : Cf) (j : Nat) : Prop := ∃ (f : Addr) (fd : FuncData) (ps : List Str) (ds : List Value) (dvs : List V), GFn P w K mg base lv f fd ps (spOf K (c.sp j)) ∧ mg (k.fx j) = some (.ref f) ∧
  PySem.W.keepIn K (.ref f) = true ∧ (∀ W H, Reps K W H dvs (c.dd j)) ∧ (k.ks j = [] → Binds K fd ps ds ∧ Vals dvs ds) ∧ (k.ks j ≠ [] → ∃ g, KBn K fd ps (c.np j) (k.ks j) g (GV (c.perm j) dvs) ∧ (k.ks j).length = c.nk j)
def arrU (perm : List Nat) (xs : List Value) : List Value := perm.map fun j => xs.getD j .none
theorem Vals.arr {vs : List V} {us : List Value} (r : Vals vs us) : ∀ perm : List Nat, Vals (arrV perm vs) (arrU perm us)
  | [] => .nil
  | j :: perm => by
    refine .cons ?_ (Vals.arr r perm)
    show RelV (vs.getD j V.non) (us.getD j Value.none)
    rw [List.getD_eq_getElem?_getD, List.getD_eq_getElem?_getD]
    cases e : vs[j]? with
    | none =>
      have e2 : us[j]? = none := by
        rw [List.getElem?_eq_none_iff] at e ⊢
        rw [← r.length]; exact e
      rw [e2]; rfl
    | some d =>
      obtain ⟨v, h1, h2⟩ := r.get e
      rw [h1]; exact h2
section
variable {P : Program} {w : World} {K : PySem.W.Frag} {mg : Str → Option Value} {base : Heap} {lv lv' : Nat} {st : Stmt} {x : Str} {ps : List Str} {sp : DSp} {k : CS} {c : Cf} {j : Nat}
theorem form_pos (C : CalOk P w K mg base lv' st x ps sp) (hle : lv' ≤ lv) (h1 : k.fx j = x) (h2 : c.sp j = sp) (h3 : c.dd j = []) (h4 : k.ks j = []) : FormAt P w K mg base lv k c j := by
  obtain ⟨f, fd, F, G, hm, hb⟩ := C
  exact ⟨f, fd, ps, [], [], by rw [h2]; exact G.mono hle, by rw [h1]; exact hm, F.kp, fun _ _ => by rw [h3]; exact .nil, fun _ => ⟨hb, .nil⟩, fun h => absurd h4 h⟩
theorem form_kw (C : CalOk P w K mg base lv' st x ps sp) (hle : lv' ≤ lv) (h1 : k.fx j = x) (h2 : c.sp j = sp) (h3 : c.dd j = []) (h4 : k.ks j ≠ []) (n : Nat) (ks : List Str) (e1 : k.ks j = ks) (e2 : c.np j = n) (e3 : ks.length = c.nk j)
    (h : ∀ (kV doc pm : Value) (an : Option Addr) (cdv ct : Value) (us ws : List Value), us.length = n → ws.length = ks.length → bindArgs (PySem.W.fnOf x x (defArgs st) (defBody st) (defScope st) .none kV doc pm an cdv ct) ⟨us, ks.zip ws⟩ = pure (ps.zip (arrU (c.perm j) (us ++ ws)))) :
    FormAt P w K mg base lv k c j := by
  obtain ⟨f, fd, F, G, hm, hb⟩ := C
  refine ⟨f, fd, ps, [], [], by rw [h2]; exact G.mono hle, by rw [h1]; exact hm, F.kp, fun _ _ => by rw [h3]; exact .nil, fun z => absurd z h4, fun _ => ⟨fun us ws => arrU (c.perm j) (us ++ ws), ?_, by rw [e1]; exact e3⟩⟩
  rw [e1, e2]
  refine ⟨fun s us ws _ l1 l2 => ?_, fun r1 r2 => ?_⟩
  · obtain ⟨oc, od, dV, kV, doc, pm, an, cdv, ct, osl, rfl, lk, hcd, hD, hK⟩ := F.ex
    rcases hD with ⟨_, rfl⟩ | ⟨e, _⟩
    · exact .of_eq (h kV doc pm an cdv ct us ws l1 l2)
    · exact absurd rfl e
  · have z := Y.Vals.arr (r1.append r2) (c.perm j)
    unfold GV
    rw [List.append_nil]
    exact z
end
end Y


/-! Z1: stepping through readings; the bag that all laws draw from. -/
namespace Y
open PySem PySem.Spec PyProof.Rows L2
theorem dSeq_eq (t u : DTS) (D : DEnds) (e : Nv) (s : S) : dSeq t u D e s = t { D with nx := u D } e s := rfl
theorem ife_nil (u : DTT) (t : DTS) (D : DEnds) (e : Nv) (s : S) : dIfS u t dNext D e s = u e s fun b s1 => if b = true then t D e s1 else D.nx e s1 := rfl
local macro_rules | `(tactic| walk_at "ys") => `(tactic| simp only [wpSs, wpS, wp, wps, wpI, wpC, both, dSeq_eq, dNext, dAsg, gN, dVar, dC, dCall, dCons, dNil, dOp, dTest, cmpD, binD, BI.rd, BM.rd, Tg.rd, dIfS, dIfE, dRet, dExpr, gSubD, dTruE, dTru,
  List.set_cons_zero, List.set_cons_succ, List.getElem?_cons_zero, List.getElem?_cons_succ, dOrd, dAdd, dSub, dMul, dFdiv, dMod, dPow, dLen, dAbs, dMax, dMin, dLstC, dLst, dTup, ite_true, ite_false, if_true, if_false, Bool.false_eq_true])
def m_take : Ts := (.cons (.ife (.cmp .Gt (.ix (.var 0) (.int 0)) (.int 0)) (.cons (.set 3 (.bin .Mod (.ix (.var 0) (.int 0)) (.var 1))) (.cons (.sub (.var 0) (.int 0) (.bin .FloorDiv (.ix (.var 0) (.int 0)) (.var 1))) (.cons (.ret (.var 3)) .nil))) .nil) (.cons (.sub (.var 0) (.int 2) (.bin .Add (.ix (.var 0) (.int 2)) (.int 1))) (.cons (.set 2 (.bin .Mod (.bin .Pow (.bin .Add (.bin .Add (.ix (.var 0) (.int 1)) (.bin .Mult (.bin .Mult (.int 60493) (.ix (.var 0) (.int 2))) (.ix (.var 0) (.int 2)))) (.int 7)) (.int 3)) (.int 2305843009213693951))) (.cons (.ret (.bin .Mod (.bin .FloorDiv (.bin .Mod (.bin .Add (.bin .Mult (.var 2) (.int 52361)) (.bin .Mult (.int 99991) (.ix (.var 0) (.int 2)))) (.int 2305843009213693907)) (.int 8192)) (.var 1))) .nil))))
/-- a bag: what is left of a great number, a mix, the count of what was drawn -/
def bagO (g b c : Int) : O := .lst [.int g, .int b, .int c]
theorem mapD_none {s : S} {x : D} {xs : List D} (h : seqL s x = some xs) : mapD s x = none := by
  cases x with
  | cell n =>
    have e := lstOf_some h
    show dicOf (s n) = none
    rw [e]; rfl
  | dic kvs => cases h
  | _ => rfl
theorem ix_lst {s : S} {n : Nat} {xs : List D} {i : Int} {d : D} {Q : D → S → Prop} (h : s n = some (.lst xs)) (e : atI xs i = some d) (q : Q d s) : dIx (.cell n) (.int i) s Q := by
  have z : seqL s (.cell n) = some xs := by show lstOf (s n) = _; rw [h]; rfl
  unfold dIx
  simp only [mapD_none z, z, e]
  exact q
theorem ix_seq {s : S} {x : D} {xs : List D} {i : Int} {d : D} {Q : D → S → Prop} (h : seqL s x = some xs) (e : atI xs i = some d) (q : Q d s) : dIx x (.int i) s Q := by
  unfold dIx
  simp only [mapD_none h, h, e]
  exact q
theorem ix_nat {α : Type} {xs : List α} {i : Nat} {d : α} (h : xs[i]? = some d) : atI xs (i : Int) = some d := by
  have hl : i < xs.length := by
    rcases Nat.lt_or_ge i xs.length with q | q
    · exact q
    · rw [List.getElem?_eq_none q] at h; cases h
  unfold atI ixN
  rw [if_pos (by omega), if_pos (by omega)]
  exact h
theorem set_lst {s : S} {n : Nat} {xs : List D} {i : Int} {v : D} {j : Nat} {Q : S → Prop} (h : s n = some (.lst xs)) (e : ixN xs.length i = some j) (q : Q (s.set n (.lst (xs.set j v)))) : dSetL (.cell n) (.int i) v s Q := by
  unfold dSetL
  simp only [h, e]
  exact q
def sp_take : DSp := fun as s Q _ => ∃ (n : Nat) (g b c k : Int), as = [.cell n, .int k] ∧ s n = some (bagO g b c) ∧ (0 ≤ g ∧ 0 ≤ b ∧ b < 2305843009213693907 ∧ 0 ≤ c ∧ c < 1000000 ∧ 0 < k ∧ k < 1000000) ∧
  ∀ g' c' d : Int, 0 ≤ g' → c ≤ c' → c' ≤ c + 1 → 0 ≤ d → d < k → Q (.int d) (s.set n (bagO g' b c'))
theorem pure_take (cf : Cf) (as : List D) (s : S) (Q : D → S → Prop) (Ex : DX) (h : sp_take as s Q Ex) : wpSs cf (fun _ => Ex) m_take { nx := fun _ s' => Q .non s', rt := Q } (nvOf ["a", "b", "c", "d"] as) s := by
  obtain ⟨n, g, b, c, k, rfl, hs, ⟨g0, b0, b1, c0, c1, k0, k1⟩, q⟩ := h
  show wpSs cf (fun _ => Ex) m_take { nx := fun _ s' => Q .non s', rt := Q } [some (.cell n), some (.int k), none, none] s
  unfold m_take
  walk_at "ys"
  refine ix_lst hs rfl ?_
  walk_at "ys"
  have cd : ∀ j : Int, 0 < j → j < 1073741824 → CDiv 0 j := fun j h1 h2 => ⟨h1, h2⟩
  by_cases hg : 0 < g
  · rw [if_pos (by rw [decide_eq_true_eq]; exact hg)]
    refine ix_lst hs rfl ?_
    refine ⟨k0, ix_lst hs rfl ?_⟩
    refine ⟨⟨k0, by omega⟩, set_lst (xs := [.int g, .int b, .int c]) hs rfl ?_⟩
    exact q (g / k) c (g % k) (Int.ediv_nonneg (by omega) (by omega)) (by omega) (by omega) (Int.emod_nonneg _ (by omega)) (Int.emod_lt_of_pos _ k0)
  · rw [if_neg (by rw [decide_eq_true_eq]; exact hg)]
    have e : g = 0 := by omega
    subst e
    refine ix_lst hs rfl ?_
    refine set_lst (xs := [.int 0, .int b, .int c]) hs rfl ?_
    have h2 : (s.set n (.lst [.int 0, .int b, .int (c + 1)])) n = some (.lst [.int 0, .int b, .int (c + 1)]) := S.set_same
    refine ix_lst h2 rfl (ix_lst h2 rfl ?_)
    have cc : 0 ≤ (c + 1) * (c + 1) := Int.mul_nonneg (by omega) (by omega)
    have cc2 : (c + 1) * (c + 1) ≤ 1000000 * 1000000 := Int.mul_le_mul (by omega) (by omega) (by omega) (by omega)
    have ec : 60493 * (c + 1) * (c + 1) = 60493 * ((c + 1) * (c + 1)) := Int.mul_assoc ..
    refine ⟨.inl ⟨by decide, by decide⟩, ix_lst h2 rfl ⟨.inr ⟨by omega, by omega⟩, ?_⟩⟩
    refine ⟨⟨by decide, by decide, by omega⟩, by decide, .inr ⟨by decide, by decide⟩, ix_lst h2 rfl ⟨.inl ⟨by decide, by decide⟩, by decide, ⟨by decide, by decide⟩, k0, ?_⟩⟩
    exact q 0 (c + 1) _ (by omega) (by omega) (by omega) (Int.emod_nonneg _ (by omega)) (Int.emod_lt_of_pos _ k0)
def m_bag : Ts := (.cons (.set 2 (.ife (.cmp .Lt (.var 1) (.bi .len (.cons (.var 0) .nil))) (.ix (.var 0) (.var 1)) (.int 0))) (.cons (.set 3 (.ife (.cmp .GtE (.bi .abs (.cons (.var 2) .nil)) (.bin .Pow (.int 10) (.int 18))) (.bi .abs (.cons (.var 2) .nil)) (.int 0))) (.cons (.ret (.lst true (.cons (.var 3) (.cons (.bin .Mod (.bin .Add (.bin .Add (.bin .Mult (.bin .Mod (.var 2) (.int 2305843009213693951)) (.int 90917)) (.bin .Mult (.int 31337) (.var 1))) (.int 271)) (.int 2305843009213693907)) (.cons (.int 0) .nil))))) .nil)))
def sp_bag : DSp := fun as s Q _ => ∃ (ns : List Int) (at_ : Nat), as = [.xl (ns.map .int), .int at_] ∧ at_ < 64 ∧ ∀ (n : Nat) (g b : Int), s n = none → 0 ≤ g → 0 ≤ b → b < 2305843009213693907 → Q (.cell n) (s.set n (bagO g b 0))
theorem pure_bag (cf : Cf) (as : List D) (s : S) (Q : D → S → Prop) (Ex : DX) (h : sp_bag as s Q Ex) : wpSs cf (fun _ => Ex) m_bag { nx := fun _ s' => Q .non s', rt := Q } (nvOf ["a", "b", "c", "d"] as) s := by
  obtain ⟨ns, a, rfl, ha, q⟩ := h
  show wpSs cf (fun _ => Ex) m_bag { nx := fun _ s' => Q .non s', rt := Q } [some (.xl (ns.map .int)), some (.int a), none, none] s
  have fin : ∀ z : Int, wpSs cf (fun _ => Ex) (.cons (.set 3 (.ife (.cmp .GtE (.bi .abs (.cons (.var 2) .nil)) (.bin .Pow (.int 10) (.int 18))) (.bi .abs (.cons (.var 2) .nil)) (.int 0))) (.cons (.ret (.lst true (.cons (.var 3) (.cons (.bin .Mod (.bin .Add (.bin .Add (.bin .Mult (.bin .Mod (.var 2) (.int 2305843009213693951)) (.int 90917)) (.bin .Mult (.int 31337) (.var 1))) (.int 271)) (.int 2305843009213693907)) (.cons (.int 0) .nil))))) .nil))
      { nx := fun _ s' => Q .non s', rt := Q } [some (.xl (ns.map .int)), some (.int a), some (.int z), none] s := by
    intro z
    walk_at "ys"
    have fin2 : ∀ g : Int, 0 ≤ g → (0 : Int) < 2305843009213693951 ∧ CMul (z % 2305843009213693951) 90917 ∧ CMul 31337 (a : Int) ∧ (0 : Int) < 2305843009213693907 ∧ ([D.int g, D.int ((z % 2305843009213693951 * 90917 + 31337 * (a : Int) + 271) % 2305843009213693907), D.int 0].length ≤ sizeLine ∧ ∀ n, s n = none → Q (.cell n) (s.set n (.lst [D.int g, D.int ((z % 2305843009213693951 * 90917 + 31337 * (a : Int) + 271) % 2305843009213693907), D.int 0]))) := fun g hg =>
      ⟨by decide, .inr ⟨by decide, by decide⟩, .inl ⟨by decide, by decide⟩, by decide, by show 3 ≤ sizeLine; decide, fun n hn => q n g _ hn hg (Int.emod_nonneg _ (by decide)) (Int.emod_lt_of_pos _ (by decide))⟩
    refine ⟨⟨by decide, by decide, by decide⟩, ?_⟩
    have hz : 0 ≤ if z < 0 then -z else z := by
      split <;> omega
    revert hz
    generalize (if z < 0 then -z else z) = y
    intro hz
    split
    · exact fin2 y hz
    · exact fin2 0 (Int.le_refl _)
  unfold m_bag
  refine (show ∀ t : Ts, (∀ z : Int, wpSs cf (fun _ => Ex) t { nx := fun _ s' => Q .non s', rt := Q } [some (.xl (ns.map .int)), some (.int a), some (.int z), none] s) → wpSs cf (fun _ => Ex) (.cons _ t) { nx := fun _ s' => Q .non s', rt := Q } [some (.xl (ns.map .int)), some (.int a), none, none] s from fun t ht => ?_) _ fin
  generalize ht2 : wpSs cf (fun _ => Ex) t = f at ht
  unfold wpSs
  rw [ht2]
  walk_at "ys"
  simp only [seqQ, seqL, List.length_map]
  split
  · rename_i hl
    rw [decide_eq_true_eq] at hl
    have hl' : a < ns.length := by omega
    exact ix_seq (xs := ns.map .int) rfl (ix_nat (by rw [List.getElem?_map, List.getElem?_eq_getElem hl']; rfl)) (ht _)
  · exact ht 0
end Y


/-! Z2: loops over data, texts, what repr needs. -/
namespace Y
open PySem PySem.Spec PyProof.Rows L2
/-! ### loops -/
theorem go_inv {ok : S → Prop} {g : DTG} {tb el : DTS} {Dd : DEnds} (I : Nat → Nv → S → Prop) : ∀ (xs : List D) (k : Nat) (e : Nv) (s : S), I k e s →
    (∀ i x e s (N M : Nv → S → Prop), xs[i]? = some x → I (k + i) e s → (∀ e s, I (k + i + 1) e s → N e s) → (∀ e s, Dd.nx e s → M e s) → ok s ∧ g x e s fun e1 s1 => tb { Dd with nx := N, ct := N, bk := M } e1 s1) →
    (∀ e s, I (k + xs.length) e s → ok s ∧ el Dd e s) → dGo ok g tb el Dd xs e s
  | [], k, e, s, h, _, f => f e s h
  | x :: xs, k, e, s, h, st, f => by
    refine st 0 x e s _ _ rfl h (fun e' s' h' => ?_) fun _ _ z => z
    refine go_inv I xs (k + 1) e' s' h' (fun i y e s N M q hi hN hM => st (i + 1) y e s N M q (by rw [show k + (i + 1) = k + 1 + i by omega]; exact hi) (by rw [show k + (i + 1) + 1 = k + 1 + i + 1 by omega]; exact hN) hM) fun e s q => f e s (by
      rw [List.length_cons, show k + (xs.length + 1) = k + 1 + xs.length by omega]; exact q)
theorem lc_typed {α β : Type} {ok : S → Prop} {g : DTG} {tt : DTT} {te : DTE} {e0 : Nv} {s : S} (hok : ok s) (emb : α → D) (emb' : β → D) (p : α → Bool) (h : α → β) : ∀ (ys : List α) (Q : List D → S → Prop),
    (∀ y ∈ ys, ∀ (K1 : D → S → Prop) (K2 : S → Prop), (p y = true → K1 (emb' (h y)) s) → (p y = false → K2 s) → g (emb y) e0 s fun e1 s1 => tt e1 s1 fun b s2 => if b = true then te e1 s2 K1 else K2 s2) →
    Q (((ys.filter p).map h).map emb') s → dLc ok g tt te e0 (ys.map emb) s Q
  | [], Q, _, q => ⟨hok, q⟩
  | y :: ys, Q, st, q => by
    refine ⟨hok, st y (by simp) _ _ (fun hp => ?_) (fun hp => ?_)⟩
    · refine lc_typed hok emb emb' p h ys _ (fun z hz => st z (by simp [hz])) ?_
      simpa [List.filter_cons, hp] using q
    · refine lc_typed hok emb emb' p h ys _ (fun z hz => st z (by simp [hz])) ?_
      simpa [List.filter_cons, hp] using q
/-- where the store is written meanwhile: an invariant of what was gathered -/
theorem lc_inv {ok : S → Prop} {g : DTG} {tt : DTT} {te : DTE} {e0 : Nv} (I : Nat → List D → S → Prop) : ∀ (xs : List D) (k : Nat) (acc : List D) (s : S) (Q : List D → S → Prop), I k acc s →
    (∀ (i : Nat) (x : D), xs[i]? = some x → ∀ (acc : List D) (s : S) (K1 : D → S → Prop) (K2 : S → Prop), I (k + i) acc s → (∀ d s', I (k + i + 1) (acc ++ [d]) s' → K1 d s') → (∀ s', I (k + i + 1) acc s' → K2 s') → ok s ∧ g x e0 s fun e1 s1 => tt e1 s1 fun b s2 => if b = true then te e1 s2 K1 else K2 s2) →
    (∀ ds s, I (k + xs.length) (acc ++ ds) s → ok s ∧ Q ds s) → dLc ok g tt te e0 xs s Q
  | [], k, acc, s, Q, h, _, f => f [] s (by simpa using h)
  | x :: xs, k, acc, s, Q, h, st, f => by
    have st' : ∀ (i : Nat) (y : D), xs[i]? = some y → ∀ (acc : List D) (s : S) (K1 : D → S → Prop) (K2 : S → Prop), I (k + 1 + i) acc s → (∀ d s', I (k + 1 + i + 1) (acc ++ [d]) s' → K1 d s') → (∀ s', I (k + 1 + i + 1) acc s' → K2 s') → ok s ∧ g y e0 s fun e1 s1 => tt e1 s1 fun b s2 => if b = true then te e1 s2 K1 else K2 s2 := fun i y hy => by
      have z := st (i + 1) y hy
      rw [show k + (i + 1) = k + 1 + i by omega] at z
      exact z
    have el : k + (x :: xs).length = k + 1 + xs.length := by rw [List.length_cons]; omega
    rw [el] at f
    refine st 0 x rfl acc s _ _ h (fun d s' h' => ?_) (fun s' h' => ?_)
    · exact lc_inv I xs (k + 1) (acc ++ [d]) s' _ h' st' fun ds s q => f (d :: ds) s (by simpa using q)
    · exact lc_inv I xs (k + 1) acc s' _ h' st' f
/-! ### stores -/
theorem S.del_set {s : S} {n : Nat} {o : O} (h : s n = none) : (s.set n o).del n = s := by
  funext m
  unfold S.del S.set
  by_cases e : m = n
  · rw [if_pos e, e, h]
  · rw [if_neg e, if_neg e]
theorem S.set_comm {s : S} {n m : Nat} {o u : O} (h : n ≠ m) : (s.set n o).set m u = (s.set m u).set n o := by
  funext k
  unfold S.set
  by_cases e : k = m
  · rw [if_pos e]
    by_cases e2 : k = n
    · exact absurd (e2.symm.trans e) h
    · rw [if_neg e2, if_pos e]
  · rw [if_neg e]
    by_cases e2 : k = n
    · rw [if_pos e2, if_pos e2]
    · rw [if_neg e2, if_neg e2, if_neg e]
/-! ### texts -/
def sD (l : List Str) : D := .lst (l.map .str)
def ssD (ls : List (List Str)) : D := .lst (ls.map sD)
theorem dcut1 {α : Type} (xs : List α) : dcut xs (some 1) none = xs.drop 1 := by
  unfold dcut
  rw [HT.sIx_none, show (some (1 : Int)) = some ((1 : Nat) : Int) from rfl, HT.sIx_nat]
  cases xs with
  | nil => rfl
  | cons x r =>
    have e : min 1 (x :: r).length = 1 := by rw [List.length_cons]; omega
    rw [e]
    simp
theorem dcut_to {α : Type} (xs : List α) (k : Nat) : dcut xs none (some (k : Int)) = xs.take k := by
  unfold dcut
  rw [HT.sIx_none, HT.sIx_nat, List.drop_zero, Nat.sub_zero]
  rcases Nat.le_total k xs.length with h | h
  · rw [Nat.min_eq_left h]
  · rw [Nat.min_eq_right h, List.take_length, List.take_of_length_le h]
theorem dcut_from {α : Type} (xs : List α) (k : Nat) : dcut xs (some (k : Int)) none = xs.drop k := by
  unfold dcut
  rw [HT.sIx_none, HT.sIx_nat]
  rcases Nat.le_total k xs.length with h | h
  · rw [Nat.min_eq_left h, List.take_of_length_le (by rw [List.length_drop]; omega)]
  · rw [Nat.min_eq_right h, List.drop_length, List.drop_eq_nil_of_le h]
    simp
theorem all_flat (l : List Str) : (l.map D.str).all flatD = true := by
  rw [List.all_map, List.all_eq_true]
  intro x _
  rfl
theorem any_eqF (l : List Str) (x : Str) : ((l.map D.str).any fun z => eqF z (.str x)) = l.any fun z => z == x := by
  rw [List.any_map]
  rfl
theorem in_strs {l : List Str} {x : Str} {d : D} {s : S} {Q : Bool → Prop} (h : seqL s d = some (l.map .str)) (hT : seqT d = none) (hs : ∀ z, d ≠ .str z) (q : Q (l.any fun z => z == x)) : dInB (.str x) d s Q := by
  unfold dInB
  split
  · rename_i a b e
    exact absurd rfl (hs _)
  · simp only [hT, h, all_flat, flatD, any_eqF, Bool.and_self, Bool.true_and]
    exact q
theorem bls_map (l : List Bool) : bls (l.map .bl) = some l := by
  induction l with
  | nil => rfl
  | cons b r ih =>
    show (bls (r.map .bl)).map (b :: ·) = _
    rw [ih]; rfl
theorem eq_nil {d : D} {xs : List D} {s : S} {Q : Bool → Prop} (h : seqL s d = some xs) (q : Q xs.isEmpty) : dEqB d (.lst []) s Q := by
  unfold dEqB
  have e : eqS d (.lst []) = none := by
    cases d <;> first | rfl | cases h
  rw [e]
  simp only [h]
  exact q
theorem eq_dat {x y : D} {p q : PyData} {s : S} {Q : Bool → Prop} (h0 : eqS x y = none) (h1 : y ≠ .lst []) (h2 : y ≠ .tup []) (hp : pyS s x = some p) (hq : pyS s y = some q) (s1 : SeqAt.shaped p = true) (s2 : SeqAt.shaped q = true) (h : Q (PyData.eqv p q)) : dEqB x y s Q := by
  unfold dEqB
  rw [h0]
  have fin : (match pyS s x, pyS s y with
      | some p, some q => SeqAt.shaped p = true ∧ SeqAt.shaped q = true ∧ Q (PyData.eqv p q)
      | _, _ => False) := by
    rw [hp, hq]
    exact ⟨s1, s2, h⟩
  cases y with
  | lst xs => cases xs with
    | nil => exact absurd rfl h1
    | cons a r => exact fin
  | tup xs => cases xs with
    | nil => exact absurd rfl h2
    | cons a r => exact fin
  | _ => exact fin
theorem pys_str : ∀ l : List Str, D.pys (l.map .str) = some (l.map .str)
  | [] => by rw [List.map_nil, D.pys]; rfl
  | x :: r => by rw [List.map_cons, D.pys, pys_str r, D.py]; rfl
theorem pys_sD : ∀ ls : List (List Str), D.pys (ls.map sD) = some (ls.map fun l => .list (l.map .str))
  | [] => by rw [List.map_nil, D.pys]; rfl
  | l :: r => by
    rw [List.map_cons, D.pys, pys_sD r, sD, D.py, pys_str]
    rfl
/-! ### what repr, == want -/
structure Nice (n k : Nat) (p : PyData) : Prop where
  sh : p.showable = true
  hd : p.hasDict = false
  ls : p.leavesShort 13 = true
  cl : p.canLay0 = true
  dp : p.depth ≤ k
  bk : p.bulk ≤ n
theorem Nice.fits {n k : Nat} {p : PyData} (h : Nice n k p) (hn : n ≤ 2 ^ 20) : p.shown.length ≤ sizeLine := PyData.shown_fits_bulk (by decide) (by decide) h.ls (Nat.le_trans h.bk hn)
theorem Nice.shaped {n k : Nat} {p : PyData} (h : Nice n k p) (hk : k ≤ 64) : SeqAt.shaped p = true := by
  unfold SeqAt.shaped
  rw [Bool.and_eq_true, decide_eq_true_eq]
  exact ⟨h.cl, Nat.le_trans h.dp hk⟩
theorem Nice.mono {n k n' k' : Nat} {p : PyData} (h : Nice n k p) (hn : n ≤ n') (hk : k ≤ k') : Nice n' k' p := ⟨h.sh, h.hd, h.ls, h.cl, Nat.le_trans h.dp hk, Nat.le_trans h.bk hn⟩
theorem nice_all {n k : Nat} : ∀ {ps : List PyData}, (∀ p ∈ ps, Nice n k p) → PyData.showableAll ps = true ∧ PyData.hasDictAll ps = false ∧ PyData.leavesShortAll 13 ps = true ∧ PyData.canLayAll0 ps = true ∧ PyData.depthAll ps ≤ k ∧ PyData.bulkAll ps ≤ (n + 1) * ps.length
  | [], _ => ⟨by rw [PyData.showableAll], by rw [PyData.hasDictAll], by rw [PyData.leavesShortAll], by rw [PyData.canLayAll0], by rw [PyData.depthAll]; exact Nat.zero_le _, by rw [PyData.bulkAll]; exact Nat.zero_le _⟩
  | p :: ps, h => by
    obtain ⟨a1, a2, a3, a4, a5, a6⟩ := nice_all (ps := ps) fun q hq => h q (by simp [hq])
    have hp := h p (by simp)
    refine ⟨by rw [PyData.showableAll, hp.sh, a1]; rfl, by rw [PyData.hasDictAll, hp.hd, a2]; rfl, by rw [PyData.leavesShortAll, hp.ls, a3]; rfl, by rw [PyData.canLayAll0, hp.cl, a4]; rfl, ?_, ?_⟩
    · rw [PyData.depthAll]
      exact Nat.max_le.mpr ⟨hp.dp, a5⟩
    · rw [PyData.bulkAll, List.length_cons, Nat.mul_succ]
      have := hp.bk
      omega
theorem nice_list {n k m : Nat} {ps : List PyData} (h : ∀ p ∈ ps, Nice n k p) (hm : ps.length ≤ m) : Nice ((n + 1) * m) (k + 1) (.list ps) := by
  obtain ⟨a1, a2, a3, a4, a5, a6⟩ := nice_all h
  refine ⟨by rw [PyData.showable]; exact a1, by rw [PyData.hasDict]; exact a2, by rw [PyData.leavesShort]; exact a3, by rw [PyData.canLay0]; exact a4, by rw [PyData.depth]; omega, ?_⟩
  rw [PyData.bulk]
  exact Nat.le_trans a6 (Nat.mul_le_mul_left _ hm)
theorem nice_tuple {n k m : Nat} {ps : List PyData} (h : ∀ p ∈ ps, Nice n k p) (hm : ps.length ≤ m) : Nice ((n + 1) * m) (k + 1) (.tuple ps) := by
  obtain ⟨a1, a2, a3, a4, a5, a6⟩ := nice_all h
  refine ⟨by rw [PyData.showable]; exact a1, by rw [PyData.hasDict]; exact a2, by rw [PyData.leavesShort]; exact a3, by rw [PyData.canLay0]; exact a4, by rw [PyData.depth]; omega, ?_⟩
  rw [PyData.bulk]
  exact Nat.le_trans a6 (Nat.mul_le_mul_left _ hm)
theorem nice_non {n k : Nat} : Nice n k .none := ⟨by rw [PyData.showable], by rw [PyData.hasDict], by rw [PyData.leavesShort], by rw [PyData.canLay0], by rw [PyData.depth]; exact Nat.zero_le _, by rw [PyData.bulk]; exact Nat.zero_le _⟩
theorem nice_bool {n k : Nat} (b : Bool) : Nice n k (.bool b) := ⟨by rw [PyData.showable], by rw [PyData.hasDict], by rw [PyData.leavesShort], by rw [PyData.canLay0], by rw [PyData.depth]; exact Nat.zero_le _, by rw [PyData.bulk]; exact Nat.zero_le _⟩
/-- a text that shows itself well, of at most n signs -/
def txt (n : Nat) (x : Str) : Bool := PyData.strOk x && decide (x.cps.size ≤ n)
theorem nice_str {n k : Nat} {x : Str} (h : txt n x = true) : Nice n k (.str x) := by
  unfold txt at h
  rw [Bool.and_eq_true, decide_eq_true_eq] at h
  refine ⟨by rw [PyData.showable], by rw [PyData.hasDict], ?_, by rw [PyData.canLay0]; exact h.1, by rw [PyData.depth]; exact Nat.zero_le _, by rw [PyData.bulk]; exact h.2⟩
  rw [PyData.leavesShort, List.all_eq_true]
  have h1 := h.1
  unfold PyData.strOk at h1
  rw [← Array.all_toList, List.all_eq_true] at h1
  intro c hc
  have := of_decide_eq_true (h1 c hc)
  rw [decide_eq_true_eq]
  omega
theorem nice_strs {n m : Nat} {l : List Str} (h : ∀ x ∈ l, txt n x = true) (hm : l.length ≤ m) : Nice ((n + 1) * m) 1 (.list (l.map .str)) :=
  nice_list (k := 0) (fun p hp => by
    obtain ⟨x, hx, rfl⟩ := List.mem_map.mp hp
    exact nice_str (h x hx)) (by rw [List.length_map]; exact hm)
theorem repr_ok {d : D} {p : PyData} {s : S} {Q : D → S → Prop} {n k : Nat} (h : pyS s d = some p) (hp : Nice n k p) (hn : n ≤ 2 ^ 20) (hk : k ≤ 64) (q : Q (.str p.shown) s) : dRepr [d] s Q := by
  show (match pyS s d with
    | some q => q.showable = true ∧ q.hasDict = false ∧ q.depth ≤ 64 ∧ q.shown.length ≤ sizeLine ∧ Q (.str q.shown) s
    | none => False)
  rw [h]
  exact ⟨hp.sh, hp.hd, Nat.le_trans hp.dp hk, hp.fits hn, q⟩
end Y


/-! Z3: the merge of lists of texts. -/
namespace Y
open PySem PySem.Spec PyProof.Rows L2
/-! ### the plain merge -/
def memT (x : Str) (l : List Str) : Bool := (l.drop 1).any fun z => z == x
def free (x : Str) (ls : List (List Str)) : Bool := ls.all fun l => !memT x l
def hd (l : List Str) : Str := l.headD ""
def good (ws rest : List (List Str)) : List Str := (rest.filter fun l => free (hd l) ws).map hd
def step (h : Str) (ws : List (List Str)) : List (List Str) := (ws.map fun l => l.filter fun x => !decide (x = h)).filter fun l => !l.isEmpty
def mrg : Nat → List (List Str) → Option (List Str)
  | _, [] => some []
  | 0, _ :: _ => none
  | m + 1, w :: ws => match (good (w :: ws) (w :: ws)).head? with
    | none => none
    | some h => (mrg m (step h (w :: ws))).map (h :: ·)
def tot (ls : List (List Str)) : Nat := (ls.map List.length).sum
def ne0 (ls : List (List Str)) : List (List Str) := ls.filter fun l => !l.isEmpty
def mrgL (ls : List (List Str)) : Option (List Str) := mrg (tot ls) (ne0 ls)
theorem tot_cons (l : List Str) (ls : List (List Str)) : tot (l :: ls) = l.length + tot ls := by
  unfold tot
  rw [List.map_cons, List.sum_cons]
theorem tot_ne0 : ∀ ls : List (List Str), tot (ne0 ls) = tot ls
  | [] => rfl
  | l :: ls => by
    unfold ne0
    rw [List.filter_cons]
    cases l with
    | nil =>
      have e := tot_ne0 ls
      unfold ne0 at e
      rw [tot_cons]
      simpa using e
    | cons x r =>
      have e := tot_ne0 ls
      unfold ne0 at e
      rw [if_pos (by rfl), tot_cons, tot_cons, e]
theorem tot_map_le (h : Str) : ∀ ws : List (List Str), tot (ws.map fun l => l.filter fun x => !decide (x = h)) ≤ tot ws
  | [] => Nat.le_refl _
  | l :: ws => by
    rw [List.map_cons, tot_cons, tot_cons]
    have := List.length_filter_le (fun x => !decide (x = h)) l
    have := tot_map_le h ws
    omega
theorem tot_map_lt (h : Str) : ∀ ws : List (List Str), (∃ l ∈ ws, h ∈ l) → tot (ws.map fun l => l.filter fun x => !decide (x = h)) < tot ws
  | [], ⟨_, hl, _⟩ => by cases hl
  | l :: ws, ⟨m, hm, hh⟩ => by
    rw [List.map_cons, tot_cons, tot_cons]
    have a1 := List.length_filter_le (fun x => !decide (x = h)) l
    have a2 := tot_map_le h ws
    rcases List.mem_cons.mp hm with e | e
    · subst e
      have a3 : (m.filter fun x => !decide (x = h)).length < m.length := by
        rcases Nat.lt_or_ge (m.filter fun x => !decide (x = h)).length m.length with q | q
        · exact q
        · exfalso
          have e := (List.filter_eq_self (p := fun x => !decide (x = h)) (l := m)).mp (List.Sublist.eq_of_length_le List.filter_sublist q)
          have := e h hh
          simp at this
      omega
    · have := tot_map_lt h ws ⟨m, e, hh⟩
      omega
theorem tot_step (h : Str) (ws : List (List Str)) (e : ∃ l ∈ ws, h ∈ l) : tot (step h ws) < tot ws := by
  have z := tot_ne0 (ws.map fun l => l.filter fun x => !decide (x = h))
  unfold ne0 at z
  unfold step
  rw [z]
  exact tot_map_lt h ws e
theorem good_mem {ws rest : List (List Str)} {h : Str} (hn : ∀ l ∈ rest, l ≠ []) (e : (good ws rest).head? = some h) : ∃ l ∈ rest, h ∈ l := by
  have hm : h ∈ good ws rest := List.mem_of_mem_head? (by rw [e]; rfl)
  obtain ⟨l, hl, rfl⟩ := List.mem_map.mp hm
  have hl' := (List.mem_filter.mp hl).1
  refine ⟨l, hl', ?_⟩
  cases l with
  | nil => exact absurd rfl (hn _ hl')
  | cons x r => exact List.mem_cons_self ..
theorem ne0_ne {ls : List (List Str)} : ∀ l ∈ ne0 ls, l ≠ [] := fun l hl e => by
  have := (List.mem_filter.mp hl).2
  rw [e] at this
  cases this
theorem step_ne {h : Str} {ws : List (List Str)} : ∀ l ∈ step h ws, l ≠ [] := fun l hl e => by
  have := (List.mem_filter.mp hl).2
  rw [e] at this
  cases this
/-! ### as the program has it -/
local macro_rules | `(tactic| walk_at "ys") => `(tactic| simp only [wpSs, wpS, wp, wps, wpI, wpC, both, dSeq_eq, dNext, dAsg, gN, dVar, dC, dCall, dCons, dNil, dOp, dTest, cmpD, binD, BI.rd, BM.rd, Tg.rd, dIfS, dIfE, dRet, dExpr, gSubD, dTruE, dTru,
  List.set_cons_zero, List.set_cons_succ, List.getElem?_cons_zero, List.getElem?_cons_succ, dComp, dItE, dItR1, wipeD, sD, ssD, seqL, seqT, dSl, dPart, partD, dNoP, dSlR, dNotIn, dIn, dEq, dNe, dYes, dCallF, List.append_nil, dMeth, dLstC, dLst, dTup, dFor, dMul, dAdd, dMod, dFdiv, dOrd, ite_true, ite_false, if_true, if_false, Bool.false_eq_true])
def m_can_be_first : Ts := (.cons (.ret (.bi .all (.cons (.comp false (.cmp .NotIn (.var 0) (.sl (.var 2) (.int 1) .nop)) (.n 2) (.e (.var 1)) .nil [2]) .nil))) .nil)
def sp_can_be_first : DSp := fun as s Q _ => ∃ (x : Str) (ls : List (List Str)), as = [.str x, ssD ls] ∧ Q (.bl (free x ls)) s
theorem pure_can_be_first (cf : Cf) (as : List D) (s : S) (Q : D → S → Prop) (Ex : DX) (h : sp_can_be_first as s Q Ex) : wpSs cf (fun _ => Ex) m_can_be_first { nx := fun _ s' => Q .non s', rt := Q } (nvOf ["a", "b", "c"] as) s := by
  obtain ⟨x, ls, rfl, q⟩ := h
  show wpSs cf (fun _ => Ex) m_can_be_first { nx := fun _ s' => Q .non s', rt := Q } [some (.str x), some (ssD ls), none] s
  unfold m_can_be_first
  walk_at "ys"
  refine (fun hz => ⟨hz, ?_⟩)
  refine lc_typed (s := s) (ok := fun _ => True) trivial sD D.bl (fun _ => true) (fun l => !memT x l) ls _ (fun l _ K1 K2 h1 _ => ?_) ?_
  · walk_at "ys"
    show dInB (.str x) (.lst (dcut (l.map .str) (some 1) none)) s fun b => K1 (.bl (!b)) s
    rw [dcut1, ← List.map_drop]
    exact in_strs (l := l.drop 1) rfl rfl (fun _ => nofun) (h1 rfl)
  · rw [List.filter_eq_self.mpr fun _ _ => rfl]
    show (match ((seqL s (.lst ((ls.map fun l => !memT x l).map D.bl))).bind bls) with
      | some bs => Q (.bl (bs.all id)) s
      | none => False)
    show (match (bls ((ls.map fun l => !memT x l).map D.bl)) with
      | some bs => Q (.bl (bs.all id)) s
      | none => False)
    rw [bls_map]
    show Q (.bl ((ls.map fun l => !memT x l).all id)) s
    rw [List.all_map]
    exact q
theorem free_emp (x : Str) : ∀ ls : List (List Str), ((ls.filter (memT x)).map sD).isEmpty = free x ls
  | [] => rfl
  | l :: ls => by
    unfold free
    rw [List.filter_cons, List.all_cons]
    cases memT x l with
    | true => rfl
    | false => exact free_emp x ls
def m_is_free : Ts := (.cons (.ret (.cmp .Eq (.comp false (.var 2) (.n 2) (.e (.var 1)) (.cons (.cmp .In (.var 0) (.sl (.var 2) (.int 1) .nop)) .nil) [2]) (.lst false .nil))) .nil)
theorem pure_is_free (cf : Cf) (as : List D) (s : S) (Q : D → S → Prop) (Ex : DX) (h : sp_can_be_first as s Q Ex) : wpSs cf (fun _ => Ex) m_is_free { nx := fun _ s' => Q .non s', rt := Q } (nvOf ["a", "b", "c"] as) s := by
  obtain ⟨x, ls, rfl, q⟩ := h
  show wpSs cf (fun _ => Ex) m_is_free { nx := fun _ s' => Q .non s', rt := Q } [some (.str x), some (ssD ls), none] s
  unfold m_is_free
  walk_at "ys"
  refine (fun hz => ⟨hz, ?_⟩)
  refine lc_typed (s := s) (ok := fun _ => True) trivial sD sD (memT x) id ls _ (fun l _ K1 K2 h1 h2 => ?_) ?_
  · walk_at "ys"
    show dInB (.str x) (.lst (dcut (l.map .str) (some 1) none)) s _
    rw [dcut1, ← List.map_drop]
    refine in_strs (l := l.drop 1) rfl rfl (fun _ => nofun) ?_
    show if memT x l = true then K1 (sD l) s else K2 s
    cases e : memT x l with
    | true => exact h1 e
    | false => exact h2 e
  · rw [List.map_id]
    refine ⟨Nat.zero_le _, eq_nil (xs := (ls.filter (memT x)).map sD) rfl ?_⟩
    rw [free_emp]
    exact q
def sp_merged : DSp := fun as s Q _ => ∃ ls : List (List Str), as = [ssD ls] ∧ tot ls < sizeLine ∧ ∀ (n : Nat) (acc : List Str), s n = none → match mrgL ls with
  | none => Q .non (s.set n (.lst (acc.map .str)))
  | some r => Q (.cell n) (s.set n (.lst (r.map .str)))
/-- what stands at each turn -/
def MI (ls : List (List Str)) (s : S) (n : Nat) (ws : List (List Str)) (acc : List Str) (m : Nat) (s' : S) : Prop := s n = none ∧ s' = s.set n (.lst (acc.map .str)) ∧ (∀ l ∈ ws, l ≠ []) ∧ tot ws ≤ m ∧ acc.length + tot ws ≤ tot ls ∧ mrgL ls = (mrg m ws).map (acc ++ ·)
theorem MI.start {ls : List (List Str)} {s : S} {n : Nat} (h : s n = none) : MI ls s n (ne0 ls) [] (tot ls) (s.set n (.lst [])) :=
  ⟨h, rfl, ne0_ne, by rw [tot_ne0]; exact Nat.le_refl _, by rw [tot_ne0, List.length_nil]; omega, by unfold mrgL; cases mrg (tot ls) (ne0 ls) <;> rfl⟩
theorem MI.fin {ls : List (List Str)} {s s' : S} {n m : Nat} {acc : List Str} (h : MI ls s n [] acc m s') : mrgL ls = some acc := by
  have e := h.2.2.2.2.2
  cases m <;> (rw [e]; show some (acc ++ []) = some acc; rw [List.append_nil])
theorem MI.no {ls ws : List (List Str)} {s s' : S} {n m : Nat} {acc : List Str} (h : MI ls s n ws acc m s') (hw : ws ≠ []) (e : (good ws ws).head? = none) : mrgL ls = none := by
  rw [h.2.2.2.2.2]
  cases ws with
  | nil => exact absurd rfl hw
  | cons w ws =>
    cases m with
    | zero => rfl
    | succ m =>
      have z : mrg (m + 1) (w :: ws) = none := by
        show (match (good (w :: ws) (w :: ws)).head? with
          | none => none
          | some h => (mrg m (step h (w :: ws))).map (h :: ·)) = _
        rw [e]
      rw [z]; rfl
theorem MI.next {ls ws : List (List Str)} {s s' : S} {n m : Nat} {acc : List Str} {h : Str} (I : MI ls s n ws acc m s') (hw : ws ≠ []) (e : (good ws ws).head? = some h) :
    acc.length < tot ls ∧ ∃ m', m' < m ∧ MI ls s n (step h ws) (acc ++ [h]) m' (s'.set n (.lst ((acc ++ [h]).map .str))) := by
  obtain ⟨h1, h2, h3, h4, h5, h6⟩ := I
  have hm := good_mem h3 e
  have lt := tot_step h ws hm
  refine ⟨by omega, ?_⟩
  cases m with
  | zero => omega
  | succ m =>
    refine ⟨m, Nat.lt_succ_self m, h1, by rw [h2, S.set_set], step_ne, by omega, by rw [List.length_append, List.length_singleton]; omega, ?_⟩
    rw [h6]
    cases ws with
    | nil => exact absurd rfl hw
    | cons w ws =>
      have z : mrg (m + 1) (w :: ws) = (mrg m (step h (w :: ws))).map (h :: ·) := by
        show (match (good (w :: ws) (w :: ws)).head? with
          | none => none
          | some h => (mrg m (step h (w :: ws))).map (h :: ·)) = _
        rw [e]
      rw [z]
      cases mrg m (step h (w :: ws)) with
      | none => rfl
      | some r => show some (acc ++ h :: r) = some (acc ++ [h] ++ r); rw [List.append_assoc]; rfl
theorem append_lst {s : S} {n : Nat} {xs : List D} {y : D} {Q : D → S → Prop} (h : s n = some (.lst xs)) (hl : xs.length < sizeLine) (q : Q .non (s.set n (.lst (xs ++ [y])))) : dAppend (.cell n) [y] s Q := by
  show (match s n with
    | some (.lst xs) => xs.length < sizeLine ∧ Q .non (s.set n (.lst (xs ++ [y])))
    | _ => False)
  rw [h]
  exact ⟨hl, q⟩
theorem at0 {α : Type} {x : α} {r : List α} : atI (x :: r) 0 = some x := ix_nat (i := 0) rfl
theorem eq_strs {x y : Str} {s : S} {Q : Bool → Prop} (q : Q (decide (x = y))) : dEqB (.str x) (.str y) s Q := q
/-- .. if one != [] -/
theorem filt_ok {ok : S → Prop} {g : DTG} {tt : DTT} {te : DTE} {e0 : Nv} {s : S} (hok : ok s) (ls : List (List Str)) (Q : List D → S → Prop)
    (h : ∀ (l : List Str) (K1 : D → S → Prop) (K2 : S → Prop), (if l.isEmpty = true then K2 s else K1 (sD l) s) → g (sD l) e0 s fun e1 s1 => tt e1 s1 fun b s2 => if b = true then te e1 s2 K1 else K2 s2)
    (q : Q ((ne0 ls).map sD) s) : dLc ok g tt te e0 (ls.map sD) s Q := by
  refine lc_typed hok sD sD (fun l => !l.isEmpty) id ls Q (fun l _ K1 K2 h1 h2 => h l K1 K2 ?_) (by rw [List.map_id]; exact q)
  cases e : l.isEmpty with
  | true => exact h2 (by rw [e]; rfl)
  | false => exact h1 (by rw [e]; rfl)
theorem ne_nil {l : List Str} {s : S} {Q : Bool → Prop} (q : Q l.isEmpty) : dEqB (sD l) (.lst []) s Q := eq_nil (xs := l.map .str) rfl (by rw [List.isEmpty_map]; exact q)
theorem ne_nilS {l : List (List Str)} {s : S} {Q : Bool → Prop} (q : Q l.isEmpty) : dEqB (ssD l) (.lst []) s Q := eq_nil (xs := l.map sD) rfl (by rw [List.isEmpty_map]; exact q)
def m_law_merged : Ts := (.cons (.asg (.t [1, 2]) (.tup (.cons (.comp false (.var 4) (.n 4) (.e (.var 0)) (.cons (.cmp .NotEq (.var 4) (.lst false .nil)) .nil) [4]) (.cons (.lst true .nil) .nil)))) (.cons (.whl (.cmp .NotEq (.var 1) (.lst false .nil)) (.cons (.set 3 (.comp false (.ix (.var 4) (.int 0)) (.n 4) (.e (.var 1)) (.cons (.call 0 (.cons (.ix (.var 4) (.int 0)) (.cons (.var 1) .nil)) .nil) .nil) [4])) (.cons (.ife (.cmp .Eq (.var 3) (.lst false .nil)) (.cons (.ret .non) .nil) .nil) (.cons (.ex (.meth .append (.var 2) (.cons (.ix (.var 3) (.int 0)) .nil))) (.cons (.set 1 (.comp false (.comp false (.var 5) (.n 5) (.e (.var 4)) (.cons (.cmp .NotEq (.var 5) (.ix (.var 3) (.int 0))) .nil) [5]) (.n 4) (.e (.var 1)) .nil [4])) (.cons (.set 1 (.comp false (.var 4) (.n 4) (.e (.var 1)) (.cons (.cmp .NotEq (.var 4) (.lst false .nil)) .nil) [4])) .nil)))))) (.cons (.ret (.var 2)) .nil)))
theorem pure_law_merged (cf : Cf) (hc : cf.sp 0 = sp_can_be_first) (hd0 : cf.dd 0 = []) (as : List D) (s : S) (Q : D → S → Prop) (Ex : DX) (h : sp_merged as s Q Ex) : wpSs cf (fun _ => Ex) m_law_merged { nx := fun _ s' => Q .non s', rt := Q } (nvOf ["a", "b", "c", "d", "e", "f"] as) s := by
  obtain ⟨ls, rfl, hz, q⟩ := h
  show wpSs cf (fun _ => Ex) m_law_merged { nx := fun _ s' => Q .non s', rt := Q } [some (ssD ls), none, none, none, none, none] s
  unfold m_law_merged
  walk_at "ys"
  simp only [hc, hd0]
  intro z1
  refine ⟨z1, filt_ok (s := s) (ok := fun _ => True) trivial ls _ (fun l K1 K2 hl => ?_) ?_⟩
  · walk_at "ys"
    refine ⟨Nat.zero_le _, ne_nil ?_⟩
    cases e : l.isEmpty <;> rw [e] at hl <;> exact hl
  refine ⟨Nat.zero_le _, fun n hn => ⟨by show 2 ≤ sizeLine; decide, ?_⟩⟩
  refine ⟨rfl, rfl, ?_⟩
  refine ⟨fun m e s' => ∃ (ws : List (List Str)) (acc : List Str) (a3 a4 a5 : Option D), e = [some (ssD ls), some (ssD ws), some (.cell n), a3, a4, a5] ∧ MI ls s n ws acc m s', ⟨_, _, [], none, none, none, rfl, MI.start hn⟩, ?_⟩
  rintro m e s' ⟨ws, acc, a3, a4, a5, rfl, I⟩
  walk_at "ys"
  refine ⟨Nat.zero_le _, ne_nilS ?_⟩
  cases ew : ws.isEmpty with
  | true =>
    have e0 : ws = [] := List.isEmpty_iff.mp ew
    subst e0
    have y := q n acc hn
    rw [I.fin] at y
    rw [if_neg (by decide)]
    rw [I.2.1]
    exact y
  | false =>
    have hw : ws ≠ [] := fun z => by rw [z] at ew; cases ew
    rw [if_pos (show (!false) = true from rfl)]
    intro z2
    refine ⟨z2, lc_typed (s := s') (ok := fun _ => True) trivial sD D.str (fun l => free (hd l) ws) hd ws _ (fun l hl K1 K2 h1 h2 => ?_) ?_⟩
    · obtain ⟨x, r, rfl⟩ : ∃ x r, l = x :: r := by
        cases l with
        | nil => exact absurd rfl (I.2.2.1 _ hl)
        | cons x r => exact ⟨x, r, rfl⟩
      walk_at "ys"
      refine ix_seq (xs := (x :: r).map .str) rfl at0 ⟨x, ws, rfl, ?_⟩
      show if free x ws = true then _ else _
      cases e : free x ws with
      | true =>
        rw [if_pos rfl]
        exact ix_seq (xs := (x :: r).map .str) rfl at0 (h1 e)
      | false => exact h2 e
    have eg : (ws.filter fun l => free (hd l) ws).map hd = good ws ws := rfl
    rw [eg]
    refine ⟨Nat.zero_le _, eq_nil (xs := (good ws ws).map .str) rfl ?_⟩
    cases e : good ws ws with
    | nil =>
      have y := q n acc hn
      rw [I.no hw (by rw [e]; rfl)] at y
      rw [I.2.1]
      exact y
    | cons h r =>
      obtain ⟨lt, m', hm, I2⟩ := I.next (h := h) hw (by rw [e]; rfl)
      have hs : s' n = some (.lst (acc.map .str)) := by rw [I.2.1]; exact S.set_same
      rw [if_neg (show ¬ ((h :: r).map D.str).isEmpty = true from fun z => nomatch (show false = true from z))]
      refine ⟨by show (lstOf (s' n)).isSome = true; rw [hs]; rfl, ix_seq (xs := (h :: r).map .str) rfl at0 (append_lst hs (by rw [List.length_map]; omega) ?_)⟩
      intro z3
      refine ⟨z3, lc_typed (s := _) (ok := fun _ => True) trivial sD sD (fun _ => true) (fun l => l.filter fun x => !decide (x = h)) ws _ (fun l hl K1 K2 h1 _ => ?_) ?_⟩
      · walk_at "ys"
        intro z4
        refine ⟨z4, lc_typed (s := _) (ok := fun _ => True) trivial D.str D.str (fun x => !decide (x = h)) id l _ (fun x hx K1 K2 h3 h4 => ?_) ?_⟩
        · walk_at "ys"
          refine ix_seq (xs := (h :: r).map .str) rfl at0 (eq_strs ?_)
          show if (!decide (x = h)) = true then _ else _
          cases ex : decide (x = h) with
          | true => exact h4 (by rw [ex]; rfl)
          | false => exact h3 (by rw [ex]; rfl)
        · rw [List.map_id]
          exact h1 rfl
      rw [List.filter_eq_self.mpr fun _ _ => rfl]
      intro z5
      refine ⟨z5, filt_ok (s := _) (ok := fun _ => True) trivial (ws.map fun l => l.filter fun x => !decide (x = h)) _ (fun l K1 K2 hl => ?_) ?_⟩
      · walk_at "ys"
        refine ⟨Nat.zero_le _, ne_nil ?_⟩
        cases e : l.isEmpty <;> rw [e] at hl <;> exact hl
      have e2 : acc.map D.str ++ [D.str h] = (acc ++ [h]).map D.str := by rw [List.map_append]; rfl
      rw [e2]
      exact ⟨m', hm, step h ws, acc ++ [h], _, a4, a5, rfl, I2⟩
theorem go_find {ok : S → Prop} {g : DTG} {tb el : DTS} {Dd : DEnds} {s : S} (hok : ok s) (E : Option D → Option D → Nv) (F : Str → Bool)
    (hg : ∀ (x : Str) (r : List Str) (a b : Option D) (K : Nv → S → Prop), K (E (some (.str x)) (some (.lst (r.map .str)))) s → g (sD (x :: r)) (E a b) s K)
    (hb : ∀ (x : Str) (r : D) (N M : Nv → S → Prop), (F x = false → N (E (some (.str x)) (some r)) s) → (F x = true → M (E (some (.str x)) (some r)) s) → tb { Dd with nx := N, ct := N, bk := M } (E (some (.str x)) (some r)) s) :
    ∀ (rest : List (List Str)) (a b : Option D), (∀ l ∈ rest, l ≠ []) →
      (((rest.filter fun l => F (hd l)).map hd).head? = none → ∀ a b : Option D, el Dd (E a b) s) → (∀ h, ((rest.filter fun l => F (hd l)).map hd).head? = some h → ∀ r : D, Dd.nx (E (some (.str h)) (some r)) s) →
      dGo ok g tb el Dd (rest.map sD) (E a b) s
  | [], a, b, _, h1, _ => ⟨hok, h1 rfl a b⟩
  | [] :: rest, a, b, hn, _, _ => absurd rfl (hn [] (by simp))
  | (x :: r) :: rest, a, b, hn, h1, h2 => by
    refine ⟨hok, hg x r a b _ (hb x _ _ _ (fun e => ?_) (fun e => ?_))⟩
    · have ef : ((x :: r) :: rest).filter (fun l => F (hd l)) = rest.filter fun l => F (hd l) := by
        rw [List.filter_cons, if_neg]
        show ¬ F x = true
        rw [e]
        exact Bool.false_ne_true
      rw [ef] at h1 h2
      exact go_find hok E F hg hb rest _ _ (fun l hl => hn l (by simp [hl])) h1 h2
    · have ef : ((x :: r) :: rest).filter (fun l => F (hd l)) = (x :: r) :: rest.filter fun l => F (hd l) := by
        rw [List.filter_cons, if_pos]
        exact e
      rw [ef] at h2
      exact h2 x rfl _
def m_merged : Ts := (.cons (.set 1 (.comp false (.bi .list (.cons (.var 3) .nil)) (.n 3) (.e (.var 0)) (.cons (.cmp .NotEq (.var 3) (.lst false .nil)) .nil) [3])) (.cons (.set 2 (.lst true .nil)) (.cons (.whl (.cmp .NotEq (.var 1) (.lst false .nil)) (.cons (.for_ (.s [4, 5]) (.e (.var 1)) (.cons (.ife (.call 0 (.cons (.var 4) (.cons (.var 1) .nil)) .nil) (.cons .brk .nil) .nil) .nil) (.cons (.ret .non) .nil)) (.cons (.ex (.meth .append (.var 2) (.cons (.var 4) .nil))) (.cons (.set 1 (.comp false (.comp false (.var 6) (.n 6) (.e (.var 3)) (.cons (.cmp .NotEq (.var 6) (.var 4)) .nil) [6]) (.n 3) (.e (.var 1)) .nil [3])) (.cons (.set 1 (.comp false (.var 3) (.n 3) (.e (.var 1)) (.cons (.cmp .NotEq (.var 3) (.lst false .nil)) .nil) [3])) .nil))))) (.cons (.ret (.var 2)) .nil))))
theorem pure_merged (cf : Cf) (hc : cf.sp 0 = sp_can_be_first) (hd0 : cf.dd 0 = []) (as : List D) (s : S) (Q : D → S → Prop) (Ex : DX) (h : sp_merged as s Q Ex) : wpSs cf (fun _ => Ex) m_merged { nx := fun _ s' => Q .non s', rt := Q } (nvOf ["a", "b", "c", "d", "e", "f", "g"] as) s := by
  obtain ⟨ls, rfl, hz, q⟩ := h
  show wpSs cf (fun _ => Ex) m_merged { nx := fun _ s' => Q .non s', rt := Q } [some (ssD ls), none, none, none, none, none, none] s
  unfold m_merged
  walk_at "ys"
  simp only [hc, hd0]
  intro z1
  refine ⟨z1, filt_ok (s := s) (ok := fun _ => True) trivial ls _ (fun l K1 K2 hl => ?_) ?_⟩
  · walk_at "ys"
    refine ⟨Nat.zero_le _, ne_nil ?_⟩
    cases e : l.isEmpty <;> rw [e] at hl <;> exact hl
  refine ⟨Nat.zero_le _, fun n hn => ?_⟩
  refine ⟨fun m e s' => ∃ (ws : List (List Str)) (acc : List Str) (a3 a4 a5 a6 : Option D), e = [some (ssD ls), some (ssD ws), some (.cell n), a3, a4, a5, a6] ∧ MI ls s n ws acc m s', ⟨_, _, [], none, none, none, none, rfl, MI.start hn⟩, ?_⟩
  rintro m e s' ⟨ws, acc, a3, a4, a5, a6, rfl, I⟩
  walk_at "ys"
  refine ⟨Nat.zero_le _, ne_nilS ?_⟩
  cases ew : ws.isEmpty with
  | true =>
    have e0 : ws = [] := List.isEmpty_iff.mp ew
    subst e0
    have y := q n acc hn
    rw [I.fin] at y
    rw [if_neg (by decide)]
    rw [I.2.1]
    exact y
  | false =>
    have hw : ws ≠ [] := fun z => by rw [z] at ew; cases ew
    rw [if_pos (show (!false) = true from rfl)]
    intro z2
    refine go_find (s := s') (ok := fun _ => True) trivial (fun a b => [some (.lst (ls.map sD)), some (.lst (ws.map sD)), some (.cell n), a3, a, b, a6]) (fun x => free x ws) (fun x r a b K hk => ?_) (fun x r N M h1 h2 => ?_) ws _ _ I.2.2.1 (fun e a b => ?_) (fun h e r => ?_)
    · exact ⟨by show 1 ≤ (List.length ((x :: r).map D.str)); rw [List.length_map, List.length_cons]; omega, rfl, hk⟩
    · walk_at "ys"
      refine ⟨x, ws, rfl, ?_⟩
      show if free x ws = true then _ else _
      cases e : free x ws with
      | true => exact h2 e
      | false => exact h1 e
    · walk_at "ys"
      have y := q n acc hn
      rw [I.no hw e] at y
      rw [I.2.1]
      exact y
    · obtain ⟨lt, m', hm, I2⟩ := I.next (h := h) hw e
      have hs : s' n = some (.lst (acc.map .str)) := by rw [I.2.1]; exact S.set_same
      walk_at "ys"
      refine ⟨by show (lstOf (s' n)).isSome = true; rw [hs]; rfl, append_lst hs (by rw [List.length_map]; omega) ?_⟩
      intro z3
      refine ⟨z3, lc_typed (s := _) (ok := fun _ => True) trivial sD sD (fun _ => true) (fun l => l.filter fun x => !decide (x = h)) ws _ (fun l hl K1 K2 h1 _ => ?_) ?_⟩
      · walk_at "ys"
        intro z4
        refine ⟨z4, lc_typed (s := _) (ok := fun _ => True) trivial D.str D.str (fun x => !decide (x = h)) id l _ (fun x hx K1 K2 h3 h4 => ?_) ?_⟩
        · walk_at "ys"
          refine eq_strs ?_
          show if (!decide (x = h)) = true then _ else _
          cases ex : decide (x = h) with
          | true => exact h4 (by rw [ex]; rfl)
          | false => exact h3 (by rw [ex]; rfl)
        · rw [List.map_id]
          exact h1 rfl
      rw [List.filter_eq_self.mpr fun _ _ => rfl]
      intro z5
      refine ⟨z5, filt_ok (s := _) (ok := fun _ => True) trivial (ws.map fun l => l.filter fun x => !decide (x = h)) _ (fun l K1 K2 hl => ?_) ?_⟩
      · walk_at "ys"
        refine ⟨Nat.zero_le _, ne_nil ?_⟩
        cases e : l.isEmpty <;> rw [e] at hl <;> exact hl
      have e2 : acc.map D.str ++ [D.str h] = (acc ++ [h]).map D.str := by rw [List.map_append]; rfl
      rw [e2]
      exact ⟨m', hm, step h ws, acc ++ [h], a3, some (.str h), some r, a6, rfl, I2⟩
end Y


/-! Z4: plain laws of merges: orders kept, each place the first free one, none exactly with a ring. No program in sight. -/
namespace Y
open PySem PySem.Spec PyProof.Rows L2
theorem mrg_cons (m : Nat) (w : List Str) (ws : List (List Str)) : mrg (m + 1) (w :: ws) = match (good (w :: ws) (w :: ws)).head? with
    | none => none
    | some h => (mrg m (step h (w :: ws))).map (h :: ·) := rfl
theorem mrg_nil (m : Nat) : mrg m [] = some [] := by cases m <;> rfl
/-- a turn of a merge that comes to an end -/
theorem mrg_some {m : Nat} {ws : List (List Str)} {r : List Str} (h : mrg m ws = some r) : (ws = [] ∧ r = []) ∨ ∃ m' x r', m = m' + 1 ∧ ws ≠ [] ∧ (good ws ws).head? = some x ∧ mrg m' (step x ws) = some r' ∧ r = x :: r' := by
  cases ws with
  | nil => rw [mrg_nil] at h; cases h; exact .inl ⟨rfl, rfl⟩
  | cons w ws =>
    cases m with
    | zero => cases h
    | succ m =>
      rw [mrg_cons] at h
      cases e : (good (w :: ws) (w :: ws)).head? with
      | none => rw [e] at h; cases h
      | some x =>
        rw [e] at h
        have h' : (mrg m (step x (w :: ws))).map (x :: ·) = some r := h
        cases e2 : mrg m (step x (w :: ws)) with
        | none => rw [e2] at h'; cases h'
        | some r' => rw [e2] at h'; cases h'; exact .inr ⟨m, x, r', rfl, by simp, rfl, e2, rfl⟩
theorem anyb (l : List Str) (x : Str) : (l.any fun z => z == x) = decide (x ∈ l) := by
  by_cases h : x ∈ l
  · rw [decide_eq_true h, List.any_eq_true]
    exact ⟨x, h, by simp⟩
  · rw [decide_eq_false h]
    rw [List.any_eq_false]
    intro z hz e
    exact h ((eq_of_beq e) ▸ hz)
/-- the chosen one: a head that none has behind -/
theorem good_free {ws : List (List Str)} {x : Str} (e : (good ws ws).head? = some x) : (∃ l ∈ ws, hd l = x) ∧ ∀ l ∈ ws, x ∉ l.drop 1 := by
  have hm : x ∈ good ws ws := List.mem_of_mem_head? (by rw [e]; rfl)
  obtain ⟨l, hl, rfl⟩ := List.mem_map.mp hm
  obtain ⟨h1, h2⟩ := List.mem_filter.mp hl
  refine ⟨⟨l, h1, rfl⟩, fun l' hl' hx => ?_⟩
  have := (List.all_eq_true.mp h2) l' hl'
  unfold memT at this
  rw [anyb, decide_eq_true hx] at this
  cases this
theorem filter_ne {x : Str} : ∀ {l : List Str}, x ∉ l → l.filter (fun z => !decide (z = x)) = l := fun {l} h => by
  rw [List.filter_eq_self]
  intro z hz
  have : z ≠ x := fun e => h (e ▸ hz)
  simp [this]
/-- what a turn leaves of a list -/
theorem rest_of {x : Str} {l : List Str} (hn : x ∉ l.drop 1) : l.filter (fun z => !decide (z = x)) = l ∨ ∃ t, l = x :: t ∧ l.filter (fun z => !decide (z = x)) = t := by
  cases l with
  | nil => exact .inl rfl
  | cons y t =>
    have ht : x ∉ t := hn
    by_cases e : y = x
    · subst e
      refine .inr ⟨t, rfl, ?_⟩
      rw [List.filter_cons, if_neg (by simp), filter_ne ht]
    · left
      apply filter_ne
      intro h
      rcases List.mem_cons.mp h with h | h
      · exact e h.symm
      · exact ht h
theorem step_mem {x : Str} {ws : List (List Str)} {l : List Str} (h : l ∈ step x ws) : ∃ l' ∈ ws, l = l'.filter fun z => !decide (z = x) := by
  obtain ⟨l', hl', e⟩ := List.mem_map.mp (List.mem_filter.mp h).1
  exact ⟨l', hl', e.symm⟩
theorem mem_step {x : Str} {ws : List (List Str)} {l : List Str} (h : l ∈ ws) (hne : l.filter (fun z => !decide (z = x)) ≠ []) : (l.filter fun z => !decide (z = x)) ∈ step x ws := by
  refine List.mem_filter.mpr ⟨List.mem_map.mpr ⟨l, h, rfl⟩, ?_⟩
  cases e : l.filter (fun z => !decide (z = x)) with
  | nil => exact absurd e hne
  | cons _ _ => rfl
/-- a whole merge: each once, all of them, each list in its order -/
theorem mrg_order : ∀ (m : Nat) (ws : List (List Str)) (r : List Str), (∀ l ∈ ws, l ≠ []) → (∀ l ∈ ws, l.Nodup) → mrg m ws = some r → r.Nodup ∧ (∀ x, x ∈ r ↔ ∃ l ∈ ws, x ∈ l) ∧ ∀ l ∈ ws, r.filter (fun x => decide (x ∈ l)) = l
  | m, ws, r, hne, hnd, h => by
    rcases mrg_some h with ⟨rfl, rfl⟩ | ⟨m', x, r', rfl, hw, e, e2, rfl⟩
    · exact ⟨List.nodup_nil, fun x => ⟨fun h => (nomatch h), fun ⟨_, h, _⟩ => (nomatch h)⟩, fun l h => (nomatch h)⟩
    · obtain ⟨⟨l0, hl0, ex⟩, hf⟩ := good_free e
      obtain ⟨i1, i2, i3⟩ := mrg_order m' (step x ws) r' step_ne (fun l hl => by
        obtain ⟨l', hl', rfl⟩ := step_mem hl
        exact (hnd l' hl').sublist List.filter_sublist) e2
      have hx0 : x ∈ l0 := by
        cases l0 with
        | nil => exact absurd rfl (hne _ hl0)
        | cons y t => rw [← ex]; exact List.mem_cons_self ..
      have xr : x ∉ r' := fun hx => by
        obtain ⟨l, hl, hxl⟩ := (i2 x).mp hx
        obtain ⟨l', hl', rfl⟩ := step_mem hl
        have := (List.mem_filter.mp hxl).2
        simp at this
      refine ⟨List.nodup_cons.mpr ⟨xr, i1⟩, fun y => ⟨fun hy => ?_, fun ⟨l, hl, hy⟩ => ?_⟩, fun l hl => ?_⟩
      · rcases List.mem_cons.mp hy with q | q
        · subst q; exact ⟨l0, hl0, hx0⟩
        · obtain ⟨l, hl, hyl⟩ := (i2 y).mp q
          obtain ⟨l', hl', rfl⟩ := step_mem hl
          exact ⟨l', hl', (List.mem_filter.mp hyl).1⟩
      · by_cases q : y = x
        · rw [q]; exact List.mem_cons_self ..
        · have hy2 : y ∈ l.filter fun z => !decide (z = x) := List.mem_filter.mpr ⟨hy, by simp [q]⟩
          exact List.mem_cons_of_mem _ ((i2 y).mpr ⟨_, mem_step hl (List.ne_nil_of_mem hy2), hy2⟩)
      · have sub : ∀ t : List Str, (t = [] ∨ t ∈ step x ws) → r'.filter (fun z => decide (z ∈ t)) = t := fun t ht => by
          rcases ht with rfl | ht
          · rw [List.filter_eq_nil_iff]
            intro z _
            simp
          · exact i3 t ht
        have inS : ∀ t, (l.filter fun z => !decide (z = x)) = t → t = [] ∨ t ∈ step x ws := fun t et => by
          by_cases q : t = []
          · exact .inl q
          · subst et
            exact .inr (mem_step hl q)
        rcases rest_of (hf l hl) with q | ⟨t, rfl, q⟩
        · have hxl : x ∉ l := fun h => by
            rw [← q] at h
            have := (List.mem_filter.mp h).2
            simp at this
          rw [List.filter_cons, if_neg (by simp [hxl])]
          exact sub l (inS l q)
        · rw [List.filter_cons, if_pos (by simp)]
          congr 1
          have es := sub t (inS t q)
          refine Eq.trans ?_ es
          apply List.filter_congr
          intro z hz
          have hzx : z ≠ x := fun e => xr (e ▸ hz)
          simp [hzx, List.mem_cons]
/-- each place: the first head that none of the left lists has behind -/
def keepN (known l : List Str) : List Str := l.filter fun x => !decide (x ∈ known)
theorem step_keep (h : Str) (known : List Str) : ∀ ls : List (List Str), step h (ne0 (ls.map (keepN known))) = ne0 (ls.map (keepN (known ++ [h])))
  | [] => rfl
  | l :: ls => by
    have ih := step_keep h known ls
    have el : (keepN known l).filter (fun z => !decide (z = h)) = keepN (known ++ [h]) l := by
      unfold keepN
      rw [List.filter_filter]
      apply List.filter_congr
      intro z _
      simp only [List.mem_append, List.mem_singleton]
      by_cases a : z = h <;> by_cases b : z ∈ known <;> simp [a, b]
    unfold step ne0 at ih ⊢
    rw [List.map_cons, List.map_cons, List.filter_cons (x := keepN (known ++ [h]) l), List.filter_cons (x := keepN known l)]
    by_cases q : keepN known l = []
    · have q2 : keepN (known ++ [h]) l = [] := by rw [← el, q]; rfl
      rw [if_neg (by rw [q]; decide), if_neg (by rw [q2]; decide)]
      exact ih
    · have q' : (!(keepN known l).isEmpty) = true := by
        cases e : keepN known l with
        | nil => exact absurd e q
        | cons _ _ => rfl
      rw [if_pos q', List.map_cons, List.filter_cons, el, ih]
theorem mrg_places {ls : List (List Str)} : ∀ (m : Nat) (known r : List Str), mrg m (ne0 (ls.map (keepN known))) = some r → ∀ (i : Nat) (x : Str), r[i]? = some x →
    (good (ne0 (ls.map (keepN (known ++ r.take i)))) (ne0 (ls.map (keepN (known ++ r.take i))))).head? = some x
  | m, known, r, h, i, x, hx => by
    rcases mrg_some h with ⟨_, rfl⟩ | ⟨m', y, r', rfl, hw, e, e2, rfl⟩
    · cases hx
    · cases i with
      | zero =>
        cases hx
        rw [List.take_zero, List.append_nil]
        exact e
      | succ i =>
        rw [step_keep] at e2
        have z := mrg_places m' (known ++ [y]) r' e2 i x hx
        rw [List.append_assoc] at z
        exact z
/-! ### rings -/
def Edge (ls : List (List Str)) (x y : Str) : Prop := ∃ l ∈ ls, ∃ a b, l = a ++ x :: y :: b
inductive Rch (E : Str → Str → Prop) : Str → Str → Prop
  | one {x y : Str} : E x y → Rch E x y
  | more {x y z : Str} : E x y → Rch E y z → Rch E x z
theorem Rch.trans {E : Str → Str → Prop} {x y z : Str} (h : Rch E x y) (h' : Rch E y z) : Rch E x z := by
  induction h with
  | one e => exact .more e h'
  | more e _ ih => exact .more e (ih h')
theorem Rch.last {E : Str → Str → Prop} {x y z : Str} (h : Rch E x y) (h' : E y z) : Rch E x z := h.trans (.one h')
/-- with a predecessor each, some one comes to itself -/
theorem ring_of {R : Str → Str → Prop} (tr : ∀ x y z, R x y → R y z → R x z) : ∀ hs : List Str, hs ≠ [] → (∀ h ∈ hs, ∃ h' ∈ hs, R h' h) → ∃ x, R x x
  | [], h, _ => absurd rfl h
  | a :: t, _, p => by
    by_cases ha : R a a
    · exact ⟨a, ha⟩
    · obtain ⟨a', ha', ra⟩ := p a (by simp)
      have hat : a' ∈ t := by
        rcases List.mem_cons.mp ha' with e | e
        · subst e; exact absurd ra ha
        · exact e
      refine ring_of tr t (List.ne_nil_of_mem hat) fun h hh => ?_
      obtain ⟨h', hh', rh⟩ := p h (by simp [hh])
      rcases List.mem_cons.mp hh' with e | e
      · subst e; exact ⟨a', hat, tr _ _ _ ra rh⟩
      · exact ⟨h', e, rh⟩
/-- along a list -/
theorem rch_along {ls : List (List Str)} {l : List Str} (hl : l ∈ ls) : ∀ (a : List Str) (x : Str) (b : List Str), l = a ++ x :: b → ∀ y ∈ b, Rch (Edge ls) x y
  | a, x, [], _, y, h => nomatch h
  | a, x, z :: b, e, y, h => by
    have ez : Edge ls x z := ⟨l, hl, a, b, e⟩
    rcases List.mem_cons.mp h with q | q
    · subst q; exact .one ez
    · exact .more ez (rch_along hl (a ++ [x]) z b (by rw [e]; simp) y q)
theorem mrg_none {ls : List (List Str)} : ∀ (m : Nat) (ws : List (List Str)), (∀ l ∈ ws, l ≠ []) → (∀ l ∈ ws, ∃ l' ∈ ls, ∃ a, l' = a ++ l) → tot ws ≤ m → mrg m ws = none → ∃ x, Rch (Edge ls) x x
  | m, [], _, _, _, h => by rw [mrg_nil] at h; cases h
  | 0, w :: ws, hne, _, ht, _ => by
    rw [tot_cons] at ht
    have : w ≠ [] := hne w (by simp)
    cases w with
    | nil => exact absurd rfl this
    | cons x r => rw [List.length_cons] at ht; omega
  | m + 1, w :: ws, hne, hsf, ht, h => by
    rw [mrg_cons] at h
    cases e : (good (w :: ws) (w :: ws)).head? with
    | some x =>
      rw [e] at h
      have h' : (mrg m (step x (w :: ws))).map (x :: ·) = none := h
      have lt := tot_step x (w :: ws) (good_mem hne e)
      obtain ⟨_, hf⟩ := good_free e
      refine mrg_none m (step x (w :: ws)) step_ne (fun l hl => ?_) (by omega) (by
        cases e2 : mrg m (step x (w :: ws)) with
        | none => rfl
        | some r => rw [e2] at h'; cases h')
      obtain ⟨l', hl', rfl⟩ := step_mem hl
      obtain ⟨l2, hl2, a, ea⟩ := hsf l' hl'
      rcases rest_of (hf l' hl') with q | ⟨t, et, q⟩
      · rw [q]; exact ⟨l2, hl2, a, ea⟩
      · rw [q]; exact ⟨l2, hl2, a ++ [x], by rw [ea, et]; simp⟩
    | none =>
      have nf : ∀ l ∈ w :: ws, free (hd l) (w :: ws) = false := fun l hl => by
        cases q : free (hd l) (w :: ws) with
        | false => rfl
        | true =>
          exfalso
          have hm : hd l ∈ good (w :: ws) (w :: ws) := List.mem_map.mpr ⟨l, List.mem_filter.mpr ⟨hl, q⟩, rfl⟩
          rw [List.head?_eq_none_iff.mp e] at hm
          cases hm
      refine ring_of (fun x y z => Rch.trans) ((w :: ws).map hd) (by simp) fun h hh => ?_
      obtain ⟨l, hl, rfl⟩ := List.mem_map.mp hh
      have q := nf l hl
      unfold free at q
      rw [List.all_eq_false] at q
      obtain ⟨l', hl', q⟩ := q
      have q2 : memT (hd l) l' = true := by
        cases z : memT (hd l) l' with
        | true => rfl
        | false => rw [z] at q; exact absurd rfl q
      unfold memT at q2
      rw [anyb, decide_eq_true_eq] at q2
      refine ⟨hd l', List.mem_map.mpr ⟨l', hl', rfl⟩, ?_⟩
      cases l' with
      | nil => cases q2
      | cons y t =>
        obtain ⟨l2, hl2, a, ea⟩ := hsf _ hl'
        exact rch_along hl2 a y t ea _ q2
/-- what stands ahead in a list without repetitions -/
theorem idx_lt : ∀ {r : List Str} {x y : Str}, r.Nodup → [x, y].Sublist r → r.idxOf x < r.idxOf y
  | [], x, y, _, h => by cases h
  | c :: t, x, y, nd, h => by
    rw [List.nodup_cons] at nd
    cases h with
    | cons _ h =>
      have hx : x ∈ t := h.subset (by simp)
      have hy : y ∈ t := h.subset (by simp)
      have cx : c ≠ x := fun e => nd.1 (e ▸ hx)
      have cy : c ≠ y := fun e => nd.1 (e ▸ hy)
      have ih := idx_lt nd.2 h
      have bx : (c == x) = false := beq_eq_false_iff_ne.mpr cx
      have by_ : (c == y) = false := beq_eq_false_iff_ne.mpr cy
      rw [List.idxOf_cons, List.idxOf_cons, bx, by_]
      exact Nat.succ_lt_succ ih
    | cons_cons _ h =>
      have hy : y ∈ t := h.subset (by simp)
      have cy : c ≠ y := fun e => nd.1 (e ▸ hy)
      have bx : (c == c) = true := beq_self_eq_true c
      have by_ : (c == y) = false := beq_eq_false_iff_ne.mpr cy
      rw [List.idxOf_cons, List.idxOf_cons, bx, by_]
      exact Nat.succ_pos _
theorem ring_no {ls : List (List Str)} {r : List Str} (nd : r.Nodup) (hr : ∀ l ∈ ls, l.Sublist r) (x : Str) : ¬ Rch (Edge ls) x x := by
  have e1 : ∀ a b, Edge ls a b → r.idxOf a < r.idxOf b := fun a b ⟨l, hl, p, q, el⟩ => by
    refine idx_lt nd (List.Sublist.trans ?_ (hr l hl))
    rw [el]
    exact (List.Sublist.append (List.nil_sublist p) (List.Sublist.cons_cons a (List.Sublist.cons_cons b (List.nil_sublist q))))
  have e2 : ∀ a b, Rch (Edge ls) a b → r.idxOf a < r.idxOf b := fun a b h => by
    induction h with
    | one e => exact e1 _ _ e
    | more e _ ih => exact Nat.lt_trans (e1 _ _ e) ih
  exact fun h => Nat.lt_irrefl _ (e2 x x h)
/-- the whole of merges and rings -/
theorem merge_ring {ls : List (List Str)} (nd : ∀ l ∈ ls, l.Nodup) : mrgL ls = none ↔ ∃ x, Rch (Edge ls) x x := by
  have nm : ∀ l ∈ ne0 ls, l ∈ ls := fun l hl => (List.mem_filter.mp hl).1
  constructor
  · intro h
    exact mrg_none _ _ ne0_ne (fun l hl => ⟨l, nm l hl, [], rfl⟩) (by rw [tot_ne0]; exact Nat.le_refl _) h
  · rintro ⟨x, hx⟩
    cases e : mrgL ls with
    | none => rfl
    | some r =>
      exfalso
      obtain ⟨h1, h2, h3⟩ := mrg_order _ _ _ ne0_ne (fun l hl => nd l (nm l hl)) e
      refine ring_no h1 (fun l hl => ?_) x hx
      cases l with
      | nil => exact List.nil_sublist _
      | cons y t =>
        have hm : (y :: t) ∈ ne0 ls := List.mem_filter.mpr ⟨hl, rfl⟩
        rw [← h3 _ hm]
        exact List.filter_sublist
end Y


/-! Z5: what stands behind each text, as a table; the table as a dict. -/
namespace Y
open PySem PySem.Spec PyProof.Rows L2
abbrev Tb := List (Str × List Str)
def getA (m : Tb) (k : Str) : Option (List Str) := (m.find? fun p => decide (p.1 = k)).map (·.2)
def putA (m : Tb) (k : Str) (v : List Str) : Tb := if (m.any fun p => decide (p.1 = k)) = true then m.map (fun p => if p.1 = k then (p.1, v) else p) else m ++ [(k, v)]
def sucA (m : Tb) (k : Str) : List Str := (getA m k).getD []
def embT (m : Tb) : List (D × D) := m.map fun p => (.str p.1, sD p.2)
theorem keyStr (x y : Str) : decide (keyK (.str x) = some (.inr y)) = decide (x = y) := decide_eq_decide.mpr ⟨fun h => by cases h; rfl, fun h => by rw [h]; rfl⟩
theorem valD_emb (x : Str) : ∀ m : Tb, valD (embT m) (.inr x) = (getA m x).map sD
  | [] => rfl
  | p :: m => by
    have ih := valD_emb x m
    unfold valD getA embT at ih ⊢
    rw [List.map_cons, List.find?_cons, List.find?_cons]
    simp only [keyStr]
    by_cases e : p.1 = x
    · rw [decide_eq_true e]
      rfl
    · rw [decide_eq_false e]
      exact ih
theorem putD_emb (x : Str) (v : List Str) (m : Tb) : putD (embT m) (.inr x) (sD v) = embT (putA m x v) := by
  unfold putD putA embT
  have e1 : ((m.map fun p => (D.str p.1, sD p.2)).any fun p => decide (keyK p.1 = some (.inr x))) = m.any fun p => decide (p.1 = x) := by
    rw [List.any_map]
    congr 1
    funext p
    exact keyStr p.1 x
  rw [e1]
  split
  · rw [List.map_map, List.map_map]
    apply List.map_congr_left
    intro p _
    show (if keyK (.str p.1) = some (.inr x) then (D.str p.1, sD v) else (D.str p.1, sD p.2)) = _
    by_cases e : p.1 = x
    · rw [if_pos (by rw [e]; rfl)]
      show _ = (fun q : Str × List Str => (D.str q.1, sD q.2)) (if p.1 = x then (p.1, v) else p)
      rw [if_pos e]
    · rw [if_neg (fun h => by cases h; exact e rfl)]
      show _ = (fun q : Str × List Str => (D.str q.1, sD q.2)) (if p.1 = x then (p.1, v) else p)
      rw [if_neg e]
  · rw [List.map_append]; rfl
theorem getA_none {m : Tb} {k : Str} : getA m k = none ↔ k ∉ m.map (·.1) := by
  unfold getA
  rw [Option.map_eq_none_iff, List.find?_eq_none]
  constructor
  · intro h hm
    obtain ⟨p, hp, e⟩ := List.mem_map.mp hm
    exact h p hp (decide_eq_true e)
  · intro h p hp e
    exact h (List.mem_map.mpr ⟨p, hp, of_decide_eq_true e⟩)
theorem getA_put (m : Tb) (k j : Str) (v : List Str) : getA (putA m k v) j = if j = k then some v else getA m j := by
  unfold putA
  split
  · rename_i h
    rw [List.any_eq_true] at h
    obtain ⟨p, hp, e⟩ := h
    unfold getA
    induction m with
    | nil => cases hp
    | cons q m ih =>
      rw [List.map_cons, List.find?_cons, List.find?_cons]
      have fst : (if q.1 = k then (q.1, v) else q).1 = q.1 := by split <;> rfl
      rw [fst]
      by_cases e2 : q.1 = j
      · rw [decide_eq_true e2]
        by_cases e3 : j = k
        · rw [if_pos e3, if_pos (e2.trans e3)]; rfl
        · rw [if_neg e3, if_neg (fun z => e3 (e2.symm.trans z))]
      · rw [decide_eq_false e2]
        by_cases e3 : q.1 = k
        · have ne : j ≠ k := fun z => e2 (e3.trans z.symm)
          rw [if_neg ne]
          have gen : ∀ t : Tb, ((t.map fun p => if p.1 = k then (p.1, v) else p).find? fun p => decide (p.1 = j)).map (·.2) = (t.find? fun p => decide (p.1 = j)).map (·.2) := by
            intro t
            induction t with
            | nil => rfl
            | cons r t it =>
              rw [List.map_cons, List.find?_cons, List.find?_cons]
              have fr : (if r.1 = k then (r.1, v) else r).1 = r.1 := by split <;> rfl
              rw [fr]
              by_cases e4 : r.1 = j
              · rw [decide_eq_true e4, if_neg (fun z => ne (e4.symm.trans z))]
              · rw [decide_eq_false e4]; exact it
          exact gen m
        · rcases List.mem_cons.mp hp with z | z
          · subst z; exact absurd (of_decide_eq_true e) e3
          · exact ih z
  · rename_i h
    have h' : k ∉ m.map (·.1) := fun hm => by
      obtain ⟨p, hp, e⟩ := List.mem_map.mp hm
      exact h (List.any_eq_true.mpr ⟨p, hp, decide_eq_true e⟩)
    have hk := getA_none.mpr h'
    unfold getA at hk ⊢
    rw [List.find?_append]
    by_cases e : j = k
    · subst e
      rw [if_pos rfl]
      rw [Option.map_eq_none_iff] at hk
      rw [hk, Option.none_or, List.find?_cons, decide_eq_true rfl]; rfl
    · rw [if_neg e]
      cases f : m.find? fun p => decide (p.1 = j) with
      | some p => rfl
      | none =>
        rw [Option.none_or, List.find?_cons, decide_eq_false (fun z => e z.symm)]; rfl
theorem keys_put (m : Tb) (k : Str) (v : List Str) : (putA m k v).map (·.1) = if k ∈ m.map (·.1) then m.map (·.1) else m.map (·.1) ++ [k] := by
  unfold putA
  have e : ((m.any fun p => decide (p.1 = k)) = true) ↔ k ∈ m.map (·.1) := by
    rw [List.any_eq_true, List.mem_map]
    exact ⟨fun ⟨p, hp, e⟩ => ⟨p, hp, of_decide_eq_true e⟩, fun ⟨p, hp, e⟩ => ⟨p, hp, decide_eq_true e⟩⟩
  by_cases h : k ∈ m.map (·.1)
  · rw [if_pos (e.mpr h), if_pos h, List.map_map]
    apply List.map_congr_left
    intro p _
    show (if p.1 = k then (p.1, v) else p).1 = p.1
    split <;> rfl
  · rw [if_neg (fun z => h (e.mp z)), if_neg h, List.map_append]; rfl
/-- the places of a list below n, one after another -/
def bhI (l : List Str) : Nat → Tb → Tb
  | 0, m => m
  | n + 1, m => match l[n]? with
    | some x => putA (bhI l n m) x (sucA (bhI l n m) x ++ (l.drop (n + 1)).take 1)
    | none => bhI l n m
def bhO (ls : List (List Str)) : Nat → Tb
  | 0 => []
  | n + 1 => match ls[n]? with
    | some l => bhI l l.length (bhO ls n)
    | none => bhO ls n
theorem bhI_some {l : List Str} {m : Tb} {n : Nat} {x : Str} (e : l[n]? = some x) : bhI l (n + 1) m = putA (bhI l n m) x (sucA (bhI l n m) x ++ (l.drop (n + 1)).take 1) := by
  show (match l[n]? with
    | some x => putA (bhI l n m) x (sucA (bhI l n m) x ++ (l.drop (n + 1)).take 1)
    | none => bhI l n m) = _
  rw [e]
theorem bhI_none {l : List Str} {m : Tb} {n : Nat} (e : l[n]? = none) : bhI l (n + 1) m = bhI l n m := by
  show (match l[n]? with
    | some x => putA (bhI l n m) x (sucA (bhI l n m) x ++ (l.drop (n + 1)).take 1)
    | none => bhI l n m) = _
  rw [e]
theorem bhO_some {ls : List (List Str)} {n : Nat} {l : List Str} (e : ls[n]? = some l) : bhO ls (n + 1) = bhI l l.length (bhO ls n) := by
  show (match ls[n]? with
    | some l => bhI l l.length (bhO ls n)
    | none => bhO ls n) = _
  rw [e]
theorem bhO_none {ls : List (List Str)} {n : Nat} (e : ls[n]? = none) : bhO ls (n + 1) = bhO ls n := by
  show (match ls[n]? with
    | some l => bhI l l.length (bhO ls n)
    | none => bhO ls n) = _
  rw [e]
structure TbOk (m : Tb) (c : Nat) : Prop where
  nd : (m.map (·.1)).Nodup
  sz : ∀ x, (sucA m x).length ≤ c
  ln : m.length ≤ c
theorem TbOk.put {m : Tb} {c : Nat} (h : TbOk m c) (x : Str) (v : List Str) (hv : v.length ≤ c + 1) : TbOk (putA m x v) (c + 1) := by
  refine ⟨?_, fun y => ?_, ?_⟩
  · rw [keys_put]
    split
    · exact h.nd
    · rename_i hx
      exact List.nodup_append.mpr ⟨h.nd, by simp, fun a ha b hb e => hx (by rw [List.mem_singleton] at hb; rw [← hb, ← e]; exact ha)⟩
  · unfold sucA
    rw [getA_put]
    split
    · exact hv
    · exact Nat.le_succ_of_le (h.sz y)
  · have e : (putA m x v).length = ((putA m x v).map (·.1)).length := by rw [List.length_map]
    rw [e, keys_put]
    have := h.ln
    split
    · rw [List.length_map]; omega
    · rw [List.length_append, List.length_map, List.length_singleton]; omega
theorem bhI_ok {l : List Str} {m : Tb} {c : Nat} (h : TbOk m c) : ∀ n, TbOk (bhI l n m) (c + n)
  | 0 => h
  | n + 1 => by
    have ih := bhI_ok (l := l) h n
    cases e : l[n]? with
    | some x =>
      rw [bhI_some e]
      refine ih.put x _ ?_
      have := ih.sz x
      rw [List.length_append, List.length_take]
      omega
    | none =>
      rw [bhI_none e]
      exact ⟨ih.nd, fun y => Nat.le_succ_of_le (ih.sz y), Nat.le_succ_of_le ih.ln⟩
theorem bhI_suc {l : List Str} {m : Tb} (x y : Str) : ∀ n, y ∈ sucA (bhI l n m) x ↔ (y ∈ sucA m x ∨ ∃ i, i < n ∧ l[i]? = some x ∧ l[i + 1]? = some y)
  | 0 => ⟨.inl, fun h => h.elim id fun ⟨i, hi, _⟩ => absurd hi (Nat.not_lt_zero i)⟩
  | n + 1 => by
    have ih := bhI_suc (l := l) (m := m) x y n
    have hd : ∀ z : Str, z ∈ (l.drop (n + 1)).take 1 ↔ l[n + 1]? = some z := fun z => by
      have e : (l.drop (n + 1))[0]? = l[n + 1]? := by rw [List.getElem?_drop]
      cases q : l.drop (n + 1) with
      | nil => rw [q] at e; rw [← e]; simp
      | cons a t =>
        rw [q] at e
        rw [← e]
        simp [eq_comm]
    have split_lt : (∃ i, i < n + 1 ∧ l[i]? = some x ∧ l[i + 1]? = some y) ↔ ((∃ i, i < n ∧ l[i]? = some x ∧ l[i + 1]? = some y) ∨ (l[n]? = some x ∧ l[n + 1]? = some y)) := by
      constructor
      · rintro ⟨i, hi, h1, h2⟩
        rcases Nat.lt_or_ge i n with q | q
        · exact .inl ⟨i, q, h1, h2⟩
        · have : i = n := by omega
          subst this
          exact .inr ⟨h1, h2⟩
      · rintro (⟨i, hi, h1, h2⟩ | ⟨h1, h2⟩)
        · exact ⟨i, by omega, h1, h2⟩
        · exact ⟨n, by omega, h1, h2⟩
    rw [split_lt, ← or_assoc, ← ih]
    cases e : l[n]? with
    | none =>
      rw [bhI_none e]
      exact ⟨.inl, fun h => h.elim id fun ⟨q, _⟩ => nomatch q⟩
    | some z =>
      rw [bhI_some e]
      have e2 : sucA (putA (bhI l n m) z (sucA (bhI l n m) z ++ (l.drop (n + 1)).take 1)) x = if x = z then sucA (bhI l n m) z ++ (l.drop (n + 1)).take 1 else sucA (bhI l n m) x := by
        unfold sucA
        rw [getA_put]
        split <;> rfl
      rw [e2]
      by_cases q : x = z
      · subst q
        rw [if_pos rfl, List.mem_append, hd]
        simp
      · rw [if_neg q]
        exact ⟨.inl, fun h => h.elim id fun ⟨q2, _⟩ => absurd (Option.some.inj q2).symm q⟩
theorem bhI_key {l : List Str} {m : Tb} (x : Str) : ∀ n, x ∈ (bhI l n m).map (·.1) ↔ (x ∈ m.map (·.1) ∨ ∃ i, i < n ∧ l[i]? = some x)
  | 0 => ⟨.inl, fun h => h.elim id fun ⟨i, hi, _⟩ => absurd hi (Nat.not_lt_zero i)⟩
  | n + 1 => by
    have ih := bhI_key (l := l) (m := m) x n
    have split_lt : (∃ i, i < n + 1 ∧ l[i]? = some x) ↔ ((∃ i, i < n ∧ l[i]? = some x) ∨ l[n]? = some x) := by
      constructor
      · rintro ⟨i, hi, h1⟩
        rcases Nat.lt_or_ge i n with q | q
        · exact .inl ⟨i, q, h1⟩
        · have : i = n := by omega
          subst this
          exact .inr h1
      · rintro (⟨i, hi, h1⟩ | h1)
        · exact ⟨i, by omega, h1⟩
        · exact ⟨n, by omega, h1⟩
    rw [split_lt, ← or_assoc, ← ih]
    cases e : l[n]? with
    | none =>
      rw [bhI_none e]
      exact ⟨.inl, fun h => h.elim id fun q => nomatch q⟩
    | some z =>
      rw [bhI_some e, keys_put]
      split
      · rename_i hz
        exact ⟨.inl, fun h => h.elim id fun q => by cases q; exact hz⟩
      · rw [List.mem_append, List.mem_singleton]
        exact ⟨fun h => h.imp id fun q => by rw [q], fun h => h.imp id fun q => by cases q; rfl⟩
theorem edge_iff {ls : List (List Str)} {x y : Str} : Edge ls x y ↔ ∃ l ∈ ls, ∃ i : Nat, l[i]? = some x ∧ l[i + 1]? = some y := by
  constructor
  · rintro ⟨l, hl, a, b, rfl⟩
    refine ⟨_, hl, a.length, by simp, ?_⟩
    rw [List.getElem?_append_right (by omega)]
    simp [Nat.add_sub_cancel_left]
  · rintro ⟨l, hl, i, h1, h2⟩
    refine ⟨l, hl, l.take i, l.drop (i + 2), ?_⟩
    obtain ⟨g1, e1⟩ := List.getElem?_eq_some_iff.mp h1
    obtain ⟨g2, e2⟩ := List.getElem?_eq_some_iff.mp h2
    have q1 : l.drop i = x :: l.drop (i + 1) := by rw [List.drop_eq_getElem_cons g1, e1]
    have q2 : l.drop (i + 1) = y :: l.drop (i + 2) := by rw [List.drop_eq_getElem_cons g2, e2]
    rw [← q2, ← q1, List.take_append_drop]
/-- the whole table -/
theorem bhO_ok {ls : List (List Str)} {k : Nat} (h : ∀ l ∈ ls, l.length ≤ k) : ∀ n, TbOk (bhO ls n) (k * n)
  | 0 => ⟨List.nodup_nil, fun _ => Nat.zero_le _, Nat.zero_le _⟩
  | n + 1 => by
    have ih := bhO_ok h n
    have hm : k * (n + 1) = k * n + k := Nat.mul_succ k n
    cases e : ls[n]? with
    | some l =>
      rw [bhO_some e]
      have hl := h l (List.mem_of_getElem? e)
      have z := bhI_ok (l := l) ih l.length
      exact ⟨z.nd, fun x => Nat.le_trans (z.sz x) (by omega), Nat.le_trans z.ln (by omega)⟩
    | none =>
      rw [bhO_none e]
      exact ⟨ih.nd, fun x => Nat.le_trans (ih.sz x) (by omega), Nat.le_trans ih.ln (by omega)⟩
theorem bhO_suc {ls : List (List Str)} (x y : Str) : ∀ n, y ∈ sucA (bhO ls n) x ↔ Edge (ls.take n) x y
  | 0 => ⟨fun h => (nomatch h), fun ⟨l, hl, _⟩ => (nomatch hl)⟩
  | n + 1 => by
    have ih := bhO_suc (ls := ls) x y n
    cases e : ls[n]? with
    | none =>
      have hl : ls.length ≤ n := List.getElem?_eq_none_iff.mp e
      rw [bhO_none e, ih, List.take_of_length_le hl, List.take_of_length_le (by omega)]
    | some l =>
      rw [bhO_some e, bhI_suc, ih, List.take_succ, e]
      constructor
      · rintro (⟨l', h1, h2⟩ | ⟨i, _, h2, h3⟩)
        · exact ⟨l', List.mem_append_left _ h1, h2⟩
        · have : Edge [l] x y := edge_iff.mpr ⟨l, by simp, i, h2, h3⟩
          obtain ⟨l', q1, q2⟩ := this
          exact ⟨l', List.mem_append_right _ (by simpa using q1), q2⟩
      · rintro ⟨l', h1, h2⟩
        rcases List.mem_append.mp h1 with q | q
        · exact .inl ⟨l', q, h2⟩
        · have q' : l' = l := by simpa using q
          subst q'
          obtain ⟨l2, z1, i, z2, z3⟩ := edge_iff.mp (⟨l', by simp, h2⟩ : Edge [l'] x y)
          have : l2 = l' := by simpa using z1
          subst this
          exact .inr ⟨i, (List.getElem?_eq_some_iff.mp z2).1, z2, z3⟩
theorem bhO_key {ls : List (List Str)} (x : Str) : ∀ n, x ∈ (bhO ls n).map (·.1) ↔ ∃ l ∈ ls.take n, x ∈ l
  | 0 => ⟨fun h => (nomatch h), fun ⟨l, hl, _⟩ => (nomatch hl)⟩
  | n + 1 => by
    have ih := bhO_key (ls := ls) x n
    cases e : ls[n]? with
    | none =>
      have hl : ls.length ≤ n := List.getElem?_eq_none_iff.mp e
      rw [bhO_none e, ih, List.take_of_length_le hl, List.take_of_length_le (by omega)]
    | some l =>
      rw [bhO_some e, bhI_key, ih, List.take_succ, e]
      constructor
      · rintro (⟨l', h1, h2⟩ | ⟨i, _, h2⟩)
        · exact ⟨l', List.mem_append_left _ h1, h2⟩
        · exact ⟨l, List.mem_append_right _ (by simp), List.mem_of_getElem? h2⟩
      · rintro ⟨l', h1, h2⟩
        rcases List.mem_append.mp h1 with q | q
        · exact .inl ⟨l', q, h2⟩
        · have q' : l' = l := by simpa using q
          subst q'
          obtain ⟨i, hi, e2⟩ := List.mem_iff_getElem.mp h2
          exact .inr ⟨i, hi, by rw [List.getElem?_eq_getElem hi, e2]⟩
end Y


namespace K03
open PySem PySem.Spec PyProof.Rows L2 Y
abbrev PW : Program := PySem.Challenge.pw_sworntypes_k03_whole_merges_and_rings
def top (i : Nat) : Stmt := PW.main.body.getD i (.Pass ⟨0, 0, 0, 0⟩)
/-! can_be_first -/
abbrev s_can_be_first : Stmt := top 1
def N_can_be_first : List Str := ["name", "lists", "one"]
def m_can_be_first : Ts := (.cons (.ret (.bi .all (.cons (.comp false (.cmp .NotIn (.var 0) (.sl (.var 2) (.int 1) .nop)) (.n 2) (.e (.var 1)) .nil [2]) .nil))) .nil)
def k_can_be_first : CS := { n := 0, fx := fun j => match j with  | _ => "", ks := fun j => match j with  | _ => [] }
theorem sc_can_be_first : FnScope N_can_be_first ["name", "lists"] (defScope s_can_be_first) := ⟨rfl, rfl, rfl, by decide +kernel, rfl, by decide +kernel, by decide +kernel⟩
theorem ok_can_be_first : okSs k_can_be_first ⟨N_can_be_first, defScope s_can_be_first, fun _ => true⟩ m_can_be_first (defBody s_can_be_first) = true := by decide +kernel
/-! merged -/
abbrev s_merged : Stmt := top 2
def N_merged : List Str := ["lists", "waiting", "found", "one", "first", "rest", "name"]
def m_merged : Ts := (.cons (.set 1 (.comp false (.bi .list (.cons (.var 3) .nil)) (.n 3) (.e (.var 0)) (.cons (.cmp .NotEq (.var 3) (.lst false .nil)) .nil) [3])) (.cons (.set 2 (.lst true .nil)) (.cons (.whl (.cmp .NotEq (.var 1) (.lst false .nil)) (.cons (.for_ (.s [4, 5]) (.e (.var 1)) (.cons (.ife (.call 0 (.cons (.var 4) (.cons (.var 1) .nil)) .nil) (.cons .brk .nil) .nil) .nil) (.cons (.ret .non) .nil)) (.cons (.ex (.meth .append (.var 2) (.cons (.var 4) .nil))) (.cons (.set 1 (.comp false (.comp false (.var 6) (.n 6) (.e (.var 3)) (.cons (.cmp .NotEq (.var 6) (.var 4)) .nil) [6]) (.n 3) (.e (.var 1)) .nil [3])) (.cons (.set 1 (.comp false (.var 3) (.n 3) (.e (.var 1)) (.cons (.cmp .NotEq (.var 3) (.lst false .nil)) .nil) [3])) .nil))))) (.cons (.ret (.var 2)) .nil))))
def k_merged : CS := { n := 1, fx := fun j => match j with | 0 => "can_be_first" | _ => "", ks := fun j => match j with  | _ => [] }
theorem sc_merged : FnScope N_merged ["lists"] (defScope s_merged) := ⟨rfl, rfl, rfl, by decide +kernel, rfl, by decide +kernel, by decide +kernel⟩
theorem ok_merged : okSs k_merged ⟨N_merged, defScope s_merged, fun _ => true⟩ m_merged (defBody s_merged) = true := by decide +kernel
/-! law_bag -/
abbrev s_law_bag : Stmt := top 4
def N_law_bag : List Str := ["_law_script", "_law_at", "_law_cell", "_law_great"]
def m_law_bag : Ts := (.cons (.set 2 (.ife (.cmp .Lt (.var 1) (.bi .len (.cons (.var 0) .nil))) (.ix (.var 0) (.var 1)) (.int 0))) (.cons (.set 3 (.ife (.cmp .GtE (.bi .abs (.cons (.var 2) .nil)) (.bin .Pow (.int 10) (.int 18))) (.bi .abs (.cons (.var 2) .nil)) (.int 0))) (.cons (.ret (.lst true (.cons (.var 3) (.cons (.bin .Mod (.bin .Add (.bin .Add (.bin .Mult (.bin .Mod (.var 2) (.int 2305843009213693951)) (.int 90917)) (.bin .Mult (.int 31337) (.var 1))) (.int 271)) (.int 2305843009213693907)) (.cons (.int 0) .nil))))) .nil)))
def k_law_bag : CS := { n := 0, fx := fun j => match j with  | _ => "", ks := fun j => match j with  | _ => [] }
theorem sc_law_bag : FnScope N_law_bag ["_law_script", "_law_at"] (defScope s_law_bag) := ⟨rfl, rfl, rfl, by decide +kernel, rfl, by decide +kernel, by decide +kernel⟩
theorem ok_law_bag : okSs k_law_bag ⟨N_law_bag, defScope s_law_bag, fun _ => true⟩ m_law_bag (defBody s_law_bag) = true := by decide +kernel
/-! law_take -/
abbrev s_law_take : Stmt := top 5
def N_law_take : List Str := ["_law_bag_here", "_law_many", "_law_mixed", "_law_digit"]
def m_law_take : Ts := (.cons (.ife (.cmp .Gt (.ix (.var 0) (.int 0)) (.int 0)) (.cons (.set 3 (.bin .Mod (.ix (.var 0) (.int 0)) (.var 1))) (.cons (.sub (.var 0) (.int 0) (.bin .FloorDiv (.ix (.var 0) (.int 0)) (.var 1))) (.cons (.ret (.var 3)) .nil))) .nil) (.cons (.sub (.var 0) (.int 2) (.bin .Add (.ix (.var 0) (.int 2)) (.int 1))) (.cons (.set 2 (.bin .Mod (.bin .Pow (.bin .Add (.bin .Add (.ix (.var 0) (.int 1)) (.bin .Mult (.bin .Mult (.int 60493) (.ix (.var 0) (.int 2))) (.ix (.var 0) (.int 2)))) (.int 7)) (.int 3)) (.int 2305843009213693951))) (.cons (.ret (.bin .Mod (.bin .FloorDiv (.bin .Mod (.bin .Add (.bin .Mult (.var 2) (.int 52361)) (.bin .Mult (.int 99991) (.ix (.var 0) (.int 2)))) (.int 2305843009213693907)) (.int 8192)) (.var 1))) .nil))))
def k_law_take : CS := { n := 0, fx := fun j => match j with  | _ => "", ks := fun j => match j with  | _ => [] }
theorem sc_law_take : FnScope N_law_take ["_law_bag_here", "_law_many"] (defScope s_law_take) := ⟨rfl, rfl, rfl, by decide +kernel, rfl, by decide +kernel, by decide +kernel⟩
theorem ok_law_take : okSs k_law_take ⟨N_law_take, defScope s_law_take, fun _ => true⟩ m_law_take (defBody s_law_take) = true := by decide +kernel
/-! law_drawn_lists -/
abbrev s_law_drawn_lists : Stmt := top 6
def N_law_drawn_lists : List Str := ["_law_bag_here", "_law_found", "_law_turn", "_law_again", "_law_left", "_law_line"]
def m_law_drawn_lists : Ts := (.cons (.set 1 (.lst true .nil)) (.cons (.for_ (.n 2) (.r1 (.call 0 (.cons (.var 0) (.cons (.int 6) .nil)) .nil)) (.cons (.par 4 5 (.lst true (.cons (.str "p") (.cons (.str "q") (.cons (.str "r") (.cons (.str "s") (.cons (.str "t") (.cons (.str "u") .nil))))))) (.lst true .nil)) (.cons (.for_ (.n 3) (.r1 (.call 0 (.cons (.var 0) (.cons (.int 5) .nil)) .nil)) (.cons (.ex (.meth .append (.var 5) (.cons (.meth .popAt (.var 4) (.cons (.call 0 (.cons (.var 0) (.cons (.ix (.lst false (.cons (.int 2) (.cons (.int 2) (.cons (.bi .len (.cons (.var 4) .nil)) .nil)))) (.call 0 (.cons (.var 0) (.cons (.int 3) .nil)) .nil)) .nil)) .nil) .nil)) .nil))) .nil) .nil) (.cons (.ex (.meth .append (.var 1) (.cons (.frz (.var 5)) .nil))) .nil))) .nil) (.cons (.ret (.frz (.var 1))) .nil)))
def k_law_drawn_lists : CS := { n := 1, fx := fun j => match j with | 0 => "_law_take" | _ => "", ks := fun j => match j with  | _ => [] }
theorem sc_law_drawn_lists : FnScope N_law_drawn_lists ["_law_bag_here"] (defScope s_law_drawn_lists) := ⟨rfl, rfl, rfl, by decide +kernel, rfl, by decide +kernel, by decide +kernel⟩
theorem ok_law_drawn_lists : okSs k_law_drawn_lists ⟨N_law_drawn_lists, defScope s_law_drawn_lists, fun _ => true⟩ m_law_drawn_lists (defBody s_law_drawn_lists) = true := by decide +kernel
/-! law_behind -/
abbrev s_law_behind : Stmt := top 7
def N_law_behind : List Str := ["_law_lists", "_law_found", "_law_line", "_law_place", "_law_one"]
def m_law_behind : Ts := (.cons (.set 1 .dnew) (.cons (.for_ (.n 2) (.e (.var 0)) (.cons (.for_ (.t [3, 4]) (.en (.var 2)) (.cons (.sub (.var 1) (.var 4) (.bin .Add (.dget (.var 1) (.var 4) (.lst false .nil)) (.sl (.var 2) (.bin .Add (.var 3) (.int 1)) (.bin .Add (.var 3) (.int 2))))) .nil) .nil) .nil) .nil) (.cons (.ret (.frz (.var 1))) .nil)))
def k_law_behind : CS := { n := 0, fx := fun j => match j with  | _ => "", ks := fun j => match j with  | _ => [] }
theorem sc_law_behind : FnScope N_law_behind ["_law_lists"] (defScope s_law_behind) := ⟨rfl, rfl, rfl, by decide +kernel, rfl, by decide +kernel, by decide +kernel⟩
theorem ok_law_behind : okSs k_law_behind ⟨N_law_behind, defScope s_law_behind, fun _ => true⟩ m_law_behind (defBody s_law_behind) = true := by decide +kernel
/-! law_has_ring -/
abbrev s_law_has_ring : Stmt := top 8
def N_law_has_ring : List Str := ["_law_behind_here", "_law_start", "_law_seen", "_law_ahead", "_law_one"]
def m_law_has_ring : Ts := (.cons (.for_ (.n 1) (.e (.var 0)) (.cons (.par 2 3 (.lst true .nil) (.bi .listC (.cons (.ix (.var 0) (.var 1)) .nil))) (.cons (.whl (.cmp .NotEq (.var 3) (.lst false .nil)) (.cons (.set 4 (.meth .pop (.var 3) .nil)) (.cons (.ife (.cmp .Eq (.var 4) (.var 1)) (.cons (.ret (.bl true)) .nil) .nil) (.cons (.ife (.cmp .NotIn (.var 4) (.var 2)) (.cons (.ex (.meth .append (.var 2) (.cons (.var 4) .nil))) (.cons (.ex (.meth .extend (.var 3) (.cons (.ix (.var 0) (.var 4)) .nil))) .nil)) .nil) .nil)))) .nil)) .nil) (.cons (.ret (.bl false)) .nil))
def k_law_has_ring : CS := { n := 0, fx := fun j => match j with  | _ => "", ks := fun j => match j with  | _ => [] }
theorem sc_law_has_ring : FnScope N_law_has_ring ["_law_behind_here"] (defScope s_law_has_ring) := ⟨rfl, rfl, rfl, by decide +kernel, rfl, by decide +kernel, by decide +kernel⟩
theorem ok_law_has_ring : okSs k_law_has_ring ⟨N_law_has_ring, defScope s_law_has_ring, fun _ => true⟩ m_law_has_ring (defBody s_law_has_ring) = true := by decide +kernel
/-! law_first_ones -/
abbrev s_law_first_ones : Stmt := top 9
def N_law_first_ones : List Str := ["_law_lists", "_law_known", "_law_left", "_law_heads", "_law_line", "_law_one"]
def m_law_first_ones : Ts := (.cons (.set 2 (.comp false (.comp false (.var 5) (.n 5) (.e (.var 4)) (.cons (.cmp .NotIn (.var 5) (.var 1)) .nil) [5]) (.n 4) (.e (.var 0)) .nil [4])) (.cons (.set 3 (.comp false (.ix (.var 4) (.int 0)) (.n 4) (.e (.var 2)) (.cons (.cmp .NotEq (.var 4) (.lst false .nil)) .nil) [4])) (.cons (.ret (.comp false (.var 5) (.n 5) (.e (.var 3)) (.cons (.cmp .Eq (.comp false (.var 4) (.n 4) (.e (.var 2)) (.cons (.cmp .In (.var 5) (.sl (.var 4) (.int 1) .nop)) .nil) [4]) (.lst false .nil)) .nil) [5])) .nil)))
def k_law_first_ones : CS := { n := 0, fx := fun j => match j with  | _ => "", ks := fun j => match j with  | _ => [] }
theorem sc_law_first_ones : FnScope N_law_first_ones ["_law_lists", "_law_known"] (defScope s_law_first_ones) := ⟨rfl, rfl, rfl, by decide +kernel, rfl, by decide +kernel, by decide +kernel⟩
theorem ok_law_first_ones : okSs k_law_first_ones ⟨N_law_first_ones, defScope s_law_first_ones, fun _ => true⟩ m_law_first_ones (defBody s_law_first_ones) = true := by decide +kernel
/-! law -/
abbrev s_law : Stmt := top 10
def N_law : List Str := ["_law_script", "_law_at", "_law_bag_here", "_law_turn", "_law_some", "_law_found", "_law_behind_here", "_law_place", "_law_one", "_law_line"]
def m_law : Ts := (.cons (.for_ (.n 1) (.r1 (.bi .max (.cons (.int 2) (.cons (.bi .min (.cons (.int 6) (.cons (.bi .len (.cons (.var 0) .nil)) .nil))) .nil)))) (.cons (.set 2 (.call 0 (.cons (.var 0) (.cons (.var 1) .nil)) .nil)) (.cons (.for_ (.n 3) (.r1 (.int 30)) (.cons (.set 4 (.call 1 (.cons (.var 2) .nil) .nil)) (.cons (.asg (.t [5, 6]) (.tup (.cons (.call 2 (.cons (.var 4) .nil) .nil) (.cons (.call 3 (.cons (.var 4) .nil) .nil) .nil)))) (.cons (.ife (.cmp .NotEq (.cmp .Is (.var 5) .non) (.call 4 (.cons (.var 6) .nil) .nil)) (.cons (.ret (.bl false)) .nil) .nil) (.cons (.ife (.cmp .IsNot (.var 5) .non) (.cons (.ife (.cmp .NotEq (.bi .sorted (.cons (.var 5) .nil)) (.bi .sorted (.cons (.var 6) .nil))) (.cons (.ret (.bl false)) .nil) .nil) (.cons (.ife (.cmp .NotEq (.comp false (.var 9) (.n 9) (.e (.var 4)) (.cons (.cmp .NotEq (.comp false (.var 8) (.n 8) (.e (.var 5)) (.cons (.cmp .In (.var 8) (.var 9)) .nil) [8]) (.var 9)) .nil) [9]) (.lst false .nil)) (.cons (.ret (.bl false)) .nil) .nil) (.cons (.for_ (.t [7, 8]) (.en (.var 5)) (.cons (.ife (.cmp .NotEq (.sl (.call 5 (.cons (.var 4) (.cons (.sl (.var 5) .nop (.var 7)) .nil)) .nil) .nop (.int 1)) (.lst false (.cons (.var 8) .nil))) (.cons (.ret (.bl false)) .nil) .nil) .nil) .nil) .nil))) .nil) .nil)))) .nil) .nil)) .nil) (.cons (.ret (.bl true)) .nil))
def k_law : CS := { n := 6, fx := fun j => match j with | 0 => "_law_bag" | 1 => "_law_drawn_lists" | 2 => "merged" | 3 => "_law_behind" | 4 => "_law_has_ring" | 5 => "_law_first_ones" | _ => "", ks := fun j => match j with  | _ => [] }
theorem sc_law : FnScope N_law ["_law_script"] (defScope s_law) := ⟨rfl, rfl, rfl, by decide +kernel, rfl, by decide +kernel, by decide +kernel⟩
theorem ok_law : okSs k_law ⟨N_law, defScope s_law, fun _ => true⟩ m_law (defBody s_law) = true := by decide +kernel
end K03


namespace K03
open PySem PySem.Spec PyProof.Rows L2 Y
def pqr : List Str := ["p", "q", "r", "s", "t", "u"]
def sp_law_bag : DSp := sp_bag
def sp_law_take : DSp := sp_take
def sp_can_be_first : DSp := Y.sp_can_be_first
def sp_merged : DSp := Y.sp_merged
def drawn (ls : List (List Str)) : Prop := ls.length ≤ 5 ∧ ∀ l ∈ ls, l.length ≤ 4 ∧ l.Nodup ∧ ∀ x ∈ l, x ∈ pqr
def sp_law_drawn_lists : DSp := fun as s Q _ => ∃ (n : Nat) (g b c : Int), as = [.cell n] ∧ s n = some (bagO g b c) ∧ (0 ≤ g ∧ 0 ≤ b ∧ b < 2305843009213693907 ∧ 0 ≤ c ∧ c < 900000) ∧
  ∀ (g' c' : Int) (ls : List (List Str)) (s' : S), s' n = some (bagO g' b c') → 0 ≤ g' → c ≤ c' → c' ≤ c + 100 → drawn ls → Q (ssD ls) s'
def sp_law_behind : DSp := fun as s Q _ => ∃ ls : List (List Str), as = [ssD ls] ∧ (ls.length ≤ 5 ∧ ∀ l ∈ ls, l.length ≤ 4) ∧ Q (.dic (embT (bhO ls ls.length))) s
def Sx (s s' : S) : Prop := ∀ k o, s k = some o → s' k = some o
def sp_law_has_ring : DSp := fun as s Q _ => ∃ (m : Tb) (c : Nat), as = [.dic (embT m)] ∧ TbOk m c ∧ c ≤ 30 ∧ (∀ x y, y ∈ sucA m x → y ∈ m.map (·.1)) ∧
  ∀ (b : Bool) (s' : S), Sx s s' → (b = true ↔ ∃ x, Rch (fun x y => y ∈ sucA m x) x x) → Q (.bl b) s'
def firsts (ls : List (List Str)) (known : List Str) : List Str := ((ne0 (ls.map (keepN known))).map hd).filter fun x => free x (ls.map (keepN known))
def sp_law_first_ones : DSp := fun as s Q _ => ∃ (ls : List (List Str)) (known : List Str), as = [ssD ls, sD known] ∧ Q (sD (firsts ls known)) s
def sp_law : DSp := fun as s Q _ => ∃ ns : List Int, as = [.xl (ns.map .int)] ∧ ns.length ≤ 63 ∧ ∀ s', Q (.bl true) s'
def c_can_be_first : Cf := { sp := fun j => match j with  | _ => fun _ _ _ _ => False, dd := fun _ => [], perm := fun j => match j with  | _ => [], np := fun j => match j with  | _ => 0, nk := fun j => match j with  | _ => 0 }
def c_merged : Cf := { sp := fun j => match j with | 0 => sp_can_be_first | _ => fun _ _ _ _ => False, dd := fun _ => [], perm := fun j => match j with  | _ => [], np := fun j => match j with  | _ => 0, nk := fun j => match j with  | _ => 0 }
def c_law_bag : Cf := { sp := fun j => match j with  | _ => fun _ _ _ _ => False, dd := fun _ => [], perm := fun j => match j with  | _ => [], np := fun j => match j with  | _ => 0, nk := fun j => match j with  | _ => 0 }
def c_law_take : Cf := { sp := fun j => match j with  | _ => fun _ _ _ _ => False, dd := fun _ => [], perm := fun j => match j with  | _ => [], np := fun j => match j with  | _ => 0, nk := fun j => match j with  | _ => 0 }
def c_law_drawn_lists : Cf := { sp := fun j => match j with | 0 => sp_law_take | _ => fun _ _ _ _ => False, dd := fun _ => [], perm := fun j => match j with  | _ => [], np := fun j => match j with  | _ => 0, nk := fun j => match j with  | _ => 0 }
def c_law_behind : Cf := { sp := fun j => match j with  | _ => fun _ _ _ _ => False, dd := fun _ => [], perm := fun j => match j with  | _ => [], np := fun j => match j with  | _ => 0, nk := fun j => match j with  | _ => 0 }
def c_law_has_ring : Cf := { sp := fun j => match j with  | _ => fun _ _ _ _ => False, dd := fun _ => [], perm := fun j => match j with  | _ => [], np := fun j => match j with  | _ => 0, nk := fun j => match j with  | _ => 0 }
def c_law_first_ones : Cf := { sp := fun j => match j with  | _ => fun _ _ _ _ => False, dd := fun _ => [], perm := fun j => match j with  | _ => [], np := fun j => match j with  | _ => 0, nk := fun j => match j with  | _ => 0 }
def c_law : Cf := { sp := fun j => match j with | 0 => sp_law_bag | 1 => sp_law_drawn_lists | 2 => sp_merged | 3 => sp_law_behind | 4 => sp_law_has_ring | 5 => sp_law_first_ones | _ => fun _ _ _ _ => False, dd := fun _ => [], perm := fun j => match j with  | _ => [], np := fun j => match j with  | _ => 0, nk := fun j => match j with  | _ => 0 }
local macro_rules | `(tactic| walk_at "ys") => `(tactic| simp only [Y.wpSs, Y.wpS, Y.wp, Y.wps, Y.wpI, Y.wpC, both, dSeq_eq, dNext, dAsg, gN, dVar, dC, dCall, dCons, dNil, dOp, dTest, cmpD, binD, BI.rd, BM.rd, Tg.rd, dIfS, dIfE, dRet, dExpr, gSubD, dTruE, dTru,
  List.set_cons_zero, List.set_cons_succ, List.getElem?_cons_zero, List.getElem?_cons_succ, dComp, dItE, dItR1, wipeD, sD, ssD, seqL, seqT, dSl, dPart, partD, dNoP, dSlR, dNotIn, dIn, dEq, dNe, dYes, dCallF, List.append_nil, dMeth, dLstC, dLst, dTup, dFor, dMul, dAdd, dMod, dFdiv, dOrd, dPar, dLen, dMax, dMin, seqQ, dOr, dAnd, dNot, dAndV, dNotN, dIsN, dCallFK, arr, dFrz, dItEn, dDNew, dDGet2, dListC, c_law_drawn_lists, c_law, ite_true, ite_false, if_true, if_false, Bool.false_eq_true])
theorem eq_ints {x y : Int} {s : S} {Q : Bool → Prop} (q : Q (decide (x = y))) : dEqB (.int x) (.int y) s Q := q
theorem take_call {n : Nat} {g b c k : Int} {s : S} {Q : D → S → Prop} {Ex : DX} (hs : s n = some (bagO g b c)) (h : 0 ≤ g ∧ 0 ≤ b ∧ b < 2305843009213693907 ∧ 0 ≤ c ∧ c < 1000000 ∧ 0 < k ∧ k < 1000000)
    (q : ∀ g' c' d : Int, 0 ≤ g' → c ≤ c' → c' ≤ c + 1 → 0 ≤ d → d < k → Q (.int d) (s.set n (bagO g' b c'))) : sp_law_take [.cell n, .int k] s Q Ex := ⟨n, g, b, c, k, rfl, hs, h, q⟩
theorem setD_ok {s : S} {n : Nat} {m : Tb} {x : Str} {v : List Str} {Q : S → Prop} (h : s n = some (.dic (embT m))) (hl : (embT m).length < sizeLine) (q : Q (s.set n (.dic (embT (putA m x v))))) : dSetL (.cell n) (.str x) (sD v) s Q := by
  unfold dSetL
  simp only [h, keyK]
  refine ⟨hl, ?_⟩
  rw [putD_emb]
  exact q
theorem dcut_mid (l : List Str) (i : Nat) (hi : i < l.length) : dcut (l.map D.str) (some ((i : Int) + 1)) (some ((i : Int) + 2)) = ((l.drop (i + 1)).take 1).map .str := by
  unfold dcut
  rw [show ((i : Int) + 1) = ((i + 1 : Nat) : Int) by omega, show ((i : Int) + 2) = ((i + 2 : Nat) : Int) by omega, HT.sIx_nat, HT.sIx_nat, List.length_map, List.map_take, List.map_drop]
  rcases Nat.lt_or_ge (i + 1) l.length with q | q
  · have h1 : min (i + 1) l.length = i + 1 := by omega
    have h2 : min (i + 2) l.length = i + 2 := by omega
    rw [h1, h2]
    congr 1
    omega
  · have h1 : min (i + 1) l.length = i + 1 := by omega
    have h2 : min (i + 2) l.length = i + 1 := by omega
    rw [h1, h2, List.drop_eq_nil_of_le (by rw [List.length_map]; omega)]
    simp
theorem pure_law_behind (as : List D) (s : S) (Q : D → S → Prop) (Ex : DX) (h : sp_law_behind as s Q Ex) : wpSs c_law_behind (fun _ => Ex) m_law_behind { nx := fun _ s' => Q .non s', rt := Q } (nvOf N_law_behind as) s := by
  obtain ⟨ls, rfl, ⟨hl5, hl4⟩, q⟩ := h
  show wpSs c_law_behind (fun _ => Ex) m_law_behind { nx := fun _ s' => Q .non s', rt := Q } [some (ssD ls), none, none, none, none] s
  unfold m_law_behind
  walk_at "ys"
  intro n hn z1
  refine go_inv (fun j e s' => ∃ a2 a3 a4 : Option D, e = [some (ssD ls), some (.cell n), a2, a3, a4] ∧ s' = s.set n (.dic (embT (bhO ls j)))) _ 0 _ _ ⟨_, _, _, rfl, rfl⟩ (fun j x e s' N M hx hI hN hM => ?_) (fun e s' hI => ?_)
  · obtain ⟨a2, a3, a4, rfl, rfl⟩ := hI
    refine ⟨trivial, ?_⟩
    rw [Nat.zero_add] at hN ⊢
    rw [List.getElem?_map] at hx
    cases el : ls[j]? with
    | none => rw [el] at hx; cases hx
    | some l =>
      rw [el] at hx
      have hx' : sD l = x := Option.some.inj hx
      subst hx'
      have hj : j < 5 := Nat.lt_of_lt_of_le (List.getElem?_eq_some_iff.mp el).1 hl5
      have hll := hl4 l (List.mem_of_getElem? el)
      have tb := bhO_ok (k := 4) hl4 j
      walk_at "ys"
      refine go_inv (fun i e s' => ∃ a3 a4 : Option D, e = [some (ssD ls), some (.cell n), some (sD l), a3, a4] ∧ s' = s.set n (.dic (embT (bhI l i (bhO ls j))))) _ 0 _ _ ⟨_, _, rfl, rfl⟩ (fun i y e s' N2 M2 hy hI hN2 hM2 => ?_) (fun e s' hI => ?_)
      · obtain ⟨a3, a4, rfl, rfl⟩ := hI
        refine ⟨by trivial, ?_⟩
        rw [Nat.zero_add] at hN2 ⊢
        unfold enumD at hy
        rw [List.getElem?_mapIdx, List.getElem?_map] at hy
        cases ei : l[i]? with
        | none => rw [ei] at hy; cases hy
        | some w =>
          rw [ei] at hy
          have hy' : D.tup [.int (i : Nat), .str w] = y := Option.some.inj hy
          subst hy'
          have hi : i < l.length := (List.getElem?_eq_some_iff.mp ei).1
          have tb2 := bhI_ok (l := l) tb i
          refine ⟨rfl, rfl, ?_⟩
          walk_at "ys"
          have hs : (s.set n (O.dic (embT (bhI l i (bhO ls j))))) n = some (.dic (embT (bhI l i (bhO ls j)))) := S.set_same
          have hmap : mapD (s.set n (O.dic (embT (bhI l i (bhO ls j))))) (.cell n) = some (embT (bhI l i (bhO ls j))) := by
            show dicOf _ = _
            rw [hs]; rfl
          refine ⟨by rw [hmap]; rfl, Nat.zero_le _, ?_⟩
          rw [hmap]
          have eg : (valD (embT (bhI l i (bhO ls j))) (.inr w)).getD (D.lst []) = .lst ((sucA (bhI l i (bhO ls j)) w).map .str) := by
            rw [valD_emb]
            unfold sucA
            cases getA (bhI l i (bhO ls j)) w <;> rfl
          simp only [keyK, eg, dcut_mid l i hi]
          have hz := tb2.sz w
          refine ⟨by rw [List.length_map, List.length_map, List.length_take, sizeLine_eq]; omega, ?_⟩
          have ea : (sucA (bhI l i (bhO ls j)) w).map D.str ++ ((l.drop (i + 1)).take 1).map D.str = (sucA (bhI l i (bhO ls j)) w ++ (l.drop (i + 1)).take 1).map D.str := by rw [List.map_append]
          rw [ea]
          have hln := tb2.ln
          refine setD_ok hs (by unfold embT; rw [List.length_map, sizeLine_eq]; omega) ?_
          rw [S.set_set]
          refine hN2 _ _ ⟨_, _, rfl, ?_⟩
          rw [bhI_some ei]
      · obtain ⟨a3, a4, rfl, rfl⟩ := hI
        refine ⟨by trivial, hN _ _ ⟨_, _, _, rfl, ?_⟩⟩
        rw [bhO_some el, Nat.zero_add]
        unfold enumD
        rw [List.length_mapIdx, List.length_map]
  · obtain ⟨a2, a3, a4, rfl, rfl⟩ := hI
    refine ⟨trivial, ?_⟩
    walk_at "ys"
    rw [S.set_same]
    show Q (.dic (embT _)) _
    rw [S.del_set hn, Nat.zero_add, List.length_map]
    exact q
/-! ### rings -/
/-- what stands at each turn of the search from x -/
structure RI (m : Tb) (c : Nat) (x : Str) (seen ahead : List Str) (w : Nat) : Prop where
  nd : seen.Nodup
  sk : ∀ z ∈ seen, z ∈ m.map (·.1)
  nx : x ∉ seen
  ar : ∀ y ∈ ahead, Rch (fun a b => b ∈ sucA m a) x y
  sr : ∀ y ∈ seen, Rch (fun a b => b ∈ sucA m a) x y
  s0 : ∀ y ∈ sucA m x, y ∈ seen ∨ y ∈ ahead
  s1 : ∀ z ∈ seen, ∀ y ∈ sucA m z, y ∈ seen ∨ y ∈ ahead
  w0 : ahead.length + (m.length - seen.length) * (c + 1) ≤ w
  w1 : w ≤ 5000
theorem nodup_le {a b : List Str} (h : a.Nodup) (hs : ∀ z ∈ a, z ∈ b) : a.length ≤ b.length := by
  induction a generalizing b with
  | nil => exact Nat.zero_le _
  | cons x t ih =>
    rw [List.nodup_cons] at h
    have hx := hs x (by simp)
    have e := List.length_erase_of_mem hx
    have hp : 0 < b.length := List.length_pos_of_mem hx
    have := ih (b := b.erase x) h.2 fun z hz => (List.mem_erase_of_ne (fun e : z = x => h.1 (by rw [← e]; exact hz))).mpr (hs z (by simp [hz]))
    rw [List.length_cons]
    omega
theorem RI.no {m : Tb} {c w : Nat} {x : Str} {seen : List Str} (I : RI m c x seen [] w) : ¬ Rch (fun a b => b ∈ sucA m a) x x := fun h => by
  have cl : ∀ a b, Rch (fun a b => b ∈ sucA m a) a b → (a = x ∨ a ∈ seen) → b ∈ seen := fun a b h => by
    induction h with
    | one e =>
      rintro (q | q)
      · subst q; exact (I.s0 _ e).resolve_right (by simp)
      · exact (I.s1 _ q _ e).resolve_right (by simp)
    | more e _ ih =>
      rintro (q | q)
      · subst q; exact ih (.inr ((I.s0 _ e).resolve_right (by simp)))
      · exact ih (.inr ((I.s1 _ q _ e).resolve_right (by simp)))
  exact I.nx (cl x x h (.inl rfl))
theorem RI.old {m : Tb} {c w : Nat} {x y : Str} {seen a : List Str} (I : RI m c x seen (a ++ [y]) w) (hy : y ∈ seen) : ∃ w', w' < w ∧ RI m c x seen a w' := by
  have mem : ∀ z, z ∈ seen ∨ z ∈ a ++ [y] → z ∈ seen ∨ z ∈ a := fun z h => by
    rcases h with h | h
    · exact .inl h
    · rcases List.mem_append.mp h with q | q
      · exact .inr q
      · rw [List.mem_singleton.mp q]; exact .inl hy
  have h0 := I.w0
  have h1 := I.w1
  rw [List.length_append, List.length_singleton] at h0
  exact ⟨w - 1, by omega, I.nd, I.sk, I.nx, fun z hz => I.ar z (List.mem_append_left _ hz), I.sr, fun z hz => mem z (I.s0 z hz), fun u hu z hz => mem z (I.s1 u hu z hz), by omega, by omega⟩
theorem RI.new {m : Tb} {c w : Nat} {x y : Str} {seen a : List Str} (T : TbOk m c) (K : ∀ x y, y ∈ sucA m x → y ∈ m.map (·.1)) (I : RI m c x seen (a ++ [y]) w) (hx : y ≠ x) (hy : y ∉ seen) : ∃ w', w' < w ∧ RI m c x (seen ++ [y]) (a ++ sucA m y) w' := by
  have ry := I.ar y (by simp)
  have yk : y ∈ m.map (·.1) := by
    have gen : ∀ p q, Rch (fun a b => b ∈ sucA m a) p q → q ∈ m.map (·.1) := fun p q h => by
      induction h with
      | one e => exact K _ _ e
      | more _ _ ih => exact ih
    exact gen _ _ ry
  have nd : (seen ++ [y]).Nodup := List.nodup_append.mpr ⟨I.nd, by simp, fun p hp q hq e => hy (by rw [List.mem_singleton] at hq; rw [← hq, ← e]; exact hp)⟩
  have sk : ∀ z ∈ seen ++ [y], z ∈ m.map (·.1) := fun z hz => by
    rcases List.mem_append.mp hz with q | q
    · exact I.sk z q
    · rw [List.mem_singleton.mp q]; exact yk
  have len := nodup_le nd sk
  rw [List.length_append, List.length_singleton, List.length_map] at len
  have mem : ∀ z, z ∈ seen ∨ z ∈ a ++ [y] → z ∈ seen ++ [y] ∨ z ∈ a ++ sucA m y := fun z h => by
    rcases h with h | h
    · exact .inl (List.mem_append_left _ h)
    · rcases List.mem_append.mp h with q | q
      · exact .inr (List.mem_append_left _ q)
      · exact .inl (List.mem_append_right _ q)
  have h0 := I.w0
  have h1 := I.w1
  have hs := T.sz y
  rw [List.length_append, List.length_singleton] at h0
  have e : m.length - seen.length = (m.length - (seen.length + 1)) + 1 := by omega
  rw [e, Nat.succ_mul] at h0
  refine ⟨w - 1, by omega, nd, sk, fun h => ?_, fun z hz => ?_, fun z hz => ?_, fun z hz => mem z (I.s0 z hz), fun u hu z hz => ?_, ?_, by omega⟩
  · rcases List.mem_append.mp h with q | q
    · exact I.nx q
    · exact hx (List.mem_singleton.mp q).symm
  · rcases List.mem_append.mp hz with q | q
    · exact I.ar z (List.mem_append_left _ q)
    · exact ry.last q
  · rcases List.mem_append.mp hz with q | q
    · exact I.sr z q
    · rw [List.mem_singleton.mp q]; exact ry
  · rcases List.mem_append.mp hu with q | q
    · exact mem z (I.s1 u q z hz)
    · rw [List.mem_singleton.mp q] at hz
      exact .inr (List.mem_append_right _ hz)
  · rw [List.length_append, List.length_append, List.length_singleton]
    omega
theorem ix_dic {s : S} {m : Tb} {x : Str} {Q : D → S → Prop} (h : x ∈ m.map (·.1)) (q : Q (sD (sucA m x)) s) : dIx (.dic (embT m)) (.str x) s Q := by
  unfold dIx
  simp only [mapD, keyK, valD_emb]
  cases e : getA m x with
  | none => exact absurd h (getA_none.mp e)
  | some v =>
    have e2 : sucA m x = v := by unfold sucA; rw [e]; rfl
    rw [e2] at q
    exact q
theorem pop_lst {s : S} {n : Nat} {a : List Str} {y : Str} {Q : D → S → Prop} (h : s n = some (.lst ((a ++ [y]).map .str))) (q : Q (.str y) (s.set n (.lst (a.map .str)))) : dPop (.cell n) [] s Q := by
  unfold dPop
  simp only [h]
  have e1 : ((a ++ [y]).map D.str)[((a ++ [y]).map D.str).length - 1]? = some (.str y) := by
    rw [List.length_map, List.length_append, List.length_singleton, Nat.add_sub_cancel, List.getElem?_map, List.getElem?_append_right (Nat.le_refl _), Nat.sub_self]
    rfl
  have e2 : ((a ++ [y]).map D.str).dropLast = a.map D.str := by rw [List.map_append]; exact List.dropLast_concat
  rw [e1, e2]
  exact q
theorem ext_lst {s : S} {n : Nat} {xs zs : List Str} {Q : D → S → Prop} (h : s n = some (.lst (xs.map .str))) (hl : xs.length + zs.length ≤ sizeLine) (q : Q .non (s.set n (.lst ((xs ++ zs).map .str)))) : dExtend (.cell n) [sD zs] s Q := by
  unfold dExtend
  simp only [h]
  show _ ∧ _
  rw [List.map_append] at q
  exact ⟨by rw [List.length_map, List.length_map]; exact hl, q⟩
theorem Sx.set {s s' : S} {n : Nat} {o : O} (h : Sx s s') (hn : s n = none) : Sx s (s'.set n o) := fun k u e => by
  rw [S.set_ne fun z => by rw [z, hn] at e; cases e]
  exact h k u e
theorem pure_law_has_ring (as : List D) (s : S) (Q : D → S → Prop) (Ex : DX) (h : sp_law_has_ring as s Q Ex) : wpSs c_law_has_ring (fun _ => Ex) m_law_has_ring { nx := fun _ s' => Q .non s', rt := Q } (nvOf N_law_has_ring as) s := by
  obtain ⟨m, c, rfl, T, hc, K, q⟩ := h
  show wpSs c_law_has_ring (fun _ => Ex) m_law_has_ring { nx := fun _ s' => Q .non s', rt := Q } [some (.dic (embT m)), none, none, none, none] s
  unfold m_law_has_ring
  walk_at "ys"
  intro z1
  have ek : (embT m).map (·.1) = (m.map (·.1)).map D.str := by unfold embT; rw [List.map_map, List.map_map]; rfl
  rw [ek]
  refine go_inv (fun i e s' => ∃ a1 a2 a3 a4 : Option D, e = [some (.dic (embT m)), a1, a2, a3, a4] ∧ Sx s s' ∧ ∀ j x, j < i → (m.map (·.1))[j]? = some x → ¬ Rch (fun a b => b ∈ sucA m a) x x) _ 0 _ _ ⟨_, _, _, _, rfl, fun _ _ h => h, fun j _ hj => absurd hj (Nat.not_lt_zero j)⟩ (fun i y e s' N M hy hI hN hM => ?_) (fun e s' hI => ?_)
  · obtain ⟨a1, a2, a3, a4, rfl, fx, old⟩ := hI
    refine ⟨trivial, ?_⟩
    rw [Nat.zero_add] at hN old
    rw [List.getElem?_map] at hy
    cases ex : (m.map (·.1))[i]? with
    | none => rw [ex] at hy; cases hy
    | some x =>
      rw [ex] at hy
      have hy' : D.str x = y := Option.some.inj hy
      subst hy'
      have hx : x ∈ m.map (·.1) := List.mem_of_getElem? ex
      walk_at "ys"
      refine ⟨Nat.zero_le _, fun n2 h2 => ix_dic hx ?_⟩
      intro n3 h3
      have n23 : n2 ≠ n3 := fun e => by rw [← e, S.set_same] at h3; cases h3
      have h3' : s' n3 = none := by rw [S.set_ne (Ne.symm n23)] at h3; exact h3
      have none_of : ∀ k, s' k = none → s k = none := fun k hk => by
        cases e : s k with
        | none => rfl
        | some o => rw [fx k o e] at hk; cases hk
      have hs2 := none_of n2 h2
      have hs3 := none_of n3 h3'
      refine ⟨fun w e t => ∃ (seen ahead : List Str) (a4 : Option D), e = [some (.dic (embT m)), some (.str x), some (.cell n2), some (.cell n3), a4] ∧ Sx s t ∧ t n2 = some (.lst (seen.map .str)) ∧ t n3 = some (.lst (ahead.map .str)) ∧ RI m c x seen ahead w,
        ⟨(sucA m x).length + m.length * (c + 1), [], sucA m x, a4, rfl, (fx.set hs2).set hs3, by rw [S.set_ne n23, S.set_same]; rfl, S.set_same, ?_⟩, ?_⟩
      · have h1 := T.sz x
        have h2 := T.ln
        have h3 : m.length * (c + 1) ≤ 30 * 31 := Nat.mul_le_mul (by omega) (by omega)
        exact ⟨List.nodup_nil, fun z hz => (nomatch hz), by simp, fun y hy => .one hy, fun y hy => (nomatch hy), fun y hy => .inr hy, fun z hz => (nomatch hz), Nat.le_refl _, by omega⟩
      rintro w e t ⟨seen, ahead, a4, rfl, ft, t2, t3, I⟩
      walk_at "ys"
      refine ⟨Nat.zero_le _, eq_nil (xs := ahead.map .str) (by show lstOf _ = _; rw [t3]; rfl) ?_⟩
      rw [List.isEmpty_map]
      rcases List.eq_nil_or_concat ahead with rfl | ⟨a, y, ey⟩
      · rw [if_neg (by decide)]
        refine hN _ _ ⟨_, _, _, _, rfl, ft, fun j z hj hz => ?_⟩
        rcases Nat.lt_or_ge j i with g | g
        · exact old j z g hz
        · have : j = i := by omega
          subst this
          rw [ex] at hz
          cases hz
          exact I.no
      · rw [List.concat_eq_append] at ey
        subst ey
        have ne : (!(a ++ [y]).isEmpty) = true := by cases a <;> rfl
        rw [if_pos ne]
        refine ⟨by show (lstOf (t n3)).isSome = true; rw [t3]; rfl, pop_lst t3 ?_⟩
        have t2' : (t.set n3 (.lst (a.map .str))) n2 = some (.lst (seen.map .str)) := by rw [S.set_ne n23]; exact t2
        have ft' := ft.set (o := .lst (a.map .str)) hs3
        refine eq_strs ?_
        by_cases exy : y = x
        · rw [if_pos (decide_eq_true exy)]
          refine q true _ ft' ⟨fun _ => ⟨x, ?_⟩, fun _ => rfl⟩
          have z := I.ar y (by simp)
          rw [exy] at z
          exact z
        · rw [if_neg (by rw [decide_eq_false exy]; decide)]
          refine in_strs (l := seen) (by show lstOf _ = _; rw [t2']; rfl) rfl (fun _ => nofun) ?_
          rw [anyb]
          by_cases es : y ∈ seen
          · rw [if_neg (by rw [decide_eq_true es]; decide)]
            obtain ⟨w', lw, I'⟩ := I.old es
            exact ⟨w', lw, seen, a, _, rfl, ft', t2', S.set_same, I'⟩
          · rw [if_pos (by rw [decide_eq_false es]; rfl)]
            obtain ⟨w', lw, I'⟩ := I.new T K exy es
            have ry := I.ar y (by simp)
            have yk : y ∈ m.map (·.1) := I'.sk y (by simp)
            have ll := nodup_le I'.nd I'.sk
            have l2 := T.ln
            have l3 := I'.w0
            have l4 := I'.w1
            rw [List.length_append, List.length_singleton, List.length_map] at ll
            refine ⟨by show (lstOf _).isSome = true; rw [t2']; rfl, append_lst t2' (by rw [List.length_map, sizeLine_eq]; omega) ?_⟩
            have e2 : seen.map D.str ++ [D.str y] = (seen ++ [y]).map D.str := by rw [List.map_append]; rfl
            rw [e2]
            have t3' : ((t.set n3 (.lst (a.map .str))).set n2 (.lst ((seen ++ [y]).map .str))) n3 = some (.lst (a.map .str)) := by rw [S.set_ne (Ne.symm n23), S.set_same]
            refine ⟨by show (lstOf _).isSome = true; rw [t3']; rfl, ix_dic yk (ext_lst t3' ?_ ?_)⟩
            · rw [List.length_append] at l3
              rw [sizeLine_eq]
              omega
            · exact ⟨w', lw, seen ++ [y], a ++ sucA m y, _, rfl, (ft'.set hs2).set hs3, by rw [S.set_ne n23, S.set_same], S.set_same, I'⟩
  · obtain ⟨a1, a2, a3, a4, rfl, fx, old⟩ := hI
    refine ⟨trivial, ?_⟩
    walk_at "ys"
    refine q false s' fx ⟨fun h => (nomatch h), fun ⟨x, hx⟩ => ?_⟩
    exfalso
    have hk : x ∈ m.map (·.1) := by
      have gen : ∀ p q, Rch (fun a b => b ∈ sucA m a) p q → q ∈ m.map (·.1) := fun p q h => by
        induction h with
        | one e => exact K _ _ e
        | more _ _ ih => exact ih
      exact gen _ _ hx
    obtain ⟨j, hj, ej⟩ := List.mem_iff_getElem.mp hk
    exact old j x (by rw [Nat.zero_add, List.length_map]; exact hj) (by rw [List.getElem?_eq_getElem hj, ej]) hx
/-! ### the first ones -/
theorem notin_strs {l : List Str} {x : Str} {s : S} {Q : Bool → Prop} (q : Q (decide (x ∈ l))) : dInB (.str x) (.lst (l.map .str)) s Q := in_strs (l := l) rfl rfl (fun _ => nofun) (by rw [anyb]; exact q)
theorem pure_law_first_ones (as : List D) (s : S) (Q : D → S → Prop) (Ex : DX) (h : sp_law_first_ones as s Q Ex) : wpSs c_law_first_ones (fun _ => Ex) m_law_first_ones { nx := fun _ s' => Q .non s', rt := Q } (nvOf N_law_first_ones as) s := by
  obtain ⟨ls, known, rfl, q⟩ := h
  show wpSs c_law_first_ones (fun _ => Ex) m_law_first_ones { nx := fun _ s' => Q .non s', rt := Q } [some (ssD ls), some (sD known), none, none, none, none] s
  unfold m_law_first_ones
  walk_at "ys"
  intro z1
  refine ⟨z1, lc_typed (s := s) (ok := fun _ => True) trivial sD sD (fun _ => true) (keepN known) ls _ (fun l _ K1 K2 h1 _ => ?_) ?_⟩
  · walk_at "ys"
    intro z2
    refine ⟨z2, lc_typed (s := s) (ok := fun _ => True) trivial D.str D.str (fun x => !decide (x ∈ known)) id l _ (fun x _ K1 K2 h3 h4 => ?_) ?_⟩
    · walk_at "ys"
      refine notin_strs ?_
      show if (!decide (x ∈ known)) = true then _ else _
      cases e : decide (x ∈ known) with
      | true => exact h4 (by rw [e]; rfl)
      | false => exact h3 (by rw [e]; rfl)
    · rw [List.map_id]
      exact h1 rfl
  rw [List.filter_eq_self.mpr fun _ _ => rfl]
  intro z3
  refine ⟨z3, lc_typed (s := s) (ok := fun _ => True) trivial sD D.str (fun l => !l.isEmpty) hd (ls.map (keepN known)) _ (fun l _ K1 K2 h1 h2 => ?_) ?_⟩
  · walk_at "ys"
    refine ⟨Nat.zero_le _, ne_nil ?_⟩
    show if (!l.isEmpty) = true then _ else _
    cases l with
    | nil => exact h2 rfl
    | cons x r =>
      rw [if_pos (show (!(x :: r).isEmpty) = true from rfl)]
      exact Y.ix_seq (xs := (x :: r).map .str) rfl at0 (h1 rfl)
  intro z4
  have eh : ((ls.map (keepN known)).filter fun l => !l.isEmpty).map hd = (ne0 (ls.map (keepN known))).map hd := rfl
  rw [eh]
  refine ⟨z4, lc_typed (s := s) (ok := fun _ => True) trivial D.str D.str (fun x => free x (ls.map (keepN known))) id ((ne0 (ls.map (keepN known))).map hd) _ (fun x _ K1 K2 h1 h2 => ?_) ?_⟩
  · walk_at "ys"
    intro z5
    refine ⟨z5, lc_typed (s := s) (ok := fun _ => True) trivial sD sD (memT x) id (ls.map (keepN known)) _ (fun l _ J1 J2 g1 g2 => ?_) ?_⟩
    · walk_at "ys"
      show dInB (.str x) (.lst (dcut (l.map .str) (some 1) none)) s _
      rw [dcut1, ← List.map_drop]
      refine in_strs (l := l.drop 1) rfl rfl (fun _ => nofun) ?_
      show if memT x l = true then J1 (sD l) s else J2 s
      cases e : memT x l with
      | true => exact g1 e
      | false => exact g2 e
    · rw [List.map_id]
      refine ⟨Nat.zero_le _, eq_nil (xs := ((ls.map (keepN known)).filter (memT x)).map sD) rfl ?_⟩
      rw [free_emp]
      show if free x (ls.map (keepN known)) = true then _ else _
      cases e : free x (ls.map (keepN known)) with
      | true => exact h1 e
      | false => exact h2 e
  · rw [List.map_id]
    exact q
theorem free_ne0 (x : Str) : ∀ ws : List (List Str), free x ws = free x (ne0 ws)
  | [] => rfl
  | l :: ws => by
    have ih := free_ne0 x ws
    unfold free ne0 at ih ⊢
    rw [List.all_cons, List.filter_cons, ih]
    cases l with
    | nil => rfl
    | cons y t => rw [if_pos (show (!(y :: t).isEmpty) = true from rfl), List.all_cons]
theorem firsts_good (ls : List (List Str)) (known : List Str) : firsts ls known = good (ne0 (ls.map (keepN known))) (ne0 (ls.map (keepN known))) := by
  unfold firsts good
  rw [List.filter_map]
  congr 1
  apply List.filter_congr
  intro l _
  exact free_ne0 _ _
/-! ### drawn lists -/
theorem er_map {α β : Type} (f : α → β) : ∀ (l : List α) (i : Nat), (l.map f).eraseIdx i = (l.eraseIdx i).map f
  | [], _ => rfl
  | x :: l, 0 => rfl
  | x :: l, i + 1 => by
    show f x :: (l.map f).eraseIdx i = f x :: (l.eraseIdx i).map f
    rw [er_map f l i]
theorem er_perm {α : Type} : ∀ {l : List α} {i : Nat} (h : i < l.length), (l[i] :: l.eraseIdx i).Perm l
  | [], _, h => by cases h
  | x :: l, 0, _ => List.Perm.refl _
  | x :: l, i + 1, h => by
    have ih := er_perm (l := l) (i := i) (Nat.lt_of_succ_lt_succ h)
    exact (List.Perm.swap _ _ _).trans (ih.cons x)
theorem pure_law_drawn_lists (as : List D) (s : S) (Q : D → S → Prop) (Ex : DX) (h : sp_law_drawn_lists as s Q Ex) : wpSs c_law_drawn_lists (fun _ => Ex) m_law_drawn_lists { nx := fun _ s' => Q .non s', rt := Q } (nvOf N_law_drawn_lists as) s := by
  obtain ⟨n, g, b, c, rfl, hs, ⟨g0, b0, b1, c0, c1⟩, q⟩ := h
  show wpSs c_law_drawn_lists (fun _ => Ex) m_law_drawn_lists { nx := fun _ s' => Q .non s', rt := Q } [some (.cell n), none, none, none, none, none] s
  unfold m_law_drawn_lists
  walk_at "ys"
  refine ⟨Nat.zero_le _, fun mF hF => ?_⟩
  have hnF : n ≠ mF := fun e => by rw [e, hF] at hs; cases hs
  refine take_call (by rw [S.set_ne hnF]; exact hs) ⟨g0, b0, b1, c0, by omega, by decide, by decide⟩ fun g1 c2 d hg1 hc2 hc3 hd0 hd1 => ?_
  refine ⟨by omega, by omega, ?_⟩
  refine go_inv (fun i e s' => ∃ (g' c' : Int) (ls : List (List Str)) (a2 a3 a4 a5 : Option D), e = [some (.cell n), some (.cell mF), a2, a3, a4, a5] ∧ s' n = some (bagO g' b c') ∧ s' mF = some (.lst (ls.map sD)) ∧ 0 ≤ g' ∧ c ≤ c' ∧ c' ≤ c + 1 + 9 * (i : Int) ∧ ls.length = i ∧ ∀ l ∈ ls, l.length ≤ 4 ∧ l.Nodup ∧ ∀ x ∈ l, x ∈ pqr)
    _ 0 _ _ ⟨g1, c2, [], none, none, none, none, rfl, S.set_same, by rw [S.set_ne (Ne.symm hnF), S.set_same]; rfl, hg1, hc2, by omega, rfl, fun l hl => nomatch hl⟩ (fun i x e s' N M hx hI hN hM => ?_) (fun e s' hI => ?_)
  · obtain ⟨g', c', ls, a2, a3, a4, a5, rfl, hb, hf, hg', hc, hc', hl, hls⟩ := hI
    refine ⟨trivial, ?_⟩
    rw [Nat.zero_add] at hN hc' hl
    have hi : i < d.toNat := by
      have := (List.getElem?_eq_some_iff.mp hx).1
      simpa using this
    have hi5 : i < 6 := by omega
    walk_at "ys"
    refine ⟨by show 6 ≤ sizeLine; decide, fun mL hL => ⟨Nat.zero_le _, fun mI hI => ?_⟩⟩
    have nnL : n ≠ mL := fun e => by rw [e, hL] at hb; cases hb
    have nFL : mF ≠ mL := fun e => by rw [e, hL] at hf; cases hf
    have hI' : s' mI = none ∧ mL ≠ mI := by
      by_cases e : mL = mI
      · rw [← e, S.set_same] at hI; cases hI
      · rw [S.set_ne (Ne.symm e)] at hI; exact ⟨hI, e⟩
    have nnI : n ≠ mI := fun e => by rw [e, hI'.1] at hb; cases hb
    have nFI : mF ≠ mI := fun e => by rw [e, hI'.1] at hf; cases hf
    have nLI := hI'.2
    have hb' : ((s'.set mL (.lst (pqr.map .str))).set mI (.lst [])) n = some (bagO g' b c') := by rw [S.set_ne nnI, S.set_ne nnL]; exact hb
    have hf' : ((s'.set mL (.lst (pqr.map .str))).set mI (.lst [])) mF = some (.lst (ls.map sD)) := by rw [S.set_ne nFI, S.set_ne nFL]; exact hf
    have hl' : ((s'.set mL (.lst (pqr.map .str))).set mI (.lst [])) mL = some (.lst (pqr.map .str)) := by rw [S.set_ne nLI, S.set_same]
    refine take_call hb' ⟨hg', b0, b1, by omega, by omega, by decide, by decide⟩ fun g2 c3 d2 hg2 hc4 hc5 hd2 hd3 => ?_
    refine ⟨by omega, by omega, ?_⟩
    refine go_inv (fun j e t => ∃ (g' c' : Int) (rest got : List Str) (a3 : Option D), e = [some (.cell n), some (.cell mF), some x, a3, some (.cell mL), some (.cell mI)] ∧ t n = some (bagO g' b c') ∧ t mF = some (.lst (ls.map sD)) ∧ t mL = some (.lst (rest.map .str)) ∧ t mI = some (.lst (got.map .str)) ∧
      (rest ++ got).Perm pqr ∧ got.length = j ∧ 0 ≤ g' ∧ c ≤ c' ∧ c' ≤ c + 1 + 9 * (i : Int) + 1 + 2 * (j : Int))
      _ 0 _ _ ⟨g2, c3, pqr, [], a3, rfl, S.set_same, by rw [S.set_ne (Ne.symm hnF)]; exact hf', by rw [S.set_ne (Ne.symm nnL)]; exact hl', by rw [S.set_ne (Ne.symm nnI), S.set_same]; rfl, by rw [List.append_nil], rfl, hg2, by omega, by omega⟩ (fun j y e t N2 M2 hy hJ hN2 hM2 => ?_) (fun e t hJ => ?_)
    · obtain ⟨g3, c5, rest, got, a3, rfl, tn, tF, tL, tI, pm, lg, hg3, hc6, hc7⟩ := hJ
      rw [Nat.zero_add] at hN2 lg hc7
      refine ⟨trivial, ?_⟩
      have hj : j < 4 := by
        have := (List.getElem?_eq_some_iff.mp hy).1
        have : j < d2.toNat := by simpa using this
        omega
      have lr : rest.length + got.length = 6 := by
        have := pm.length_eq
        rw [List.length_append] at this
        exact this
      walk_at "ys"
      refine ⟨by show (lstOf (t mI)).isSome = true; rw [tI]; rfl, by show (lstOf (t mL)).isSome = true; rw [tL]; rfl, ?_⟩
      rw [tL]
      refine ⟨by show 3 ≤ sizeLine; decide, ?_⟩
      refine take_call tn ⟨hg3, b0, b1, by omega, by omega, by decide, by decide⟩ fun g4 c6 d3 hg4 hc8 hc9 hd4 hd5 => ?_
      have tn1 : (t.set n (bagO g4 b c6)) n = some (bagO g4 b c6) := S.set_same
      have tF1 : (t.set n (bagO g4 b c6)) mF = some (.lst (ls.map sD)) := by rw [S.set_ne (Ne.symm hnF)]; exact tF
      have tL1 : (t.set n (bagO g4 b c6)) mL = some (.lst (rest.map .str)) := by rw [S.set_ne (Ne.symm nnL)]; exact tL
      have tI1 : (t.set n (bagO g4 b c6)) mI = some (.lst (got.map .str)) := by rw [S.set_ne (Ne.symm nnI)]; exact tI
      generalize t.set n (bagO g4 b c6) = t1 at tn1 tF1 tL1 tI1
      have key : ∀ kk : Int, 0 < kk → kk ≤ rest.length → sp_law_take [.cell n, .int kk] t1 (fun x_2 s1 => dPopAt (.cell mL) [x_2] s1 fun x_3 s1 => dAppend (.cell mI) [x_3] s1 fun x_4 s1 => N2 [some (.cell n), some (.cell mF), some x, some y, some (.cell mL), some (.cell mI)] s1) Ex := by
        intro kk hk0 hk1
        refine take_call tn1 ⟨hg4, b0, b1, by omega, by omega, hk0, by omega⟩ fun g5 c7 p hg5 hc10 hc11 hp0 hp1 => ?_
        have tn2 : (t1.set n (bagO g5 b c7)) n = some (bagO g5 b c7) := S.set_same
        have tF2 : (t1.set n (bagO g5 b c7)) mF = some (.lst (ls.map sD)) := by rw [S.set_ne (Ne.symm hnF)]; exact tF1
        have tL2 : (t1.set n (bagO g5 b c7)) mL = some (.lst (rest.map .str)) := by rw [S.set_ne (Ne.symm nnL)]; exact tL1
        have tI2 : (t1.set n (bagO g5 b c7)) mI = some (.lst (got.map .str)) := by rw [S.set_ne (Ne.symm nnI)]; exact tI1
        generalize t1.set n (bagO g5 b c7) = t2 at tn2 tF2 tL2 tI2
        have hp : p.toNat < rest.length := by omega
        have ep : (rest.map D.str)[p.toNat]? = some (.str rest[p.toNat]) := by rw [List.getElem?_map, List.getElem?_eq_getElem hp]; rfl
        have pop : ∀ Q' : D → S → Prop, Q' (.str rest[p.toNat]) (t2.set mL (.lst ((rest.eraseIdx p.toNat).map .str))) → dPopAt (.cell mL) [.int p] t2 Q' := fun Q' hQ => by
          show (match t2 mL with
            | some (.lst xs) => 0 ≤ p ∧ p < 2 ^ 63 ∧ (match xs[p.toNat]? with
              | some y => Q' y (t2.set mL (.lst (xs.eraseIdx p.toNat)))
              | none => False)
            | _ => False)
          rw [tL2]
          have er : (rest.map D.str).eraseIdx p.toNat = (rest.eraseIdx p.toNat).map D.str := er_map _ _ _
          refine ⟨hp0, by omega, ?_⟩
          rw [ep, er]
          exact hQ
        refine pop _ (append_lst (by rw [S.set_ne (Ne.symm nLI)]; exact tI2) (by rw [List.length_map, sizeLine_eq]; omega) ?_)
        have e2 : got.map D.str ++ [D.str rest[p.toNat]] = (got ++ [rest[p.toNat]]).map D.str := by rw [List.map_append]; rfl
        rw [e2]
        have pm2 : (rest.eraseIdx p.toNat ++ (got ++ [rest[p.toNat]])).Perm pqr := by
          have a1 : (rest[p.toNat] :: rest.eraseIdx p.toNat).Perm rest := er_perm hp
          have a2 : (rest.eraseIdx p.toNat ++ (got ++ [rest[p.toNat]])).Perm (rest[p.toNat] :: (rest.eraseIdx p.toNat ++ got)) := by
            rw [← List.append_assoc]
            exact List.perm_append_singleton _ _
          exact a2.trans ((List.Perm.append_right got a1).trans pm)
        refine hN2 _ _ ⟨g5, c7, rest.eraseIdx p.toNat, got ++ [rest[p.toNat]], some y, rfl, ?_, ?_, ?_, S.set_same, pm2, by rw [List.length_append, List.length_singleton, lg], hg5, by omega, by omega⟩
        · rw [S.set_ne nnI, S.set_ne nnL]; exact tn2
        · rw [S.set_ne nFI, S.set_ne nFL]; exact tF2
        · rw [S.set_ne nLI, S.set_same]
      have d3c : d3 = 0 ∨ d3 = 1 ∨ d3 = 2 := by omega
      rw [List.length_map]
      rcases d3c with rfl | rfl | rfl
      · exact Y.ix_seq (xs := [.int 2, .int 2, .int (rest.length : Nat)]) rfl (ix_nat (i := 0) rfl) (key 2 (by decide) (by omega))
      · exact Y.ix_seq (xs := [.int 2, .int 2, .int (rest.length : Nat)]) rfl (ix_nat (i := 1) rfl) (key 2 (by decide) (by omega))
      · exact Y.ix_seq (xs := [.int 2, .int 2, .int (rest.length : Nat)]) rfl (ix_nat (i := 2) rfl) (key (rest.length : Nat) (by omega) (by omega))
    · obtain ⟨g3, c5, rest, got, a3, rfl, tn, tF, tL, tI, pm, lg, hg3, hc6, hc7⟩ := hJ
      rw [Nat.zero_add] at lg hc7
      refine ⟨trivial, ?_⟩
      walk_at "ys"
      refine ⟨by show (lstOf (t mF)).isSome = true; rw [tF]; rfl, ?_⟩
      rw [tI]
      rw [List.length_map, List.length_range] at lg hc7
      refine append_lst (by rw [S.del_ne nFI]; exact tF) (by rw [List.length_map, sizeLine_eq]; omega) ?_
      have e2 : ls.map sD ++ [D.lst (got.map .str)] = (ls ++ [got]).map sD := by rw [List.map_append]; rfl
      rw [e2]
      have nd : (rest ++ got).Nodup := pm.nodup_iff.mpr (by decide +kernel)
      refine hN _ _ ⟨g3, c5, ls ++ [got], _, _, _, _, rfl, ?_, S.set_same, hg3, hc6, by omega, by rw [List.length_append, List.length_singleton, hl], fun l hl => ?_⟩
      · rw [S.set_ne hnF, S.del_ne nnI]; exact tn
      · rcases List.mem_append.mp hl with z | z
        · exact hls l z
        · rw [List.mem_singleton.mp z]
          exact ⟨by omega, (List.nodup_append.mp nd).2.1, fun x hx => pm.mem_iff.mp (List.mem_append_right _ hx)⟩
  · obtain ⟨g', c', ls, a2, a3, a4, a5, rfl, hb, hf, hg', hc, hc', hl, hls⟩ := hI
    refine ⟨trivial, ?_⟩
    walk_at "ys"
    rw [hf]
    rw [Nat.zero_add, List.length_map, List.length_range] at hl hc'
    exact q g' c' ls _ (by rw [S.del_ne hnF]; exact hb) hg' hc (by omega) ⟨by omega, hls⟩
/-! ### the law -/
theorem eq_bls {x y : Bool} {s : S} {Q : Bool → Prop} (q : Q (decide (x = y))) : dEqB (.bl x) (.bl y) s Q := q
theorem pqr_txt : ∀ x ∈ pqr, txt 2 x = true := by decide +kernel
theorem eqv_strs : ∀ l : List Str, PyData.eqvAll (l.map .str) (l.map .str) = true
  | [] => by rw [List.map_nil, PyData.eqvAll]
  | x :: l => by rw [List.map_cons, PyData.eqvAll, PyData.eqv, eqv_strs l]; simp
theorem eq_refl_strs {l : List Str} {s : S} {Q : Bool → Prop} (h : ∀ x ∈ l, x ∈ pqr) (q : Q true) : dEqB (.lst (l.map .str)) (.lst (l.map .str)) s Q := by
  cases l with
  | nil => exact eq_nil (xs := []) rfl q
  | cons x r =>
    have na : Nice ((2 + 1) * (x :: r).length) 1 (.list ((x :: r).map .str)) := nice_strs (n := 2) (fun y hy => pqr_txt y (h y hy)) (Nat.le_refl _)
    have ep : pyS s (.lst ((x :: r).map .str)) = some (.list ((x :: r).map .str)) := by
      show D.py (.lst ((x :: r).map .str)) = _
      rw [D.py, pys_str]; rfl
    refine eq_dat (p := .list ((x :: r).map .str)) (q := .list ((x :: r).map .str)) rfl (fun e => nomatch e) (fun e => nomatch e) ep ep (na.shaped (by decide)) (na.shaped (by decide)) ?_
    rw [PyData.eqv, eqv_strs]
    exact q
theorem rising_pw : ∀ (p : Str) (l : List Str), PyProof.Rows.risingS p l = true → (p :: l).Pairwise fun a b => a.cps.toList ≤ b.cps.toList
  | p, [], _ => by simp
  | p, x :: r, h => by
    unfold PyProof.Rows.risingS at h
    rw [Bool.and_eq_true, PyProof.Rows.ltCps_eq, Bool.not_eq_true', decide_eq_false_iff_not] at h
    have ih := rising_pw x r h.2
    have px : p.cps.toList ≤ x.cps.toList := List.not_lt.mp h.1
    refine List.pairwise_cons.mpr ⟨fun y hy => ?_, ih⟩
    rcases List.mem_cons.mp hy with e | e
    · rw [e]; exact px
    · exact List.le_trans px ((List.pairwise_cons.mp ih).1 y e)
theorem sorted_pw {l : List Str} (h : PyProof.Rows.sortedS l = true) : l.Pairwise fun a b => a.cps.toList ≤ b.cps.toList := by
  cases l with
  | nil => exact .nil
  | cons x r => exact rising_pw x r h
theorem cps_inj {a b : Str} (h : a.cps.toList = b.cps.toList) : a = b := by
  cases a; cases b
  have h' := Array.toList_inj.mp h
  cases h'
  rfl
theorem pw_unique : ∀ {a b : List Str}, a.Perm b → (a.Pairwise fun a b => a.cps.toList ≤ b.cps.toList) → (b.Pairwise fun a b => a.cps.toList ≤ b.cps.toList) → a = b
  | [], b, h, _, _ => (List.nil_perm.mp h).symm
  | x :: a, [], h, _, _ => absurd h.length_eq (by simp)
  | x :: a, y :: b, h, ha, hb => by
    rw [List.pairwise_cons] at ha hb
    have e : x = y := by
      have h1 : x ∈ y :: b := h.mem_iff.mp (by simp)
      have h2 : y ∈ x :: a := h.mem_iff.mpr (by simp)
      rcases List.mem_cons.mp h1 with q | q
      · exact q
      · rcases List.mem_cons.mp h2 with q2 | q2
        · exact q2.symm
        · exact cps_inj (List.le_antisymm (ha.1 y q2) (hb.1 x q))
    subst e
    rw [pw_unique (List.Perm.cons_inv h) ha.2 hb.2]
theorem nodup_perm {a b : List Str} (ha : a.Nodup) (hb : b.Nodup) (h : ∀ x, x ∈ a ↔ x ∈ b) : a.Perm b := (List.perm_ext_iff_of_nodup ha hb).mpr h
theorem strs_map (l : List Str) : strsD (l.map .str) = some l := by
  induction l with
  | nil => rfl
  | cons x r ih =>
    show (strsD (r.map .str)).map (x :: ·) = _
    rw [ih]; rfl
theorem sorted_cell {s : S} {n : Nat} {r : List Str} {Q : D → S → Prop} (h : s n = some (.lst (r.map .str))) (hl : r.length < 64) (q : ∀ ys : List Str, ys.Perm r → PyProof.Rows.sortedS ys = true → Q (.lst (ys.map .str)) s) : dSorted [.cell n] s Q := by
  have e : (seqL s (.cell n)).bind strsD = some r := by
    show (lstOf (s n)).bind strsD = _
    rw [h]
    exact strs_map r
  unfold dSorted
  simp only [e]
  exact ⟨hl, q⟩
theorem sorted_dic {s : S} {m : Tb} {Q : D → S → Prop} (hl : m.length < 64) (q : ∀ ys : List Str, ys.Perm (m.map (·.1)) → PyProof.Rows.sortedS ys = true → Q (.lst (ys.map .str)) s) : dSorted [.dic (embT m)] s Q := by
  have e1 : (seqL s (.dic (embT m))).bind strsD = none := rfl
  have e2 : (mapD s (.dic (embT m))).bind (fun kvs => strsD (kvs.map (·.1))) = some (m.map (·.1)) := by
    show strsD ((embT m).map (·.1)) = _
    have ek : (embT m).map (·.1) = (m.map (·.1)).map D.str := by unfold embT; rw [List.map_map, List.map_map]; rfl
    rw [ek]
    exact strs_map _
  unfold dSorted
  simp only [e1, e2]
  exact ⟨by rw [List.length_map]; exact hl, q⟩
theorem tot_le {k : Nat} : ∀ {ls : List (List Str)}, (∀ l ∈ ls, l.length ≤ k) → tot ls ≤ k * ls.length
  | [], _ => Nat.zero_le _
  | l :: ls, h => by
    rw [tot_cons, List.length_cons, Nat.mul_succ]
    have := h l (by simp)
    have := tot_le (ls := ls) fun l hl => h l (by simp [hl])
    omega
theorem merged_some {ls : List (List Str)} {r : List Str} {s : S} {Q : D → S → Prop} {Ex : DX} (h : drawn ls) (e : mrgL ls = some r) (q : ∀ n, s n = none → Q (.cell n) (s.set n (.lst (r.map .str)))) : Y.sp_merged [.lst (ls.map sD)] s Q Ex :=
  ⟨ls, rfl, by have a := tot_le (k := 4) fun l hl => (h.2 l hl).1; have := h.1; rw [sizeLine_eq]; omega, fun n acc hn => by rw [e]; exact q n hn⟩
theorem merged_none {ls : List (List Str)} {s : S} {Q : D → S → Prop} {Ex : DX} (h : drawn ls) (e : mrgL ls = none) (q : ∀ n o, s n = none → Q .non (s.set n o)) : Y.sp_merged [.lst (ls.map sD)] s Q Ex :=
  ⟨ls, rfl, by have a := tot_le (k := 4) fun l hl => (h.2 l hl).1; have := h.1; rw [sizeLine_eq]; omega, fun n acc hn => by rw [e]; exact q n _ hn⟩
theorem bag_call {ns : List Int} {k : Nat} {s : S} {Q : D → S → Prop} {Ex : DX} (hk : k < 64) (q : ∀ (n : Nat) (g b : Int), s n = none → 0 ≤ g → 0 ≤ b → b < 2305843009213693907 → Q (.cell n) (s.set n (bagO g b 0))) : sp_law_bag [.xl (ns.map .int), .int k] s Q Ex := ⟨ns, k, rfl, hk, q⟩
theorem suc_edge (ls : List (List Str)) : (fun x y => y ∈ sucA (bhO ls ls.length) x) = Edge ls := by
  funext x y
  exact propext ((bhO_suc x y ls.length).trans (by rw [List.take_length]))
theorem ring_call {ls : List (List Str)} {s : S} {Q : D → S → Prop} {Ex : DX} (h : drawn ls) (q : ∀ s', Sx s s' → Q (.bl (mrgL ls).isNone) s') : sp_law_has_ring [.dic (embT (bhO ls ls.length))] s Q Ex := by
  have T := bhO_ok (k := 4) (fun l hl => (h.2 l hl).1) ls.length
  have hl := h.1
  refine ⟨bhO ls ls.length, 4 * ls.length, rfl, T, by omega, fun x y hy => ?_, fun b s' fx hb => ?_⟩
  · rw [bhO_suc] at hy
    obtain ⟨l, hl, a, c, e⟩ := hy
    exact (bhO_key y ls.length).mpr ⟨l, hl, by rw [e]; simp⟩
  · rw [suc_edge, ← merge_ring fun l hl => (h.2 l hl).2.1] at hb
    have e : b = (mrgL ls).isNone := by
      cases em : mrgL ls with
      | none => exact hb.mpr em
      | some r =>
        cases b with
        | false => rfl
        | true => have := hb.mp rfl; rw [em] at this; cases this
    rw [e]
    exact q s' fx
theorem pure_law (as : List D) (s : S) (Q : D → S → Prop) (Ex : DX) (h : sp_law as s Q Ex) : wpSs c_law (fun _ => Ex) m_law { nx := fun _ s' => Q .non s', rt := Q } (nvOf N_law as) s := by
  obtain ⟨ns, rfl, hns, q⟩ := h
  show wpSs c_law (fun _ => Ex) m_law { nx := fun _ s' => Q .non s', rt := Q } [some (.xl (ns.map .int)), none, none, none, none, none, none, none, none, none] s
  unfold m_law
  walk_at "ys"
  generalize hz : (if (if (((ns.map D.int).length : Nat) : Int) < 6 then (((ns.map D.int).length : Nat) : Int) else 6) > 2 then (if (((ns.map D.int).length : Nat) : Int) < 6 then (((ns.map D.int).length : Nat) : Int) else 6) else 2) = z
  have z1 : 0 ≤ z ∧ z ≤ 6 := by
    rw [← hz]
    split
    · split <;> omega
    · omega
  clear hz
  refine ⟨by omega, by omega, ?_⟩
  refine go_inv (fun i e s' => ∃ a1 a2 a3 a4 a5 a6 a7 a8 a9 : Option D, e = [some (.xl (ns.map .int)), a1, a2, a3, a4, a5, a6, a7, a8, a9]) _ 0 _ _ ⟨_, _, _, _, _, _, _, _, _, rfl⟩ (fun i x e s' N M hx hI hN hM => ?_) (fun e s' hI => ?_)
  · obtain ⟨a1, a2, a3, a4, a5, a6, a7, a8, a9, rfl⟩ := hI
    refine ⟨trivial, ?_⟩
    have hi : i < z.toNat := by
      have := (List.getElem?_eq_some_iff.mp hx).1
      simpa using this
    have hx2 : x = D.int (i : Nat) := by
      rw [List.getElem?_map, List.getElem?_range hi] at hx
      exact (Option.some.inj hx).symm
    subst hx2
    walk_at "ys"
    refine bag_call (by omega) fun n g b hn hg hb0 hb1 => ?_
    refine ⟨by decide, by decide, ?_⟩
    refine go_inv (fun j e s' => ∃ (g c : Int) (a3 a4 a5 a6 a7 a8 a9 : Option D), e = [some (.xl (ns.map .int)), some (.int (i : Nat)), some (.cell n), a3, a4, a5, a6, a7, a8, a9] ∧ s' n = some (bagO g b c) ∧ 0 ≤ g ∧ 0 ≤ c ∧ c ≤ 100 * (j : Int)) _ 0 _ _ ⟨g, 0, _, _, _, _, _, _, _, rfl, S.set_same, hg, by decide, by decide⟩ (fun j y e s1 N2 M2 hy hI hN2 hM2 => ?_) (fun e s1 hI => ?_)
    · obtain ⟨g1, c1, a3, a4, a5, a6, a7, a8, a9, rfl, hs1, hg1, hc1, hc2⟩ := hI
      refine ⟨trivial, ?_⟩
      have hj : j < 30 := by
        have := (List.getElem?_eq_some_iff.mp hy).1
        simpa using this
      walk_at "ys"
      refine ⟨n, g1, b, c1, rfl, hs1, ⟨hg1, hb0, hb1, hc1, by omega⟩, fun g2 c2 ls s2 hb hg2 hc3 hc4 hls => ?_⟩
      have keep : ∀ s2 : S, s2 n = some (bagO g2 b c2) → ∀ a3 a4 a5 a6 a7 a8 a9 : Option D, N2 [some (.xl (ns.map .int)), some (.int (i : Nat)), some (.cell n), a3, a4, a5, a6, a7, a8, a9] s2 := fun s2 h2 a3 a4 a5 a6 a7 a8 a9 => hN2 _ _ ⟨g2, c2, _, _, _, _, _, _, _, rfl, h2, hg2, by omega, by omega⟩
      have bhl : ls.length ≤ 5 ∧ ∀ l ∈ ls, l.length ≤ 4 := ⟨hls.1, fun l hl => (hls.2 l hl).1⟩
      cases em : mrgL ls with
      | none =>
        refine merged_none hls em fun k1 o1 hk1 => ?_
        have hb2 : (s2.set k1 o1) n = some (bagO g2 b c2) := by
          rw [S.set_ne fun e => by rw [e, hk1] at hb; cases hb]; exact hb
        refine ⟨ls, rfl, bhl, ?_⟩
        refine ⟨by show 2 ≤ sizeLine; decide, rfl, rfl, ?_⟩
        walk_at "ys"
        refine ring_call hls fun s3 fx => ?_
        rw [em]
        have hb3 := fx n _ hb2
        refine eq_bls ?_
        rw [if_neg (by decide)]
        exact keep s3 hb3 _ _ _ _ _ _ _
      | some r =>
        obtain ⟨nd, mem, ord⟩ := mrg_order _ _ _ ne0_ne (fun l hl => (hls.2 l (List.mem_filter.mp hl).1).2.1) em
        refine merged_some hls em fun k1 hk1 => ?_
        have hb2 : (s2.set k1 (.lst (r.map .str))) n = some (bagO g2 b c2) := by
          rw [S.set_ne fun e => by rw [e, hk1] at hb; cases hb]; exact hb
        have d1 : (s2.set k1 (.lst (r.map .str))) k1 = some (.lst (r.map .str)) := S.set_same
        refine ⟨ls, rfl, bhl, ?_⟩
        refine ⟨by show 2 ≤ sizeLine; decide, rfl, rfl, ?_⟩
        walk_at "ys"
        refine ring_call hls fun s3 fx => ?_
        rw [em]
        have hb3 := fx n _ hb2
        have d3 := fx k1 _ d1
        refine eq_bls ?_
        rw [if_neg (show ¬ (!decide (false = (some r).isNone)) = true from by show ¬ (!decide (false = false)) = true; decide)]
        have inp : ∀ x ∈ r, x ∈ pqr := fun x hx => by
          obtain ⟨l, hl, hxl⟩ := (mem x).mp hx
          exact (hls.2 l (List.mem_filter.mp hl).1).2.2 x hxl
        have rl : r.length ≤ 6 := nodup_le nd inp
        have T := bhO_ok (k := 4) (fun l hl => (hls.2 l hl).1) ls.length
        have hl5 := hls.1
        have hk : ∀ x, x ∈ r ↔ x ∈ (bhO ls ls.length).map (·.1) := fun x => by
          rw [mem x, bhO_key, List.take_length]
          exact ⟨fun ⟨l, hl, h⟩ => ⟨l, (List.mem_filter.mp hl).1, h⟩, fun ⟨l, hl, h⟩ => ⟨l, List.mem_filter.mpr ⟨hl, by cases l with | nil => cases h | cons _ _ => rfl⟩, h⟩⟩
        have hT := T.ln
        refine sorted_cell d3 (by omega) fun ys p1 q1 => sorted_dic (by omega) fun zs p2 q2 => ?_
        have eyz : ys = zs := pw_unique (p1.trans ((nodup_perm nd T.nd hk).trans p2.symm)) (sorted_pw q1) (sorted_pw q2)
        rw [← eyz]
        refine eq_refl_strs (fun x hx => inp x (p1.mem_iff.mp hx)) ?_
        rw [if_neg (by decide)]
        intro z2
        have ord2 : ∀ l ∈ ls, r.filter (fun x => decide (x ∈ l)) = l := fun l hl => by
          cases l with
          | nil => rw [List.filter_eq_nil_iff]; intro z _; simp
          | cons y t => exact ord _ (List.mem_filter.mpr ⟨hl, rfl⟩)
        refine ⟨z2, lc_typed (s := s3) (ok := fun _ => True) trivial sD sD (fun _ => false) id ls _ (fun l hl K1 K2 _ h2 => ?_) ?_⟩
        · walk_at "ys"
          rw [d3]
          show (r.map D.str).length ≤ sizeLine → _
          intro z3
          refine ⟨z3, lc_typed (s := s3) (ok := fun s => lstOf (s k1) = some (r.map .str)) (by rw [d3]; rfl) D.str D.str (fun x => decide (x ∈ l)) id r _ (fun x hx J1 J2 g1 g2 => ?_) ?_⟩
          · walk_at "ys"
            refine notin_strs ?_
            cases e : decide (x ∈ l) with
            | true => exact g1 e
            | false => exact g2 e
          · rw [List.map_id, ord2 l hl]
            refine eq_refl_strs (fun x hx => (hls.2 l hl).2.2 x hx) ?_
            exact h2 rfl
        rw [List.filter_eq_nil_iff.mpr fun _ _ => by simp]
        refine ⟨Nat.zero_le _, eq_nil (xs := []) rfl ?_⟩
        rw [if_neg (by decide), d3]
        show dGo _ _ _ _ _ (enumD (r.map D.str)) _ _
        refine go_inv (fun i' e t => ∃ a7 a8 a9 : Option D, e = [some (.xl (ns.map .int)), some (.int (i : Nat)), some (.cell n), some y, some (.lst (ls.map sD)), some (.cell k1), some (.dic (embT (bhO ls ls.length))), a7, a8, a9] ∧ t = s3) _ 0 _ _ ⟨_, _, _, rfl, rfl⟩ (fun i' w e t N3 M3 hw hI hN3 hM3 => ?_) (fun e t hI => ?_)
        · obtain ⟨a7, a8, a9, rfl, rfl⟩ := hI
          refine ⟨by rw [d3]; rfl, ?_⟩
          unfold enumD at hw
          rw [List.getElem?_mapIdx, List.getElem?_map] at hw
          cases ei : r[i']? with
          | none => rw [ei] at hw; cases hw
          | some x =>
            rw [ei] at hw
            have hw' : D.tup [.int (i' : Nat), .str x] = w := Option.some.inj hw
            subst hw'
            refine ⟨rfl, rfl, ?_⟩
            walk_at "ys"
            rw [d3]
            show sp_law_first_ones [.lst (ls.map sD), .lst (dcut (r.map D.str) none (some (i' : Int)))] _ _ _
            rw [dcut_to, ← List.map_take]
            refine ⟨ls, r.take i', rfl, ?_⟩
            have pl := mrg_places (ls := ls) (tot ls) [] r (by
              have e0 : ls.map (keepN []) = ls := by
                rw [List.map_congr_left (g := id) fun l _ => by
                  show keepN [] l = l
                  unfold keepN
                  rw [List.filter_eq_self]
                  intro z _
                  simp]
                rw [List.map_id]
              rw [e0]; exact em) i' x ei
            rw [List.nil_append, ← firsts_good] at pl
            have ef : dcut ((firsts ls (r.take i')).map D.str) none (some 1) = ([x] : List Str).map .str := by
              rw [show (some (1 : Int)) = some ((1 : Nat) : Int) from rfl, dcut_to]
              cases e : firsts ls (r.take i') with
              | nil => rw [e] at pl; cases pl
              | cons y2 t2 => rw [e] at pl; cases pl; rfl
            show _ ∧ dEqB (.lst (dcut ((firsts ls (r.take i')).map D.str) none (some 1))) (.lst (([x] : List Str).map .str)) _ _
            rw [ef]
            refine ⟨by show 1 ≤ sizeLine; decide, eq_refl_strs (fun u hu => by rw [List.mem_singleton.mp hu]; exact inp x (List.mem_of_getElem? ei)) ?_⟩
            rw [if_neg (by decide)]
            exact hN3 _ _ ⟨_, _, _, rfl, rfl⟩
        · obtain ⟨a7, a8, a9, rfl, rfl⟩ := hI
          exact ⟨by rw [d3]; rfl, keep _ hb3 _ _ _ _ _ _ _⟩
    · obtain ⟨g1, c1, a3, a4, a5, a6, a7, a8, a9, rfl, _⟩ := hI
      exact ⟨trivial, hN _ _ ⟨_, _, _, _, _, _, _, _, _, rfl⟩⟩
  · obtain ⟨a1, a2, a3, a4, a5, a6, a7, a8, a9, rfl⟩ := hI
    exact ⟨trivial, q _⟩
end K03


namespace K03
open PySem PySem.Spec PyProof.Rows L2 Y
theorem len_can_be_first (as : List D) (s : S) (Q : D → S → Prop) (Ex : DX) (h : sp_can_be_first as s Q Ex) : as.length = 2 := by obtain ⟨_, _, rfl, _⟩ := h; rfl
theorem len_merged (as : List D) (s : S) (Q : D → S → Prop) (Ex : DX) (h : sp_merged as s Q Ex) : as.length = 1 := by obtain ⟨_, rfl, _⟩ := h; rfl
theorem len_law_bag (as : List D) (s : S) (Q : D → S → Prop) (Ex : DX) (h : sp_law_bag as s Q Ex) : as.length = 2 := by obtain ⟨_, _, rfl, _⟩ := h; rfl
theorem len_law_take (as : List D) (s : S) (Q : D → S → Prop) (Ex : DX) (h : sp_law_take as s Q Ex) : as.length = 2 := by obtain ⟨_, _, _, _, _, rfl, _⟩ := h; rfl
theorem len_law_drawn_lists (as : List D) (s : S) (Q : D → S → Prop) (Ex : DX) (h : sp_law_drawn_lists as s Q Ex) : as.length = 1 := by obtain ⟨_, _, _, _, rfl, _⟩ := h; rfl
theorem len_law_behind (as : List D) (s : S) (Q : D → S → Prop) (Ex : DX) (h : sp_law_behind as s Q Ex) : as.length = 1 := by obtain ⟨_, rfl, _⟩ := h; rfl
theorem len_law_has_ring (as : List D) (s : S) (Q : D → S → Prop) (Ex : DX) (h : sp_law_has_ring as s Q Ex) : as.length = 1 := by obtain ⟨_, _, rfl, _⟩ := h; rfl
theorem len_law_first_ones (as : List D) (s : S) (Q : D → S → Prop) (Ex : DX) (h : sp_law_first_ones as s Q Ex) : as.length = 2 := by obtain ⟨_, _, rfl, _⟩ := h; rfl
theorem len_law (as : List D) (s : S) (Q : D → S → Prop) (Ex : DX) (h : sp_law as s Q Ex) : as.length = 1 := by obtain ⟨_, rfl, _⟩ := h; rfl
theorem pure_can_be_first (as : List D) (s : S) (Q : D → S → Prop) (Ex : DX) (h : sp_can_be_first as s Q Ex) : wpSs c_can_be_first (fun _ => Ex) m_can_be_first { nx := fun _ s' => Q .non s', rt := Q } (nvOf N_can_be_first as) s := Y.pure_can_be_first _ as s Q Ex h
theorem pure_merged (as : List D) (s : S) (Q : D → S → Prop) (Ex : DX) (h : sp_merged as s Q Ex) : wpSs c_merged (fun _ => Ex) m_merged { nx := fun _ s' => Q .non s', rt := Q } (nvOf N_merged as) s := Y.pure_merged _ rfl rfl as s Q Ex h
theorem pure_law_bag (as : List D) (s : S) (Q : D → S → Prop) (Ex : DX) (h : sp_law_bag as s Q Ex) : wpSs c_law_bag (fun _ => Ex) m_law_bag { nx := fun _ s' => Q .non s', rt := Q } (nvOf N_law_bag as) s := Y.pure_bag _ as s Q Ex h
theorem pure_law_take (as : List D) (s : S) (Q : D → S → Prop) (Ex : DX) (h : sp_law_take as s Q Ex) : wpSs c_law_take (fun _ => Ex) m_law_take { nx := fun _ s' => Q .non s', rt := Q } (nvOf N_law_take as) s := Y.pure_take _ as s Q Ex h
theorem law_law : LawSp sp_law := fun ns s h1 _ _ => ⟨ns, rfl, h1, fun _ => rfl⟩
theorem g_can_be_first {P : Program} {w : World} {K : PySem.W.Frag} {mg : Str → Option Value} {base : Heap} {f : Addr} {fd : FuncData} (F : FunD K "can_be_first" "can_be_first" (defArgs s_can_be_first) (defBody s_can_be_first) (defScope s_can_be_first) [] [] f fd) (hbl : ∀ y ∈ bltNames, mg y = none) :
    GFn P w K mg base 1 f fd ["name", "lists"] (spOf K sp_can_be_first) := def_ok (lv := 0) F sc_can_be_first ok_can_be_first hbl (k := k_can_be_first) (c := c_can_be_first) (by
  intro j hj
  match j, hj with
  | n + 0, hj => exact absurd hj (by show ¬ n + 0 < 0; omega)) len_can_be_first pure_can_be_first
theorem g_merged {P : Program} {w : World} {K : PySem.W.Frag} {mg : Str → Option Value} {base : Heap} {f : Addr} {fd : FuncData} (F : FunD K "merged" "merged" (defArgs s_merged) (defBody s_merged) (defScope s_merged) [] [] f fd) (hbl : ∀ y ∈ bltNames, mg y = none) (G_can_be_first : CalOk P w K mg base 1 s_can_be_first "can_be_first" ["name", "lists"] sp_can_be_first):
    GFn P w K mg base 2 f fd ["lists"] (spOf K sp_merged) := def_ok (lv := 1) F sc_merged ok_merged hbl (k := k_merged) (c := c_merged) (by
  intro j hj
  match j, hj with
  | 0, _ => exact form_pos G_can_be_first (by decide) rfl rfl rfl rfl
  | n + 1, hj => exact absurd hj (by show ¬ n + 1 < 1; omega)) len_merged pure_merged
theorem g_law_bag {P : Program} {w : World} {K : PySem.W.Frag} {mg : Str → Option Value} {base : Heap} {f : Addr} {fd : FuncData} (F : FunD K "_law_bag" "_law_bag" (defArgs s_law_bag) (defBody s_law_bag) (defScope s_law_bag) [] [] f fd) (hbl : ∀ y ∈ bltNames, mg y = none) :
    GFn P w K mg base 1 f fd ["_law_script", "_law_at"] (spOf K sp_law_bag) := def_ok (lv := 0) F sc_law_bag ok_law_bag hbl (k := k_law_bag) (c := c_law_bag) (by
  intro j hj
  match j, hj with
  | n + 0, hj => exact absurd hj (by show ¬ n + 0 < 0; omega)) len_law_bag pure_law_bag
theorem g_law_take {P : Program} {w : World} {K : PySem.W.Frag} {mg : Str → Option Value} {base : Heap} {f : Addr} {fd : FuncData} (F : FunD K "_law_take" "_law_take" (defArgs s_law_take) (defBody s_law_take) (defScope s_law_take) [] [] f fd) (hbl : ∀ y ∈ bltNames, mg y = none) :
    GFn P w K mg base 1 f fd ["_law_bag_here", "_law_many"] (spOf K sp_law_take) := def_ok (lv := 0) F sc_law_take ok_law_take hbl (k := k_law_take) (c := c_law_take) (by
  intro j hj
  match j, hj with
  | n + 0, hj => exact absurd hj (by show ¬ n + 0 < 0; omega)) len_law_take pure_law_take
theorem g_law_drawn_lists {P : Program} {w : World} {K : PySem.W.Frag} {mg : Str → Option Value} {base : Heap} {f : Addr} {fd : FuncData} (F : FunD K "_law_drawn_lists" "_law_drawn_lists" (defArgs s_law_drawn_lists) (defBody s_law_drawn_lists) (defScope s_law_drawn_lists) [] [] f fd) (hbl : ∀ y ∈ bltNames, mg y = none) (G_law_take : CalOk P w K mg base 1 s_law_take "_law_take" ["_law_bag_here", "_law_many"] sp_law_take):
    GFn P w K mg base 2 f fd ["_law_bag_here"] (spOf K sp_law_drawn_lists) := def_ok (lv := 1) F sc_law_drawn_lists ok_law_drawn_lists hbl (k := k_law_drawn_lists) (c := c_law_drawn_lists) (by
  intro j hj
  match j, hj with
  | 0, _ => exact form_pos G_law_take (by decide) rfl rfl rfl rfl
  | n + 1, hj => exact absurd hj (by show ¬ n + 1 < 1; omega)) len_law_drawn_lists pure_law_drawn_lists
theorem g_law_behind {P : Program} {w : World} {K : PySem.W.Frag} {mg : Str → Option Value} {base : Heap} {f : Addr} {fd : FuncData} (F : FunD K "_law_behind" "_law_behind" (defArgs s_law_behind) (defBody s_law_behind) (defScope s_law_behind) [] [] f fd) (hbl : ∀ y ∈ bltNames, mg y = none) :
    GFn P w K mg base 1 f fd ["_law_lists"] (spOf K sp_law_behind) := def_ok (lv := 0) F sc_law_behind ok_law_behind hbl (k := k_law_behind) (c := c_law_behind) (by
  intro j hj
  match j, hj with
  | n + 0, hj => exact absurd hj (by show ¬ n + 0 < 0; omega)) len_law_behind pure_law_behind
theorem g_law_has_ring {P : Program} {w : World} {K : PySem.W.Frag} {mg : Str → Option Value} {base : Heap} {f : Addr} {fd : FuncData} (F : FunD K "_law_has_ring" "_law_has_ring" (defArgs s_law_has_ring) (defBody s_law_has_ring) (defScope s_law_has_ring) [] [] f fd) (hbl : ∀ y ∈ bltNames, mg y = none) :
    GFn P w K mg base 1 f fd ["_law_behind_here"] (spOf K sp_law_has_ring) := def_ok (lv := 0) F sc_law_has_ring ok_law_has_ring hbl (k := k_law_has_ring) (c := c_law_has_ring) (by
  intro j hj
  match j, hj with
  | n + 0, hj => exact absurd hj (by show ¬ n + 0 < 0; omega)) len_law_has_ring pure_law_has_ring
theorem g_law_first_ones {P : Program} {w : World} {K : PySem.W.Frag} {mg : Str → Option Value} {base : Heap} {f : Addr} {fd : FuncData} (F : FunD K "_law_first_ones" "_law_first_ones" (defArgs s_law_first_ones) (defBody s_law_first_ones) (defScope s_law_first_ones) [] [] f fd) (hbl : ∀ y ∈ bltNames, mg y = none) :
    GFn P w K mg base 1 f fd ["_law_lists", "_law_known"] (spOf K sp_law_first_ones) := def_ok (lv := 0) F sc_law_first_ones ok_law_first_ones hbl (k := k_law_first_ones) (c := c_law_first_ones) (by
  intro j hj
  match j, hj with
  | n + 0, hj => exact absurd hj (by show ¬ n + 0 < 0; omega)) len_law_first_ones pure_law_first_ones
theorem g_law {P : Program} {w : World} {K : PySem.W.Frag} {mg : Str → Option Value} {base : Heap} {f : Addr} {fd : FuncData} (F : FunD K "law" "law" (defArgs s_law) (defBody s_law) (defScope s_law) [] [] f fd) (hbl : ∀ y ∈ bltNames, mg y = none) (G_law_bag : CalOk P w K mg base 1 s_law_bag "_law_bag" ["_law_script", "_law_at"] sp_law_bag) (G_law_drawn_lists : CalOk P w K mg base 2 s_law_drawn_lists "_law_drawn_lists" ["_law_bag_here"] sp_law_drawn_lists) (G_merged : CalOk P w K mg base 2 s_merged "merged" ["lists"] sp_merged) (G_law_behind : CalOk P w K mg base 1 s_law_behind "_law_behind" ["_law_lists"] sp_law_behind) (G_law_has_ring : CalOk P w K mg base 1 s_law_has_ring "_law_has_ring" ["_law_behind_here"] sp_law_has_ring) (G_law_first_ones : CalOk P w K mg base 1 s_law_first_ones "_law_first_ones" ["_law_lists", "_law_known"] sp_law_first_ones):
    GFn P w K mg base 3 f fd ["_law_script"] (spOf K sp_law) := def_ok (lv := 2) F sc_law ok_law hbl (k := k_law) (c := c_law) (by
  intro j hj
  match j, hj with
  | 0, _ => exact form_pos G_law_bag (by decide) rfl rfl rfl rfl
  | 1, _ => exact form_pos G_law_drawn_lists (by decide) rfl rfl rfl rfl
  | 2, _ => exact form_pos G_merged (by decide) rfl rfl rfl rfl
  | 3, _ => exact form_pos G_law_behind (by decide) rfl rfl rfl rfl
  | 4, _ => exact form_pos G_law_has_ring (by decide) rfl rfl rfl rfl
  | 5, _ => exact form_pos G_law_first_ones (by decide) rfl rfl rfl rfl
  | n + 6, hj => exact absurd hj (by show ¬ n + 6 < 6; omega)) len_law pure_law
def d_can_be_first : He.DefD := ⟨("can_be_first", none), "can_be_first", "can_be_first", defArgs s_can_be_first, defBody s_can_be_first, defScope s_can_be_first, [], []⟩
def d_merged : He.DefD := ⟨("merged", none), "merged", "merged", defArgs s_merged, defBody s_merged, defScope s_merged, [], []⟩
def d_law_bag : He.DefD := ⟨("_law_bag", none), "_law_bag", "_law_bag", defArgs s_law_bag, defBody s_law_bag, defScope s_law_bag, [], []⟩
def d_law_take : He.DefD := ⟨("_law_take", none), "_law_take", "_law_take", defArgs s_law_take, defBody s_law_take, defScope s_law_take, [], []⟩
def d_law_drawn_lists : He.DefD := ⟨("_law_drawn_lists", none), "_law_drawn_lists", "_law_drawn_lists", defArgs s_law_drawn_lists, defBody s_law_drawn_lists, defScope s_law_drawn_lists, [], []⟩
def d_law_behind : He.DefD := ⟨("_law_behind", none), "_law_behind", "_law_behind", defArgs s_law_behind, defBody s_law_behind, defScope s_law_behind, [], []⟩
def d_law_has_ring : He.DefD := ⟨("_law_has_ring", none), "_law_has_ring", "_law_has_ring", defArgs s_law_has_ring, defBody s_law_has_ring, defScope s_law_has_ring, [], []⟩
def d_law_first_ones : He.DefD := ⟨("_law_first_ones", none), "_law_first_ones", "_law_first_ones", defArgs s_law_first_ones, defBody s_law_first_ones, defScope s_law_first_ones, [], []⟩
def d_law : He.DefD := ⟨("law", none), "law", "law", defArgs s_law, defBody s_law, defScope s_law, [], []⟩
def fn : List He.DefD := [d_can_be_first, d_merged, d_law_bag, d_law_take, d_law_drawn_lists, d_law_behind, d_law_has_ring, d_law_first_ones, d_law]
def fa0 : List He.Fa := [.glo "can_be_first", .glo "merged", .glo "_law_bag", .glo "_law_take", .glo "_law_drawn_lists", .glo "_law_behind", .glo "_law_has_ring", .glo "_law_first_ones", .glo "law"]
def fa : List He.Fa := fa0 ++ [.free "len", .free "abs", .free "max", .free "min", .free "all", .free "any", .free "list", .free "tuple", .free "repr", .free "sorted", .free "range", .free "enumerate", .free "isinstance", .free "set", .free "dict", .free "int", .free "sum", .free "str", .free "bool", .free "reversed", .free "zip"]
def names0 : List Str := ["__name__", "can_be_first", "merged", "_law_bag", "_law_take", "_law_drawn_lists", "_law_behind", "_law_has_ring", "_law_first_ones"]
def names : List Str := names0
abbrev R : PySem.W.OpenRow := PySem.W.OpenLaw.row PySem.Challenge.rw_sworntypes_k03_whole_merges_and_rings
abbrev hk : PySem.W.Hook := He.hookD 4 fa fn
def ob (s : PySem.W.SharedT) : He.AlD := He.obsDG 4 fa fn (HandSHeadRun.getT s)
theorem ob_eq (s : PySem.W.SharedT) : ob s = hk.obs s.abs := He.obsDG_eq (HandSHeadRun.getT_eq s)
theorem run (w : World) : HandSHeadRun.RunEq R (PySem.W.view R.prog [10]) hk ob 2000 names w := by
  intro os
  kernel_rfl
theorem facts {P : Program} {w : World} {K : PySem.W.Frag} {h : Heap} {mg : Str → Option Value} {f : Addr} (X : K.In h) (G : h.Ns mainGlobals mg) (hfa : mg ("law" : Str) = some (.ref f)) (c : He.SaysD fa fn K) :
    ∃ fd : FuncData, (∀ (s : Shared) (v : Value), BindsTo s fd ⟨[v], []⟩ [("_law_script", v)]) ∧ ∀ base : Heap, K.In base → base.Ns mainGlobals mg → GFn P w K mg base 3 f fd ["_law_script"] (spOf K sp_law) := by
  have hbl : ∀ y ∈ bltNames, mg y = none := by
    intro y hy
    simp only [bltNames, List.mem_cons, List.not_mem_nil, or_false] at hy
    rcases hy with rfl | rfl | rfl | rfl | rfl | rfl | rfl | rfl | rfl | rfl | rfl | rfl | rfl | rfl | rfl | rfl | rfl | rfl | rfl | rfl | rfl
    · exact He.free_ok X G (c.fact 9 (f := .free "len") rfl)
    · exact He.free_ok X G (c.fact 10 (f := .free "abs") rfl)
    · exact He.free_ok X G (c.fact 11 (f := .free "max") rfl)
    · exact He.free_ok X G (c.fact 12 (f := .free "min") rfl)
    · exact He.free_ok X G (c.fact 13 (f := .free "all") rfl)
    · exact He.free_ok X G (c.fact 14 (f := .free "any") rfl)
    · exact He.free_ok X G (c.fact 15 (f := .free "list") rfl)
    · exact He.free_ok X G (c.fact 16 (f := .free "tuple") rfl)
    · exact He.free_ok X G (c.fact 17 (f := .free "repr") rfl)
    · exact He.free_ok X G (c.fact 18 (f := .free "sorted") rfl)
    · exact He.free_ok X G (c.fact 19 (f := .free "range") rfl)
    · exact He.free_ok X G (c.fact 20 (f := .free "enumerate") rfl)
    · exact He.free_ok X G (c.fact 21 (f := .free "isinstance") rfl)
    · exact He.free_ok X G (c.fact 22 (f := .free "set") rfl)
    · exact He.free_ok X G (c.fact 23 (f := .free "dict") rfl)
    · exact He.free_ok X G (c.fact 24 (f := .free "int") rfl)
    · exact He.free_ok X G (c.fact 25 (f := .free "sum") rfl)
    · exact He.free_ok X G (c.fact 26 (f := .free "str") rfl)
    · exact He.free_ok X G (c.fact 27 (f := .free "bool") rfl)
    · exact He.free_ok X G (c.fact 28 (f := .free "reversed") rfl)
    · exact He.free_ok X G (c.fact 29 (f := .free "zip") rfl)
  obtain ⟨fd_can_be_first, F_can_be_first⟩ := c.def_ 0 (d := d_can_be_first) rfl
  obtain ⟨fd_merged, F_merged⟩ := c.def_ 1 (d := d_merged) rfl
  obtain ⟨fd_law_bag, F_law_bag⟩ := c.def_ 2 (d := d_law_bag) rfl
  obtain ⟨fd_law_take, F_law_take⟩ := c.def_ 3 (d := d_law_take) rfl
  obtain ⟨fd_law_drawn_lists, F_law_drawn_lists⟩ := c.def_ 4 (d := d_law_drawn_lists) rfl
  obtain ⟨fd_law_behind, F_law_behind⟩ := c.def_ 5 (d := d_law_behind) rfl
  obtain ⟨fd_law_has_ring, F_law_has_ring⟩ := c.def_ 6 (d := d_law_has_ring) rfl
  obtain ⟨fd_law_first_ones, F_law_first_ones⟩ := c.def_ 7 (d := d_law_first_ones) rfl
  obtain ⟨fd_law, F_law⟩ := c.def_ 8 (d := d_law) rfl
  have e := hfa.symm.trans (He.glo_ok X G (c.fact 8 (f := .glo "law") rfl))
  cases e
  refine ⟨fd_law, fun s v => FunD.bindsA (ps := ["_law_script"]) F_law (fun _ _ _ _ _ _ us hl => match us, hl with | [_], _ => rfl) s [v] rfl, fun base _ _ => ?_⟩
  have G_can_be_first : CalOk P w K mg base 1 s_can_be_first "can_be_first" ["name", "lists"] sp_can_be_first := ⟨_, _, F_can_be_first, g_can_be_first F_can_be_first hbl , He.glo_ok X G (c.fact 0 (f := .glo "can_be_first") rfl), F_can_be_first.bindsN fun _ _ _ _ _ _ us hl => match us, hl with | [_, _], _ => rfl⟩
  have G_law_bag : CalOk P w K mg base 1 s_law_bag "_law_bag" ["_law_script", "_law_at"] sp_law_bag := ⟨_, _, F_law_bag, g_law_bag F_law_bag hbl , He.glo_ok X G (c.fact 2 (f := .glo "_law_bag") rfl), F_law_bag.bindsN fun _ _ _ _ _ _ us hl => match us, hl with | [_, _], _ => rfl⟩
  have G_law_take : CalOk P w K mg base 1 s_law_take "_law_take" ["_law_bag_here", "_law_many"] sp_law_take := ⟨_, _, F_law_take, g_law_take F_law_take hbl , He.glo_ok X G (c.fact 3 (f := .glo "_law_take") rfl), F_law_take.bindsN fun _ _ _ _ _ _ us hl => match us, hl with | [_, _], _ => rfl⟩
  have G_law_behind : CalOk P w K mg base 1 s_law_behind "_law_behind" ["_law_lists"] sp_law_behind := ⟨_, _, F_law_behind, g_law_behind F_law_behind hbl , He.glo_ok X G (c.fact 5 (f := .glo "_law_behind") rfl), F_law_behind.bindsN fun _ _ _ _ _ _ us hl => match us, hl with | [_], _ => rfl⟩
  have G_law_has_ring : CalOk P w K mg base 1 s_law_has_ring "_law_has_ring" ["_law_behind_here"] sp_law_has_ring := ⟨_, _, F_law_has_ring, g_law_has_ring F_law_has_ring hbl , He.glo_ok X G (c.fact 6 (f := .glo "_law_has_ring") rfl), F_law_has_ring.bindsN fun _ _ _ _ _ _ us hl => match us, hl with | [_], _ => rfl⟩
  have G_law_first_ones : CalOk P w K mg base 1 s_law_first_ones "_law_first_ones" ["_law_lists", "_law_known"] sp_law_first_ones := ⟨_, _, F_law_first_ones, g_law_first_ones F_law_first_ones hbl , He.glo_ok X G (c.fact 7 (f := .glo "_law_first_ones") rfl), F_law_first_ones.bindsN fun _ _ _ _ _ _ us hl => match us, hl with | [_, _], _ => rfl⟩
  have G_merged : CalOk P w K mg base 2 s_merged "merged" ["lists"] sp_merged := ⟨_, _, F_merged, g_merged F_merged hbl G_can_be_first, He.glo_ok X G (c.fact 1 (f := .glo "merged") rfl), F_merged.bindsN fun _ _ _ _ _ _ us hl => match us, hl with | [_], _ => rfl⟩
  have G_law_drawn_lists : CalOk P w K mg base 2 s_law_drawn_lists "_law_drawn_lists" ["_law_bag_here"] sp_law_drawn_lists := ⟨_, _, F_law_drawn_lists, g_law_drawn_lists F_law_drawn_lists hbl G_law_take, He.glo_ok X G (c.fact 4 (f := .glo "_law_drawn_lists") rfl), F_law_drawn_lists.bindsN fun _ _ _ _ _ _ us hl => match us, hl with | [_], _ => rfl⟩
  exact g_law F_law hbl G_law_bag G_law_drawn_lists G_merged G_law_behind G_law_has_ring G_law_first_ones
end K03
open PySem PySem.W PySem.Calls PyProof.Rows
theorem PySem.Challenge.cw_sworntypes_k03_whole_merges_and_rings_holds : PySem.Challenge.rw_sworntypes_k03_whole_merges_and_rings.Holds := by
  w_on; o_law
  refine HandSHeadRun.head_any (r := OpenLaw.row PySem.Challenge.rw_sworntypes_k03_whole_merges_and_rings) (q := view (OpenLaw.row PySem.Challenge.rw_sworntypes_k03_whole_merges_and_rings).prog [10]) (H := K03.hk) (ob := K03.ob) (M := 2000) (loose := K03.names) (d := HandSHeadRun.topDef (OpenLaw.row PySem.Challenge.rw_sworntypes_k03_whole_merges_and_rings).prog 10) (kwd := []) K03.ob_eq
    (by kernel_rfl) (fun s => by kernel_rfl) K03.run (by kernel_rfl) (by kernel_rfl) (by kernel_rfl) (by rfl) (by first | assumption | decide +kernel) (by decide +kernel) ⟨rfl, rfl, rfl, rfl, rfl, by decide +kernel⟩ ?hw ?hc
  case hw => w_witness2
  case hc =>
    refine Y.walk_ofY (l := PySem.Challenge.rw_sworntypes_k03_whole_merges_and_rings) (lv := 3) (x := "_law_script") (sp := K03.sp_law) rfl (by kernel_rfl) ⟨rfl, by decide, by decide⟩ K03.law_law ?F
    intro w mg fa h Y G hmg0
    obtain ⟨K, KX, c⟩ := Y
    have hmg : mg ("law" : PySem.Str) = some (.ref fa) := by
      have e : (HandSHeadRun.topDef (OpenLaw.row PySem.Challenge.rw_sworntypes_k03_whole_merges_and_rings).prog 10).name = ("law" : PySem.Str) := by kernel_rfl
      rw [← e]
      exact hmg0
    obtain ⟨fd, hb, hF⟩ := K03.facts (P := (PySem.Challenge.rw_sworntypes_k03_whole_merges_and_rings).prog) (w := w) KX G hmg c
    exact ⟨K, fd, KX, hb, hF⟩


