import PyProof.Rows.All
import Wide.All
import OpenK.AllK
import Wide.FinOn
import HandS.ForMost
import HandS.Flow
import HandS.Deep
import HandS.ForExc
import HandS.ExcInit
import HandS.TryMany
import HandS.Star
import HandS.TupMul
import HandS.TupAny
import HandS.TupLe
import HandS.EndBits
import KE.SortData
import KE.DataCmp
import PyProof.ReprRoads
import KE.KRevSl
import HandS.IsInst
import KE.GoesMore
import KE.GoesEnum
import HandS.WordsExc
import HandS.SetFor
import HandS.Style
import HandS.Conv
import PyProof.ReprBulk
import KE.DataFind
import HandS.Strs
import PySem.Challenge.RW_pressrelease_k10_effects_of_rows
set_option Elab.async false
set_option linter.all false
set_option maxRecDepth 100000
set_option maxHeartbeats 4000000
set_option autoImplicit false
/-! DnA: values with tuples and lists by value, a store of what may change, outcomes; how they lie in the abstract heap. -/
namespace Dn
open PySem PySem.Spec PyProof.Rows L2

/-- a value: tuples and lists that nobody changes by value; what may change by its place in the store -/
inductive D where
  | non | bl (b : Bool) | int (i : Int) | str (s : Str) | tup (xs : List D) | lst (xs : List D) | scr (xs : List D) | ref (l : Nat) | adr (a : Addr)
/-- what stands in the store -/
inductive MO where
  | lst (xs : List D) | dct (kvs : List (D × D)) | ins (C : Addr) (fs : List (Str × D))
abbrev Sto := List MO
abbrev Rho := List (Option D)
/-- an exception: its class, its one field -/
structure Xc where
  cls : Value
  fld : Option (Str × D)
inductive Out (α : Type) where
  | ok (a : α) (st : Sto) | exc (x : Xc) (st : Sto) | bad
abbrev M (α : Type) := Sto → Out α
def Out.bind {α β : Type} (r : Out α) (f : α → Sto → Out β) : Out β :=
  match r with
  | .ok a st => f a st
  | .exc x st => .exc x st
  | .bad => .bad
@[simp] theorem Out.bind_ok {α β : Type} (a : α) (st : Sto) (f : α → Sto → Out β) : (Out.ok a st).bind f = f a st := rfl
@[simp] theorem Out.bind_exc {α β : Type} (x : Xc) (st : Sto) (f : α → Sto → Out β) : (Out.exc x st : Out α).bind f = .exc x st := rfl
@[simp] theorem Out.bind_bad {α β : Type} (f : α → Sto → Out β) : (Out.bad : Out α).bind f = .bad := rfl

theorem nodup_at {α : Type} {l : List α} (h : l.Nodup) {i j : Nat} {x : α} (a : l[i]? = some x) (b : l[j]? = some x) : i = j := by
  obtain ⟨h1, e1⟩ := List.getElem?_eq_some_iff.mp a
  obtain ⟨h2, e2⟩ := List.getElem?_eq_some_iff.mp b
  exact (List.getElem_inj h).mp (e1.trans e2.symm)
/-! ### how values lie in the abstract heap -/
/-- a tuple without a dict of its own -/
def SqP (K : PySem.W.Frag) (F : Hp) (a : Addr) (xs : List V) : Prop :=
  (∃ o : Obj, o.dict = none ∧ F a = some (.frz o (.tup xs))) ∨
    ∃ (o : Obj) (its : Array Value) (n : Nat), K.lookup a = some o ∧ o.cls = .type "tuple" ∧ o.dict = none ∧ o.data = .seq its n ∧ its.size ≤ sizeLine ∧ Vals xs its.toList
mutual
def Rep (K : PySem.W.Frag) (F : Hp) (ι : List Addr) : D → V → Prop
  | .non, v => v = .non
  | .bl b, v => v = .bl b
  | .int i, v => v = .int i
  | .str s, v => v = .str s
  | .tup xs, v => ∃ a vs, v = .ref a ∧ SqP K F a vs ∧ Reps K F ι xs vs
  | .lst xs, v => ∃ a vs, v = .ref a ∧ F a = some (.lst vs) ∧ Reps K F ι xs vs
  | .scr xs, v => ∃ a vs, v = .ref a ∧ SqL K F a vs ∧ Reps K F ι xs vs
  | .ref l, v => ∃ a, v = .ref a ∧ ι[l]? = some a
  | .adr a, v => v = .ref a
def Reps (K : PySem.W.Frag) (F : Hp) (ι : List Addr) : List D → List V → Prop
  | [], vs => vs = []
  | d :: ds, vs => ∃ v r, vs = v :: r ∧ Rep K F ι d v ∧ Reps K F ι ds r
end
/-- the frozen part: tuples and lists -/
def Fz : HO → Prop
  | .tup _ => True
  | .lst _ => True
  | .frz _ (.lst _) => True
  | .frz _ (.tup _) => True
  | _ => False
def RepF (K : PySem.W.Frag) (F : Hp) (ι : List Addr) : List (Str × D) → List (Str × V) → Prop := Paired fun p q => p.1 = q.1 ∧ Rep K F ι p.2 q.2
/-- how an object of the store lies there -/
def ObjR (K : PySem.W.Frag) (F : Hp) (ι : List Addr) (H : Hp) (a : Addr) : MO → Prop
  | .lst xs => ∃ vs, H a = some (.lst vs) ∧ Reps K F ι xs vs
  | .dct _ => False
  | .ins C fs => ∃ dx gs, H a = some (.ins C dx gs) ∧ RepF K F ι fs gs
structure Sim (K : PySem.W.Frag) (F : Hp) (ι : List Addr) (st : Sto) (H : Hp) : Prop where
  sub : ∀ a o, F a = some o → H a = some o
  kind : ∀ a o, F a = some o → Fz o
  len : ι.length = st.length
  nd : ι.Nodup
  free : ∀ a, a ∈ ι → F a = none
  there : ∀ a, a ∈ ι → H a ≠ none
  obj : ∀ (l : Nat) (m : MO) (a : Addr), st[l]? = some m → ι[l]? = some a → ObjR K F ι H a m
/-- what may have happened between two states -/
structure Ext (F : Hp) (ι : List Addr) (H F' : Hp) (ι' : List Addr) (H' : Hp) : Prop where
  f : ∀ a o, F a = some o → F' a = some o
  i : ∀ (l : Nat) (a : Addr), ι[l]? = some a → ι'[l]? = some a
  keep : ∀ a o, H a = some o → a ∉ ι → H' a = some o
  there : ∀ a, H' a = none → H a = none
  newF : ∀ a o, F' a = some o → F a = some o ∨ H a = none
  newI : ∀ a, a ∈ ι' → a ∈ ι ∨ H a = none
  long : ι.length ≤ ι'.length
section
variable {K : PySem.W.Frag} {F F' F'' : Hp} {ι ι' ι'' : List Addr} {H H' H'' : Hp} {st st' : Sto}
theorem Ext.refl : Ext F ι H F ι H := ⟨fun _ _ h => h, fun _ _ h => h, fun _ _ h _ => h, fun _ h => h, fun _ _ h => .inl h, fun _ h => .inl h, Nat.le_refl _⟩
theorem Ext.trans (a : Ext F ι H F' ι' H') (b : Ext F' ι' H' F'' ι'' H'') : Ext F ι H F'' ι'' H'' := by
  refine ⟨fun x o h => b.f x o (a.f x o h), fun l x h => b.i l x (a.i l x h), fun x o h n => b.keep x o (a.keep x o h n) fun m => ?_, fun x h => a.there x (b.there x h), fun x o h => ?_, fun x h => ?_, Nat.le_trans a.long b.long⟩
  · rcases a.newI x m with q | q
    · exact n q
    · rw [h] at q
      cases q
  · rcases b.newF x o h with q | q
    · exact a.newF x o q
    · exact .inr (a.there x q)
  · rcases b.newI x h with q | q
    · exact a.newI x q
    · exact .inr (a.there x q)
theorem Rd.mono {a : Addr} {u : HO} (h : Rd F a u) (f : ∀ a o, F a = some o → F' a = some o) : Rd F' a u := by
  rcases h with h | ⟨o, h⟩
  · exact .inl (f _ _ h)
  · exact .inr ⟨o, f _ _ h⟩
theorem SqP.mono {a : Addr} {vs : List V} (h : SqP K F a vs) (f : ∀ a o, F a = some o → F' a = some o) : SqP K F' a vs := by
  rcases h with ⟨o, h1, h2⟩ | h
  · exact .inl ⟨o, h1, f _ _ h2⟩
  · exact .inr h
theorem SqP.sqT {a : Addr} {vs : List V} (h : SqP K F a vs) : SqT K F a vs := by
  rcases h with ⟨o, _, h2⟩ | ⟨o, its, n, h1, h2, _, h3, h4, h5⟩
  · exact .inl (.inr ⟨o, h2⟩)
  · exact .inr ⟨o, its, n, h1, h2, h3, h4, h5⟩
theorem SqT.mono {a : Addr} {vs : List V} (h : SqT K F a vs) (f : ∀ a o, F a = some o → F' a = some o) : SqT K F' a vs := by
  rcases h with h | h
  · exact .inl (Rd.mono h f)
  · exact .inr h
theorem SqL.mono {a : Addr} {vs : List V} (h : SqL K F a vs) (f : ∀ a o, F a = some o → F' a = some o) : SqL K F' a vs := by
  rcases h with h | h
  · exact .inl (Rd.mono h f)
  · exact .inr h
mutual
theorem Rep.mono (f : ∀ a o, F a = some o → F' a = some o) (i : ∀ (l : Nat) (a : Addr), ι[l]? = some a → ι'[l]? = some a) : ∀ (d : D) (v : V), Rep K F ι d v → Rep K F' ι' d v
  | .non, _, h => by simpa only [Rep] using h
  | .bl _, _, h => by simpa only [Rep] using h
  | .int _, _, h => by simpa only [Rep] using h
  | .str _, _, h => by simpa only [Rep] using h
  | .adr _, _, h => by simpa only [Rep] using h
  | .tup xs, v, h => by
    simp only [Rep] at h ⊢
    obtain ⟨a, vs, e, q, r⟩ := h
    exact ⟨a, vs, e, SqP.mono q f, Reps.mono f i xs vs r⟩
  | .lst xs, v, h => by
    simp only [Rep] at h ⊢
    obtain ⟨a, vs, e, q, r⟩ := h
    exact ⟨a, vs, e, f _ _ q, Reps.mono f i xs vs r⟩
  | .scr xs, v, h => by
    simp only [Rep] at h ⊢
    obtain ⟨a, vs, e, q, r⟩ := h
    exact ⟨a, vs, e, SqL.mono q f, Reps.mono f i xs vs r⟩
  | .ref l, v, h => by
    simp only [Rep] at h ⊢
    obtain ⟨a, e, q⟩ := h
    exact ⟨a, e, i l a q⟩
theorem Reps.mono (f : ∀ a o, F a = some o → F' a = some o) (i : ∀ (l : Nat) (a : Addr), ι[l]? = some a → ι'[l]? = some a) : ∀ (ds : List D) (vs : List V), Reps K F ι ds vs → Reps K F' ι' ds vs
  | [], _, h => by simpa only [Reps] using h
  | d :: ds, vs, h => by
    simp only [Reps] at h ⊢
    obtain ⟨v, r, e, h1, h2⟩ := h
    exact ⟨v, r, e, Rep.mono f i d v h1, Reps.mono f i ds r h2⟩
end
theorem Rep.ext {d : D} {v : V} (h : Rep K F ι d v) (e : Ext F ι H F' ι' H') : Rep K F' ι' d v := Rep.mono e.f e.i d v h
theorem Reps.ext {ds : List D} {vs : List V} (h : Reps K F ι ds vs) (e : Ext F ι H F' ι' H') : Reps K F' ι' ds vs := Reps.mono e.f e.i ds vs h
theorem RepF.ext {fs : List (Str × D)} {gs : List (Str × V)} (h : RepF K F ι fs gs) (e : Ext F ι H F' ι' H') : RepF K F' ι' fs gs := Paired.mapP h fun _ _ q => ⟨q.1, q.2.ext e⟩
theorem Reps.nil : Reps K F ι [] [] := by simp only [Reps]
theorem Reps.cons {d : D} {v : V} {ds : List D} {vs : List V} (h : Rep K F ι d v) (r : Reps K F ι ds vs) : Reps K F ι (d :: ds) (v :: vs) := by
  simp only [Reps]
  exact ⟨v, vs, rfl, h, r⟩
theorem Reps.length : ∀ {ds : List D} {vs : List V}, Reps K F ι ds vs → ds.length = vs.length
  | [], _, h => by simp only [Reps] at h; subst h; rfl
  | _ :: ds, _, h => by
    simp only [Reps] at h
    obtain ⟨v, r, e, _, h2⟩ := h
    subst e
    rw [List.length_cons, List.length_cons, Reps.length h2]
theorem Reps.get : ∀ {ds : List D} {vs : List V} {i : Nat} {d : D}, Reps K F ι ds vs → ds[i]? = some d → ∃ v, vs[i]? = some v ∧ Rep K F ι d v
  | [], _, _, _, _, e => by simp at e
  | d :: ds, _, 0, _, h, e => by
    simp only [Reps] at h
    obtain ⟨v, r, rfl, h1, _⟩ := h
    simp at e
    subst e
    exact ⟨v, rfl, h1⟩
  | d :: ds, _, i + 1, _, h, e => by
    simp only [Reps] at h
    obtain ⟨v, r, rfl, _, h2⟩ := h
    obtain ⟨u, q1, q2⟩ := Reps.get (i := i) h2 (by simpa using e)
    exact ⟨u, by simpa using q1, q2⟩
theorem Reps.append : ∀ {ds es : List D} {vs ws : List V}, Reps K F ι ds vs → Reps K F ι es ws → Reps K F ι (ds ++ es) (vs ++ ws)
  | [], _, _, _, h, g => by simp only [Reps] at h; subst h; exact g
  | d :: ds, _, _, _, h, g => by
    simp only [Reps] at h
    obtain ⟨v, r, rfl, h1, h2⟩ := h
    exact Reps.cons h1 (Reps.append h2 g)
theorem Reps.snoc {ds : List D} {vs : List V} {d : D} {v : V} (h : Reps K F ι ds vs) (g : Rep K F ι d v) : Reps K F ι (ds ++ [d]) (vs ++ [v]) := h.append (Reps.cons g Reps.nil)
theorem Reps.mem {ds : List D} {vs : List V} (h : Reps K F ι ds vs) : ∀ d, d ∈ ds → ∃ v, v ∈ vs ∧ Rep K F ι d v := fun d hd => by
  obtain ⟨i, hi⟩ := List.getElem?_of_mem hd
  obtain ⟨v, q1, q2⟩ := h.get hi
  exact ⟨v, List.mem_of_getElem? q1, q2⟩
/-- from the places -/
theorem Reps.of_get : ∀ {ds : List D} {vs : List V}, ds.length = vs.length → (∀ (i : Nat) d v, ds[i]? = some d → vs[i]? = some v → Rep K F ι d v) → Reps K F ι ds vs
  | [], [], _, _ => Reps.nil
  | [], _ :: _, h, _ => by simp at h
  | _ :: _, [], h, _ => by simp at h
  | d :: ds, v :: vs, h, g => Reps.cons (g 0 d v rfl rfl) (Reps.of_get (by simpa using h) fun i d v a b => g (i + 1) d v (by simpa using a) (by simpa using b))
theorem Reps.at {ds : List D} {vs : List V} {i : Nat} {d : D} {v : V} (h : Reps K F ι ds vs) (a : ds[i]? = some d) (b : vs[i]? = some v) : Rep K F ι d v := by
  obtain ⟨u, q1, q2⟩ := h.get a
  rw [b] at q1
  cases q1
  exact q2

theorem Sim.sqT (S : Sim K F ι st H) {a : Addr} {vs : List V} (h : SqP K F a vs) : SqT K H a vs := (h.mono S.sub).sqT
theorem Sim.sqL (S : Sim K F ι st H) {a : Addr} {vs : List V} (h : SqL K F a vs) : SqL K H a vs := SqL.mono h S.sub
theorem Sim.addr (S : Sim K F ι st H) {l : Nat} {m : MO} (h : st[l]? = some m) : ∃ a, ι[l]? = some a ∧ ObjR K F ι H a m := by
  have hl : l < st.length := (List.getElem?_eq_some_iff.mp h).1
  have hl' : l < ι.length := by rw [S.len]; exact hl
  exact ⟨ι[l], by simp [hl'], S.obj l m _ h (by simp [hl'])⟩

/-- a new object laid, frozen -/
theorem Ext.frozen {p : Addr} {o : HO} (hp : H p = none) (hF : ∀ a o, F a = some o → H a = some o) : Ext F ι H (upd F p o) ι (upd H p o) := by
  have ne : ∀ a o', F a = some o' → a ≠ p := fun a o' h e => by
    have := hF a o' h
    rw [e, hp] at this
    cases this
  refine ⟨fun a o' h => ?_, fun _ _ h => h, fun a o' h _ => ?_, fun a h => ?_, fun a o' h => ?_, fun _ h => .inl h, Nat.le_refl _⟩
  · rw [upd_ne (ne a o' h)]; exact h
  · rw [upd_ne (ne_of_none h hp)]; exact h
  · by_cases e : a = p
    · subst e; exact hp
    · rw [upd_ne e] at h; exact h
  · by_cases e : a = p
    · subst e; exact .inr hp
    · rw [upd_ne e] at h; exact .inl h
theorem ObjR.mono {a : Addr} {m : MO} (h : ObjR K F ι H a m) (f : ∀ a o, F a = some o → F' a = some o) (i : ∀ (l : Nat) (a : Addr), ι[l]? = some a → ι'[l]? = some a) (k : H' a = H a) : ObjR K F' ι' H' a m := by
  cases m with
  | lst xs =>
    obtain ⟨vs, e, r⟩ := h
    exact ⟨vs, k.trans e, Reps.mono f i _ _ r⟩
  | dct kvs => exact h
  | ins C fs =>
    obtain ⟨dx, gs, e, r⟩ := h
    exact ⟨dx, gs, k.trans e, Paired.mapP r fun _ _ q => ⟨q.1, Rep.mono f i _ _ q.2⟩⟩
theorem Sim.frozen (S : Sim K F ι st H) {p : Addr} {o : HO} (hp : H p = none) (hz : Fz o) : Sim K (upd F p o) ι st (upd H p o) := by
  have X : Ext F ι H (upd F p o) ι (upd H p o) := Ext.frozen hp S.sub
  have np : ∀ a, a ∈ ι → a ≠ p := fun a h e => S.there a h (by rw [e]; exact hp)
  refine ⟨fun a u h => ?_, fun a u h => ?_, S.len, S.nd, fun a h => ?_, fun a h => ?_, fun l m a h1 h2 => ?_⟩
  · by_cases e : a = p
    · subst e; rw [upd_same] at h ⊢; exact h
    · rw [upd_ne e] at h ⊢; exact S.sub a u h
  · by_cases e : a = p
    · subst e; rw [upd_same] at h; cases h; exact hz
    · rw [upd_ne e] at h; exact S.kind a u h
  · rw [upd_ne (np a h)]; exact S.free a h
  · rw [upd_ne (np a h)]; exact S.there a h
  · exact (S.obj l m a h1 h2).mono X.f X.i (upd_ne (np a (List.mem_of_getElem? h2)))
/-- a new object laid, not known -/
theorem Sim.laid (S : Sim K F ι st H) {p : Addr} {o : HO} (hp : H p = none) : Sim K F ι st (upd H p o) := by
  have np : ∀ a, a ∈ ι → a ≠ p := fun a h e => S.there a h (by rw [e]; exact hp)
  refine ⟨fun a u h => ?_, S.kind, S.len, S.nd, S.free, fun a h => ?_, fun l m a h1 h2 => ?_⟩
  · rw [upd_ne (ne_of_none (S.sub a u h) hp)]; exact S.sub a u h
  · rw [upd_ne (np a h)]; exact S.there a h
  · exact (S.obj l m a h1 h2).mono (fun _ _ h => h) (fun _ _ h => h) (upd_ne (np a (List.mem_of_getElem? h2)))
theorem Ext.laid {p : Addr} {o : HO} (hp : H p = none) : Ext F ι H F ι (upd H p o) := by
  refine ⟨fun _ _ h => h, fun _ _ h => h, fun a u h _ => ?_, fun a h => ?_, fun _ _ h => .inl h, fun _ h => .inl h, Nat.le_refl _⟩
  · rw [upd_ne (ne_of_none h hp)]; exact h
  · by_cases e : a = p
    · subst e; exact hp
    · rw [upd_ne e] at h; exact h
/-- an object that stands is taken into the frozen part -/
theorem Sim.freeze (S : Sim K F ι st H) {p : Addr} {o : HO} (hp : H p = some o) (hF : F p = none) (hi : p ∉ ι) (hz : Fz o) : Sim K (upd F p o) ι st H := by
  refine ⟨fun a u h => ?_, fun a u h => ?_, S.len, S.nd, fun a h => ?_, S.there, fun l m a h1 h2 => ?_⟩
  · by_cases e : a = p
    · subst e; rw [upd_same] at h; rw [hp]; exact h
    · rw [upd_ne e] at h; exact S.sub a u h
  · by_cases e : a = p
    · subst e; rw [upd_same] at h; cases h; exact hz
    · rw [upd_ne e] at h; exact S.kind a u h
  · rw [upd_ne (fun e => hi (by rw [← e]; exact h))]; exact S.free a h
  · exact (S.obj l m a h1 h2).mono (fun a u h => by rw [upd_ne (fun e => by rw [e, hF] at h; cases h)]; exact h) (fun _ _ h => h) rfl
theorem Ext.freeze {p : Addr} {o : HO} (x : Ext F ι H F' ι' H') (hF : F' p = none) (hp : H p = none) : Ext F ι H (upd F' p o) ι' H' := by
  refine ⟨fun a u h => ?_, x.i, x.keep, x.there, fun a u h => ?_, x.newI, x.long⟩
  · have h' := x.f a u h
    rw [upd_ne (fun e => by rw [e, hF] at h'; cases h')]
    exact h'
  · by_cases e : a = p
    · subst e; exact .inr hp
    · rw [upd_ne e] at h; exact x.newF a u h
/-- .. is given a place in the store -/
theorem Sim.locate (S : Sim K F ι st H) {p : Addr} {m : MO} (hp : H p ≠ none) (hF : F p = none) (hi : p ∉ ι) (ho : ObjR K F (ι ++ [p]) H p m) : Sim K F (ι ++ [p]) (st ++ [m]) H := by
  have mo : ∀ (l : Nat) (a : Addr), ι[l]? = some a → (ι ++ [p])[l]? = some a := fun l a h => by
    rw [List.getElem?_append_left (List.getElem?_eq_some_iff.mp h).1]; exact h
  refine ⟨S.sub, S.kind, by simp [S.len], ?_, fun a h => ?_, fun a h => ?_, fun l m' a h1 h2 => ?_⟩
  · rw [List.nodup_append]
    refine ⟨S.nd, by simp, fun a ha b hb e => ?_⟩
    have : b = p := by simpa using hb
    subst this
    subst e
    exact hi ha
  · rcases List.mem_append.mp h with h | h
    · exact S.free a h
    · have : a = p := by simpa using h
      subst this; exact hF
  · rcases List.mem_append.mp h with h | h
    · exact S.there a h
    · have : a = p := by simpa using h
      subst this; exact hp
  · by_cases hl : l < st.length
    · rw [List.getElem?_append_left hl] at h1
      rw [List.getElem?_append_left (by rw [S.len]; exact hl)] at h2
      exact (S.obj l m' a h1 h2).mono (fun _ _ h => h) mo rfl
    · have e : l = st.length := by
        have := (List.getElem?_eq_some_iff.mp h1).1
        simp at this
        omega
      subst e
      rw [List.getElem?_append_right (Nat.le_refl _)] at h1
      rw [List.getElem?_append_right (by rw [S.len]; exact Nat.le_refl _)] at h2
      simp [S.len] at h1 h2
      subst h1 h2
      exact ho
theorem Ext.locate {p : Addr} (x : Ext F ι H F' ι' H') (hp : H p = none) : Ext F ι H F' (ι' ++ [p]) H' := by
  refine ⟨x.f, fun l a h => ?_, x.keep, x.there, x.newF, fun a h => ?_, by simp; exact Nat.le_succ_of_le x.long⟩
  · have h' := x.i l a h
    rw [List.getElem?_append_left (List.getElem?_eq_some_iff.mp h').1]; exact h'
  · rcases List.mem_append.mp h with h | h
    · exact x.newI a h
    · have : a = p := by simpa using h
      subst this; exact .inr hp
/-- an object of the store is changed -/
theorem Sim.write (S : Sim K F ι st H) {l : Nat} {p : Addr} {m : MO} {o : HO} (hl : ι[l]? = some p) (ho : ObjR K F ι (upd H p o) p m) : Sim K F ι (st.set l m) (upd H p o) := by
  have hp : p ∈ ι := List.mem_of_getElem? hl
  have nf : ∀ a u, F a = some u → a ≠ p := fun a u h e => by
    rw [e, S.free p hp] at h; cases h
  refine ⟨fun a u h => ?_, S.kind, by simp [S.len], S.nd, S.free, fun a h => ?_, fun k m' a h1 h2 => ?_⟩
  · rw [upd_ne (nf a u h)]; exact S.sub a u h
  · by_cases e : a = p
    · subst e; rw [upd_same]; simp
    · rw [upd_ne e]; exact S.there a h
  · by_cases e : k = l
    · subst e
      rw [hl] at h2
      cases h2
      have hk : k < st.length := by
        have := (List.getElem?_eq_some_iff.mp h1).1
        simpa using this
      rw [List.getElem?_set_self hk] at h1
      cases h1
      exact ho
    · rw [List.getElem?_set_ne (Ne.symm e)] at h1
      refine (S.obj k m' a h1 h2).mono (fun _ _ h => h) (fun _ _ h => h) (upd_ne fun q => e ?_)
      subst q
      exact nodup_at S.nd h2 hl
theorem Ext.write {l : Nat} {p : Addr} {o : HO} (hl : ι[l]? = some p) (hp : H p ≠ none) : Ext F ι H F ι (upd H p o) := by
  have hm : p ∈ ι := List.mem_of_getElem? hl
  refine ⟨fun _ _ h => h, fun _ _ h => h, fun a u h n => ?_, fun a h => ?_, fun _ _ h => .inl h, fun _ h => .inl h, Nat.le_refl _⟩
  · rw [upd_ne (fun e => n (by rw [e]; exact hm))]; exact h
  · by_cases e : a = p
    · subst e; rw [upd_same] at h; cases h
    · rw [upd_ne e] at h; exact h
end
end Dn
/-! DnB: what a piece of code means (a function of the slots and the store), and that it means so; expressions. -/
namespace Dn
open PySem PySem.Spec PyProof.Rows L2

def XcR (K : PySem.W.Frag) (F : Hp) (ι : List Addr) (H : Hp) (x : Xc) (cls : Value) (dd : Option Addr) : Prop :=
  cls = x.cls ∧ match x.fld with
    | none => dd = none
    | some (f, d) => ∃ a v, dd = some a ∧ H a = some (.xd [(f, v)]) ∧ Rep K F ι d v
structure REnv (K : PySem.W.Frag) (F : Hp) (ι : List Addr) (ρ : Rho) (σ : L2.St) : Prop where
  len : ρ.length = σ.length
  at_ : ∀ (i : Nat) (d : D), ρ[i]? = some (some d) → ∃ v, σ[i]? = some (some v) ∧ Rep K F ι d v
/-- what is wanted behind an outcome -/
def post {α β : Type} (K : PySem.W.Frag) (W : WX) (σ : L2.St) (F : Hp) (ι : List Addr) (H : Hp) (P : Hp → Hp → List Addr → Hp → α → β → Prop) (r : Out α) (Q : β → Hp → Prop) : Prop :=
  match r with
  | .ok a st' => ∀ F' ι' H' b, Ext F ι H F' ι' H' → Sim K F' ι' st' H' → P H F' ι' H' a b → Q b H'
  | .exc x st' => ∀ F' ι' H' cls dd, Ext F ι H F' ι' H' → Sim K F' ι' st' H' → XcR K F' ι' H' x cls dd → W cls dd σ H'
  | .bad => False
def pV (K : PySem.W.Frag) : Hp → Hp → List Addr → Hp → D → V → Prop := fun _ F ι _ d v => Rep K F ι d v
def pA (K : PySem.W.Frag) : Hp → Hp → List Addr → Hp → List D → List V → Prop := fun _ F ι _ d v => Reps K F ι d v
def pB : Hp → Hp → List Addr → Hp → Bool → Bool → Prop := fun _ _ _ _ b c => b = c
/-- a new list -/
def pL (K : PySem.W.Frag) : Hp → Hp → List Addr → Hp → List D → V → Prop := fun H0 F ι H ds v => ∃ a vs, v = .ref a ∧ H a = some (.lst vs) ∧ F a = none ∧ a ∉ ι ∧ H0 a = none ∧ Reps K F ι ds vs
/-- P looks back at the start in one way only -/
def Back {α β : Type} (P : Hp → Hp → List Addr → Hp → α → β → Prop) : Prop := ∀ H0 H1 F ι H a b, (∀ x, H1 x = none → H0 x = none) → P H1 F ι H a b → P H0 F ι H a b
theorem back_V {K : PySem.W.Frag} : Back (pV K) := fun _ _ _ _ _ _ _ _ h => h
theorem back_A {K : PySem.W.Frag} : Back (pA K) := fun _ _ _ _ _ _ _ _ h => h
theorem back_B : Back pB := fun _ _ _ _ _ _ _ _ h => h
theorem back_L {K : PySem.W.Frag} : Back (pL K) := fun _ _ _ _ _ _ _ f ⟨a, vs, e, h, hF, hi, h0, r⟩ => ⟨a, vs, e, h, hF, hi, f a h0, r⟩
section
variable {α β γ δ : Type} {K : PySem.W.Frag} {W : WX} {σ : L2.St} {F F1 : Hp} {ι ι1 : List Addr} {H H1 : Hp} {P : Hp → Hp → List Addr → Hp → α → β → Prop} {P' : Hp → Hp → List Addr → Hp → γ → δ → Prop} {Q : δ → Hp → Prop} {Q' : β → Hp → Prop}
theorem post_ext (bk : Back P') {r : Out γ} (h : post K W σ F ι H P' r Q) (x : Ext F ι H F1 ι1 H1) : post K W σ F1 ι1 H1 P' r Q := by
  cases r with
  | ok a st => exact fun F' ι' H' b y S p => h F' ι' H' b (x.trans y) S (bk _ _ _ _ _ _ _ x.there p)
  | exc e st => exact fun F' ι' H' c d y S p => h F' ι' H' c d (x.trans y) S p
  | bad => exact h
theorem post_seq (bk : Back P') {r : Out α} {f : α → Sto → Out γ} (h : post K W σ F ι H P' (r.bind f) Q)
    (k : ∀ a st1 F1 ι1 H1 b, r = .ok a st1 → Ext F ι H F1 ι1 H1 → Sim K F1 ι1 st1 H1 → P H F1 ι1 H1 a b → post K W σ F1 ι1 H1 P' (f a st1) Q → Q' b H1) : post K W σ F ι H P r Q' := by
  cases r with
  | ok a st => exact fun F' ι' H' b y S p => k a st F' ι' H' b rfl y S p (post_ext bk h y)
  | exc e st => exact h
  | bad => exact h
theorem post_mono {r : Out γ} {Q2 : δ → Hp → Prop} (h : post K W σ F ι H P' r Q) (q : ∀ b H', Q b H' → Q2 b H') : post K W σ F ι H P' r Q2 := by
  cases r with
  | ok a st => exact fun F' ι' H' b y S p => q _ _ (h F' ι' H' b y S p)
  | exc e st => exact h
  | bad => exact h
theorem REnv.ext {ρ : Rho} (h : REnv K F ι ρ σ) (x : Ext F ι H F1 ι1 H1) : REnv K F1 ι1 ρ σ := ⟨h.len, fun i d e => let ⟨v, a, r⟩ := h.at_ i d e; ⟨v, a, r.ext x⟩⟩
theorem REnv.set {ρ : Rho} (h : REnv K F ι ρ σ) {d : D} {v : V} (r : Rep K F ι d v) (i : Nat) : REnv K F ι (ρ.set i (some d)) (σ.set i (some v)) := by
  refine ⟨by simp [h.len], fun j e q => ?_⟩
  by_cases hj : i = j
  · subst hj
    by_cases hl : i < ρ.length
    · rw [List.getElem?_set_self hl] at q
      cases q
      exact ⟨v, by rw [List.getElem?_set_self (by rw [← h.len]; exact hl)], r⟩
    · rw [List.getElem?_eq_none (by simpa using hl)] at q
      cases q
  · rw [List.getElem?_set_ne hj] at q
    rw [List.getElem?_set_ne hj]
    exact h.at_ j e q
def wipeD (ρ : Rho) : List Nat → Rho
  | [] => ρ
  | v :: vs => (wipeD ρ vs).set v none
theorem REnv.wipe {ρ : Rho} (h : REnv K F ι ρ σ) : ∀ vs : List Nat, REnv K F ι (wipeD ρ vs) (wipe σ vs)
  | [] => h
  | v :: vs => by
    have ih := h.wipe vs
    show REnv K F ι ((wipeD ρ vs).set v none) ((L2.wipe σ vs).set v none)
    refine ⟨by simp [ih.len], fun j e q => ?_⟩
    by_cases hj : v = j
    · subst hj
      by_cases hl : v < (wipeD ρ vs).length
      · rw [List.getElem?_set_self hl] at q; cases q
      · rw [List.getElem?_eq_none (by simpa using hl)] at q; cases q
    · rw [List.getElem?_set_ne hj] at q
      rw [List.getElem?_set_ne hj]
      exact ih.at_ j e q
end

def wN : WX := fun _ _ _ _ => False
def nox {α : Type} (r : Out α) : Out α := match r with
  | .ok a st => .ok a st
  | _ => .bad
@[simp] theorem nox_ok {α : Type} (a : α) (st : Sto) : nox (.ok a st) = .ok a st := rfl
@[simp] theorem nox_bad {α : Type} : nox (.bad : Out α) = .bad := rfl
/-! ### the judgements -/
def tG {α β : Type} (K : PySem.W.Frag) (W : WX) (P : Hp → Hp → List Addr → Hp → α → β → Prop) (m : Rho → M α) : L2.St → Hp → (β → Hp → Prop) → Prop := fun σ H Q =>
  ∃ F ι ρ st, Sim K F ι st H ∧ REnv K F ι ρ σ ∧ post K W σ F ι H P (m ρ st) Q
abbrev tV (K : PySem.W.Frag) (W : WX) (m : Rho → M D) : TE := tG K W (pV K) m
abbrev tL (K : PySem.W.Frag) (W : WX) (m : Rho → M (List D)) : TE := tG K W (pL K) m
abbrev tA (K : PySem.W.Frag) (W : WX) (m : Rho → M (List D)) : TA := tG K W (pA K) m
abbrev tT (K : PySem.W.Frag) (W : WX) (m : Rho → M Bool) : TT := tG K W pB m
def DE (X : Cx) (W : WX) (e : Expr) (m : Rho → M D) : Prop := PE X e (tV X.K W m)
def DL (X : Cx) (W : WX) (e : Expr) (m : Rho → M (List D)) : Prop := PE X e (tL X.K W m)
def DA (X : Cx) (W : WX) (es : List Expr) (m : Rho → M (List D)) : Prop := PA X es (tA X.K W m)
def DT (X : Cx) (W : WX) (e : Expr) (m : Rho → M Bool) : Prop := PT X e (tT X.K W m)
theorem PE.weak {X : Cx} {e : Expr} {t t' : TE} (h : PE X e t) (w : ∀ σ H Q, t' σ H Q → t σ H Q) : PE X e t' := ⟨fun pins s σ H Q I q => h.run pins s σ H Q I (w σ H Q q)⟩
theorem PT.weak {X : Cx} {e : Expr} {t t' : TT} (h : PT X e t) (w : ∀ σ H Q, t' σ H Q → t σ H Q) : PT X e t' := ⟨fun pins s σ H Q I q => h.run pins s σ H Q I (w σ H Q q)⟩
theorem PA.weak {X : Cx} {e : List Expr} {t t' : TA} (h : PA X e t) (w : ∀ σ H Q, t' σ H Q → t σ H Q) : PA X e t' := ⟨fun pos pins s σ H Q I q => h.run pos pins s σ H Q I (w σ H Q q)⟩
theorem PS.weak {X : Cx} {e : Stmt} {t t' : TS} (h : PS X e t) (w : ∀ D σ H, t' D σ H → t D σ H) : PS X e t' := ⟨fun pins s σ H D I q => h.run pins s σ H D I (w D σ H q)⟩
theorem PSs.weak {X : Cx} {e : List Stmt} {t t' : TS} (h : PSs X e t) (w : ∀ D σ H, t' D σ H → t D σ H) : PSs X e t' := ⟨fun pins s σ H D I q => h.run pins s σ H D I (w D σ H q)⟩
/-- what a reading asks of the sub-expression, and what is known behind it -/
theorem tG_seq {α β γ δ : Type} {K : PySem.W.Frag} {W : WX} {P : Hp → Hp → List Addr → Hp → α → β → Prop} {P' : Hp → Hp → List Addr → Hp → γ → δ → Prop} (bk : Back P') {m : Rho → M α} {σ : L2.St} {F : Hp} {ι : List Addr} {H : Hp} {ρ : Rho} {st : Sto} {f : α → Sto → Out γ} {Q : δ → Hp → Prop} {Q' : β → Hp → Prop}
    (S : Sim K F ι st H) (R : REnv K F ι ρ σ) (h : post K W σ F ι H P' ((m ρ st).bind f) Q)
    (k : ∀ a st1 F1 ι1 H1 b, Ext F ι H F1 ι1 H1 → Sim K F1 ι1 st1 H1 → REnv K F1 ι1 ρ σ → P H F1 ι1 H1 a b → post K W σ F1 ι1 H1 P' (f a st1) Q → Q' b H1) : tG K W P m σ H Q' :=
  ⟨F, ι, ρ, st, S, R, post_seq bk h fun a st1 F1 ι1 H1 b _ x S1 p q => k a st1 F1 ι1 H1 b x S1 (R.ext x) p q⟩

/-! ### values -/
def lift {α : Type} (o : Option α) : M α := fun st => match o with
  | some a => .ok a st
  | none => .bad
@[simp] theorem lift_some {α : Type} (a : α) (st : Sto) : lift (some a) st = .ok a st := rfl
@[simp] theorem lift_none {α : Type} (st : Sto) : (lift none st : Out α) = .bad := rfl
def mVar (i : Nat) : Rho → M D := fun ρ st => match ρ[i]? with
  | some (some d) => .ok d st
  | _ => .bad
def mLit (d : D) : Rho → M D := fun _ st => .ok d st
section
variable {X : Cx} {W : WX} {pos : Pos}
theorem de_var {i : Nat} {x : Str} (hN : X.N[i]? = some x) (hv : Vis X.env.scope x) (hd : (x == ("__debug__" : Str)) = false := by decide) (hcd : (x == ("__classdict__" : Str)) = false := by decide) : DE X W (.Name x pos) (mVar i) := by
  refine PE.weak (pe_var hN hv hd hcd) fun σ H Q ⟨F, ι, ρ, st, S, R, h⟩ => ?_
  unfold mVar at h
  split at h
  · rename_i d e
    obtain ⟨v, q, r⟩ := R.at_ i d e
    exact ⟨v, q, h F ι H v Ext.refl S r⟩
  · exact h.elim
theorem de_c {e : Expr} {v : V} {d : D} (h : PE X e (tC v)) (r : ∀ F ι, Rep X.K F ι d v) : DE X W e (mLit d) :=
  PE.weak h fun σ H Q ⟨F, ι, ρ, st, S, R, q⟩ => q F ι H v Ext.refl S (r F ι)
theorem de_int {i : Int} {j} : DE X W (.Constant (.int i) j pos) (mLit (.int i)) := de_c pe_int fun _ _ => by simp only [Rep]
theorem de_bl {b : Bool} {j} : DE X W (.Constant (.bool b) j pos) (mLit (.bl b)) := de_c pe_bl fun _ _ => by simp only [Rep]
theorem de_non {j} : DE X W (.Constant .none j pos) (mLit .non) := de_c pe_non fun _ _ => by simp only [Rep]
theorem de_str {x : Str} {j} : DE X W (.Constant (.str x) j pos) (mLit (.str x)) := de_c pe_str fun _ _ => by simp only [Rep]
theorem de_gint {x : Str} {i : Int} {t : Tok} (hg : Gl X x) (hm : X.mg x = some (.int i t)) (hd : (x == ("__debug__" : Str)) = false := by decide) : DE X W (.Name x pos) (mLit (.int i)) := de_c (pe_glob hg hm (v := .int i) ⟨t, rfl⟩ hd) fun _ _ => by simp only [Rep]
theorem de_gstr {x : Str} {i : Str} {t : Tok} (hg : Gl X x) (hm : X.mg x = some (.str i t)) (hd : (x == ("__debug__" : Str)) = false := by decide) : DE X W (.Name x pos) (mLit (.str i)) := de_c (pe_glob hg hm (v := .str i) ⟨t, rfl⟩ hd) fun _ _ => by simp only [Rep]

/-! ### argument lists, displays -/
def mNil : Rho → M (List D) := fun _ st => .ok [] st
def mCons (m : Rho → M D) (r : Rho → M (List D)) : Rho → M (List D) := fun ρ st => (m ρ st).bind fun d st1 => (r ρ st1).bind fun ds st2 => .ok (d :: ds) st2
theorem da_nil : DA X W [] mNil := PA.weak pa_nil fun σ H Q ⟨F, ι, ρ, st, S, R, q⟩ => q F ι H [] Ext.refl S Reps.nil
theorem da_cons {e : Expr} {es : List Expr} {m : Rho → M D} {r : Rho → M (List D)} (h : DE X W e m) (hr : DA X W es r) (hs : starEach (e :: es) X.env = (false, eval e X.env) :: starEach es X.env := by rfl) : DA X W (e :: es) (mCons m r) := by
  refine PA.weak (pa_cons h hr hs) fun σ H Q ⟨F, ι, ρ, st, S, R, q⟩ => ?_
  refine tG_seq back_A S R q fun d st1 F1 ι1 H1 v x1 S1 R1 r1 q1 => ?_
  exact tG_seq back_A S1 R1 q1 fun ds st2 F2 ι2 H2 vs x2 S2 R2 r2 q2 => q2 F2 ι2 H2 _ Ext.refl S2 (Reps.cons (r1.ext x2) r2)
abbrev SZ : Nat := 100000
theorem sz_le {n : Nat} (h : n ≤ SZ) : n ≤ sizeLine := Nat.le_trans h (by decide)
theorem sz_lt {n : Nat} (h : n ≤ SZ) : n < sizeLine := Nat.lt_of_le_of_lt h (by decide)
/-- a new tuple's object -/
theorem fin_tup {X : Cx} {pins : List (Addr × Obj)} {σ : L2.St} {H : Hp} {s : Shared} {Q : VK} {ys : List V} {its : List Value} {t' : Nat} (I : Inv X pins σ H s) (r : Vals ys its) (z : ys.length ≤ sizeLine)
    (q : ∀ (p : Addr) (o : Obj), o.dict = none → H p = none → Q (.ref p) (upd H p (.frz o (.tup ys)))) : EP X pins σ Q (.ref s.heap.objs.size) { s with heap := s.heap.push { cls := .type "tuple", data := .seq its.toArray }, toks := t' } := by
  have hn := I.hok.fresh (Nat.le_refl _)
  have hg : (s.heap.push { cls := .type "tuple", data := .seq its.toArray }).get? s.heap.objs.size = some { cls := .type "tuple", data := .seq its.toArray } := Heap.get?_push_size _ rfl
  have ok : ObjOk X.prog X.w (upd H s.heap.objs.size (.frz { cls := .type "tuple", data := .seq its.toArray } (.tup ys))) (s.heap.push { cls := .type "tuple", data := .seq its.toArray }) s.heap.objs.size (.frz { cls := .type "tuple", data := .seq its.toArray } (.tup ys)) :=
    ⟨hg, z, its, r, ⟨_, hg, rfl, _, rfl⟩⟩
  exact ⟨.ref s.heap.objs.size, _, I.laid (t' := t') (fun b u e => Heap.get?_push_of_some _ e) (Nat.le_refl _) ok, rfl, q _ _ rfl hn⟩
def tTupP (t : TA) : TE := fun σ H Q => t σ H fun xs H1 => xs.length ≤ sizeLine ∧ ∀ (p : Addr) (o : Obj), o.dict = none → H1 p = none → Q (.ref p) (upd H1 p (.frz o (.tup xs)))
theorem pe_tupP {X : Cx} {es : List Expr} {x1} {pos : Pos} {t : TA} (h : PA X es t) : PE X (.Tuple es x1 pos) (tTupP t) := by
  refine ⟨fun pins s σ H Q I hq => wpAny_Tuple_spliced (thn (h.run pos pins s σ H _ I hq) fun us s1 ⟨xs, H1, I1, r, z, q⟩ => ?_)⟩
  exact ⟨by rw [← r.length]; exact z, fin_tup (t' := s1.toks) I1 r z q⟩
def mTup (a : Rho → M (List D)) : Rho → M D := fun ρ st => (a ρ st).bind fun xs st1 => if xs.length ≤ SZ then .ok (.tup xs) st1 else .bad
theorem de_tup {es : List Expr} {x1} {a : Rho → M (List D)} (h : DA X W es a) : DE X W (.Tuple es x1 pos) (mTup a) := by
  refine PE.weak (pe_tupP h) fun σ H Q ⟨F, ι, ρ, st, S, R, q⟩ => ?_
  refine tG_seq back_V S R q fun xs st1 F1 ι1 H1 vs x1 S1 R1 r1 q1 => ?_

  split at q1
  · rename_i hz
    refine ⟨by rw [← Reps.length r1]; exact sz_le hz, fun p o ho hp => ?_⟩
    refine q1 (upd F1 p (.frz o (.tup vs))) ι1 _ _ (Ext.frozen hp S1.sub) (S1.frozen hp trivial) ?_
    show Rep _ _ _ _ _
    simp only [Rep]
    exact ⟨p, vs, rfl, .inl ⟨o, ho, upd_same⟩, Reps.ext r1 (Ext.frozen (H := H1) hp S1.sub)⟩
  · exact q1.elim
def lDisp (a : Rho → M (List D)) : Rho → M (List D) := fun ρ st => (a ρ st).bind fun xs st1 => if xs.length ≤ SZ then .ok xs st1 else .bad
/-- a new list at p, unknown so far -/
theorem pL_new {K : PySem.W.Frag} {F : Hp} {ι : List Addr} {H : Hp} {st : Sto} {p : Addr} {ds : List D} {vs : List V} (S : Sim K F ι st H) (hp : H p = none) (r : Reps K F ι ds vs) : pL K H F ι (upd H p (.lst vs)) ds (.ref p) := by
  refine ⟨p, vs, rfl, upd_same, ?_, fun h => S.there p h hp, hp, r⟩
  cases e : F p with
  | none => rfl
  | some o =>
    have := S.sub p o e
    rw [hp] at this
    cases this
theorem dl_disp {es : List Expr} {a : Rho → M (List D)} (h : DA X W es a) : DL X W (.List es pos) (lDisp a) := by
  refine PE.weak (pe_lst h) fun σ H Q ⟨F, ι, ρ, st, S, R, q⟩ => ?_
  refine tG_seq back_L S R q fun xs st1 F1 ι1 H1 vs x1 S1 R1 r1 q1 => ?_

  split at q1
  · rename_i hz
    refine ⟨by rw [← Reps.length r1]; exact sz_le hz, fun p hp => ?_⟩
    exact q1 F1 ι1 _ _ (Ext.laid hp) (S1.laid hp) (pL_new S1 hp r1)
  · exact q1.elim
/-- a new list, never changed | kept in the store -/
def mFrz (l : Rho → M (List D)) : Rho → M D := fun ρ st => (l ρ st).bind fun xs st1 => .ok (.lst xs) st1
def mNew (l : Rho → M (List D)) : Rho → M D := fun ρ st => (l ρ st).bind fun xs st1 => .ok (.ref st1.length) (st1 ++ [.lst xs])
theorem frz_of {K : PySem.W.Frag} {W : WX} {l : Rho → M (List D)} {σ : L2.St} {H : Hp} {Q : VK} (h : tV K W (mFrz l) σ H Q) : tL K W l σ H Q := by
  obtain ⟨F, ι, ρ, st, S, R, q⟩ := h
  refine ⟨F, ι, ρ, st, S, R, ?_⟩
  unfold mFrz at q
  generalize l ρ st = r at q ⊢
  cases r with
  | ok xs st1 =>
    intro F' ι' H' b x S' ⟨a, vs, e, h, hF, hi, h0, rr⟩
    subst e
    have x' := x.freeze (o := .lst vs) hF h0
    refine q (upd F' a (.lst vs)) ι' H' (.ref a) x' (S'.freeze h hF hi trivial) ?_
    show Rep _ _ _ _ _
    simp only [Rep]
    refine ⟨a, vs, rfl, upd_same, Reps.mono (fun b o hb => ?_) (fun _ _ h => h) _ _ rr⟩
    rw [upd_ne (fun e => by rw [e, hF] at hb; cases hb)]
    exact hb
  | exc _ _ => exact q
  | bad => exact q
theorem de_frz {e : Expr} {l : Rho → M (List D)} (h : DL X W e l) : DE X W e (mFrz l) := PE.weak h fun _ _ _ q => frz_of q
theorem new_of {K : PySem.W.Frag} {W : WX} {l : Rho → M (List D)} {σ : L2.St} {H : Hp} {Q : VK} (h : tV K W (mNew l) σ H Q) : tL K W l σ H Q := by
  obtain ⟨F, ι, ρ, st, S, R, q⟩ := h
  refine ⟨F, ι, ρ, st, S, R, ?_⟩
  unfold mNew at q
  generalize l ρ st = r at q ⊢
  cases r with
  | ok xs st1 =>
    intro F' ι' H' b x S' ⟨a, vs, e, h, hF, hi, h0, rr⟩
    subst e
    have mo : ∀ (l : Nat) (b : Addr), ι'[l]? = some b → (ι' ++ [a])[l]? = some b := fun l b h => by
      rw [List.getElem?_append_left (List.getElem?_eq_some_iff.mp h).1]; exact h
    refine q F' (ι' ++ [a]) H' (.ref a) (x.locate h0) (S'.locate (m := .lst xs) (by rw [h]; simp) hF hi ⟨vs, h, Reps.mono (fun _ _ h => h) mo _ _ rr⟩) ?_
    show Rep _ _ _ _ _
    simp only [Rep]
    exact ⟨a, rfl, by rw [← S'.len, List.getElem?_append_right (Nat.le_refl _)]; simp⟩
  | exc _ _ => exact q
  | bad => exact q
theorem de_new {e : Expr} {l : Rho → M (List D)} (h : DL X W e l) : DE X W e (mNew l) := PE.weak h fun _ _ _ q => new_of q
end
end Dn
/-! DnC: operators, comparisons, tests, subscripts, slices. -/
namespace Dn
open PySem PySem.Spec PyProof.Rows L2

/-! ### plain data -/
mutual
def isP : D → Bool
  | .non => true | .bl _ => true | .int _ => true | .str _ => true
  | .tup xs => isPs xs | .lst xs => isPs xs
  | .scr _ => false | .ref _ => false | .adr _ => false
def isPs : List D → Bool
  | [] => true
  | d :: ds => isP d && isPs ds
end
mutual
def toP : D → PyData
  | .non => .none | .bl b => .bool b | .int i => .int i | .str s => .str s
  | .tup xs => .tuple (toPs xs) | .lst xs => .list (toPs xs)
  | .scr _ => .none | .ref _ => .none | .adr _ => .none
def toPs : List D → List PyData
  | [] => []
  | d :: ds => toP d :: toPs ds
end
theorem toPs_map : ∀ ds : List D, toPs ds = ds.map toP
  | [] => rfl
  | d :: ds => by rw [toPs, List.map_cons, toPs_map ds]
theorem isPs_all : ∀ ds : List D, isPs ds = ds.all isP
  | [] => rfl
  | d :: ds => by rw [isPs, List.all_cons, isPs_all ds]
mutual
theorem dp_of {K : PySem.W.Frag} {F H : Hp} {ι : List Addr} (sub : ∀ a o, F a = some o → H a = some o) : ∀ (d : D) (v : V), isP d = true → Rep K F ι d v → Dp K H v (toP d)
  | .non, v, _, r => by simp only [Rep] at r; subst r; simp only [toP]; exact .non
  | .bl b, v, _, r => by simp only [Rep] at r; subst r; simp only [toP]; exact .bl b
  | .int b, v, _, r => by simp only [Rep] at r; subst r; simp only [toP]; exact .int b
  | .str b, v, _, r => by simp only [Rep] at r; subst r; simp only [toP]; exact .str b
  | .tup xs, v, p, r => by
    simp only [Rep] at r
    obtain ⟨a, vs, e, q, r⟩ := r
    subst e
    simp only [toP]
    exact .tup (SqP.mono q sub).sqT (dps_of sub xs vs (by simpa only [isP] using p) r)
  | .lst xs, v, p, r => by
    simp only [Rep] at r
    obtain ⟨a, vs, e, q, r⟩ := r
    subst e
    simp only [toP]
    exact .lst (SqL.of (sub _ _ q)) (dps_of sub xs vs (by simpa only [isP] using p) r)
  | .scr _, _, p, _ => by simp [isP] at p
  | .ref _, _, p, _ => by simp [isP] at p
  | .adr _, _, p, _ => by simp [isP] at p
theorem dps_of {K : PySem.W.Frag} {F H : Hp} {ι : List Addr} (sub : ∀ a o, F a = some o → H a = some o) : ∀ (ds : List D) (vs : List V), isPs ds = true → Reps K F ι ds vs → DpAll K H vs (toPs ds)
  | [], vs, _, r => by simp only [Reps] at r; subst r; simp only [toPs]; exact .nil
  | d :: ds, vs, p, r => by
    simp only [Reps] at r
    obtain ⟨v, rs, e, r1, r2⟩ := r
    subst e
    simp only [isPs, Bool.and_eq_true] at p
    simp only [toPs]
    exact .cons (dp_of sub d v p.1 r1) (dps_of sub ds rs p.2 r2)
end
/-- the items of a list; of a list or a tuple -/
def lstOf (st : Sto) : D → Option (List D)
  | .lst xs => some xs
  | .ref l => match st[l]? with
    | some (.lst xs) => some xs
    | _ => none
  | _ => none
def seqOf (st : Sto) : D → Option (List D)
  | .tup xs => some xs
  | .scr xs => some xs
  | d => lstOf st d
@[simp] theorem lstOf_lst (st : Sto) (xs : List D) : lstOf st (.lst xs) = some xs := rfl
@[simp] theorem seqOf_tup (st : Sto) (xs : List D) : seqOf st (.tup xs) = some xs := rfl
@[simp] theorem seqOf_lst (st : Sto) (xs : List D) : seqOf st (.lst xs) = some xs := rfl
@[simp] theorem seqOf_scr (st : Sto) (xs : List D) : seqOf st (.scr xs) = some xs := rfl
theorem lstOf_ref {st : Sto} {l : Nat} {xs : List D} (h : st[l]? = some (.lst xs)) : lstOf st (.ref l) = some xs := by simp [lstOf, h]
theorem seqOf_ref {st : Sto} {l : Nat} {xs : List D} (h : st[l]? = some (.lst xs)) : seqOf st (.ref l) = some xs := by simp [seqOf, lstOf, h]
def dat (st : Sto) (d : D) : Option PyData := match d with
  | .ref l => match st[l]? with
    | some (.lst xs) => if isPs xs = true then some (.list (toPs xs)) else none
    | _ => none
  | d => if isP d = true then some (toP d) else none
section
variable {K : PySem.W.Frag} {F H : Hp} {ι : List Addr} {st : Sto}
theorem Sim.lst (S : Sim K F ι st H) {d : D} {v : V} {xs : List D} (r : Rep K F ι d v) (h : lstOf st d = some xs) : ∃ a vs, v = .ref a ∧ H a = some (.lst vs) ∧ Reps K F ι xs vs := by
  unfold lstOf at h
  split at h
  · cases h
    simp only [Rep] at r
    obtain ⟨a, vs, e, q, r⟩ := r
    exact ⟨a, vs, e, S.sub _ _ q, r⟩
  · rename_i l
    split at h
    · rename_i ys e
      cases h
      simp only [Rep] at r
      obtain ⟨a, e2, q⟩ := r
      obtain ⟨vs, h1, h2⟩ := S.obj l _ a e q
      exact ⟨a, vs, e2, h1, h2⟩
    · cases h
  · cases h
theorem Sim.seq (S : Sim K F ι st H) {d : D} {v : V} {xs : List D} (r : Rep K F ι d v) (h : seqOf st d = some xs) : ∃ a vs, v = .ref a ∧ (SqL K H a vs ∨ SqT K H a vs) ∧ Reps K F ι xs vs := by
  unfold seqOf at h
  split at h
  · cases h
    simp only [Rep] at r
    obtain ⟨a, vs, e, q, r⟩ := r
    exact ⟨a, vs, e, .inr (S.sqT q), r⟩
  · cases h
    simp only [Rep] at r
    obtain ⟨a, vs, e, q, r⟩ := r
    exact ⟨a, vs, e, .inl (S.sqL q), r⟩
  · obtain ⟨a, vs, e, q, r⟩ := S.lst r h
    exact ⟨a, vs, e, .inl (SqL.of q), r⟩
theorem Sim.dp (S : Sim K F ι st H) {d : D} {v : V} {p : PyData} (r : Rep K F ι d v) (h : dat st d = some p) : Dp K H v p := by
  unfold dat at h
  split at h
  · rename_i l
    split at h
    · rename_i xs e
      split at h
      · rename_i hp
        cases h
        simp only [Rep] at r
        obtain ⟨a, e2, q⟩ := r
        subst e2
        obtain ⟨vs, h1, h2⟩ := S.obj l _ a e q
        exact .lst (SqL.of h1) (dps_of S.sub xs vs hp h2)
      · cases h
    · cases h
  · split at h
    · rename_i hp
      cases h
      exact dp_of S.sub _ _ hp r
    · cases h
end

/-! ### operations of two values -/
def rP (K : PySem.W.Frag) (p : Sto → D → D → Option D) : R2 := fun x y H Q => ∃ F ι st a b d, Sim K F ι st H ∧ Rep K F ι a x ∧ Rep K F ι b y ∧ p st a b = some d ∧
  ∀ F' H' v, Ext F ι H F' ι H' → Sim K F' ι st H' → Rep K F' ι d v → Q v H'
def mOp (p : Sto → D → D → Option D) (m1 m2 : Rho → M D) : Rho → M D := fun ρ st => (m1 ρ st).bind fun a st1 => (m2 ρ st1).bind fun b st2 => lift (p st2 a b) st2
def rPL (K : PySem.W.Frag) (p : Sto → D → D → Option (List D)) : R2 := fun x y H Q => ∃ F ι st a b ds, Sim K F ι st H ∧ Rep K F ι a x ∧ Rep K F ι b y ∧ p st a b = some ds ∧
  ∀ H' v, Ext F ι H F ι H' → Sim K F ι st H' → pL K H F ι H' ds v → Q v H'
def lOp (p : Sto → D → D → Option (List D)) (m1 m2 : Rho → M D) : Rho → M (List D) := fun ρ st => (m1 ρ st).bind fun a st1 => (m2 ρ st1).bind fun b st2 => lift (p st2 a b) st2
section
variable {X : Cx} {W : WX} {pos : Pos} {a b : Expr} {m1 m2 : Rho → M D}
theorem tOp_of {K : PySem.W.Frag} {p : Sto → D → D → Option D} {σ : L2.St} {H : Hp} {Q : VK} (h : tV K W (mOp p m1 m2) σ H Q) : tOp (rP K p) (tV K W m1) (tV K W m2) σ H Q := by
  obtain ⟨F, ι, ρ, st, S, R, q⟩ := h
  refine tG_seq back_V S R q fun d1 st1 F1 ι1 H1 v1 x1 S1 R1 r1 q1 => ?_
  refine tG_seq back_V S1 R1 q1 fun d2 st2 F2 ι2 H2 v2 x2 S2 R2 r2 q2 => ?_
  cases e : p st2 d1 d2 with
  | none => rw [e] at q2; exact q2.elim
  | some d =>
    rw [e] at q2
    exact ⟨F2, ι2, st2, d1, d2, d, S2, Rep.ext r1 x2, r2, e, fun F' H' v x S' r => q2 F' ι2 H' v x S' r⟩
theorem tOpL_of {K : PySem.W.Frag} {p : Sto → D → D → Option (List D)} {σ : L2.St} {H : Hp} {Q : VK} (h : tL K W (lOp p m1 m2) σ H Q) : tOp (rPL K p) (tV K W m1) (tV K W m2) σ H Q := by
  obtain ⟨F, ι, ρ, st, S, R, q⟩ := h
  refine tG_seq back_L S R q fun d1 st1 F1 ι1 H1 v1 x1 S1 R1 r1 q1 => ?_
  refine tG_seq back_L S1 R1 q1 fun d2 st2 F2 ι2 H2 v2 x2 S2 R2 r2 q2 => ?_
  cases e : p st2 d1 d2 with
  | none => rw [e] at q2; exact q2.elim
  | some d =>
    rw [e] at q2
    exact ⟨F2, ι2, st2, d1, d2, d, S2, Rep.ext r1 x2, r2, e, fun H' v x S' r => q2 F2 ι2 H' v x S' r⟩
theorem de_bin {op : Operator} {p : Sto → D → D → Option D} (ho : OpR X (binaryOp op) (rP X.K p)) (ha : DE X W a m1) (hb : DE X W b m2) : DE X W (.BinOp a op b pos) (mOp p m1 m2) :=
  PE.weak (pe_op ho ha hb) fun _ _ _ h => tOp_of h
theorem dl_bin {op : Operator} {p : Sto → D → D → Option (List D)} (ho : OpR X (binaryOp op) (rPL X.K p)) (ha : DE X W a m1) (hb : DE X W b m2) : DL X W (.BinOp a op b pos) (lOp p m1 m2) :=
  PE.weak (pe_op ho ha hb) fun _ _ _ h => tOpL_of h
/-- numbers -/
theorem op_ints {f : Value → Value → Sem Value} {C : Int → Int → Prop} [∀ i j, Decidable (C i j)] {g : Int → Int → Int} {p : Sto → D → D → Option D} (ho : OpR X f (rI C fun i j => .int (g i j)))
    (hp : ∀ st a b d, p st a b = some d → ∃ i j, a = .int i ∧ b = .int j ∧ C i j ∧ d = .int (g i j)) : OpR X f (rP X.K p) := by
  intro pins s σ H x y v u Q I rx ry ⟨F, ι, st, a, b, d, S, ra, rb, e, q⟩
  obtain ⟨i, j, e1, e2, hc, e3⟩ := hp st a b d e
  subst e1 e2 e3
  simp only [Rep] at ra rb
  subst ra rb
  exact ho pins s σ H _ _ v u Q I rx ry ⟨i, j, rfl, rfl, hc, q F H _ Ext.refl S (by simp only [Rep])⟩
def pSub : Sto → D → D → Option D := fun _ a b => match a, b with
  | .int i, .int j => some (.int (i - j))
  | _, _ => none
noncomputable def pDiv : Sto → D → D → Option D := fun _ a b => match a, b with
  | .int i, .int j => @ite _ (0 < j ∧ j < 1073741824) (Classical.propDecidable _) (some (.int (i / j))) (none)
  | _, _ => none
def pMod : Sto → D → D → Option D := fun _ a b => match a, b with
  | .int i, .int j => if 0 < j then some (.int (i % j)) else none
  | _, _ => none
noncomputable def pPow : Sto → D → D → Option D := fun _ a b => match a, b with
  | .int i, .int j => @ite _ (0 ≤ j ∧ j ≤ 1000000 ∧ i.natAbs < 2 ^ 64) (Classical.propDecidable _) (some (.int (i ^ j.toNat))) (none)
  | _, _ => none
noncomputable def pShl : Sto → D → D → Option D := fun _ a b => match a, b with
  | .int i, .int j => @ite _ (0 ≤ j ∧ j ≤ 1000000 ∧ i.natAbs < 2 ^ 64) (Classical.propDecidable _) (some (.int (i * 2 ^ j.toNat))) (none)
  | _, _ => none
def pNeg : Sto → D → Option D := fun _ a => match a with
  | .int i => some (.int (-i))
  | _ => none
theorem op_pSub : OpR X (binaryOp .Sub) (rP X.K pSub) := by
  refine op_ints (C := fun _ _ => True) (g := fun i j => i - j) (fun pins s σ H x y v u Q I rx ry ⟨i, j, e1, e2, _, q⟩ => op_sub pins s σ H x y v u Q I rx ry ⟨i, j, e1, e2, q⟩) fun st a b d e => ?_
  unfold pSub at e
  split at e
  · cases e; exact ⟨_, _, rfl, rfl, trivial, rfl⟩
  · cases e
theorem op_pDiv : OpR X (binaryOp .FloorDiv) (rP X.K pDiv) := by
  refine op_ints (C := fun i j => 0 < j ∧ j < 1073741824) (g := fun i j => i / j) (op_fdiv) fun st a b d e => ?_
  unfold pDiv at e
  split at e
  · split at e
    · rename_i h; cases e; exact ⟨_, _, rfl, rfl, h, rfl⟩
    · cases e
  · cases e
theorem op_pMod : OpR X (binaryOp .Mod) (rP X.K pMod) := by
  refine op_ints (C := fun i j => 0 < j) (g := fun i j => i % j) (op_mod) fun st a b d e => ?_
  unfold pMod at e
  split at e
  · split at e
    · rename_i h; cases e; exact ⟨_, _, rfl, rfl, h, rfl⟩
    · cases e
  · cases e
theorem op_pPow : OpR X (binaryOp .Pow) (rP X.K pPow) := by
  refine op_ints (C := fun i j => 0 ≤ j ∧ j ≤ 1000000 ∧ i.natAbs < 2 ^ 64) (g := fun i j => i ^ j.toNat) (op_pow) fun st a b d e => ?_
  unfold pPow at e
  split at e
  · split at e
    · rename_i h; cases e; exact ⟨_, _, rfl, rfl, h, rfl⟩
    · cases e
  · cases e
theorem op_pShl : OpR X (binaryOp .LShift) (rP X.K pShl) := by
  refine op_ints (C := fun i j => 0 ≤ j ∧ j ≤ 1000000 ∧ i.natAbs < 2 ^ 64) (g := fun i j => i * 2 ^ j.toNat) (op_shl) fun st a b d e => ?_
  unfold pShl at e
  split at e
  · split at e
    · rename_i h; cases e; exact ⟨_, _, rfl, rfl, h, rfl⟩
    · cases e
  · cases e
def mUn (p : Sto → D → Option D) (m : Rho → M D) : Rho → M D := fun ρ st => (m ρ st).bind fun a st1 => lift (p st1 a) st1
theorem de_neg (ha : DE X W a m1) : DE X W (.UnaryOp .USub a pos) (mUn pNeg m1) := by
  refine PE.weak (pe_un un_neg ha) fun σ H Q ⟨F, ι, ρ, st, S, R, q⟩ => ?_
  refine tG_seq back_V S R q fun d1 st1 F1 ι1 H1 v1 x1 S1 R1 r1 q1 => ?_
  unfold pNeg at q1
  split at q1
  · rename_i i
    have r : Rep X.K F1 ι1 (.int i) v1 := r1
    simp only [Rep] at r
    exact ⟨i, r, q1 F1 ι1 H1 _ Ext.refl S1 (by show Rep _ _ _ _ _; simp only [Rep])⟩
  · exact q1.elim
/-- + of numbers, texts, tuples -/
def pAdd : Sto → D → D → Option D := fun _ a b => match a, b with
  | .int i, .int j => some (.int (i + j))
  | .int i, .bl k => some (.int (i + b2i k))
  | .str x, .str y => if x.length + y.length ≤ sizeLine then some (.str (x ++ y)) else none
  | .tup xs, .tup ys => if xs.length + ys.length ≤ SZ then some (.tup (xs ++ ys)) else none
  | _, _ => none
/-- what follows a new tuple -/
theorem new_tup {K : PySem.W.Frag} {F : Hp} {ι : List Addr} {H : Hp} {st : Sto} {xs : List D} {vs : List V} {Q : VK} (S : Sim K F ι st H) (r : Reps K F ι xs vs) (q : ∀ F' H' v, Ext F ι H F' ι H' → Sim K F' ι st H' → Rep K F' ι (.tup xs) v → Q v H') :
    ∀ (p : Addr) (o : Obj), o.dict = none → H p = none → Q (.ref p) (upd H p (.frz o (.tup vs))) := fun p o ho hp => by
  refine q (upd F p (.frz o (.tup vs))) _ _ (Ext.frozen hp S.sub) (S.frozen hp trivial) ?_
  simp only [Rep]
  exact ⟨p, vs, rfl, .inl ⟨o, ho, upd_same⟩, Reps.ext r (Ext.frozen (H := H) hp S.sub)⟩
theorem same_tup {K : PySem.W.Frag} {F : Hp} {ι : List Addr} {H : Hp} {st : Sto} {xs ys : List D} {v : V} {Q : VK} (S : Sim K F ι st H) (r : Rep K F ι (.tup xs) v) (e : xs = ys) (q : ∀ F' H' v, Ext F ι H F' ι H' → Sim K F' ι st H' → Rep K F' ι (.tup ys) v → Q v H') : Q v H :=
  q F H v Ext.refl S (by rw [← e]; exact r)
def rCatP (K : PySem.W.Frag) : R2 := fun x y H Q => ∃ a b xs ys, x = .ref a ∧ y = .ref b ∧ SqT K H a xs ∧ SqT K H b ys ∧ xs.length + ys.length ≤ sizeLine ∧
  (xs = [] → Q (.ref b) H) ∧ (xs ≠ [] → ys = [] → Q (.ref a) H) ∧ (xs ≠ [] → ys ≠ [] → ∀ (p : Addr) (o : Obj), o.dict = none → H p = none → Q (.ref p) (upd H p (.frz o (.tup (xs ++ ys)))))
theorem op_catP : OpR X (binaryOp .Add) (rCatP X.K) := by
  intro pins s σ H x y v u Q I rx ry ⟨a, b, xs, ys, e1, e2, ha, hb, hz, q0, q1, q2⟩
  subst e1 e2
  by_cases hx : xs = []
  · exact op_catA pins s σ H _ _ v u Q I rx ry ⟨a, b, xs, ys, rfl, rfl, ha, hb, hz, q0, q1, fun h => absurd hx h⟩
  · by_cases hy : ys = []
    · exact op_catA pins s σ H _ _ v u Q I rx ry ⟨a, b, xs, ys, rfl, rfl, ha, hb, hz, q0, q1, fun _ h => absurd hy h⟩
    · cases rx
      cases ry
      obtain ⟨i1, r1, p1, _⟩ := I.tuple ha
      obtain ⟨i2, r2, p2, _⟩ := I.tuple hb
      refine HT.cat_tup p1 p2 (fun z => hx (r1.nil_iff.mp z)) (fun z => absurd (r2.nil_iff.mp z) hy) (fun z => ?_) (by rw [← r1.length, ← r2.length]; exact hz)
      exact fin_tup (t' := s.toks) I (r1.append r2) (by rw [List.length_append]; exact hz) (q2 hx hy)
theorem op_pAdd : OpR X (binaryOp .Add) (rP X.K pAdd) := by
  intro pins s σ H x y v u Q I rx ry ⟨F, ι, st, a, b, d, S, ra, rb, e, q⟩
  unfold pAdd at e
  split at e
  · cases e
    simp only [Rep] at ra rb
    subst ra rb
    exact op_add pins s σ H _ _ v u Q I rx ry ⟨_, _, rfl, rfl, q F H _ Ext.refl S (by simp only [Rep])⟩
  · cases e
    simp only [Rep] at ra rb
    subst ra rb
    exact op_add_ib pins s σ H _ _ v u Q I rx ry ⟨_, _, rfl, rfl, q F H _ Ext.refl S (by simp only [Rep])⟩
  · split at e
    · rename_i hz
      cases e
      simp only [Rep] at ra rb
      subst ra rb
      exact op_add_str pins s σ H _ _ v u Q I rx ry ⟨_, _, rfl, rfl, hz, q F H _ Ext.refl S (by simp only [Rep])⟩
    · cases e
  · split at e
    · rename_i xs ys hz
      cases e
      have ra' := ra
      have rb' := rb
      simp only [Rep] at ra rb
      obtain ⟨a1, vs1, e1, h1, r1⟩ := ra
      obtain ⟨a2, vs2, e2, h2, r2⟩ := rb
      subst e1 e2
      refine op_catP pins s σ H _ _ v u Q I rx ry ⟨a1, a2, vs1, vs2, rfl, rfl, S.sqT h1, S.sqT h2, ?_, fun h => ?_, fun h h' => ?_, fun _ _ => new_tup S (r1.append r2) q⟩
      · rw [← r1.length, ← r2.length]; exact sz_le hz
      · subst h
        have : xs = [] := List.eq_nil_of_length_eq_zero r1.length
        subst this
        exact same_tup S rb' rfl q
      · subst h'
        have : ys = [] := List.eq_nil_of_length_eq_zero r2.length
        subst this
        exact same_tup S ra' (by simp) q
    · cases e
  · cases e
/-- lists -/
def pCat : Sto → D → D → Option (List D) := fun st a b => match lstOf st a, lstOf st b with
  | some xs, some ys => if xs.length + ys.length ≤ SZ then some (xs ++ ys) else none
  | _, _ => none
theorem op_pCat : OpR X (binaryOp .Add) (rPL X.K pCat) := by
  intro pins s σ H x y v u Q I rx ry ⟨F, ι, st, a, b, d, S, ra, rb, e, q⟩
  unfold pCat at e
  split at e
  · rename_i xs ys e1 e2
    split at e
    · rename_i hz
      cases e
      obtain ⟨a1, vs1, q1, h1, r1⟩ := S.lst ra e1
      obtain ⟨a2, vs2, q2, h2, r2⟩ := S.lst rb e2
      subst q1 q2
      exact op_cat pins s σ H _ _ v u Q I rx ry ⟨a1, a2, vs1, vs2, rfl, rfl, h1, h2, by rw [← r1.length, ← r2.length]; exact sz_le hz, fun p hp => q _ _ (Ext.laid hp) (S.laid hp) (pL_new S hp (r1.append r2))⟩
    · cases e
  · cases e
theorem Reps.rep {K : PySem.W.Frag} {F : Hp} {ι : List Addr} {xs : List D} {vs : List V} (h : Reps K F ι xs vs) : ∀ k : Nat, Reps K F ι (List.replicate k xs).flatten (List.replicate k vs).flatten
  | 0 => Reps.nil
  | k + 1 => by
    rw [List.replicate_succ, List.replicate_succ, List.flatten_cons, List.flatten_cons]
    exact h.append (Reps.rep h k)
def pRepL : Sto → D → D → Option (List D) := fun st a b => match lstOf st a, b with
  | some xs, .int k => if xs.length * k.toNat ≤ SZ ∧ -1000000 ≤ k ∧ k ≤ 1000000 then some (List.replicate k.toNat xs).flatten else none
  | _, _ => none
theorem op_pRepL : OpR X (binaryOp .Mult) (rPL X.K pRepL) := by
  intro pins s σ H x y v u Q I rx ry ⟨F, ι, st, a, b, d, S, ra, rb, e, q⟩
  unfold pRepL at e
  split at e
  · rename_i xs k e1
    split at e
    · rename_i hz
      cases e
      obtain ⟨a1, vs1, q1, h1, r1⟩ := S.lst ra e1
      simp only [Rep] at rb
      subst q1 rb
      exact op_rep pins s σ H _ _ v u Q I rx ry ⟨a1, k, vs1, rfl, rfl, h1, by omega, by omega, by rw [← r1.length]; exact sz_le hz.1, fun p hp => q _ _ (Ext.laid hp) (S.laid hp) (pL_new S hp (r1.rep _))⟩
    · cases e
  · cases e
end
end Dn
namespace Dn
open PySem PySem.Spec PyProof.Rows L2
theorem tuple_mul_same (l : Addr) (items : Array Value) (n : Nat) (dd : Option Addr) (sl : Array (Option Value)) (x : Int) (u : Tok) (c0 : (decide (x < -(2 ^ 63)) || decide (x ≥ 2 ^ 63)) = false) (c1 : (items.isEmpty || x == 1) = true) :
    Meets (Builtin.«tuple.__mul__» ⟨[.ref l, .int x u], []⟩) (fun _ R s => s.heap.get? l = some { cls := .type "tuple", dict := dd, data := .seq items n, slots := sl } ∧
      R (.ok (.ret (Value.ref l))) s) :=
  .of_wp fun prog w A R s h => by
    obtain ⟨hp, g, d, tk, os⟩ := s
    obtain ⟨hl, h⟩ := h
    have f1 := AutoSeq1.idx_int
    wp_walk using wpAny_loadPart' hl
    repeat (first
      | (refine wpAny_ite_false (decide_eq_false (by rw [c0]; exact Bool.false_ne_true)) ?_; wp_walk using wpAny_loadPart' hl)
      | (refine wpAny_ite_true (decide_eq_true (by rw [c1])) ?_; wp_walk using wpAny_loadPart' hl))
    exact ⟨_, rfl, h⟩
theorem tuple_mul_nil (l : Addr) (items : Array Value) (n : Nat) (dd : Option Addr) (sl : Array (Option Value)) (x : Int) (u : Tok) (c0 : (decide (x < -(2 ^ 63)) || decide (x ≥ 2 ^ 63)) = false) (c1 : (items.isEmpty || x == 1) = false) (c2 : (decide (x ≤ 0) || items.isEmpty) = true) :
    Meets (Builtin.«tuple.__mul__» ⟨[.ref l, .int x u], []⟩) (fun _ R s => s.heap.get? l = some { cls := .type "tuple", dict := dd, data := .seq items n, slots := sl } ∧
      R (.ok (.ret (Value.ref s.heap.objs.size))) { s with heap := s.heap.push { cls := Value.type "tuple", data := Data.seq #[] }, toks := s.toks }) :=
  .of_wp fun prog w A R s h => by
    obtain ⟨hp, g, d, tk, os⟩ := s
    obtain ⟨hl, h⟩ := h
    have f1 := AutoSeq1.idx_int
    wp_walk using wpAny_loadPart' hl
    repeat (first
      | (refine wpAny_ite_false (decide_eq_false (by rw [c0]; exact Bool.false_ne_true)) ?_; wp_walk using wpAny_loadPart' hl)
      | (refine wpAny_ite_false (decide_eq_false (by rw [c1]; exact Bool.false_ne_true)) ?_; wp_walk using wpAny_loadPart' hl)
      | (refine wpAny_ite_true (decide_eq_true (by rw [c2])) ?_; wp_walk using wpAny_loadPart' hl))
    exact ⟨_, rfl, h⟩
section
variable {X : Cx} {W : WX} {pos : Pos} {a b c : Expr} {m1 m2 m3 : Rho → M D}
/-- a tuple, more than once -/
theorem op_repP : OpR X (binaryOp .Mult) (fun x y H Q => ∃ l k xs, x = .ref l ∧ y = .int k ∧ SqT X.K H l xs ∧ xs ≠ [] ∧ 2 ≤ k ∧ k ≤ 1000 ∧ xs.length ≤ 1000 ∧ ∀ (p : Addr) (o : Obj), o.dict = none → H p = none → Q (.ref p) (upd H p (.frz o (.tup (List.replicate k.toNat xs).flatten)))) := by
  intro pins s σ H x y v u Q I rx ry ⟨l, k, xs, e1, e2, hT, hne, h1, h2, hz, q⟩
  subst e1 e2
  cases rx
  obtain ⟨t, rfl⟩ := ry
  obtain ⟨its, r, ⟨⟨C, dd, dt, sl⟩, ho, hc, n, hd⟩, hs⟩ := I.tuple hT
  simp only at hc hd
  subst hc hd
  have hlen : its.length = xs.length := r.length.symm
  have hin : its ≠ [] := fun e => hne (List.eq_nil_of_length_eq_zero (by rw [← hlen, e]; rfl))
  have hie : its.toArray.isEmpty = false := by
    cases its with
    | nil => exact absurd rfl hin
    | cons _ _ => rfl
  have hsz : its.toArray.size = xs.length := by rw [List.size_toArray, hlen]
  have hmul : ((its.toArray.size : Nat) : Int) * k ≤ 1000000 := by
    rw [hsz]
    have := Int.mul_le_mul_of_nonneg_right (show ((xs.length : Nat) : Int) ≤ 1000 by omega) (show 0 ≤ k by omega)
    omega
  have hnat : k.toNat * xs.length ≤ 1000000 := Nat.le_trans (Nat.mul_le_mul (show k.toNat ≤ 1000 by omega) hz) (by decide)
  have hflat : (List.replicate k.toNat its).flatten.length ≤ sizeLine := by
    rw [PyProof.Rows.lm_len_rep_flat, hlen, sizeLine_eq]
    omega
  have d0 : (decide (k < -(2 ^ 63)) || decide (k ≥ 2 ^ 63)) = false := by
    rw [Bool.or_eq_false_iff]
    exact ⟨decide_eq_false (by omega), decide_eq_false (by omega)⟩
  have d1 : (its.toArray.isEmpty || k == 1) = false := by
    rw [Bool.or_eq_false_iff]
    exact ⟨hie, beq_eq_false_iff_ne.mpr (by omega)⟩
  have d2 : (decide (k ≤ 0) || its.toArray.isEmpty) = false := by
    rw [Bool.or_eq_false_iff]
    exact ⟨decide_eq_false (by omega), hie⟩
  have d4 : Builtin.Tuple.tupleTooMany (((its.toArray.size : Nat) : Int) * k) = false := by
    unfold Builtin.Tuple.tupleTooMany
    exact decide_eq_false (by rw [sizeLine_eq]; omega)
  refine wpAny_binaryOp_repeat_ref (T := "tuple") (U := "int") (by decide) ⟨_, ho, rfl⟩ (fun s' => typeIs_int s' k t) noFill_tuple_mul PySem.F.fills_int_mul PySem.F.slot_int_rmul repeat_tuple PySem.F.slot_int_index.lookup
    (call_meets PySem.F.slot_int_rmul (typeIs_int s k t) PySem.F.entry_int_rmul (PySem.F.args_int_rmul_2 _ _) (int_rmul_tuple k t l its.toArray n dd sl) ⟨ho, rfl, ⟨_, ho, rfl⟩,
      call_meets PySem.F.slot_tuple_mul ⟨_, ho, rfl⟩ PySem.F.entry_tuple_mul (PySem.F.args_tuple_mul_2 _ _) (tuple_mulW l its.toArray n dd sl k t d0 d1 d2 (by omega) d4 (by rw [size_rep, List.size_toArray]; exact hflat)) ⟨ho, ?_⟩⟩)
  rw [size_rep]
  exact fin_tup (t' := s.toks) I (r.rep k.toNat) (by rw [PyProof.Rows.lm_len_rep_flat, sizeLine_eq]; omega) q
/-- * of numbers; of a tuple and a number -/
noncomputable def pMul : Sto → D → D → Option D := fun _ a b => match a, b with
  | .int i, .int j => @ite _ (i.natAbs < 2 ^ 64 ∨ j.natAbs < 2 ^ 64) (Classical.propDecidable _) (some (.int (i * j))) (none)
  | .tup xs, .int k => if xs.length ≤ 1000 ∧ -1000 ≤ k ∧ k ≤ 1000 then some (.tup (List.replicate k.toNat xs).flatten) else none
  | _, _ => none
theorem op_pMul : OpR X (binaryOp .Mult) (rP X.K pMul) := by
  intro pins s σ H x y v u Q I rx ry ⟨F, ι, st, a, b, d, S, ra, rb, e, q⟩
  unfold pMul at e
  split at e
  · split at e
    · rename_i hc
      cases e
      simp only [Rep] at ra rb
      subst ra rb
      refine op_mul pins s σ H _ _ v u Q I rx ry ⟨_, _, rfl, rfl, ?_, q F H _ Ext.refl S (by simp only [Rep])⟩
      rcases hc with h | h
      · exact .inl (by omega)
      · exact .inr (by omega)
    · cases e
  · split at e
    · rename_i xs k hc
      cases e
      have ra' := ra
      simp only [Rep] at ra rb
      obtain ⟨a1, vs, e1, h1, r1⟩ := ra
      subst e1 rb
      have hT := S.sqT h1
      have hx := rx
      cases rx
      obtain ⟨t, rfl⟩ := ry
      obtain ⟨its, r, ⟨⟨cls, dd, data, sl⟩, ho, hc1, n, hd⟩, hs⟩ := I.tuple hT
      simp only at hc1 hd
      subst hc1 hd
      have hle : its.length = xs.length := r.length.symm.trans r1.length.symm
      have c0 : (decide (k < -(2 ^ 63)) || decide (k ≥ 2 ^ 63)) = false := by
        rw [decide_eq_false (by omega), decide_eq_false (by omega)] <;> rfl
      by_cases c1 : (its.toArray.isEmpty || k == 1) = true
      · refine wpAny_binaryOp_repeat_ref (T := "tuple") (U := "int") (by decide) ⟨_, ho, rfl⟩ (fun s' => typeIs_int s' k t) noFill_tuple_mul PySem.F.fills_int_mul PySem.F.slot_int_rmul repeat_tuple PySem.F.slot_int_index.lookup
          (call_meets PySem.F.slot_int_rmul (typeIs_int s k t) PySem.F.entry_int_rmul (PySem.F.args_int_rmul_2 _ _) (int_rmul_tuple k t a1 its.toArray n dd sl)
            ⟨ho, rfl, ⟨_, ho, rfl⟩, call_meets PySem.F.slot_tuple_mul ⟨_, ho, rfl⟩ PySem.F.entry_tuple_mul (PySem.F.args_tuple_mul_2 _ _) (tuple_mul_same a1 its.toArray n dd sl k t c0 c1) ⟨ho, ?_⟩⟩)
        refine ⟨.ref a1, H, I, rfl, q F H _ Ext.refl S ?_⟩
        have e2 : (List.replicate k.toNat xs).flatten = xs := by
          rw [Bool.or_eq_true] at c1
          rcases c1 with c1 | c1
          · have : its = [] := by simpa using c1
            have h0 : xs = [] := List.eq_nil_of_length_eq_zero (by rw [← hle, this]; rfl)
            subst h0
            simp
          · have : k = 1 := by simpa using c1
            subst this
            simp
        rw [e2]
        exact ra'
      · have c1 : (its.toArray.isEmpty || k == 1) = false := by simpa using c1
        by_cases c2 : (decide (k ≤ 0) || its.toArray.isEmpty) = true
        · refine wpAny_binaryOp_repeat_ref (T := "tuple") (U := "int") (by decide) ⟨_, ho, rfl⟩ (fun s' => typeIs_int s' k t) noFill_tuple_mul PySem.F.fills_int_mul PySem.F.slot_int_rmul repeat_tuple PySem.F.slot_int_index.lookup
            (call_meets PySem.F.slot_int_rmul (typeIs_int s k t) PySem.F.entry_int_rmul (PySem.F.args_int_rmul_2 _ _) (int_rmul_tuple k t a1 its.toArray n dd sl)
              ⟨ho, rfl, ⟨_, ho, rfl⟩, call_meets PySem.F.slot_tuple_mul ⟨_, ho, rfl⟩ PySem.F.entry_tuple_mul (PySem.F.args_tuple_mul_2 _ _) (tuple_mul_nil a1 its.toArray n dd sl k t c0 c1 c2) ⟨ho, ?_⟩⟩)
          have e2 : (List.replicate k.toNat xs).flatten = [] := by
            rw [Bool.or_eq_true] at c2
            rcases c2 with c2 | c2
            · have : k.toNat = 0 := by
                have := of_decide_eq_true c2
                omega
              rw [this]
              rfl
            · rw [Bool.or_eq_false_iff] at c1
              rw [c1.1] at c2
              cases c2
          rw [e2] at q
          exact fin_tup (t' := s.toks) I (ys := []) (its := []) .nil (Nat.zero_le _) (new_tup S Reps.nil q)
        · have h2 : 2 ≤ k := by
            simp only [Bool.or_eq_true, decide_eq_true_eq, not_or] at c2
            rw [Bool.or_eq_false_iff] at c1
            have : k ≠ 1 := by simpa using c1.2
            omega
          have hne : vs ≠ [] := by
            intro h0
            rw [Bool.or_eq_false_iff] at c1
            have h1 := c1.1
            subst h0
            cases r
            simp at h1
          exact op_repP pins s σ H _ _ _ _ Q I hx (show RelV (V.int k) (Value.int k t) from ⟨t, rfl⟩) ⟨a1, k, vs, rfl, rfl, hT, hne, h2, hc.2.2, by rw [← r1.length]; exact hc.1, new_tup S (r1.rep _) q⟩
    · cases e
  · cases e

/-! ### comparisons -/
def pEq : Sto → D → D → Option D := fun st a b => match a, b with
  | .str x, .str y => some (.bl ((x == y)))
  | a, b => match dat st a, dat st b with
  | some p, some q => if (SeqAt.shaped p && SeqAt.shaped q) = true then some (.bl (PyData.eqv p q)) else none
  | _, _ => none
def pNe : Sto → D → D → Option D := fun st a b => match a, b with
  | .str x, .str y => some (.bl (!(x == y)))
  | a, b => match dat st a, dat st b with
  | some p, some q => if (SeqAt.shaped p && SeqAt.shaped q) = true then some (.bl (!PyData.eqv p q)) else none
  | _, _ => none
theorem op_pEq (hu : X.A.units + 64 < cLine) : OpR X (compareOp .Eq) (rP X.K pEq) := by
  intro pins s σ H x y v u Q I rx ry ⟨F, ι, st, a, b, d, S, ra, rb, e, q⟩
  unfold pEq at e
  split at e
  · rename_i x1 y1
    cases e
    have e1 : x = V.str x1 := by simpa only [Rep] using ra
    have e2 : y = V.str y1 := by simpa only [Rep] using rb
    subst e1
    subst e2
    refine op_eq pins s σ H _ _ v u Q I rx ry ⟨rfl, ?_⟩
    rw [dec_str]
    exact q F H _ Ext.refl S (by simp only [Rep])
  split at e
  · rename_i p1 p2 e1 e2
    split at e
    · rename_i hc
      cases e
      rw [Bool.and_eq_true] at hc
      exact op_eqD hu pins s σ H x y v u Q I rx ry ⟨p1, p2, S.dp ra e1, S.dp rb e2, hc.1, hc.2, q F H _ Ext.refl S (by simp only [Rep])⟩
    · cases e
  · cases e
theorem op_pNe (hu : X.A.units + 64 < cLine) : OpR X (compareOp .NotEq) (rP X.K pNe) := by
  intro pins s σ H x y v u Q I rx ry ⟨F, ι, st, a, b, d, S, ra, rb, e, q⟩
  unfold pNe at e
  split at e
  · rename_i x1 y1
    cases e
    have e1 : x = V.str x1 := by simpa only [Rep] using ra
    have e2 : y = V.str y1 := by simpa only [Rep] using rb
    subst e1
    subst e2
    refine op_ne pins s σ H _ _ v u Q I rx ry ⟨rfl, ?_⟩
    rw [dec_str]
    exact q F H _ Ext.refl S (by simp only [Rep])
  split at e
  · rename_i p1 p2 e1 e2
    split at e
    · rename_i hc
      cases e
      rw [Bool.and_eq_true] at hc
      exact op_neD hu pins s σ H x y v u Q I rx ry ⟨p1, p2, S.dp ra e1, S.dp rb e2, hc.1, hc.2, q F H _ Ext.refl S (by simp only [Rep])⟩
    · cases e
  · cases e
/-- in: a list, a tuple, a text -/
def inD (st : Sto) (a b : D) : Option Bool := match b with
  | .str y => match a with
    | .str x => some (!(Builtin.Str.occurrences y x 0 y.length 1).isEmpty)
    | _ => none
  | b => match dat st a, dat st b with
    | some p, some (.list ds) => if (SeqAt.shaped p && SeqAt.shaped (.list ds)) = true then some (ds.any fun z => PyData.eqv z p) else none
    | some p, some (.tuple ds) => if (SeqAt.shaped p && SeqAt.shaped (.tuple ds)) = true then some (ds.any fun z => PyData.eqv z p) else none
    | _, _ => none
def pIn : Sto → D → D → Option D := fun st a b => (inD st a b).map fun k => .bl k
def pNotIn : Sto → D → D → Option D := fun st a b => (inD st a b).map fun k => .bl (!k)
theorem room_inT {A : Around} {d : PyData} {ds : List PyData} (sd : SeqAt.shaped d = true) (hu : A.units + 65 < cLine) : A.units + 1 + min (PyData.depthAll ds) d.depth < cLine := room_in_shaped sd hu
theorem op_pIn (hu : X.A.units + 65 < cLine) : OpR X (compareOp .In) (rP X.K pIn) := by
  intro pins s σ H x y v u Q I rx ry ⟨F, ι, st, a, b, d, S, ra, rb, e, q⟩
  unfold pIn inD at e
  split at e
  · split at e
    · cases e
      simp only [Rep] at ra rb
      subst ra rb
      exact op_in_str pins s σ H _ _ v u Q I rx ry ⟨_, _, rfl, rfl, q F H _ Ext.refl S (by simp only [Rep])⟩
    · cases e
  · split at e
    · rename_i p ds e1 e2
      split at e
      · rename_i hc
        cases e
        rw [Bool.and_eq_true] at hc
        exact op_inD hu pins s σ H x y v u Q I rx ry ⟨p, ds, S.dp ra e1, S.dp rb e2, hc.1, hc.2, q F H _ Ext.refl S (by simp only [Rep])⟩
      · cases e
    · rename_i p ds e1 e2
      split at e
      · rename_i hc
        cases e
        rw [Bool.and_eq_true] at hc
        obtain ⟨as, r1⟩ := Dp.reads I p x v (S.dp ra e1) rx
        obtain ⟨bs, r2⟩ := Dp.reads I (.tuple ds) y u (S.dp rb e2) ry
        exact SeqAt.in_tuple_reads r2 r1 (SeqAt.canLay_of_shaped (d := .tuple ds) hc.2) (SeqAt.canLay_of_shaped hc.1) (room_inT hc.1 hu) ⟨.bl _, H, I, rfl, q F H _ Ext.refl S (by simp only [Rep])⟩
      · cases e
    · cases e
theorem op_pNotIn (hu : X.A.units + 65 < cLine) : OpR X (compareOp .NotIn) (rP X.K pNotIn) := by
  intro pins s σ H x y v u Q I rx ry ⟨F, ι, st, a, b, d, S, ra, rb, e, q⟩
  unfold pNotIn inD at e
  split at e
  · split at e
    · cases e
      simp only [Rep] at ra rb
      subst ra rb
      exact op_notin_str pins s σ H _ _ v u Q I rx ry ⟨_, _, rfl, rfl, q F H _ Ext.refl S (by simp only [Rep])⟩
    · cases e
  · split at e
    · rename_i p ds e1 e2
      split at e
      · rename_i hc
        cases e
        rw [Bool.and_eq_true] at hc
        exact op_notInD hu pins s σ H x y v u Q I rx ry ⟨p, ds, S.dp ra e1, S.dp rb e2, hc.1, hc.2, q F H _ Ext.refl S (by simp only [Rep])⟩
      · cases e
    · rename_i p ds e1 e2
      split at e
      · rename_i hc
        cases e
        rw [Bool.and_eq_true] at hc
        obtain ⟨as, r1⟩ := Dp.reads I p x v (S.dp ra e1) rx
        obtain ⟨bs, r2⟩ := Dp.reads I (.tuple ds) y u (S.dp rb e2) ry
        exact SeqAt.notIn_tuple_reads r2 r1 (SeqAt.canLay_of_shaped (d := .tuple ds) hc.2) (SeqAt.canLay_of_shaped hc.1) (room_inT hc.1 hu) ⟨.bl _, H, I, rfl, q F H _ Ext.refl S (by simp only [Rep])⟩
      · cases e
    · cases e
/-- <, <=, >, >= of numbers; < of texts and of tuples of one shape -/
def pLt : Sto → D → D → Option D := fun st a b => match a, b with
  | .int i, .int j => some (.bl (decide (i < j)))
  | .str x, .str y => some (.bl (decide (x.cps.toList < y.cps.toList)))
  | .tup xs, .tup ys => if isPs xs = true ∧ isPs ys = true ∧ PySem.W.alikeAll (toPs xs) (toPs ys) = true ∧ PyData.depth (toP (.tup xs)) ≤ 64 then some (.bl (PySem.W.dataLt (toP (.tup xs)) (toP (.tup ys)))) else none
  | _, _ => none
def pLe : Sto → D → D → Option D := fun _ a b => match a, b with
  | .int i, .int j => some (.bl (decide (i ≤ j)))
  | _, _ => none
def pGt : Sto → D → D → Option D := fun _ a b => match a, b with
  | .int i, .int j => some (.bl (decide (j < i)))
  | _, _ => none
def pGe : Sto → D → D → Option D := fun _ a b => match a, b with
  | .int i, .int j => some (.bl (decide (j ≤ i)))
  | _, _ => none
theorem op_cmpI {f : Value → Value → Sem Value} {g : Int → Int → Bool} {p : Sto → D → D → Option D} (ho : OpR X f (rI0 fun i j => .bl (g i j)))
    (hp : ∀ st a b d, p st a b = some d → ∃ i j, a = .int i ∧ b = .int j ∧ d = .bl (g i j)) : OpR X f (rP X.K p) := by
  intro pins s σ H x y v u Q I rx ry ⟨F, ι, st, a, b, d, S, ra, rb, e, q⟩
  obtain ⟨i, j, e1, e2, e3⟩ := hp st a b d e
  subst e1 e2 e3
  simp only [Rep] at ra rb
  subst ra rb
  exact ho pins s σ H _ _ v u Q I rx ry ⟨i, j, rfl, rfl, q F H _ Ext.refl S (by simp only [Rep])⟩
theorem op_pLt (hu : X.A.units + 65 < cLine) : OpR X (compareOp .Lt) (rP X.K pLt) := by
  intro pins s σ H x y v u Q I rx ry ⟨F, ι, st, a, b, d, S, ra, rb, e, q⟩
  unfold pLt at e
  split at e
  · cases e
    simp only [Rep] at ra rb
    subst ra rb
    exact op_lt pins s σ H _ _ v u Q I rx ry ⟨_, _, rfl, rfl, q F H _ Ext.refl S (by simp only [Rep])⟩
  · cases e
    simp only [Rep] at ra rb
    subst ra rb
    exact op_lt_str pins s σ H _ _ v u Q I rx ry ⟨_, _, rfl, rfl, q F H _ Ext.refl S (by simp only [Rep])⟩
  · split at e
    · rename_i xs ys hc
      cases e
      obtain ⟨h1, h2, h3, h4⟩ := hc
      obtain ⟨as, r1⟩ := Dp.reads I _ x v (dp_of S.sub (.tup xs) x (by simp only [isP]; exact h1) ra) rx
      obtain ⟨bs, r2⟩ := Dp.reads I _ y u (dp_of S.sub (.tup ys) y (by simp only [isP]; exact h2) rb) ry
      exact PySem.W.lt_data r1 r2 (by simp only [toP, PySem.W.alike]; exact h3) (by simp only [toP]; exact fun h => nomatch h) (by omega) ⟨.bl _, H, I, rfl, q F H _ Ext.refl S (by simp only [Rep])⟩
    · cases e
  · cases e
theorem op_pLe : OpR X (compareOp .LtE) (rP X.K pLe) := op_cmpI op_le fun st a b d e => by
  unfold pLe at e
  split at e
  · cases e; exact ⟨_, _, rfl, rfl, rfl⟩
  · cases e
theorem op_pGt : OpR X (compareOp .Gt) (rP X.K pGt) := op_cmpI op_gt fun st a b d e => by
  unfold pGt at e
  split at e
  · cases e; exact ⟨_, _, rfl, rfl, rfl⟩
  · cases e
theorem op_pGe : OpR X (compareOp .GtE) (rP X.K pGe) := op_cmpI op_ge fun st a b d e => by
  unfold pGe at e
  split at e
  · cases e; exact ⟨_, _, rfl, rfl, rfl⟩
  · cases e
/-- is None, is not None -/
def D.isNon : D → Bool
  | .non => true
  | _ => false
def pIs : Sto → D → D → Option D := fun _ a b => match b with
  | .non => some (.bl a.isNon)
  | _ => none
def pIsNot : Sto → D → D → Option D := fun _ a b => match b with
  | .non => some (.bl (!a.isNon))
  | _ => none
theorem isNon_of {K : PySem.W.Frag} {F : Hp} {ι : List Addr} {d : D} {v : V} (r : Rep K F ι d v) : decide (v = V.non) = d.isNon := by
  cases d <;> simp only [Rep] at r <;> first
    | (subst r; rfl)
    | (subst r; exact decide_eq_false (fun h => nomatch h))
    | (obtain ⟨_, _, e, _⟩ := r; subst e; exact decide_eq_false (fun h => nomatch h))
    | (obtain ⟨_, e, _⟩ := r; subst e; exact decide_eq_false (fun h => nomatch h))
theorem op_pIs : OpR X (compareOp .Is) (rP X.K pIs) := by
  intro pins s σ H x y v u Q I rx ry ⟨F, ι, st, a, b, d, S, ra, rb, e, q⟩
  unfold pIs at e
  split at e
  · cases e
    simp only [Rep] at rb
    subst rb
    exact op_isN pins s σ H _ _ v u Q I rx ry ⟨rfl, by rw [isNon_of ra]; exact q F H _ Ext.refl S (by simp only [Rep])⟩
  · cases e
theorem op_pIsNot : OpR X (compareOp .IsNot) (rP X.K pIsNot) := by
  intro pins s σ H x y v u Q I rx ry ⟨F, ι, st, a, b, d, S, ra, rb, e, q⟩
  unfold pIsNot at e
  split at e
  · cases e
    simp only [Rep] at rb
    subst rb
    exact op_notN pins s σ H _ _ v u Q I rx ry ⟨rfl, by rw [isNon_of ra]; exact q F H _ Ext.refl S (by simp only [Rep])⟩
  · cases e
theorem de_cmp {op : CmpOp} {p : Sto → D → D → Option D} (ho : OpR X (compareOp op) (rP X.K p)) (ha : DE X W a m1) (hb : DE X W b m2) (hm : behindInMarks op b = false := by rfl) : DE X W (.Compare a [op] [b] pos) (mOp p m1 m2) :=
  PE.weak (pe_cmpR ho ha hb hm) fun _ _ _ h => tOp_of h
/-- a truth value as a test -/
def isB (m : Rho → M D) : Rho → M Bool := fun ρ st => (m ρ st).bind fun d st1 => match d with
  | .bl k => .ok k st1
  | _ => .bad
theorem isB_of {K : PySem.W.Frag} {m : Rho → M D} {σ : L2.St} {H : Hp} {Q : Bool → Hp → Prop} (h : tT K W (isB m) σ H Q) : tTest (tV K W m) σ H Q := by
  obtain ⟨F, ι, ρ, st, S, R, q⟩ := h
  refine tG_seq back_B S R q fun d1 st1 F1 ι1 H1 v1 x1 S1 R1 r1 q1 => ?_
  split at q1
  · have r : Rep K F1 ι1 (.bl _) v1 := r1
    simp only [Rep] at r
    exact ⟨_, r, q1 F1 ι1 H1 _ Ext.refl S1 rfl⟩
  · exact q1.elim
theorem dt_cmp {op : CmpOp} {p : Sto → D → D → Option D} (ho : OpR X (compareOp op) (rP X.K p)) (ha : DE X W a m1) (hb : DE X W b m2) (hm : behindInMarks op b = false := by rfl) : DT X W (.Compare a [op] [b] pos) (isB (mOp p m1 m2)) :=
  PT.weak (pt_cmpR ho ha hb hm) fun σ H Q h => by
    have q := isB_of h
    unfold tTest at q ⊢
    exact tOp_of q
/-- a op b op' c -/
def mChain (p p' : Sto → D → D → Option D) (m1 m2 m3 : Rho → M D) : Rho → M D := fun ρ st => (m1 ρ st).bind fun a st1 => (m2 ρ st1).bind fun b st2 => match p st2 a b with
  | some (.bl true) => (m3 ρ st2).bind fun c st3 => lift (p' st3 b c) st3
  | some (.bl false) => .ok (.bl false) st2
  | _ => .bad
theorem tChain_of {K : PySem.W.Frag} {p p' : Sto → D → D → Option D} {σ : L2.St} {H : Hp} {Q : VK} (h : tV K W (mChain p p' m1 m2 m3) σ H Q) : tChain (rP K p) (rP K p') (tV K W m1) (tV K W m2) (tV K W m3) σ H Q := by
  obtain ⟨F, ι, ρ, st, S, R, q⟩ := h
  refine tG_seq back_V S R q fun d1 st1 F1 ι1 H1 v1 x1 S1 R1 r1 q1 => ?_
  refine tG_seq back_V S1 R1 q1 fun d2 st2 F2 ι2 H2 v2 x2 S2 R2 r2 q2 => ?_
  split at q2
  · rename_i e
    refine ⟨F2, ι2, st2, d1, d2, .bl true, S2, Rep.ext r1 x2, r2, e, fun F3 H3 v x3 S3 r3 => ?_⟩
    simp only [Rep] at r3
    refine ⟨true, r3, ?_⟩
    rw [if_pos rfl]
    refine tG_seq back_V S3 (R2.ext x3) (post_ext back_V q2 x3) fun d3 st4 F4 ι4 H4 v4 x4 S4 R4 r4 q4 => ?_
    cases e' : p' st4 d2 d3 with
    | none => rw [e'] at q4; exact q4.elim
    | some d =>
      rw [e'] at q4
      exact ⟨F4, ι4, st4, d2, d3, d, S4, Rep.ext (Rep.ext r2 x3) x4, r4, e', fun F' H' v x S' r => q4 F' ι4 H' v x S' r⟩
  · rename_i e
    refine ⟨F2, ι2, st2, d1, d2, .bl false, S2, Rep.ext r1 x2, r2, e, fun F3 H3 v x3 S3 r3 => ?_⟩
    simp only [Rep] at r3
    refine ⟨false, r3, ?_⟩
    rw [if_neg (by decide)]
    exact q2 F3 ι2 H3 _ x3 S3 (by show Rep _ _ _ _ _; simp only [Rep])
  · exact q2.elim
theorem de_chain {op op' : CmpOp} {p p' : Sto → D → D → Option D} (ho : OpR X (compareOp op) (rP X.K p)) (ho' : OpR X (compareOp op') (rP X.K p')) (ha : DE X W a m1) (hb : DE X W b m2) (hc : DE X W c m3)
    (hm : lastMarks [op, op'] [b, c] = false := by with_unfolding_all rfl) : DE X W (.Compare a [op, op'] [b, c] pos) (mChain p p' m1 m2 m3) :=
  PE.weak (pe_chain ho ho' ha hb hc hm) fun _ _ _ h => tChain_of h
theorem dt_chain {op op' : CmpOp} {p p' : Sto → D → D → Option D} (ho : OpR X (compareOp op) (rP X.K p)) (ho' : OpR X (compareOp op') (rP X.K p')) (ha : DE X W a m1) (hb : DE X W b m2) (hc : DE X W c m3)
    (hm : lastMarks [op, op'] [b, c] = false := by with_unfolding_all rfl) : DT X W (.Compare a [op, op'] [b, c] pos) (isB (mChain p p' m1 m2 m3)) :=
  PT.weak (pt_chain ho ho' ha hb hc hm) fun σ H Q h => by
    have q := isB_of h
    unfold tTest at q ⊢
    exact tChain_of q

/-! ### truth, and, or, not -/
def D.truth (st : Sto) : D → Option Bool
  | .non => some false
  | .bl b => some b
  | .int i => some (i != 0)
  | .str s => if s.length ≤ sizeLine then some ((s.length : Int) != 0) else none
  | d => (seqOf st d).map fun xs => !xs.isEmpty
theorem isEmpty_reps {K : PySem.W.Frag} {F : Hp} {ι : List Addr} {xs : List D} {vs : List V} (r : Reps K F ι xs vs) : (!xs.isEmpty) = !vs.isEmpty := by
  have := r.length
  cases xs <;> cases vs <;> simp at this ⊢
theorem truth_of {K : PySem.W.Frag} {F : Hp} {ι : List Addr} {H : Hp} {st : Sto} {d : D} {v : V} {k : Bool} (S : Sim K F ι st H) (r : Rep K F ι d v) (h : d.truth st = some k) : TruV K v H k := by
  unfold D.truth at h
  split at h
  · cases h; simp only [Rep] at r; subst r; rfl
  · cases h; simp only [Rep] at r; subst r; rfl
  · cases h; simp only [Rep] at r; subst r; rfl
  · split at h
    · rename_i hz
      cases h; simp only [Rep] at r; subst r; exact ⟨hz, rfl⟩
    · cases h
  · cases e : seqOf st d with
    | none => rw [e] at h; cases h
    | some xs =>
      rw [e] at h
      cases h
      obtain ⟨a, vs, e1, hs, r1⟩ := S.seq r e
      subst e1
      show TruV K (V.ref a) H (!xs.isEmpty)
      rw [isEmpty_reps r1]
      rcases hs with hs | hs
      · exact .inl ⟨vs, hs, rfl⟩
      · exact .inr (.inl ⟨vs, hs, rfl⟩)
def mTru (m : Rho → M D) : Rho → M Bool := fun ρ st => (m ρ st).bind fun d st1 => lift (d.truth st1) st1
theorem dt_tru (ha : DE X W a m1) (he : ∀ whole, isTrue a X.env whole = (do let v ← whole; standAt a.pos; holding [v] (truthy v)) := by intro _; rfl) : DT X W a (mTru m1) := by
  refine PT.weak (pt_truth ha he) fun σ H Q ⟨F, ι, ρ, st, S, R, q⟩ => ?_
  refine tG_seq back_B S R q fun d1 st1 F1 ι1 H1 v1 x1 S1 R1 r1 q1 => ?_
  cases e : d1.truth st1 with
  | none => rw [e] at q1; exact q1.elim
  | some k =>
    rw [e] at q1
    exact ⟨k, truth_of S1 r1 e, q1 F1 ι1 H1 k Ext.refl S1 rfl⟩
def DW (X : Cx) (W : WX) (e : Expr) (m : Rho → M Bool) : Prop := PW X e (tT X.K W m)
theorem PW.weak {X : Cx} {e : Expr} {t t' : TT} (h : PW X e t) (w : ∀ σ H Q, t' σ H Q → t σ H Q) : PW X e t' := ⟨fun wh pins s σ H Q I q => h.run wh pins s σ H Q I (w σ H Q q)⟩
theorem dt_w {e : Expr} {m : Rho → M Bool} (h : DW X W e m) : DT X W e m := L2.PW.pt h
def bAnd (m1 m2 : Rho → M Bool) : Rho → M Bool := fun ρ st => (m1 ρ st).bind fun k st1 => if k = true then m2 ρ st1 else .ok false st1
def bOr (m1 m2 : Rho → M Bool) : Rho → M Bool := fun ρ st => (m1 ρ st).bind fun k st1 => if k = true then .ok true st1 else m2 ρ st1
def bNot (m1 : Rho → M Bool) : Rho → M Bool := fun ρ st => (m1 ρ st).bind fun k st1 => .ok (!k) st1
variable {b1 b2 : Rho → M Bool} {rest : List Expr}
theorem dw_and1 (ha : DT X W a b1) : DW X W (.BoolOp .And [a] pos) b1 := pw_and1 ha
theorem dw_or1 (ha : DT X W a b1) : DW X W (.BoolOp .Or [a] pos) b1 := pw_or1 ha
theorem dw_and (ha : DT X W a b1) (hb : DW X W (.BoolOp .And (b :: rest) pos) b2) : DW X W (.BoolOp .And (a :: b :: rest) pos) (bAnd b1 b2) := by
  refine PW.weak (pw_and ha hb) fun σ H Q ⟨F, ι, ρ, st, S, R, q⟩ => ?_
  refine tG_seq back_B S R q fun k st1 F1 ι1 H1 k' x1 S1 R1 r1 q1 => ?_
  have r1 : k = k' := r1
  subst r1
  cases k with
  | true => exact ⟨F1, ι1, ρ, st1, S1, R1, q1⟩
  | false => exact q1 F1 ι1 H1 false Ext.refl S1 rfl
theorem dw_or (ha : DT X W a b1) (hb : DW X W (.BoolOp .Or (b :: rest) pos) b2) : DW X W (.BoolOp .Or (a :: b :: rest) pos) (bOr b1 b2) := by
  refine PW.weak (pw_or ha hb) fun σ H Q ⟨F, ι, ρ, st, S, R, q⟩ => ?_
  refine tG_seq back_B S R q fun k st1 F1 ι1 H1 k' x1 S1 R1 r1 q1 => ?_
  have r1 : k = k' := r1
  subst r1
  cases k with
  | false => exact ⟨F1, ι1, ρ, st1, S1, R1, q1⟩
  | true => exact q1 F1 ι1 H1 true Ext.refl S1 rfl
theorem dt_not (ha : DT X W a b1) : DT X W (.UnaryOp .Not a pos) (bNot b1) := by
  refine PT.weak (pt_not ha) fun σ H Q ⟨F, ι, ρ, st, S, R, q⟩ => ?_
  refine tG_seq back_B S R q fun k st1 F1 ι1 H1 k' x1 S1 R1 r1 q1 => ?_
  have r1 : k = k' := r1
  subst r1
  exact q1 F1 ι1 H1 _ Ext.refl S1 rfl
/-- as values, by truth -/
def mAndV (m1 m2 : Rho → M D) : Rho → M D := fun ρ st => (m1 ρ st).bind fun d st1 => (lift (d.truth st1) st1).bind fun k st2 => if k = true then m2 ρ st2 else .ok d st2
def mOrV (m1 m2 : Rho → M D) : Rho → M D := fun ρ st => (m1 ρ st).bind fun d st1 => (lift (d.truth st1) st1).bind fun k st2 => if k = true then .ok d st2 else m2 ρ st2
def mNotV (m1 : Rho → M D) : Rho → M D := fun ρ st => (m1 ρ st).bind fun d st1 => (lift (d.truth st1) st1).bind fun k st2 => .ok (.bl (!k)) st2
theorem de_one {op : BoolOp} (h : DE X W a m1) : DE X W (.BoolOp op [a] pos) m1 := pe_one h
theorem de_and (ha : DE X W a m1) (hb : DE X W (.BoolOp .And (b :: rest) pos) m2) : DE X W (.BoolOp .And (a :: b :: rest) pos) (mAndV m1 m2) := by
  refine PE.weak (pe_andT ha hb) fun σ H Q ⟨F, ι, ρ, st, S, R, q⟩ => ?_
  refine tG_seq back_V S R q fun d1 st1 F1 ι1 H1 v1 x1 S1 R1 r1 q1 => ?_
  cases e : d1.truth st1 with
  | none => rw [e] at q1; exact q1.elim
  | some k =>
    rw [e] at q1
    refine ⟨k, truth_of S1 r1 e, ?_⟩
    cases k with
    | true => exact ⟨F1, ι1, ρ, st1, S1, R1, q1⟩
    | false => exact q1 F1 ι1 H1 _ Ext.refl S1 r1
theorem de_or (ha : DE X W a m1) (hb : DE X W (.BoolOp .Or (b :: rest) pos) m2) : DE X W (.BoolOp .Or (a :: b :: rest) pos) (mOrV m1 m2) := by
  refine PE.weak (pe_orT ha hb) fun σ H Q ⟨F, ι, ρ, st, S, R, q⟩ => ?_
  refine tG_seq back_V S R q fun d1 st1 F1 ι1 H1 v1 x1 S1 R1 r1 q1 => ?_
  cases e : d1.truth st1 with
  | none => rw [e] at q1; exact q1.elim
  | some k =>
    rw [e] at q1
    refine ⟨k, truth_of S1 r1 e, ?_⟩
    cases k with
    | false => exact ⟨F1, ι1, ρ, st1, S1, R1, q1⟩
    | true => exact q1 F1 ι1 H1 _ Ext.refl S1 r1
theorem de_not (ha : DE X W a m1) : DE X W (.UnaryOp .Not a pos) (mNotV m1) := by
  refine PE.weak (pe_notT ha) fun σ H Q ⟨F, ι, ρ, st, S, R, q⟩ => ?_
  refine tG_seq back_V S R q fun d1 st1 F1 ι1 H1 v1 x1 S1 R1 r1 q1 => ?_
  cases e : d1.truth st1 with
  | none => rw [e] at q1; exact q1.elim
  | some k =>
    rw [e] at q1
    exact ⟨k, truth_of S1 r1 e, q1 F1 ι1 H1 _ Ext.refl S1 (by show Rep _ _ _ _ _; simp only [Rep])⟩
def mIf (t : Rho → M Bool) (m1 m2 : Rho → M D) : Rho → M D := fun ρ st => (t ρ st).bind fun k st1 => if k = true then m1 ρ st1 else m2 ρ st1
theorem de_if (hc : DT X W c b1) (ha : DE X W a m1) (hb : DE X W b m2) : DE X W (.IfExp c a b pos) (mIf b1 m1 m2) := by
  refine PE.weak (pe_ifExp hc ha hb) fun σ H Q ⟨F, ι, ρ, st, S, R, q⟩ => ?_
  refine tG_seq back_V S R q fun k st1 F1 ι1 H1 k' x1 S1 R1 r1 q1 => ?_
  have r1 : k = k' := r1
  subst r1
  cases k with
  | true => exact ⟨F1, ι1, ρ, st1, S1, R1, q1⟩
  | false => exact ⟨F1, ι1, ρ, st1, S1, R1, q1⟩
end
end Dn
/-! DnE: subscripts, slices, what is backwards. -/
namespace Dn
open PySem PySem.Spec PyProof.Rows L2
section
variable {X : Cx} {W : WX} {pos p2 : Pos} {a b c : Expr} {m1 m2 m3 : Rho → M D}
theorem atI_reps {K : PySem.W.Frag} {F : Hp} {ι : List Addr} {xs : List D} {vs : List V} {i : Int} {d : D} (r : Reps K F ι xs vs) (h : atI xs i = some d) : ∃ v, atI vs i = some v ∧ Rep K F ι d v := by
  unfold atI at h ⊢
  rw [← r.length]
  cases e : ixN xs.length i with
  | none => rw [e] at h; cases h
  | some j =>
    rw [e] at h
    exact r.get h
def pIdx : Sto → D → D → Option D := fun st a i => match a, i with
  | .str z, .int i => if z.length ≤ sizeLine then (atI z.cps.toList i).map fun c => .str ⟨#[c]⟩ else none
  | a, .int i => (seqOf st a).bind fun xs => atI xs i
  | _, _ => none
theorem ix_pIdx : IxR X (rP X.K pIdx) := by
  intro value slice pins s σ H x y v u Q I rx ry ⟨F, ι, st, a, b, d, S, ra, rb, e, q⟩ hs
  unfold pIdx at e
  split at e
  · split at e
    · rename_i hz
      rename_i i
      simp only [Rep] at ra rb
      subst ra rb
      rename_i z
      cases e2 : atI z.cps.toList i with
      | none => rw [e2] at e; cases e
      | some cc =>
        rw [e2] at e
        cases e
        exact ix_seq value slice pins s σ H _ _ v u Q I rx ry (.inr (.inr ⟨_, _, cc, rfl, rfl, hz, e2, q F H _ Ext.refl S (by simp only [Rep])⟩)) hs
    · cases e
  · rename_i i hn
    cases e1 : seqOf st a with
    | none => rw [e1] at e; cases e
    | some xs =>
      rw [e1] at e
      have e : atI xs i = some d := e
      obtain ⟨p, vs, e2, h2, r⟩ := S.seq ra e1
      simp only [Rep] at rb
      subst e2 rb
      obtain ⟨w, hw, rw'⟩ := atI_reps r e
      rcases h2 with h2 | h2
      · exact ix_seq value slice pins s σ H _ _ v u Q I rx ry (.inl ⟨p, vs, i, w, rfl, rfl, h2, hw, q F H _ Ext.refl S rw'⟩) hs
      · exact ix_seq value slice pins s σ H _ _ v u Q I rx ry (.inr (.inl ⟨p, vs, i, w, rfl, rfl, h2, hw, q F H _ Ext.refl S rw'⟩)) hs
  · cases e
theorem de_idx (ha : DE X W a m1) (hb : DE X W b m2) (hs : PlainIx b := by intro _ _; rfl) : DE X W (.Subscript a b pos) (mOp pIdx m1 m2) :=
  PE.weak (pe_ix ix_pIdx ha hb hs) fun _ _ _ h => tOp_of h

/-! ### slices -/
def pO : Hp → Hp → List Addr → Hp → Option Int → Option Int → Prop := fun _ _ _ _ b c => b = c
theorem back_O : Back pO := fun _ _ _ _ _ _ _ _ h => h
def DO (X : Cx) (W : WX) (e : Option Expr) (m : Rho → M (Option Int)) : Prop := PO X e (tG X.K W pO m)
theorem PO.weak {X : Cx} {e : Option Expr} {t t' : TO} (h : PO X e t) (w : ∀ σ H Q, t' σ H Q → t σ H Q) : PO X e t' := ⟨fun pins s σ H Q I q => h.run pins s σ H Q I (w σ H Q q)⟩
def oNone : Rho → M (Option Int) := fun _ st => .ok none st
def oSome (m : Rho → M D) : Rho → M (Option Int) := fun ρ st => (m ρ st).bind fun d st1 => match d with
  | .int i => .ok (some i) st1
  | _ => .bad
theorem do_none : DO X W none oNone := PO.weak po_none fun σ H Q ⟨F, ι, ρ, st, S, R, q⟩ => q F ι H none Ext.refl S rfl
theorem do_some (ha : DE X W a m1) : DO X W (some a) (oSome m1) := by
  refine PO.weak (po_some ha) fun σ H Q ⟨F, ι, ρ, st, S, R, q⟩ => ?_
  refine tG_seq back_O S R q fun d1 st1 F1 ι1 H1 v1 x1 S1 R1 r1 q1 => ?_
  split at q1
  · have r : Rep X.K F1 ι1 (.int _) v1 := r1
    simp only [Rep] at r
    exact ⟨_, r, q1 F1 ι1 H1 _ Ext.refl S1 rfl⟩
  · exact q1.elim
/-- the items from lo to hi, any kind -/
def cutD {α : Type} (xs : List α) (lo hi : Option Int) : List α := (xs.drop (HT.sIx xs.length 0 lo)).take (HT.sIx xs.length xs.length hi - HT.sIx xs.length 0 lo)
theorem Reps.drop {K : PySem.W.Frag} {F : Hp} {ι : List Addr} : ∀ {xs : List D} {vs : List V} (n : Nat), Reps K F ι xs vs → Reps K F ι (xs.drop n) (vs.drop n)
  | _, _, 0, r => r
  | [], _, _ + 1, r => by simp only [Reps] at r; subst r; exact Reps.nil
  | d :: ds, _, n + 1, r => by
    simp only [Reps] at r
    obtain ⟨v, rs, e, _, r2⟩ := r
    subst e
    exact Reps.drop n r2
theorem Reps.take {K : PySem.W.Frag} {F : Hp} {ι : List Addr} : ∀ {xs : List D} {vs : List V} (n : Nat), Reps K F ι xs vs → Reps K F ι (xs.take n) (vs.take n)
  | _, _, 0, r => by simp; exact Reps.nil
  | [], _, _ + 1, r => by simp only [Reps] at r; subst r; exact Reps.nil
  | d :: ds, _, n + 1, r => by
    simp only [Reps] at r
    obtain ⟨v, rs, e, r1, r2⟩ := r
    subst e
    exact Reps.cons r1 (Reps.take n r2)
theorem Reps.rev {K : PySem.W.Frag} {F : Hp} {ι : List Addr} : ∀ {xs : List D} {vs : List V}, Reps K F ι xs vs → Reps K F ι xs.reverse vs.reverse
  | [], _, r => by simp only [Reps] at r; subst r; exact Reps.nil
  | d :: ds, _, r => by
    simp only [Reps] at r
    obtain ⟨v, rs, e, r1, r2⟩ := r
    subst e
    rw [List.reverse_cons, List.reverse_cons]
    exact (Reps.rev r2).snoc r1
theorem cut_reps {K : PySem.W.Frag} {F : Hp} {ι : List Addr} {xs : List D} {vs : List V} (r : Reps K F ι xs vs) (lo hi : Option Int) : Reps K F ι (cutD xs lo hi) (cutV vs lo hi) := by
  unfold cutD cutV
  rw [← r.length]
  exact (r.drop _).take _
theorem cutD_whole {α : Type} {xs : List α} {lo hi : Option Int} (h : HT.sIx xs.length 0 lo = 0 ∧ HT.sIx xs.length xs.length hi = xs.length) : cutD xs lo hi = xs := by
  unfold cutD
  rw [h.1, h.2]
  simp
def rSlP (K : PySem.W.Frag) : V → Option Int → Option Int → Hp → VK → Prop := fun x lo hi H Q => ∃ a xs, x = .ref a ∧ SqT K H a xs ∧
  (HT.sIx xs.length 0 lo = 0 ∧ HT.sIx xs.length xs.length hi = xs.length → Q (.ref a) H) ∧ (¬ (HT.sIx xs.length 0 lo = 0 ∧ HT.sIx xs.length xs.length hi = xs.length) → ∀ (p : Addr) (o : Obj), o.dict = none → H p = none → Q (.ref p) (upd H p (.frz o (.tup (cutV xs lo hi)))))
theorem sl_tupP : SlR X (rSlP X.K) := by
  intro pins s σ H x v vl vu lo hi sl Q I rx hs pl pu ⟨a, xs, e, hx, q1, q2⟩
  subst e
  by_cases hw : HT.sIx xs.length 0 lo = 0 ∧ HT.sIx xs.length xs.length hi = xs.length
  · exact sl_tupA pins s σ H _ v vl vu lo hi sl Q I rx hs pl pu ⟨a, xs, rfl, hx, q1, fun h => absurd hw h⟩
  · cases rx
    obtain ⟨its, r, ht, hz⟩ := I.tuple hx
    have hn : its.toArray.size = xs.length := by rw [List.size_toArray, r.length]
    refine ⟨"tuple", _, PyProof.Rows.slot_tuple_getitem.lookup, ht.typeIs, HT.getItem_tuple_cut ht hs pl pu (by rw [hn]; exact hw) ?_ (by rw [hn]; exact hz)⟩
    rw [hn]
    exact fin_tup (t' := s.toks) I ((r.drop (HT.sIx xs.length 0 lo)).take (HT.sIx xs.length xs.length hi - HT.sIx xs.length 0 lo)) (Nat.le_trans (cutV_length xs lo hi) hz) (q2 hw)
/-- of a tuple -/
def mSlT (m : Rho → M D) (l h : Rho → M (Option Int)) : Rho → M D := fun ρ st => (m ρ st).bind fun d st1 => (l ρ st1).bind fun lo st2 => (h ρ st2).bind fun hi st3 => match d with
  | .tup xs => .ok (.tup (cutD xs lo hi)) st3
  | _ => .bad
theorem de_slT {lo hi : Option Expr} {l h : Rho → M (Option Int)} (ha : DE X W a m1) (hl : DO X W lo l) (hh : DO X W hi h) : DE X W (.Subscript a (.Slice lo hi none p2) pos) (mSlT m1 l h) := by
  refine PE.weak (pe_slice sl_tupP ha hl hh) fun σ H Q ⟨F, ι, ρ, st, S, R, q⟩ => ?_
  refine tG_seq back_V S R q fun d st1 F1 ι1 H1 v1 x1 S1 R1 r1 q1 => ?_
  refine tG_seq back_V S1 R1 q1 fun lo st2 F2 ι2 H2 lo' x2 S2 R2 r2 q2 => ?_
  refine tG_seq back_V S2 R2 q2 fun hi st3 F3 ι3 H3 hi' x3 S3 R3 r3 q3 => ?_
  have r2 : lo = lo' := r2
  have r3 : hi = hi' := r3
  subst r2 r3
  split at q3
  · rename_i xs
    have r : Rep X.K F3 ι3 (.tup xs) v1 := (Rep.ext r1 x2).ext x3
    have r' := r
    simp only [Rep] at r
    obtain ⟨p, vs, e, hq, rr⟩ := r
    subst e
    have q3' : ∀ F' H' v, Ext F3 ι3 H3 F' ι3 H' → Sim X.K F' ι3 st3 H' → Rep X.K F' ι3 (.tup (cutD xs lo hi)) v → Q v H' := fun F' H' v x S' r => q3 F' ι3 H' v x S' r
    refine ⟨p, vs, rfl, S3.sqT hq, fun hw => ?_, fun hw => new_tup S3 (cut_reps rr lo hi) q3'⟩
    exact same_tup S3 r' (cutD_whole (by rw [rr.length]; exact hw)).symm q3'
  · exact q3.elim
/-- of a list: a new list -/
def lSlL (m : Rho → M D) (l h : Rho → M (Option Int)) : Rho → M (List D) := fun ρ st => (m ρ st).bind fun d st1 => (l ρ st1).bind fun lo st2 => (h ρ st2).bind fun hi st3 => match d with
  | .scr xs => .ok (cutD xs lo hi) st3
  | d => (lift (lstOf st3 d) st3).bind fun xs st4 => .ok (cutD xs lo hi) st4
theorem dl_slL {lo hi : Option Expr} {l h : Rho → M (Option Int)} (ha : DE X W a m1) (hl : DO X W lo l) (hh : DO X W hi h) : DL X W (.Subscript a (.Slice lo hi none p2) pos) (lSlL m1 l h) := by
  refine PE.weak (pe_slice sl_list ha hl hh) fun σ H Q ⟨F, ι, ρ, st, S, R, q⟩ => ?_
  refine tG_seq back_L S R q fun d st1 F1 ι1 H1 v1 x1 S1 R1 r1 q1 => ?_
  refine tG_seq back_L S1 R1 q1 fun lo st2 F2 ι2 H2 lo' x2 S2 R2 r2 q2 => ?_
  refine tG_seq back_L S2 R2 q2 fun hi st3 F3 ι3 H3 hi' x3 S3 R3 r3 q3 => ?_
  have r2 : lo = lo' := r2
  have r3 : hi = hi' := r3
  subst r2 r3
  have r : Rep X.K F3 ι3 d v1 := (Rep.ext r1 x2).ext x3
  split at q3
  · rename_i xs
    simp only [Rep] at r
    obtain ⟨p, vs, e, hq, rr⟩ := r
    subst e
    exact ⟨p, vs, rfl, S3.sqL hq, fun n hn => q3 F3 ι3 _ _ (Ext.laid hn) (S3.laid hn) (pL_new S3 hn (cut_reps rr lo hi))⟩
  · cases e : lstOf st3 d with
    | none => rw [e] at q3; exact q3.elim
    | some xs =>
      rw [e] at q3
      obtain ⟨p, vs, e2, hq, rr⟩ := S3.lst r e
      subst e2
      exact ⟨p, vs, rfl, SqL.of hq, fun n hn => q3 F3 ι3 _ _ (Ext.laid hn) (S3.laid hn) (pL_new S3 hn (cut_reps rr lo hi))⟩
/-- of a text -/
def mSlS (m : Rho → M D) (l h : Rho → M (Option Int)) : Rho → M D := fun ρ st => (m ρ st).bind fun d st1 => (l ρ st1).bind fun lo st2 => (h ρ st2).bind fun hi st3 => match d with
  | .str z => if z.length ≤ sizeLine then .ok (.str (cutS z lo hi)) st3 else .bad
  | _ => .bad

/-! ### backwards: a[::-1] -/
theorem getItem_tuple_rev {prog : Program} {w : World} {A : Around} {E : Value → Shared → Prop} {s : Shared} {t sl : Addr} {items : Array Value} {vk : Value} {Q : Value → Shared → Prop} (ht : IsTup s.heap t items) (hs : s.heap.IsSliceOf sl .none .none vk) (pk : IsPart vk (some (-1)))
    (h : Q (.ref s.heap.objs.size) { s with heap := s.heap.push { cls := .type "tuple", data := .seq items.toList.reverse.toArray } }) (hsz : items.size ≤ sizeLine) : wpAny (model prog w) A (getItem (.ref t) (.ref sl)) Q E s := by
  have hok : sizeOk (.seq items.toList.reverse.toArray) := by
    show items.toList.reverse.toArray.size ≤ sizeLine
    simpa using hsz
  obtain ⟨os, hos, hcs, hds⟩ := id hs
  have hTs : s.TypeIs (.ref sl) "slice" := ⟨os, hos, hcs⟩
  have happ : ∀ {Q' : Int × Int × Nat → Shared → Prop}, Q' ((items.size : Int) - 1, -1, items.size) s → wpAny (model prog w) A.in1 (Builtin.Slice.sliceApplied (.ref sl) (pure (items.size : Int))) Q' E s := fun {Q'} h => by
    unfold Builtin.Slice.sliceApplied Builtin.Slice.sliceFields
    refine wpAny_bind (wpAny_bind (wpAny_field hos hds (x := .none) rfl (wpAny_bind (wpAny_field hos hds (x := .none) rfl (wpAny_bind (wpAny_field hos hds (x := vk) rfl (wpAny_pure ?_)))))))
    refine wpAny_bind (HT.slicePart_ pk ?_)
    show wpAny _ _ (if ((-1 : Int) == 0) = true then _ else _) _ _ s
    rw [if_neg (by decide)]
    refine wpAny_bind (HT.slicePart_ .none (wpAny_bind (HT.slicePart_ .none (wpAny_bind (wpAny_pure ?_)))))
    have e1 : Builtin.Slice.sliceAdjust none none (-1) (items.size : Int) = ((items.size : Int) - 1, -1) := rfl
    show wpAny _ _ (match Builtin.Slice.sliceAdjust none none (-1) (items.size : Int) with | (lo, hi) => pure (lo, (-1 : Int), Builtin.Slice.slicePlaces lo hi (-1))) _ _ s
    rw [e1]
    have e2 : Builtin.Slice.slicePlaces ((items.size : Int) - 1) (-1) (-1) = items.size := by
      unfold Builtin.Slice.slicePlaces
      have h1 : ¬ ((-1 : Int) > 0) := by decide
      simp only [h1, if_false]
      rw [show (- -1 : Int) = 1 by decide, Int.ediv_one]
      split <;> omega
    show wpAny _ _ (pure ((items.size : Int) - 1, (-1 : Int), Builtin.Slice.slicePlaces ((items.size : Int) - 1) (-1) (-1))) _ _ s
    rw [e2]
    exact wpAny_pure h
  have hrev : ((List.range items.size).filterMap fun (k : Nat) => items[(((items.size : Int) - 1) + (k : Int) * -1).toNat]?).toArray = items.toList.reverse.toArray := by
    have e : ((List.range items.size).filterMap fun (k : Nat) => items[(((items.size : Int) - 1) + (k : Int) * -1).toNat]?) = ((List.range items.size).map fun k => items.size - 1 - k).filterMap (items[·]?) := by
      rw [List.filterMap_map]
      congr 1
      funext k
      show _ = items[items.size - 1 - k]?
      congr 1
      omega
    rw [e, PySem.W.krv_range, List.filterMap_reverse, PySem.W.krv_all]
  unfold getItem
  try with_reducible refine wpAny_holding ?_
  first | refine wpAny_bind (wpAny_pure ?_) | skip
  refine wpAny_bind (wpAny_sequenceKey ht.typeIs (by decide) ?_)
  refine wpAny_bind (wpAny_callSpecial?_slot (name := Str.ofString "__getitem__") ht.typeIs PyProof.Rows.slot_tuple_getitem
    (wpAny_call_entry PyProof.Rows.slot_tuple_getitem ht.typeIs entry_tuple_getitem ?_ (args_tuple_getitem _ _)))
  show wpAny _ _ (Builtin.Tuple.tupleItemsOf (.ref t) >>= _) _ _ s
  refine wpAny_bind (PyProof.Rows.tupleItemsOf_ ht ?_)
  refine wpAny_bind (wpAny_typeOf hTs ?_)
  rw [if_pos (by decide)]
  refine wpAny_bind (happ ?_)
  have hno : ¬ ((((items.size : Int) - 1) == 0 && (-1 : Int) == 1 && items.size == items.size) = true) := by simp
  show wpAny _ _ (if (((items.size : Int) - 1) == 0 && (-1 : Int) == 1 && items.size == items.size) = true then _ else _) _ _ s
  rw [if_neg hno, hrev]
  first
    | exact wpAny_bind (m := Builtin.Tuple.tupleExact _) (wpAny_newObj_type (wpAny_pure ⟨_, rfl, wpAny_pure h⟩) hok)
    | exact wpAny_bind (m := Builtin.Tuple.tupleExact _) (wpAny_newObj_type (wpAny_bind (wpAny_pure (wpAny_pure ⟨_, rfl, wpAny_pure h⟩))) hok)
    | exact wpAny_bind (wpAny_bind (m := Builtin.Tuple.tupleExact _) (wpAny_newObj_type (wpAny_pure (wpAny_pure ⟨_, rfl, wpAny_pure h⟩)) hok))
    | exact wpAny_bind (wpAny_bind (m := Builtin.Tuple.tupleExact _) (wpAny_newObj_type (wpAny_pure ⟨_, rfl, wpAny_pure h⟩) hok))
/-- a slice with a step, by values -/
def SlR3 (X : Cx) (r : V → Hp → VK → Prop) : Prop :=
  ∀ (pins : List (Addr × Obj)) (s : Shared) (σ : L2.St) (H : Hp) (x : V) (v vk : Value) (sl : Addr) (Q : VK), Inv X pins σ H s → RelV x v → s.heap.IsSliceOf sl .none .none vk → IsPart vk (some (-1)) → r x H Q →
    ∃ T id, typeLookup (.type T) "__getitem__" = pure (some (.builtin id)) ∧ s.TypeIs v T ∧ wpAny (model X.prog X.w) X.A (getItem v (.ref sl)) (EP X pins σ Q) X.xe s
theorem pe_rev {r : V → Hp → VK → Prop} {te : TE} (hr : SlR3 X r) (he : PE X a te) {j1 : Nat} {q1 q2 : Pos} : PE X (.Subscript a (.Slice none none (some (.UnaryOp .USub (.Constant (.int 1) j1 q1) q2)) p2) pos) (fun σ H Q => te σ H fun x H1 => r x H1 Q) := by
  refine ⟨fun pins s σ H Q I h => ?_⟩
  refine Subscript_ (thn (he.run pins s σ H _ I h) fun v s1 ⟨x, H1, I1, r1, g1⟩ => ?_)
  refine wpAny_Slice ?_
  rw [evalPart_none, evalPart_some]
  refine wpAny_pure (wpAny_pure ?_)
  refine thn ((pe_un (pos := q2) un_neg (pe_int (i := 1) (j := j1) (pos := q1))).run pins s1 σ H1 (fun y H2 => y = .int (-1) ∧ H2 = H1) I1 ⟨1, rfl, rfl, rfl⟩) fun vk s2 ⟨y, H2, I2, r2, ey, eH⟩ => ?_
  subst ey eH
  obtain ⟨t, rfl⟩ := r2
  have I4 : Inv X pins σ H2 { s2 with heap := s2.heap.push { cls := .type "slice", data := .fields #[.none, .none, .int (-1) t] } } := I2.kept (t' := s2.toks) fun b ob q => Heap.get?_push_of_some _ q
  obtain ⟨T, id, hT, ht, hg⟩ := hr pins { s2 with heap := s2.heap.push { cls := .type "slice", data := .fields #[.none, .none, .int (-1) t] } } σ H2 x v _ s2.heap.objs.size Q I4 r1 (Heap.IsSliceOf.new ..) (.int _ t) g1
  show wpAny (model X.prog X.w) X.A (subscriptTail a (.Slice none none (some (.UnaryOp .USub (.Constant (.int 1) j1 _) q2)) p2) v (.ref s2.heap.objs.size)) (EP X pins σ Q) X.xe { s2 with heap := s2.heap.push { cls := .type "slice", data := .fields #[.none, .none, .int (-1) t] } }
  exact tail_any (ops := [v, .ref s2.heap.objs.size]) ht hT hg (by with_unfolding_all rfl)
theorem sl_revT : SlR3 X (fun x H Q => ∃ a xs, x = .ref a ∧ SqT X.K H a xs ∧ ∀ (p : Addr) (o : Obj), o.dict = none → H p = none → Q (.ref p) (upd H p (.frz o (.tup xs.reverse)))) := by
  intro pins s σ H x v vk sl Q I rx hs pk ⟨a, xs, e, hx, q⟩
  subst e
  cases rx
  obtain ⟨its, r, ht, hz⟩ := I.tuple hx
  refine ⟨"tuple", _, PyProof.Rows.slot_tuple_getitem.lookup, ht.typeIs, ?_⟩
  refine getItem_tuple_rev ht hs pk ?_ (by rw [List.size_toArray, ← r.length]; exact hz)
  exact fin_tup (t' := s.toks) I r.reverse (by rw [List.length_reverse]; exact hz) q
theorem sl_revL : SlR3 X (fun x H Q => ∃ a xs, x = .ref a ∧ SqL X.K H a xs ∧ ∀ p, H p = none → Q (.ref p) (upd H p (.lst xs.reverse))) := by
  intro pins s σ H x v vk sl Q I rx hs pk ⟨a, xs, e, hx, q⟩
  subst e
  cases rx
  obtain ⟨its, r, ht, hz⟩ := I.list hx
  have hlen := r.length
  refine ⟨"list", _, slot_list_getitem.lookup, ht.isList.typeIs, ?_⟩
  refine wpAny_getItem_list_slice ht.isList hs .none .none pk (by decide) ?_ (by rw [List.size_toArray]; omega)
  rw [PySem.W.krv_pick]
  refine ⟨.ref s.heap.objs.size, _, I.laid (t' := s.toks) (o := .lst xs.reverse) (fun b ob q => Heap.get?_push_of_some _ q) (Nat.le_refl _) ?_, rfl, q _ (I.hok.fresh (Nat.le_refl _))⟩
  exact ⟨by rw [List.length_reverse]; exact hz, its.reverse, 0, r.reverse, Heap.get?_push_size _ rfl⟩
def mRevT (m : Rho → M D) : Rho → M D := fun ρ st => (m ρ st).bind fun d st1 => match d with
  | .tup xs => .ok (.tup xs.reverse) st1
  | _ => .bad
theorem de_revT {j1 : Nat} {q1 q2 : Pos} (ha : DE X W a m1) : DE X W (.Subscript a (.Slice none none (some (.UnaryOp .USub (.Constant (.int 1) j1 q1) q2)) p2) pos) (mRevT m1) := by
  refine PE.weak (pe_rev sl_revT ha) fun σ H Q ⟨F, ι, ρ, st, S, R, q⟩ => ?_
  refine tG_seq back_V S R q fun d st1 F1 ι1 H1 v1 x1 S1 R1 r1 q1 => ?_
  split at q1
  · rename_i xs
    have r : Rep X.K F1 ι1 (.tup xs) v1 := r1
    simp only [Rep] at r
    obtain ⟨p, vs, e, hq, rr⟩ := r
    exact ⟨p, vs, e, S1.sqT hq, new_tup S1 rr.rev fun F' H' v x S' r => q1 F' ι1 H' v x S' r⟩
  · exact q1.elim
def lRevL (m : Rho → M D) : Rho → M (List D) := fun ρ st => (m ρ st).bind fun d st1 => (lift (lstOf st1 d) st1).bind fun xs st2 => .ok xs.reverse st2
theorem dl_revL {j1 : Nat} {q1 q2 : Pos} (ha : DE X W a m1) : DL X W (.Subscript a (.Slice none none (some (.UnaryOp .USub (.Constant (.int 1) j1 q1) q2)) p2) pos) (lRevL m1) := by
  refine PE.weak (pe_rev sl_revL ha) fun σ H Q ⟨F, ι, ρ, st, S, R, q⟩ => ?_
  refine tG_seq back_L S R q fun d st1 F1 ι1 H1 v1 x1 S1 R1 r1 q1 => ?_
  cases e : lstOf st1 d with
  | none => rw [e] at q1; exact q1.elim
  | some xs =>
    rw [e] at q1
    obtain ⟨p, vs, e2, hq, rr⟩ := S1.lst r1 e
    exact ⟨p, vs, e2, SqL.of hq, fun n hn => q1 F1 ι1 _ _ (Ext.laid hn) (S1.laid hn) (pL_new S1 hn rr.rev)⟩
end
end Dn
/-! DnF: calls of built-in functions and of their methods. -/
namespace Dn
open PySem PySem.Spec PyProof.Rows L2
def rB (K : PySem.W.Frag) (p : Sto → List D → Option D) : List V → Hp → VK → Prop := fun vs H Q => ∃ F ι st ds d, Sim K F ι st H ∧ Reps K F ι ds vs ∧ p st ds = some d ∧
  ∀ F' H' v, Ext F ι H F' ι H' → Sim K F' ι st H' → Rep K F' ι d v → Q v H'
def rBL (K : PySem.W.Frag) (p : Sto → List D → Option (List D)) : List V → Hp → VK → Prop := fun vs H Q => ∃ F ι st ds xs, Sim K F ι st H ∧ Reps K F ι ds vs ∧ p st ds = some xs ∧
  ∀ H' v, Ext F ι H F ι H' → Sim K F ι st H' → pL K H F ι H' xs v → Q v H'
def mB (p : Sto → List D → Option D) (a : Rho → M (List D)) : Rho → M D := fun ρ st => (a ρ st).bind fun ds st1 => lift (p st1 ds) st1
def lB (p : Sto → List D → Option (List D)) (a : Rho → M (List D)) : Rho → M (List D) := fun ρ st => (a ρ st).bind fun ds st1 => lift (p st1 ds) st1
section
variable {X : Cx} {W : WX} {pos p2 p : Pos} {e : Expr} {es : List Expr} {bid T : String} {x : Str} {m1 m2 : Rho → M D} {am : Rho → M (List D)} {pf : Sto → List D → Option D} {pl : Sto → List D → Option (List D)}
theorem tCB_of {σ : L2.St} {H : Hp} {Q : VK} (h : tV X.K W (mB pf am) σ H Q) : tCB (rB X.K pf) (tA X.K W am) σ H Q := by
  obtain ⟨F, ι, ρ, st, S, R, q⟩ := h
  refine tG_seq back_V S R q fun ds st1 F1 ι1 H1 vs x1 S1 R1 r1 q1 => ?_
  cases e : pf st1 ds with
  | none => rw [e] at q1; exact q1.elim
  | some d =>
    rw [e] at q1
    exact ⟨F1, ι1, st1, ds, d, S1, r1, e, fun F' H' v x S' r => q1 F' ι1 H' v x S' r⟩
theorem tCBL_of {σ : L2.St} {H : Hp} {Q : VK} (h : tL X.K W (lB pl am) σ H Q) : tCB (rBL X.K pl) (tA X.K W am) σ H Q := by
  obtain ⟨F, ι, ρ, st, S, R, q⟩ := h
  refine tG_seq back_L S R q fun ds st1 F1 ι1 H1 vs x1 S1 R1 r1 q1 => ?_
  cases e : pl st1 ds with
  | none => rw [e] at q1; exact q1.elim
  | some d =>
    rw [e] at q1
    exact ⟨F1, ι1, st1, ds, d, S1, r1, e, fun H' v x S' r => q1 F1 ι1 H' v x S' r⟩
theorem de_b (hc : CallR X (.builtin bid) (rB X.K pf)) (hg : Gl X x) (hm : X.mg x = none) (hv : bootBuiltins x = some (.builtin bid)) (ha : DA X W (e :: es) am) (hn : x ≠ "__name__" := by decide) (hdb : (x == ("__debug__" : Str)) = false := by decide)
    (he : starEach (e :: es) X.env = (false, eval e X.env) :: starEach es X.env := by rfl) (hpl : (backTo pos (starEach es X.env)).any (·.1) = false := by rfl) : DE X W (.Call (.Name x p) (e :: es) [] pos) (mB pf am) :=
  PE.weak (pe_callB hc hg hm hv ha hn hdb he hpl) fun _ _ _ h => tCB_of h
theorem de_bT (hc : CallR X (.type T) (rB X.K pf)) (hg : Gl X x) (hm : X.mg x = none) (hv : bootBuiltins x = some (.type T)) (ha : DA X W (e :: es) am) (hn : x ≠ "__name__" := by decide) (hdb : (x == ("__debug__" : Str)) = false := by decide)
    (he : starEach (e :: es) X.env = (false, eval e X.env) :: starEach es X.env := by rfl) (hpl : (backTo pos (starEach es X.env)).any (·.1) = false := by rfl) : DE X W (.Call (.Name x p) (e :: es) [] pos) (mB pf am) :=
  PE.weak (pe_callTy hc hg hm hv ha hn hdb he hpl) fun _ _ _ h => tCB_of h
theorem dl_b (hc : CallR X (.builtin bid) (rBL X.K pl)) (hg : Gl X x) (hm : X.mg x = none) (hv : bootBuiltins x = some (.builtin bid)) (ha : DA X W (e :: es) am) (hn : x ≠ "__name__" := by decide) (hdb : (x == ("__debug__" : Str)) = false := by decide)
    (he : starEach (e :: es) X.env = (false, eval e X.env) :: starEach es X.env := by rfl) (hpl : (backTo pos (starEach es X.env)).any (·.1) = false := by rfl) : DL X W (.Call (.Name x p) (e :: es) [] pos) (lB pl am) :=
  PE.weak (pe_callB hc hg hm hv ha hn hdb he hpl) fun _ _ _ h => tCBL_of h
theorem dl_bT (hc : CallR X (.type T) (rBL X.K pl)) (hg : Gl X x) (hm : X.mg x = none) (hv : bootBuiltins x = some (.type T)) (ha : DA X W (e :: es) am) (hn : x ≠ "__name__" := by decide) (hdb : (x == ("__debug__" : Str)) = false := by decide)
    (he : starEach (e :: es) X.env = (false, eval e X.env) :: starEach es X.env := by rfl) (hpl : (backTo pos (starEach es X.env)).any (·.1) = false := by rfl) : DL X W (.Call (.Name x p) (e :: es) [] pos) (lB pl am) :=
  PE.weak (pe_callTy hc hg hm hv ha hn hdb he hpl) fun _ _ _ h => tCBL_of h
/-- one argument -/
theorem Reps.one {K : PySem.W.Frag} {F : Hp} {ι : List Addr} {d : D} {vs : List V} (r : Reps K F ι [d] vs) : ∃ v, vs = [v] ∧ Rep K F ι d v := by
  simp only [Reps] at r
  obtain ⟨v, r', e, h, e2⟩ := r
  subst e2
  exact ⟨v, e, h⟩
theorem Reps.two {K : PySem.W.Frag} {F : Hp} {ι : List Addr} {d d' : D} {vs : List V} (r : Reps K F ι [d, d'] vs) : ∃ v v', vs = [v, v'] ∧ Rep K F ι d v ∧ Rep K F ι d' v' := by
  simp only [Reps] at r
  obtain ⟨v, r', e, h, v', r'', e', h', e2⟩ := r
  subst e2 e'
  exact ⟨v, v', e, h, h'⟩
def pLen : Sto → List D → Option D := fun st ds => match ds with
  | [.str z] => if z.length ≤ sizeLine then some (.int z.length) else none
  | [d] => (seqOf st d).map fun xs => .int xs.length
  | _ => none
theorem call_pLen : CallR X (.builtin "len") (rB X.K pLen) := by
  intro pins s σ H vs us Q I rv ⟨F, ι, st, ds, d, S, ra, e, q⟩
  unfold pLen at e
  split at e
  · split at e
    · rename_i hz
      cases e
      obtain ⟨v, e1, r⟩ := ra.one
      simp only [Rep] at r
      subst e1 r
      exact call_len_str pins s σ H _ us Q I rv ⟨_, rfl, hz, q F H _ Ext.refl S (by simp only [Rep])⟩
    · cases e
  · rename_i d' _
    cases e1 : seqOf st d' with
    | none => rw [e1] at e; cases e
    | some xs =>
      rw [e1] at e
      cases e
      obtain ⟨v, e2, r⟩ := ra.one
      obtain ⟨a, ys, e3, hs, rr⟩ := S.seq r e1
      subst e2 e3
      exact call_len_seq pins s σ H _ us Q I rv ⟨a, ys, rfl, hs, q F H _ Ext.refl S (by simp only [Rep]; rw [rr.length])⟩
  · cases e
def pAbs : Sto → List D → Option D := fun _ ds => match ds with
  | [.int i] => some (.int (if i < 0 then -i else i))
  | _ => none
theorem call_pAbs : CallR X (.builtin "abs") (rB X.K pAbs) := by
  intro pins s σ H vs us Q I rv ⟨F, ι, st, ds, d, S, ra, e, q⟩
  unfold pAbs at e
  split at e
  · cases e
    obtain ⟨v, e1, r⟩ := ra.one
    simp only [Rep] at r
    subst e1 r
    exact call_abs pins s σ H _ us Q I rv ⟨_, rfl, q F H _ Ext.refl S (by simp only [Rep])⟩
  · cases e
def pInt : Sto → List D → Option D := fun _ ds => match ds with
  | [.int i] => some (.int i)
  | [.bl k] => some (.int (if k then 1 else 0))
  | _ => none
theorem call_pInt : CallR X (.type "int") (rB X.K pInt) := by
  intro pins s σ H vs us Q I rv ⟨F, ι, st, ds, d, S, ra, e, q⟩
  unfold pInt at e
  split at e
  · cases e
    obtain ⟨v, e1, r⟩ := ra.one
    simp only [Rep] at r
    subst e1 r
    exact call_int1 pins s σ H _ us Q I rv (.inl ⟨_, rfl, q F H _ Ext.refl S (by simp only [Rep])⟩)
  · cases e
    obtain ⟨v, e1, r⟩ := ra.one
    simp only [Rep] at r
    subst e1 r
    exact call_int1 pins s σ H _ us Q I rv (.inr ⟨_, rfl, q F H _ Ext.refl S (by simp only [Rep])⟩)
  · cases e
def pMax2 : Sto → List D → Option D := fun _ ds => match ds with
  | [.int i, .int j] => some (.int (if j > i then j else i))
  | _ => none
def pMin2 : Sto → List D → Option D := fun _ ds => match ds with
  | [.int i, .int j] => some (.int (if j < i then j else i))
  | _ => none
theorem call_pMax2 (hc : X.calm = true) : CallR X (.builtin "max") (rB X.K pMax2) := by
  intro pins s σ H vs us Q I rv ⟨F, ι, st, ds, d, S, ra, e, q⟩
  unfold pMax2 at e
  split at e
  · cases e
    obtain ⟨v, v', e1, r, r'⟩ := ra.two
    simp only [Rep] at r r'
    subst e1 r r'
    exact call_max2 hc pins s σ H _ us Q I rv ⟨_, _, rfl, q F H _ Ext.refl S (by simp only [Rep])⟩
  · cases e
theorem call_pMin2 (hc : X.calm = true) : CallR X (.builtin "min") (rB X.K pMin2) := by
  intro pins s σ H vs us Q I rv ⟨F, ι, st, ds, d, S, ra, e, q⟩
  unfold pMin2 at e
  split at e
  · cases e
    obtain ⟨v, v', e1, r, r'⟩ := ra.two
    simp only [Rep] at r r'
    subst e1 r r'
    exact call_min2 hc pins s σ H _ us Q I rv ⟨_, _, rfl, q F H _ Ext.refl S (by simp only [Rep])⟩
  · cases e
/-- all, any of a list of truth values -/
def blOf : List D → Option (List Bool)
  | [] => some []
  | .bl b :: r => (blOf r).map (b :: ·)
  | _ => none
theorem blOf_map : ∀ bs : List Bool, blOf (bs.map D.bl) = some bs
  | [] => rfl
  | b :: r => by rw [List.map_cons, blOf, blOf_map r]; rfl
theorem reps_bl {K : PySem.W.Frag} {F : Hp} {ι : List Addr} : ∀ {ds : List D} {bs : List Bool} {vs : List V}, Reps K F ι ds vs → blOf ds = some bs → vs = bs.map V.bl
  | [], _, _, r, h => by simp only [Reps] at r; cases h; subst r; rfl
  | .bl b :: ds, bs, vs, r, h => by
    simp only [Reps, Rep] at r
    obtain ⟨v, rs, e, e1, r2⟩ := r
    unfold blOf at h
    cases e2 : blOf ds with
    | none => rw [e2] at h; cases h
    | some cs =>
      rw [e2] at h
      cases h
      rw [e, e1, reps_bl r2 e2]
      rfl
  | .non :: _, _, _, _, h => by simp [blOf] at h
  | .int _ :: _, _, _, _, h => by simp [blOf] at h
  | .str _ :: _, _, _, _, h => by simp [blOf] at h
  | .tup _ :: _, _, _, _, h => by simp [blOf] at h
  | .lst _ :: _, _, _, _, h => by simp [blOf] at h
  | .scr _ :: _, _, _, _, h => by simp [blOf] at h
  | .ref _ :: _, _, _, _, h => by simp [blOf] at h
  | .adr _ :: _, _, _, _, h => by simp [blOf] at h
def pAll : Sto → List D → Option D := fun st ds => match ds with
  | [d] => ((lstOf st d).bind blOf).map fun bs => .bl (bs.all id)
  | _ => none
def pAny : Sto → List D → Option D := fun st ds => match ds with
  | [d] => ((lstOf st d).bind blOf).map fun bs => .bl (bs.any id)
  | _ => none
theorem call_pAll (hc : X.calm = true) : CallR X (.builtin "all") (rB X.K pAll) := by
  intro pins s σ H vs us Q I rv ⟨F, ι, st, ds, d, S, ra, e, q⟩
  unfold pAll at e
  split at e
  · rename_i d'
    cases e1 : lstOf st d' with
    | none => rw [e1] at e; cases e
    | some xs =>
      rw [e1] at e
      have e : (blOf xs).map (fun bs => D.bl (bs.all id)) = some d := e
      cases e2 : blOf xs with
      | none => rw [e2] at e; cases e
      | some bs =>
        rw [e2] at e
        cases e
        obtain ⟨v, e3, r⟩ := ra.one
        obtain ⟨a, ys, e4, hs, rr⟩ := S.lst r e1
        subst e3 e4
        have e5 := reps_bl rr e2
        subst e5
        exact cr_all hc pins s σ H _ us Q I rv ⟨a, bs, rfl, SqL.of hs, q F H _ Ext.refl S (by simp only [Rep])⟩
  · cases e
theorem call_pAny (hc : X.calm = true) : CallR X (.builtin "any") (rB X.K pAny) := by
  intro pins s σ H vs us Q I rv ⟨F, ι, st, ds, d, S, ra, e, q⟩
  unfold pAny at e
  split at e
  · rename_i d'
    cases e1 : lstOf st d' with
    | none => rw [e1] at e; cases e
    | some xs =>
      rw [e1] at e
      have e : (blOf xs).map (fun bs => D.bl (bs.any id)) = some d := e
      cases e2 : blOf xs with
      | none => rw [e2] at e; cases e
      | some bs =>
        rw [e2] at e
        cases e
        obtain ⟨v, e3, r⟩ := ra.one
        obtain ⟨a, ys, e4, hs, rr⟩ := S.lst r e1
        subst e3 e4
        have e5 := reps_bl rr e2
        subst e5
        exact cr_any hc pins s σ H _ us Q I rv ⟨a, bs, rfl, SqL.of hs, q F H _ Ext.refl S (by simp only [Rep])⟩
  · cases e
/-- repr -/
def pRepr : Sto → List D → Option D := fun st ds => match ds with
  | [d] => (dat st d).bind fun p => if SeqAt.shaped p = true ∧ p.showable = true ∧ p.shown.length ≤ sizeLine then some (.str p.shown) else none
  | _ => none
theorem call_pRepr (hg : X.A.guards = some []) (hu : X.A.units + 70 < cLine) : CallR X (.builtin "repr") (rB X.K pRepr) := by
  intro pins s σ H vs us Q I rv ⟨F, ι, st, ds, d, S, ra, e, q⟩
  unfold pRepr at e
  split at e
  · rename_i d'
    cases e1 : dat st d' with
    | none => rw [e1] at e; cases e
    | some p =>
      rw [e1] at e
      have e : (if SeqAt.shaped p = true ∧ p.showable = true ∧ p.shown.length ≤ sizeLine then some (D.str p.shown) else none) = some d := e
      split at e
      · rename_i hc
        cases e
        obtain ⟨h1, h2, h3⟩ := hc
        obtain ⟨v, e2, r⟩ := ra.one
        subst e2
        obtain ⟨u, eu, ru⟩ := rv.one
        subst eu
        have hq : ∀ (h' : Heap) (t : Tok) (tk : Nat), (∀ b o, s.heap.get? b = some o → h'.get? b = some o) → EP X pins σ Q (.str p.shown t) { s with heap := h', toks := tk } := fun h' t tk k =>
          ⟨.str p.shown, H, I.kept k, ⟨t, rfl⟩, q F H _ Ext.refl S (by simp only [Rep])⟩
        have hd := S.dp r e1
        obtain ⟨as, rd⟩ := Dp.reads I p v u hd ru
        have hdep : p.depth ≤ 64 := by
          unfold SeqAt.shaped at h1
          simp only [Bool.and_eq_true, decide_eq_true_eq] at h1
          exact h1.2
        have hno : p.hasDict = false := PyData.hasDict_of_canLay p (SeqAt.canLay_of_shaped h1)
        cases v with
        | ref a =>
          cases ru
          exact repr_of_reads' rd h2 (PyData.noDict_hsm hno) hg (by omega) (fun _ _ h => h) (fun h' t tk k => hq h' t tk k) h3
        | non =>
          cases ru
          cases hd
          exact PySem.P.repr_of_none (hq s.heap _ _ fun _ _ h => h)
        | bl b =>
          cases ru
          cases hd
          exact PySem.P.repr_of_bool (hq s.heap _ _ fun _ _ h => h)
        | int i =>
          obtain ⟨t, rfl⟩ := ru
          cases hd
          simp only [PyData.showable, decide_eq_true_eq] at h2
          exact PySem.P.repr_of_int h2 (hq s.heap _ _ fun _ _ h => h)
        | str i =>
          obtain ⟨t, rfl⟩ := ru
          cases hd
          exact PySem.P.repr_of_str (hq s.heap _ _ fun _ _ h => h) h3
        | byt _ => cases hd
        | flt _ => cases hd
        | ty _ => cases hd
      · cases e
  · cases e
/-- tuple(a list or a tuple), list(..) -/
def pTuple : Sto → List D → Option D := fun st ds => match ds with
  | [.tup xs] => some (.tup xs)
  | [d] => (lstOf st d).map fun xs => .tup xs
  | _ => none
theorem call_tupP : CallR X (.type "tuple") (fun xs H Q => ∃ p ys, xs = [.ref p] ∧ SqL X.K H p ys ∧ ∀ (l : Addr) (o : Obj), o.dict = none → H l = none → Q (.ref l) (upd H l (.frz o (.tup ys)))) := by
  intro pins s σ H xs us Q I r ⟨p, ys, e, hq, q⟩
  subst e
  obtain ⟨u, rfl, rx⟩ := vals1 r
  cases rx
  obtain ⟨its, r', pl, hz⟩ := I.list hq
  have hl := r'.length
  refine call_tuple_list pl.isList (fun h' kp => ?_) (by rw [List.size_toArray]; omega)
  have I1 : Inv X pins σ H { s with heap := h' } := I.kept (t' := s.toks) kp
  exact fin_tup (t' := s.toks) I1 r' hz q
theorem call_pTuple : CallR X (.type "tuple") (rB X.K pTuple) := by
  intro pins s σ H vs us Q I rv ⟨F, ι, st, ds, d, S, ra, e, q⟩
  unfold pTuple at e
  split at e
  · cases e
    obtain ⟨v, e1, r⟩ := ra.one
    have r' := r
    simp only [Rep] at r
    obtain ⟨a, ys, e2, hs, rr⟩ := r
    subst e1 e2
    exact call_tuple_of pins s σ H _ us Q I rv ⟨a, ys, rfl, .inr ⟨S.sqT hs, q F H _ Ext.refl S r'⟩⟩
  · rename_i d' _
    cases e1 : lstOf st d' with
    | none => rw [e1] at e; cases e
    | some xs =>
      rw [e1] at e
      cases e
      obtain ⟨v, e3, r⟩ := ra.one
      obtain ⟨a, ys, e4, hs, rr⟩ := S.lst r e1
      subst e3 e4
      exact call_tupP pins s σ H _ us Q I rv ⟨a, ys, rfl, SqL.of hs, new_tup S rr q⟩
  · cases e
def pList : Sto → List D → Option (List D) := fun st ds => match ds with
  | [d] => seqOf st d
  | _ => none
theorem call_pList : CallR X (.type "list") (rBL X.K pList) := by
  intro pins s σ H vs us Q I rv ⟨F, ι, st, ds, d, S, ra, e, q⟩
  unfold pList at e
  split at e
  · obtain ⟨v, e3, r⟩ := ra.one
    obtain ⟨a, ys, e4, hs, rr⟩ := S.seq r e
    subst e3 e4
    exact call_list_of pins s σ H _ us Q I rv ⟨a, ys, rfl, hs, fun l hl => q _ _ (Ext.laid hl) (S.laid hl) (pL_new S hl rr)⟩
  · cases e
def pStr : Sto → List D → Option D := fun _ ds => match ds with
  | [.int i] => if i.natAbs.log2 < 1920 then some (.str (toString i)) else none
  | _ => none
theorem call_pStr : CallR X (.type "str") (rB X.K pStr) := by
  intro pins s σ H vs us Q I rv ⟨F, ι, st, ds, d, S, ra, e, q⟩
  unfold pStr at e
  split at e
  · split at e
    · rename_i hz
      cases e
      obtain ⟨v, e1, r⟩ := ra.one
      simp only [Rep] at r
      subst e1 r
      exact call_str_int pins s σ H _ us Q I rv ⟨_, rfl, hz, q F H _ Ext.refl S (by simp only [Rep])⟩
    · cases e
  · cases e
/-- sum of a list of numbers -/
def intOf : List D → Option (List Int)
  | [] => some []
  | .int b :: r => (intOf r).map (b :: ·)
  | _ => none
theorem intOf_map : ∀ bs : List Int, intOf (bs.map D.int) = some bs
  | [] => rfl
  | b :: r => by rw [List.map_cons, intOf, intOf_map r]; rfl
theorem reps_int {K : PySem.W.Frag} {F : Hp} {ι : List Addr} : ∀ {ds : List D} {bs : List Int} {vs : List V}, Reps K F ι ds vs → intOf ds = some bs → vs = bs.map V.int
  | [], _, _, r, h => by simp only [Reps] at r; cases h; subst r; rfl
  | .int b :: ds, bs, vs, r, h => by
    simp only [Reps, Rep] at r
    obtain ⟨v, rs, e, e1, r2⟩ := r
    unfold intOf at h
    cases e2 : intOf ds with
    | none => rw [e2] at h; cases h
    | some cs =>
      rw [e2] at h
      cases h
      rw [e, e1, reps_int r2 e2]
      rfl
  | .non :: _, _, _, _, h => by simp [intOf] at h
  | .bl _ :: _, _, _, _, h => by simp [intOf] at h
  | .str _ :: _, _, _, _, h => by simp [intOf] at h
  | .tup _ :: _, _, _, _, h => by simp [intOf] at h
  | .lst _ :: _, _, _, _, h => by simp [intOf] at h
  | .scr _ :: _, _, _, _, h => by simp [intOf] at h
  | .ref _ :: _, _, _, _, h => by simp [intOf] at h
  | .adr _ :: _, _, _, _, h => by simp [intOf] at h
def pSum : Sto → List D → Option D := fun st ds => match ds with
  | [d] => ((lstOf st d).bind intOf).map fun ns => .int ns.sum
  | _ => none
theorem call_pSum (hc : X.calm = true) : CallR X (.builtin "sum") (rB X.K pSum) := by
  intro pins s σ H vs us Q I rv ⟨F, ι, st, ds, d, S, ra, e, q⟩
  unfold pSum at e
  split at e
  · rename_i d'
    cases e1 : lstOf st d' with
    | none => rw [e1] at e; cases e
    | some xs =>
      rw [e1] at e
      have e : (intOf xs).map (fun bs => D.int bs.sum) = some d := e
      cases e2 : intOf xs with
      | none => rw [e2] at e; cases e
      | some bs =>
        rw [e2] at e
        cases e
        obtain ⟨v, e3, r⟩ := ra.one
        obtain ⟨a, ys, e4, hs, rr⟩ := S.lst r e1
        subst e3 e4
        have e5 := reps_int rr e2
        subst e5
        exact cr_sum hc pins s σ H _ us Q I rv ⟨a, bs, rfl, SqL.of hs, q F H _ Ext.refl S (by simp only [Rep])⟩
  · cases e
end
end Dn
/-! DnG: enumerate and zip of lists and of tuples, in any mix. -/
namespace Dn
open PySem PySem.Spec PyProof.Rows L2
/-- a list | a tuple -/
inductive SK where
  | l | t
def SqX (K : PySem.W.Frag) (H : Hp) : SK → Addr → List V → Prop
  | .l, a, xs => SqL K H a xs
  | .t, a, xs => SqT K H a xs
def IsSq (h : Heap) : SK → Addr → Array Value → Prop
  | .l, a, xs => h.IsList a xs
  | .t, a, xs => h.IsTuple a xs
def ItAt (h : Heap) : SK → Addr → Addr → Nat → Prop
  | .l, it, a, i => h.IsListIter it a i
  | .t, it, a, i => h.IsTupleIter it a i
def itObj (a : Addr) : SK → Obj
  | .l => { cls := .type "list_iterator", data := .fields #[.ref a, .int 0 0] }
  | .t => { cls := .type "tuple_iterator", data := .fields #[.ref a, .int 0 0] }
theorem begins_sq (k : SK) (a : Addr) (items : Array Value) : Begins (.ref a) (itObj a k) fun h => IsSq h k a items := by
  cases k with
  | l => exact begins_list a items
  | t => exact begins_tuple a items
theorem draws_sq {prog : Program} {w : World} {A : Around} (hh : A.handled = none) (k : SK) (it a : Addr) (hne : a ≠ it) (items : Array Value) :
    Draws prog w A it [it, a] items.size (fun i v => items[i]? = some v) (fun i h => ItAt h k it a i ∧ IsSq h k a items) := by
  cases k with
  | l => exact Draws.list hh it a hne items
  | t => exact Draws.tuple hh it a hne items
theorem ItAt.obj {h : Heap} {k : SK} {it a : Addr} {i : Nat} (x : ItAt h k it a i) : ∃ o n vs, h.get? it = some o ∧ o.cls = .type n ∧ o.data = .fields vs := by
  cases k with
  | l => obtain ⟨o, e, c, d⟩ := x; exact ⟨o, _, _, e, c, d⟩
  | t => obtain ⟨o, e, c, d⟩ := x; exact ⟨o, _, _, e, c, d⟩
theorem ItAt.at {h h' : Heap} {k : SK} {it a : Addr} {i : Nat} (x : ItAt h k it a i) (e : ∀ o, h.get? it = some o → h'.get? it = some o) : ItAt h' k it a i := by
  cases k with
  | l => exact Heap.IsListIter.at x e
  | t => exact Heap.IsTupleIter.at x e
theorem ItAt.start {h : Heap} {k : SK} {it a : Addr} (e : h.get? it = some (itObj a k)) : ItAt h k it a 0 := by
  cases k with
  | l => exact ⟨_, e, rfl, rfl⟩
  | t => exact ⟨_, e, rfl, rfl⟩
theorem _root_.L2.Inv.sqx {X : Cx} {pins : List (Addr × Obj)} {σ : L2.St} {H : Hp} {s : Shared} {k : SK} {a : Addr} {xs : List V} (I : Inv X pins σ H s) (h : SqX X.K H k a xs) : ∃ its : List Value, Vals xs its ∧ IsSq s.heap k a its.toArray ∧ a < s.heap.objs.size := by
  cases k with
  | l =>
    obtain ⟨its, r, p, _⟩ := I.list h
    exact ⟨its, r, p.isList, p.lt⟩
  | t =>
    obtain ⟨its, r, p, _⟩ := I.tuple h
    exact ⟨its, r, p, p.lt⟩
theorem _root_.L2.Inv.sqx_inj {X : Cx} {pins : List (Addr × Obj)} {σ : L2.St} {H : Hp} {s : Shared} {k : SK} {a : Addr} {xs ys : List V} (I : Inv X pins σ H s) (h : SqX X.K H k a xs) (h' : SqX X.K H k a ys) : xs = ys := by
  cases k with
  | l => exact I.list_inj h h'
  | t => exact I.tuple_inj h h'
def IteX (K : PySem.W.Frag) (k : SK) (a : Addr) : It :=
  ⟨fun i H => ∃ (xs : List V) (x : V), SqX K H k a xs ∧ xs[i]? = some x, fun i H v H' => ∃ (T : Addr) (x : V) (o : Obj), v = .ref T ∧ H T = none ∧ o.dict = none ∧ H' = upd H T (.frz o (.tup [.int (i : Nat), x])) ∧ ∀ xs, SqX K H k a xs → xs[i]? = some x, fun i H => ∃ xs : List V, SqX K H k a xs ∧ xs.length = i⟩
theorem turn_enumX {P : Program} {w : World} {K : PySem.W.Frag} {elts : List Expr} {kk : Nat} {tpos : Pos} (k : SK) (a e it : Addr) :
    Turn P w K (.Tuple elts kk tpos) (IteX K k a) [e, it] e (fun i h => (∃ old, IsEnum h e it ((i : Nat) : Int) old) ∧ ItAt h k it a i ∧ e ≠ it ∧ a ≠ it ∧ e ≠ a) where
  mem := by simp
  obj := fun i h st b hb => by
    obtain ⟨⟨old, he⟩, hi, _⟩ := st
    have e' : b = e ∨ b = it := by simpa using hb
    rcases e' with z | z
    · rw [z]; exact ⟨_, he, fun v q => nomatch q⟩
    · rw [z]
      obtain ⟨o, n, vs, ho, _, hd⟩ := hi.obj
      exact ⟨o, ho, fun v q => by rw [hd] at q; cases q⟩
  keep := fun i h h' st kp => let ⟨⟨old, he⟩, hi, hne⟩ := st; ⟨⟨old, kp e (by simp) _ he⟩, hi.at fun o q => kp it (by simp) o q, hne⟩
  item := by
    intro X hP hw hK hc i pins s σ H E I hf st hg
    subst hP hw hK
    obtain ⟨⟨old, he⟩, hit, hne, hai, hea⟩ := st
    obtain ⟨xs, x, hq, hx⟩ := hg
    obtain ⟨its, rv, p, hal⟩ := I.sqx hq
    obtain ⟨u, hu, ru⟩ := rv.get hx
    have hel : e < s.heap.objs.size := Heap.lt_size he
    have hil : it < s.heap.objs.size := by obtain ⟨_, _, _, q, _⟩ := hit.obj; exact Heap.lt_size q
    have hlt : i < its.toArray.size := by
      have := (List.getElem?_eq_some_iff.mp hu).1
      simpa using this
    refine wpAny_pyNext_enum_itemD (draws_sq (A := X.A.in1) (I.ok.hd hc) k it a hai its.toArray) he ⟨hit, p⟩ hlt hne (by simp [hne, hea]) fun y h' tk hy ho ⟨hit', p'⟩ hT hsz hk => ?_
    have ey : y = u := by
      have hu' : its.toArray[i]? = some u := by simpa using hu
      rw [hu'] at hy
      exact (Option.some.inj hy).symm
    subst ey
    refine ⟨_, rfl, wpAny_letOwnedTupleGo_enum (s := { s with heap := h', toks := tk + 1 }) ho fun h'' he' sb => ?_⟩
    have hT2 : h''.get? s.heap.objs.size = some { cls := .type "tuple", data := .seq #[.int i tk, y] } := (sb.2 _ (Nat.ne_of_gt hel)).trans hT
    have new : ObjOk X.prog X.w (upd H s.heap.objs.size (.frz { cls := .type "tuple", data := .seq #[.int i tk, y] } (.tup [.int (i : Nat), x]))) h'' s.heap.objs.size (.frz { cls := .type "tuple", data := .seq #[.int i tk, y] } (.tup [.int (i : Nat), x])) :=
      ⟨hT2, by show 2 ≤ sizeLine; decide, [.int i tk, y], .cons ⟨_, rfl⟩ (.cons ru .nil), ⟨_, hT2, rfl, _, rfl⟩⟩
    have I1 : Inv X pins σ (upd H s.heap.objs.size (.frz { cls := .type "tuple", data := .seq #[.int i tk, y] } (.tup [.int (i : Nat), x]))) { s with heap := h'', toks := tk + 1 } :=
      I.turnedNew (ch := [e, it]) (fun b ob hb q => (sb.2 b (fun z => hb (by simp [z]))).trans (hk b ob (fun z => hb (by simp [z])) (fun z => hb (by simp [z])) q)) hf (Nat.le_refl _) new
    refine ⟨.ref s.heap.objs.size, _, I1, rfl, ⟨_, x, _, rfl, I.hok.fresh (Nat.le_refl _), rfl, rfl, fun ys hy => by rw [I.sqx_inj hy hq]; exact hx⟩, ⟨⟨y, ?_⟩, hit'.at fun o q => (sb.2 it (Ne.symm hne)).trans q, hne, hai, hea⟩, fun b hb => ?_⟩
    · have e1 : ((i + 1 : Nat) : Int) = (i : Int) + 1 := by omega
      rw [e1]; exact he'
    · have hb' : b < s.heap.objs.size := by
        have e' : b = e ∨ b = it := by simpa using hb
        rcases e' with z | z
        · rw [z]; exact hel
        · rw [z]; exact hil
      rw [upd_ne (Nat.ne_of_lt hb')]
      exact (hf b hb).1
  done := by
    intro X hP hw hK hc i pins s σ H E I hf st hg
    subst hP hw hK
    obtain ⟨⟨old, he⟩, hit, hne, hai, hea⟩ := st
    obtain ⟨xs, hq, hx⟩ := hg
    obtain ⟨its, rv, p, hal⟩ := I.sqx hq
    obtain ⟨f0, f1, f2, f3, f4, f5⟩ := hf it (by simp)
    have hl := rv.length
    have en : i = its.toArray.size := by simp; omega
    exact wpAny_pyNext_enum_endD (draws_sq (A := X.A.in1) (I.ok.hd hc) k it a hai its.toArray) he ⟨by rw [← en]; exact hit, p⟩ fun h' eb => ⟨rfl, I.turned (t' := s.toks) (fun b o hb q => eb b o hb q) f0 f1 f3 f4 f5⟩
  self := fun A i s Q E st h => let ⟨⟨_, he⟩, _⟩ := st; wpAny_pyIter_enum he h
theorem meets_enumerate_newB1 {v : Value} {o : Obj} {H : Heap → Prop} (B : Begins v o H) :
    Meets (Builtin.«enumerate.__new__» ⟨[.type "enumerate", v], []⟩) (fun _ R s => H s.heap ∧
      R (.ok (.ret (.ref (s.heap.push o).objs.size))) { s with heap := (s.heap.push o).push { cls := .type "enumerate", data := .fields #[.none, .bool false, .ref s.heap.objs.size, rawInt 0, .none, .none] } }) :=
  .of_wp fun prog w A R s h => by
    obtain ⟨hp, g, d, tk, os⟩ := s; obtain ⟨h1, h⟩ := h
    have hsub := sub_enumerate
    have q1 : ∀ {A' : Around} {E : Value → Shared → Prop} {Q : Value → Shared → Prop}, Q (.ref hp.objs.size) ⟨hp.push o, g, d, tk, os⟩ → wpAny (model prog w) A' (pyIter v) Q E ⟨hp, g, d, tk, os⟩ :=
      fun q => B.iter prog w _ _ ⟨hp, g, d, tk, os⟩ _ h1 q
    wp_walk using q1
    refine wpAny_stack_any fun st => wpAny_pure ?_
    split
    · rename_i c _ _ _ _ _
      cases (c == Value.type "enumerate")
      · wp_walk using q1
        exact ⟨_, rfl, h⟩
      · wp_walk using q1
        exact ⟨_, rfl, h⟩
    · wp_walk using q1
      exact ⟨_, rfl, h⟩
theorem call_enumX {prog : Program} {w : World} {A : Around} {E : Value → Shared → Prop} {s : Shared} {v : Value} {o : Obj} {H : Heap → Prop} {Q : Value → Shared → Prop} (B : Begins v o H) (h1 : H s.heap)
    (h : ∀ h', IsEnum h' (s.heap.objs.size + 1) s.heap.objs.size 0 .none → h'.get? s.heap.objs.size = some o → h'.objs.size = s.heap.objs.size + 2 →
      (∀ b o, s.heap.get? b = some o → h'.get? b = some o) → Q (.ref (s.heap.objs.size + 1)) { s with heap := h' }) :
    wpAny (model prog w) A (call (.type "enumerate") [v]) Q E s := by
  refine callType_new PySem.F.called_enumerate (by decide) (PySem.F.typeCall_enumerate_1 _) (PySem.F.newCall_enumerate_1 _) (fun obj => PySem.F.args_object_init_2 obj _) PySem.F.entry_enumerate_new
    (meets_enumerate_newB1 B) ⟨h1, ?_⟩
  have hz : (s.heap.push o).objs.size = s.heap.objs.size + 1 := Heap.size_push ..
  show _ ∧ _
  rw [hz]
  have he : IsEnum ((s.heap.push o).push { cls := .type "enumerate", data := .fields #[.none, .bool false, .ref s.heap.objs.size, rawInt 0, .none, .none] }) (s.heap.objs.size + 1) s.heap.objs.size 0 .none := by
    have := Heap.get?_push_size (s.heap.push o) (o := { cls := .type "enumerate", data := .fields #[.none, .bool false, .ref s.heap.objs.size, rawInt 0, .none, .none] }) rfl
    rw [hz] at this; exact this
  refine ⟨⟨_, he, rfl⟩, h _ he (Heap.get?_push_of_some _ (Heap.get?_push_size _ B.free)) (by rw [Heap.size_push, hz]) fun b o x => Heap.get?_push_of_some _ (Heap.get?_push_of_some _ x)⟩
def iEnumX (K : PySem.W.Frag) (ta : TA) : TI := fun σ H R => ta σ H fun vs H1 => ∃ a k xs, vs = [.ref a] ∧ SqX K H1 k a xs ∧ R (IteX K k a) H1
theorem pi_enumX {X : Cx} {e : Expr} {ta : TA} {p pos tpos : Pos} {elts : List Expr} {kk : Nat} (hg : Gl X "enumerate") (hm : X.mg "enumerate" = none) (ha : PA X [e] ta) (hs : starEach [e] X.env = [(false, eval e X.env)] := by rfl) :
    PI X (.Tuple elts kk tpos) (.Call (.Name "enumerate" p) [e] [] pos) (iEnumX X.K ta) := by
  refine ⟨fun pins s σ H R I h => ?_⟩
  refine Call_ (ld_blt I hg hm boot_enumerate (PyProof.Rows.callWith_type1 (thn (ha.run pos pins s σ H _ I h) fun us s1 ⟨vs, H1, I1, r1, q1⟩ => ?_) hs rfl))
  obtain ⟨a, k, xs, ex, hq, q⟩ := q1
  subst ex
  cases r1 with
  | cons r rr =>
    cases rr
    cases r
    obtain ⟨its, rv, p', hal⟩ := I1.sqx hq
    refine call_enumX (begins_sq k a its.toArray) p' fun h' he hit hsz hk => wpAny_pyIter_enum he ?_
    have I2 : Inv X pins σ H1 { s1 with heap := h' } := I1.kept (t' := s1.toks) hk
    refine ⟨s1.heap.objs.size + 1, [s1.heap.objs.size + 1, s1.heap.objs.size], _, _, H1, rfl, I2, turn_enumX k a (s1.heap.objs.size + 1) s1.heap.objs.size, ⟨⟨.none, he⟩, ItAt.start hit, Nat.succ_ne_self _, Nat.ne_of_lt hal, Nat.ne_of_gt (Nat.lt_succ_of_lt hal)⟩, fun b hb => ?_, q⟩
    have e' : b = s1.heap.objs.size + 1 ∨ b = s1.heap.objs.size := by simpa using hb
    have hle : s1.heap.objs.size ≤ b := by
      rcases e' with z | z
      · rw [z]; exact Nat.le_add_right _ _
      · rw [z]; exact Nat.le_refl _
    exact I1.fpOk hle (I1.hok.fresh hle)

/-! ### zip -/
def ItzX (K : PySem.W.Frag) (k1 k2 : SK) (a b : Addr) : It :=
  ⟨fun i H => ∃ (xs ys : List V) (x y : V), SqX K H k1 a xs ∧ SqX K H k2 b ys ∧ xs[i]? = some x ∧ ys[i]? = some y,
    fun i H v H' => ∃ (T : Addr) (x y : V) (o : Obj), v = .ref T ∧ H T = none ∧ o.dict = none ∧ H' = upd H T (.frz o (.tup [x, y])) ∧ (∀ xs, SqX K H k1 a xs → xs[i]? = some x) ∧ ∀ ys, SqX K H k2 b ys → ys[i]? = some y,
    fun i H => ∃ xs ys : List V, SqX K H k1 a xs ∧ SqX K H k2 b ys ∧ i = min xs.length ys.length⟩
theorem turn_zipX {P : Program} {w : World} {K : PySem.W.Frag} {elts : List Expr} {kk : Nat} {tpos : Pos} (k1 k2 : SK) {a b z TI TO i1 i2 : Addr} (D : ZipSep2 z TI TO i1 i2 [i1, a] [i2, b]) (h1a : a ≠ i1) (h2b : b ≠ i2) :
    Turn P w K (.Tuple elts kk tpos) (ItzX K k1 k2 a b) [z, TI, TO, i1, i2] z (fun i h => IsZip h z TI TO .none ∧ IsTupOf2 h TI (.ref i1) (.ref i2) ∧ (∃ x y, IsTupOf2 h TO x y) ∧ ItAt h k1 i1 a i ∧ ItAt h k2 i2 b i) where
  mem := by simp
  obj := fun i h st c hc => by
    obtain ⟨hz, hTI, ⟨x, y, hTO⟩, h1, h2⟩ := st
    obtain ⟨o1, _, _, e1, _, d1⟩ := h1.obj
    obtain ⟨o2, _, _, e2, _, d2⟩ := h2.obj
    have e' : c = z ∨ c = TI ∨ c = TO ∨ c = i1 ∨ c = i2 := by simpa using hc
    rcases e' with q | q | q | q | q
    · rw [q]; exact ⟨_, hz, fun v q => nomatch q⟩
    · rw [q]; exact ⟨_, hTI, fun v q => nomatch q⟩
    · rw [q]; exact ⟨_, hTO, fun v q => nomatch q⟩
    · rw [q]; exact ⟨o1, e1, fun v q => by rw [d1] at q; cases q⟩
    · rw [q]; exact ⟨o2, e2, fun v q => by rw [d2] at q; cases q⟩
  keep := fun i h h' st k => by
    obtain ⟨hz, hTI, ⟨x, y, hTO⟩, h1, h2⟩ := st
    exact ⟨k z (by simp) _ hz, k TI (by simp) _ hTI, ⟨x, y, k TO (by simp) _ hTO⟩, h1.at fun o q => k i1 (by simp) o q, h2.at fun o q => k i2 (by simp) o q⟩
  item := by
    intro X hP hw hK hc i pins s σ H E I hf st hg
    subst hP hw hK
    obtain ⟨hz, hTI, ⟨x0, y0, hTO⟩, h1, h2⟩ := st
    obtain ⟨xs, ys, x, y, hqx, hqy, hx, hy⟩ := hg
    obtain ⟨its, rv, p, _⟩ := I.sqx hqx
    obtain ⟨its2, rv2, p2, _⟩ := I.sqx hqy
    obtain ⟨u, hu, ru⟩ := rv.get hx
    obtain ⟨u2, hu2, ru2⟩ := rv2.get hy
    have hzl : z < s.heap.objs.size := Heap.lt_size hz
    have hlt1 : i < its.toArray.size := by have := (List.getElem?_eq_some_iff.mp hu).1; simpa using this
    have hlt2 : i < its2.toArray.size := by have := (List.getElem?_eq_some_iff.mp hu2).1; simpa using this
    refine wpAny_pyNext_zipD2_item D (draws_sq (A := X.A.in1) (I.ok.hd hc) k1 i1 a h1a its.toArray) (draws_sq (A := X.A.in1) (I.ok.hd hc) k2 i2 b h2b its2.toArray) hz hTI hTO ⟨h1, p⟩ ⟨h2, p2⟩ hlt1 hlt2 fun w1 w2 h' tk y1 y2 z' TO' ⟨h1', _⟩ ⟨h2', _⟩ hT hsz hk => ?_
    have e1 : w1 = u := by
      have hu' : its.toArray[i]? = some u := by simpa using hu
      rw [hu'] at y1
      exact (Option.some.inj y1).symm
    have e2 : w2 = u2 := by
      have hu' : its2.toArray[i]? = some u2 := by simpa using hu2
      rw [hu'] at y2
      exact (Option.some.inj y2).symm
    subst e1 e2
    refine ⟨_, rfl, wpAny_letOwnedTupleGo_zip (s := { s with heap := h', toks := tk }) z' fun h'' z'' sb => ?_⟩
    have hT2 : h''.get? s.heap.objs.size = some { cls := .type "tuple", data := .seq #[w1, w2] } := (sb.2 _ (Nat.ne_of_gt hzl)).trans hT
    have new : ObjOk X.prog X.w (upd H s.heap.objs.size (.frz { cls := .type "tuple", data := .seq #[w1, w2] } (.tup [x, y]))) h'' s.heap.objs.size (.frz { cls := .type "tuple", data := .seq #[w1, w2] } (.tup [x, y])) :=
      ⟨hT2, by show 2 ≤ sizeLine; decide, [w1, w2], .cons ru (.cons ru2 .nil), ⟨_, hT2, rfl, _, rfl⟩⟩
    have I1 : Inv X pins σ (upd H s.heap.objs.size (.frz { cls := .type "tuple", data := .seq #[w1, w2] } (.tup [x, y]))) { s with heap := h'', toks := tk } :=
      I.turnedNew (ch := [z, TI, TO, i1, i2]) (fun c o hb q => (sb.2 c (fun q' => hb (by simp [q']))).trans (hk c o (fun q' => hb (by simp [q'])) (fun q' => hb (by simp [q'])) (fun q' => hb (by simp [q'])) (fun q' => hb (by simp [q'])) q)) hf (Nat.le_refl _) new
    refine ⟨.ref s.heap.objs.size, _, I1, rfl, ⟨_, x, y, _, rfl, I.hok.fresh (Nat.le_refl _), rfl, rfl, fun l hl => by rw [I.sqx_inj hl hqx]; exact hx, fun l hl => by rw [I.sqx_inj hl hqy]; exact hy⟩, ⟨z'', ?_, ⟨w1, w2, ?_⟩, ?_, ?_⟩, fun c hcm => ?_⟩
    · exact (sb.2 _ D.TIz).trans (hk _ _ D.TIz D.TITO D.TIi1 D.TIi2 hTI)
    · exact (sb.2 _ D.TOz).trans TO'
    · exact h1'.at fun o q => (sb.2 _ (fun e => D.zi1 e.symm)).trans q
    · exact h2'.at fun o q => (sb.2 _ (fun e => D.zi2 e.symm)).trans q
    · have hlt : c < s.heap.objs.size := by
        have e' : c = z ∨ c = TI ∨ c = TO ∨ c = i1 ∨ c = i2 := by simpa using hcm
        obtain ⟨o1, _, _, q1, _⟩ := h1.obj
        obtain ⟨o2, _, _, q2, _⟩ := h2.obj
        rcases e' with q | q | q | q | q
        · rw [q]; exact hzl
        · rw [q]; exact Heap.lt_size hTI
        · rw [q]; exact Heap.lt_size hTO
        · rw [q]; exact Heap.lt_size q1
        · rw [q]; exact Heap.lt_size q2
      rw [upd_ne (Nat.ne_of_lt hlt)]
      exact (hf c hcm).1
  done := by
    intro X hP hw hK hc i pins s σ H E I hf st hg
    subst hP hw hK
    obtain ⟨hz, hTI, ⟨x0, y0, hTO⟩, h1, h2⟩ := st
    obtain ⟨xs, ys, hqx, hqy, hend⟩ := hg
    obtain ⟨its, rv, p, _⟩ := I.sqx hqx
    obtain ⟨its2, rv2, p2, _⟩ := I.sqx hqy
    have l1 := rv.length
    have l2 := rv2.length
    exact wpAny_pyNext_zipD2_end (i := i) D (draws_sq (A := X.A.in1) (I.ok.hd hc) k1 i1 a h1a its.toArray) (draws_sq (A := X.A.in1) (I.ok.hd hc) k2 i2 b h2b its2.toArray) hz hTI hTO ⟨h1, p⟩ ⟨h2, p2⟩ (by simp; omega) (by simp; omega) (by simp; omega)
      fun h' tk hk => ⟨rfl, I.turnedL (t' := tk) (ch := [z, TI, TO, i1, i2]) (fun c o hb q =>
        hk c o (fun q' => hb (by simp [q'])) (fun q' => hb (by simp [q'])) (fun q' => hb (by simp [q'])) (fun q' => hb (by simp [q'])) q) hf⟩
  self := fun A i s Q E st h => wpAny_pyIter_zip st.1 h
def iZipX (K : PySem.W.Frag) (ta : TA) : TI := fun σ H R => ta σ H fun vs H1 => ∃ a b k1 k2 xs ys, vs = [.ref a, .ref b] ∧ SqX K H1 k1 a xs ∧ SqX K H1 k2 b ys ∧ R (ItzX K k1 k2 a b) H1
theorem pi_zipX {X : Cx} {e e2 : Expr} {ta : TA} {p pos tpos : Pos} {elts : List Expr} {kk : Nat} (hg : Gl X "zip") (hm : X.mg "zip" = none) (ha : PA X [e, e2] ta)
    (hs : starEach [e, e2] X.env = (false, eval e X.env) :: starEach [e2] X.env := by rfl) (hpl : (backTo pos (starEach [e2] X.env)).any (·.1) = false := by rfl) :
    PI X (.Tuple elts kk tpos) (.Call (.Name "zip" p) [e, e2] [] pos) (iZipX X.K ta) := by
  refine ⟨fun pins s σ H R I h => ?_⟩
  refine Call_ (ld_blt I hg hm PyProof.Rows.boot_zip (PyProof.Rows.callWith_type1 (thn (ha.run pos pins s σ H _ I h) fun us s1 ⟨vs, H1, I1, r1, q1⟩ => ?_) hs hpl))
  obtain ⟨a, b, k1, k2, xs, ys, ex, hqx, hqy, q⟩ := q1
  subst ex
  cases r1 with
  | cons r rr =>
    cases rr with
    | cons r' rr =>
      cases rr
      cases r
      cases r'
      obtain ⟨its, rv, p1, la⟩ := I1.sqx hqx
      obtain ⟨its2, rv2, p2, lb⟩ := I1.sqx hqy
      refine zip_begins2 (begins_sq k1 a its.toArray) (begins_sq k2 b its2.toArray) p1 p2 fun h' hz hTI hTO h1 h2 hsz hk => wpAny_pyIter_zip hz ?_
      have I2 : Inv X pins σ H1 { s1 with heap := h' } := I1.kept (t' := s1.toks) hk
      have sep : ZipSep2 (s1.heap.objs.size + 4) (s1.heap.objs.size + 2) (s1.heap.objs.size + 3) s1.heap.objs.size (s1.heap.objs.size + 1) [s1.heap.objs.size, a] [s1.heap.objs.size + 1, b] :=
        zip_sep2 (fun c hc => by have : c = a := by simpa using hc
                                 subst this; exact la) (fun c hc => by have : c = b := by simpa using hc
                                                                       subst this; exact lb)
      refine ⟨s1.heap.objs.size + 4, [s1.heap.objs.size + 4, s1.heap.objs.size + 2, s1.heap.objs.size + 3, s1.heap.objs.size, s1.heap.objs.size + 1], _, _, H1, rfl, I2,
        turn_zipX k1 k2 sep (Nat.ne_of_lt la) (Nat.ne_of_lt (Nat.lt_succ_of_lt lb)), ⟨hz, hTI, ⟨_, _, hTO⟩, ItAt.start h1, ItAt.start h2⟩, fun c hcm => ?_, q⟩
      have e' : c = s1.heap.objs.size + 4 ∨ c = s1.heap.objs.size + 2 ∨ c = s1.heap.objs.size + 3 ∨ c = s1.heap.objs.size ∨ c = s1.heap.objs.size + 1 := by simpa using hcm
      have hle : s1.heap.objs.size ≤ c := by
        rcases e' with z | z | z | z | z
        · rw [z]; exact Nat.le_add_right _ _
        · rw [z]; exact Nat.le_add_right _ _
        · rw [z]; exact Nat.le_add_right _ _
        · rw [z]; exact Nat.le_refl _
        · rw [z]; exact Nat.le_add_right _ _
      exact I1.fpOk hle (I1.hok.fresh hle)
end Dn
/-! DnH: targets, what a loop walks, comprehensions. -/
namespace Dn
open PySem PySem.Spec PyProof.Rows L2
/-! ### targets -/
def pR (K : PySem.W.Frag) (js : List Nat) (σ0 : L2.St) : Hp → Hp → List Addr → Hp → Rho → L2.St → Prop := fun _ F ι _ ρ σ => REnv K F ι ρ σ ∧ ∀ vs : List Nat, (∀ j, j ∈ js → j ∈ vs) → wipe σ vs = wipe σ0 vs
theorem back_R {K : PySem.W.Frag} {js : List Nat} {σ0 : L2.St} : Back (pR K js σ0) := fun _ _ _ _ _ _ _ _ h => h
def tGt (K : PySem.W.Frag) (js : List Nat) (gf : D → Rho → M Rho) : TG := fun v σ H Q => ∃ F ι ρ st d, Sim K F ι st H ∧ REnv K F ι ρ σ ∧ Rep K F ι d v ∧ post K wN σ F ι H (pR K js σ) (gf d ρ st) Q
def DG (X : Cx) (js : List Nat) (e : Expr) (gf : D → Rho → M Rho) : Prop := PG X e (tGt X.K js gf)
theorem PG.weak {X : Cx} {e : Expr} {t t' : TG} (h : PG X e t) (w : ∀ v σ H Q, t' v σ H Q → t v σ H Q) : PG X e t' := ⟨fun pins s σ H v u Q I r q => h.run pins s σ H v u Q I r (w v σ H Q q)⟩
theorem wipe_set {σ : L2.St} {i : Nat} {x : Option V} : ∀ {vs : List Nat}, i ∈ vs → wipe (σ.set i x) vs = wipe σ vs
  | v :: vs, h => by
    show (wipe (σ.set i x) vs).set v none = (wipe σ vs).set v none
    by_cases hm : i ∈ vs
    · rw [wipe_set hm]
    · have e : i = v := by
        rcases List.mem_cons.mp h with e | e
        · exact e
        · exact absurd e hm
      subst e
      have key : ∀ (vs : List Nat), i ∉ vs → wipe (σ.set i x) vs = (wipe σ vs).set i x := by
        intro vs
        induction vs with
        | nil => intro _; rfl
        | cons u us ih =>
          intro h
          have h1 : i ≠ u := fun e => h (by simp [e])
          have h2 : i ∉ us := fun e => h (List.mem_cons_of_mem _ e)
          show (wipe (σ.set i x) us).set u none = ((wipe σ us).set u none).set i x
          rw [ih h2, List.set_comm _ _ h1]
      rw [key vs hm, List.set_set]
def gN (i : Nat) : D → Rho → M Rho := fun d ρ st => .ok (ρ.set i (some d)) st
theorem dg_name {X : Cx} {pos : Pos} {i : Nat} {x : Str} (hN : X.N.Nodup) (hi : X.N[i]? = some x) (hx : Loc X.env.scope x) (hf : X.fn x = true ∨ X.env.scope.names.lookup x = some .local := by first | exact .inl rfl | exact .inr rfl | assumption) : DG X [i] (.Name x pos) (gN i) :=
  PG.weak (pg_name hN hi hx hf) fun v σ H Q ⟨F, ι, ρ, st, d, S, R, r, q⟩ =>
    q F ι H _ Ext.refl S ⟨R.set r i, fun vs h => wipe_set (h i (by simp))⟩
def tGts (K : PySem.W.Frag) (js : List Nat) (gf : List D → Rho → M Rho) : TGs := fun vs σ H Q => ∃ F ι ρ st ds, Sim K F ι st H ∧ REnv K F ι ρ σ ∧ Reps K F ι ds vs ∧ post K wN σ F ι H (pR K js σ) (gf ds ρ st) Q
def DGs (X : Cx) (js : List Nat) (es : List Expr) (gf : List D → Rho → M Rho) : Prop := PGs X es (tGts X.K js gf)
theorem PGs.weak {X : Cx} {e : List Expr} {t t' : TGs} (h : PGs X e t) (w : ∀ v σ H Q, t' v σ H Q → t v σ H Q) : PGs X e t' := ⟨fun pins s σ H v u Q I r q => h.run pins s σ H v u Q I r (w v σ H Q q)⟩
def gsNil : List D → Rho → M Rho := fun ds ρ st => match ds with
  | [] => .ok ρ st
  | _ => .bad
def gsCons (g : D → Rho → M Rho) (gs : List D → Rho → M Rho) : List D → Rho → M Rho := fun ds ρ st => match ds with
  | d :: r => (g d ρ st).bind fun ρ1 st1 => gs r ρ1 st1
  | [] => .bad
theorem dgs_nil {X : Cx} : DGs X [] [] gsNil := by
  refine PGs.weak pgs_nil fun vs σ H Q ⟨F, ι, ρ, st, ds, S, R, r, q⟩ => ?_
  unfold gsNil at q
  split at q
  · simp only [Reps] at r
    exact ⟨r, q F ι H σ Ext.refl S ⟨R, fun _ _ => rfl⟩⟩
  · exact q.elim
theorem dgs_cons {X : Cx} {e : Expr} {es : List Expr} {j1 j2 : List Nat} {g : D → Rho → M Rho} {gs : List D → Rho → M Rho} (h1 : DG X j1 e g) (h2 : DGs X j2 es gs)
    (hs : (assignEach (e :: es) X.env).map (·.2) = assign e X.env :: (assignEach es X.env).map (·.2) := by rfl) : DGs X (j1 ++ j2) (e :: es) (gsCons g gs) := by
  refine PGs.weak (pgs_cons h1 h2 hs) fun vs σ H Q ⟨F, ι, ρ, st, ds, S, R, r, q⟩ => ?_
  unfold gsCons at q
  split at q
  · rename_i d ds'
    simp only [Reps] at r
    obtain ⟨v, vr, e, r1, r2⟩ := r
    refine ⟨v, vr, e, F, ι, ρ, st, d, S, R, r1, ?_⟩
    refine post_seq back_R q fun ρ1 st1 F1 ι1 H1 σ1 _ x1 S1 ⟨R1, k1⟩ q1 => ?_
    refine ⟨F1, ι1, ρ1, st1, ds', S1, R1, Reps.ext r2 x1, ?_⟩
    generalize gs ds' ρ1 st1 = rr at q1
    cases rr with
    | ok ρ2 st2 => exact fun F' ι' H' σ' y S' ⟨R', k'⟩ => q1 F' ι' H' σ' y S' ⟨R', fun vs hv => (k' vs fun j hj => hv j (List.mem_append_right _ hj)).trans (k1 vs fun j hj => hv j (List.mem_append_left _ hj))⟩
    | exc x st2 => exact fun F' ι' H' c d y S' r => (q1 F' ι' H' c d y S' r : False).elim
    | bad => exact q1
  · exact q.elim
/-- a tuple target, for a tuple -/
def gT (n : Nat) (gs : List D → Rho → M Rho) : D → Rho → M Rho := fun d ρ st => match d with
  | .tup xs => if xs.length = n then gs xs ρ st else .bad
  | _ => .bad
theorem dg_tup {X : Cx} {pos : Pos} {es : List Expr} {k n : Nat} {js : List Nat} {gs : List D → Rho → M Rho} (hc : X.calm = true) (h : DGs X js es gs)
    (hn : (assignEach es X.env).length = n := by rfl) (hst : (assignEach es X.env).findIdx? (·.1) = none := by rfl) : DG X js (.Tuple es k pos) (gT n gs) := by
  refine PG.weak (pg_tup hc h hn hst) fun v σ H Q ⟨F, ι, ρ, st, d, S, R, r, q⟩ => ?_
  unfold gT at q
  split at q
  · split at q
    · rename_i xs hl
      simp only [Rep] at r
      obtain ⟨a, vs, e, h, rr⟩ := r
      exact ⟨a, vs, e, S.sqT h, by rw [← rr.length]; exact hl, F, ι, ρ, st, xs, S, R, rr, q⟩
    · exact q.elim
  · exact q.elim

/-! ### what is walked -/
structure Src where
  items : List D
  held : List (Nat × List D)
def heldOk (held : List (Nat × List D)) (st : Sto) : Prop := ∀ p, p ∈ held → st[p.1]? = some (.lst p.2)
@[simp] theorem heldOk_nil (st : Sto) : heldOk [] st ↔ True := ⟨fun _ => trivial, fun _ _ h => by cases h⟩
@[simp] theorem heldOk_one (l : Nat) (xs : List D) (st : Sto) : heldOk [(l, xs)] st ↔ st[l]? = some (.lst xs) := by
  constructor
  · intro h; exact h (l, xs) (by simp)
  · intro h p hp
    have : p = (l, xs) := by simpa using hp
    subst this; exact h
structure Grow (F : Hp) (ι : List Addr) (F' : Hp) (ι' : List Addr) : Prop where
  f : ∀ a o, F a = some o → F' a = some o
  i : ∀ (l : Nat) (a : Addr), ι[l]? = some a → ι'[l]? = some a
theorem Ext.grow {F : Hp} {ι : List Addr} {H F' : Hp} {ι' : List Addr} {H' : Hp} (x : Ext F ι H F' ι' H') : Grow F ι F' ι' := ⟨x.f, x.i⟩
/-- the iterator J gives the items, while what is held stands as it was -/
structure SrcIt (K : PySem.W.Frag) (F : Hp) (ι : List Addr) (src : Src) (J : It) : Prop where
  go : ∀ (i : Nat) F' ι' st' H', Grow F ι F' ι' → Sim K F' ι' st' H' → heldOk src.held st' → i < src.items.length → J.go i H'
  stop : ∀ F' ι' st' H', Grow F ι F' ι' → Sim K F' ι' st' H' → heldOk src.held st' → J.stop src.items.length H'
  yld : ∀ (i : Nat) F' ι' st' H' x H2 d, Grow F ι F' ι' → Sim K F' ι' st' H' → heldOk src.held st' → src.items[i]? = some d → J.yld i H' x H2 → ∃ F2, Ext F' ι' H' F2 ι' H2 ∧ Sim K F2 ι' st' H2 ∧ Rep K F2 ι' d x
def pI (K : PySem.W.Frag) : Hp → Hp → List Addr → Hp → Src → It → Prop := fun _ F ι _ src J => SrcIt K F ι src J
theorem back_I {K : PySem.W.Frag} : Back (pI K) := fun _ _ _ _ _ _ _ _ h => h
def DI (X : Cx) (W : WX) (tg iter : Expr) (ms : Rho → M Src) : Prop := PI X tg iter (tG X.K W (pI X.K) ms)
theorem PI.weak {X : Cx} {tg e : Expr} {t t' : TI} (h : PI X tg e t) (w : ∀ σ H Q, t' σ H Q → t σ H Q) : PI X tg e t' := ⟨fun pins s σ H Q I q => h.run pins s σ H Q I (w σ H Q q)⟩
/-- a list or a tuple as a source -/
def srcOf (st : Sto) : D → Option Src
  | .tup xs => some ⟨xs, []⟩
  | .lst xs => some ⟨xs, []⟩
  | .scr xs => some ⟨xs, []⟩
  | .ref l => match st[l]? with
    | some (.lst xs) => some ⟨xs, [(l, xs)]⟩
    | _ => none
  | _ => none
/-- .. as it lies there -/
theorem src_sq {K : PySem.W.Frag} {F : Hp} {ι : List Addr} {d : D} {v : V} {st : Sto} {H : Hp} {src : Src} (S : Sim K F ι st H) (r : Rep K F ι d v) (h : srcOf st d = some src) :
    ∃ k a, v = .ref a ∧ (∃ vs, SqX K H k a vs) ∧ ∀ F' ι' st' H', Grow F ι F' ι' → Sim K F' ι' st' H' → heldOk src.held st' → ∃ vs, SqX K H' k a vs ∧ Reps K F' ι' src.items vs := by
  unfold srcOf at h
  split at h
  · cases h
    simp only [Rep] at r
    obtain ⟨a, vs, e, hq, rr⟩ := r
    exact ⟨.t, a, e, ⟨vs, S.sqT hq⟩, fun F' ι' st' H' g S' _ => ⟨vs, S'.sqT (SqP.mono hq g.f), Reps.mono g.f g.i _ _ rr⟩⟩
  · cases h
    simp only [Rep] at r
    obtain ⟨a, vs, e, hq, rr⟩ := r
    exact ⟨.l, a, e, ⟨vs, SqL.of (S.sub _ _ hq)⟩, fun F' ι' st' H' g S' _ => ⟨vs, SqL.of (S'.sub _ _ (g.f _ _ hq)), Reps.mono g.f g.i _ _ rr⟩⟩
  · cases h
    simp only [Rep] at r
    obtain ⟨a, vs, e, hq, rr⟩ := r
    exact ⟨.l, a, e, ⟨vs, S.sqL hq⟩, fun F' ι' st' H' g S' _ => ⟨vs, S'.sqL (SqL.mono hq g.f), Reps.mono g.f g.i _ _ rr⟩⟩
  · rename_i l
    split at h
    · rename_i xs e1
      cases h
      simp only [Rep] at r
      obtain ⟨a, e, hi⟩ := r
      obtain ⟨vs, hv, _⟩ := S.obj l _ a e1 hi
      refine ⟨.l, a, e, ⟨vs, SqL.of hv⟩, fun F' ι' st' H' g S' ho => ?_⟩
      obtain ⟨ws, hw, rw'⟩ := S'.obj l _ a (ho (l, xs) (by simp)) (g.i l a hi)
      exact ⟨ws, SqL.of hw, rw'⟩
    · cases h
  · cases h
def ItX (K : PySem.W.Frag) : SK → Addr → It
  | .l, a => Itl K a
  | .t, a => Itt K a
def iSqX (K : PySem.W.Frag) (tl : TE) : TI := fun σ H R => tl σ H fun x H1 => ∃ k a, x = .ref a ∧ (∃ xs, SqX K H1 k a xs) ∧ R (ItX K k a) H1
theorem pi_sqX {X : Cx} {tg l : Expr} {tl : TE} (hl : PE X l tl) : PI X tg l (iSqX X.K tl) := by
  refine ⟨fun pins s σ H R I h => ?_⟩
  refine thn (hl.run pins s σ H _ I h) fun v s1 ⟨x, H1, I1, r1, q1⟩ => ?_
  obtain ⟨k, a, e, ⟨xs, hq⟩, q⟩ := q1
  subst e
  cases r1
  have fp : ∀ b, b ∈ [s1.heap.objs.size] → FpOk X pins H1 b := fun b hb => by
    have e : b = s1.heap.objs.size := by simpa using hb
    subst e
    exact I1.fpOk (Nat.le_refl _) (I1.hok.fresh (Nat.le_refl _))
  cases k with
  | l =>
    obtain ⟨its, rv, p, hz⟩ := I1.list hq
    refine wpAny_pyIter_list p.isList ?_
    exact ⟨s1.heap.objs.size, [s1.heap.objs.size], _, _, H1, rfl, I1.kept (t' := s1.toks) fun b o e => Heap.get?_push_of_some _ e, turn_list a _, ⟨_, Heap.get?_push_size _ rfl, rfl, rfl⟩, fp, q⟩
  | t =>
    obtain ⟨its, rv, p, hz⟩ := I1.tuple hq
    refine wpAny_pyIter_tuple (show s1.heap.IsTuple a its.toArray from p) ?_
    exact ⟨s1.heap.objs.size, [s1.heap.objs.size], _, _, H1, rfl, I1.kept (t' := s1.toks) fun b o e => Heap.get?_push_of_some _ e, turn_tuple a _, ⟨_, Heap.get?_push_size _ rfl, rfl, rfl⟩, fp, q⟩
def iSeq (m : Rho → M D) : Rho → M Src := fun ρ st => (m ρ st).bind fun d st1 => lift (srcOf st1 d) st1
section
variable {X : Cx} {W : WX} {pos p2 p : Pos} {tg e e2 : Expr} {m1 m2 m3 : Rho → M D} {am : Rho → M (List D)}
theorem di_seq (h : DE X W e m1) : DI X W tg e (iSeq m1) := by
  refine PI.weak (pi_sqX h) fun σ H Q ⟨F, ι, ρ, st, S, R, q⟩ => ?_
  refine tG_seq back_I S R q fun d st1 F1 ι1 H1 v1 x1 S1 R1 r1 q1 => ?_
  cases e1 : srcOf st1 d with
  | none => rw [e1] at q1; exact q1.elim
  | some src =>
    rw [e1] at q1
    obtain ⟨k, a, e, hs, hk⟩ := src_sq S1 r1 e1
    refine ⟨k, a, e, hs, q1 F1 ι1 H1 (ItX X.K k a) Ext.refl S1 ⟨fun i F' ι' st' H' g S' ho hi => ?_, fun F' ι' st' H' g S' ho => ?_, fun i F' ι' st' H' x H2 d g S' ho hd y => ?_⟩⟩
    · obtain ⟨vs, hv, rv⟩ := hk F' ι' st' H' g S' ho
      obtain ⟨v, q, _⟩ := rv.get (List.getElem?_eq_getElem hi)
      cases k with
      | l => exact ⟨vs, v, hv, q⟩
      | t => exact ⟨vs, v, hv, q⟩
    · obtain ⟨vs, hv, rv⟩ := hk F' ι' st' H' g S' ho
      cases k with
      | l => exact ⟨vs, hv, Nat.le_of_eq rv.length.symm⟩
      | t => exact ⟨vs, hv, Nat.le_of_eq rv.length.symm⟩
    · obtain ⟨vs, hv, rv⟩ := hk F' ι' st' H' g S' ho
      cases k with
      | l =>
        obtain ⟨e, y⟩ := y
        subst e
        exact ⟨F', Ext.refl, S', rv.at hd (y vs hv)⟩
      | t =>
        obtain ⟨e, y⟩ := y
        subst e
        exact ⟨F', Ext.refl, S', rv.at hd (y vs hv)⟩
/-- the numbers from lo, n of them -/
def rngD (lo : Int) (n : Nat) : List D := (List.range n).map fun i : Nat => .int (lo + (i : Int))
theorem rngD_length (lo : Int) (n : Nat) : (rngD lo n).length = n := by unfold rngD; simp
theorem rngD_get {lo : Int} {n i : Nat} {d : D} (h : (rngD lo n)[i]? = some d) : d = .int (lo + (i : Int)) := by
  unfold rngD at h
  rw [List.getElem?_map] at h
  cases e : (List.range n)[i]? with
  | none => rw [e] at h; cases h
  | some j =>
    rw [e] at h
    have := List.getElem?_eq_some_iff.mp e
    obtain ⟨h1, h2⟩ := this
    rw [List.getElem_range] at h2
    subst h2
    exact (Option.some.inj h).symm
theorem src_range {K : PySem.W.Frag} {F : Hp} {ι : List Addr} {lo : Int} {n : Nat} : SrcIt K F ι ⟨rngD lo n, []⟩ (Itr lo n) := by
  refine ⟨fun i F' ι' st' H' g S' ho hi => ?_, fun F' ι' st' H' g S' ho => ?_, fun i F' ι' st' H' x H2 d g S' ho hd y => ?_⟩
  · have hi' : i < (rngD lo n).length := hi
    rw [rngD_length] at hi'
    exact hi'
  · show n ≤ (rngD lo n).length
    rw [rngD_length]
    exact Nat.le_refl _
  · obtain ⟨e, y⟩ := y
    subst e y
    have hd' := rngD_get hd
    subst hd'
    exact ⟨F', Ext.refl, S', by simp only [Rep]⟩
noncomputable def rng1 : D → Option Src
  | .int j => @ite _ (-(2 ^ 62) ≤ j ∧ j < 2 ^ 62) (Classical.propDecidable _) (some ⟨rngD 0 j.toNat, []⟩) (none)
  | _ => none
noncomputable def rng2 : D → D → Option Src
  | .int i, .int j => @ite _ (-(2 ^ 62) ≤ i ∧ i < 2 ^ 62 ∧ -(2 ^ 62) ≤ j ∧ j < 2 ^ 62) (Classical.propDecidable _) (some ⟨rngD i (j - i).toNat, []⟩) (none)
  | _, _ => none
noncomputable def iRng1D (m : Rho → M D) : Rho → M Src := fun ρ st => (m ρ st).bind fun d st1 => lift (rng1 d) st1
noncomputable def iRng2D (m1 m2 : Rho → M D) : Rho → M Src := fun ρ st => (m1 ρ st).bind fun d1 st1 => (m2 ρ st1).bind fun d2 st2 => lift (rng2 d1 d2) st2
theorem di_range1 (hg : Gl X "range") (hm : X.mg "range" = none) (h : DE X W e m1) (hs : starEach [e] X.env = [(false, eval e X.env)] := by rfl) : DI X W tg (.Call (.Name "range" p) [e] [] pos) (iRng1D m1) := by
  have ha : PA X [e] (tCons (tV X.K W m1) tNil) := pa_cons h pa_nil hs
  refine PI.weak (pi_range1 hg hm ha hs) fun σ H Q ⟨F, ι, ρ, st, S, R, q⟩ => ?_
  refine tG_seq back_I S R q fun d st1 F1 ι1 H1 v1 x1 S1 R1 r1 q1 => ?_
  unfold rng1 at q1
  split at q1
  · rename_i j
    split at q1
    · rename_i hb
      have rv : Rep X.K F1 ι1 (.int j) v1 := r1
      simp only [Rep] at rv
      exact ⟨j, by rw [rv], hb.1, hb.2, q1 F1 ι1 H1 _ Ext.refl S1 src_range⟩
    · exact q1.elim
  · exact q1.elim
theorem di_range2 (hg : Gl X "range") (hm : X.mg "range" = none) (h : DE X W e m1) (h' : DE X W e2 m2) (hs : starEach [e, e2] X.env = [(false, eval e X.env), (false, eval e2 X.env)] := by rfl) (hs2 : starEach [e2] X.env = [(false, eval e2 X.env)] := by rfl) :
    DI X W tg (.Call (.Name "range" p) [e, e2] [] pos) (iRng2D m1 m2) := by
  have ha : PA X [e, e2] (tCons (tV X.K W m1) (tCons (tV X.K W m2) tNil)) := pa_cons h (pa_cons h' pa_nil hs2) (by rw [hs, hs2])
  refine PI.weak (pi_range2 hg hm ha hs hs2) fun σ H Q ⟨F, ι, ρ, st, S, R, q⟩ => ?_
  refine tG_seq back_I S R q fun d1 st1 F1 ι1 H1 v1 x1 S1 R1 r1 q1 => ?_
  refine tG_seq back_I S1 R1 q1 fun d2 st2 F2 ι2 H2 v2 x2 S2 R2 r2 q2 => ?_
  unfold rng2 at q2
  split at q2
  · rename_i i j
    split at q2
    · rename_i hb
      have rv : Rep X.K F1 ι1 (.int i) v1 := r1
      have rv' : Rep X.K F2 ι2 (.int j) v2 := r2
      simp only [Rep] at rv rv'
      exact ⟨i, j, by rw [rv, rv'], hb, q2 F2 ι2 H2 _ Ext.refl S2 src_range⟩
    · exact q2.elim
  · exact q2.elim
/-- enumerate -/
def enumD (n : Nat) : List D → List D
  | [] => []
  | d :: r => .tup [.int (n : Int), d] :: enumD (n + 1) r
theorem enumD_length : ∀ (xs : List D) (n : Nat), (enumD n xs).length = xs.length
  | [], _ => rfl
  | _ :: r, n => by rw [enumD, List.length_cons, List.length_cons, enumD_length r]
theorem enumD_get : ∀ {xs : List D} {n i : Nat} {d : D}, (enumD n xs)[i]? = some d → ∃ x, xs[i]? = some x ∧ d = .tup [.int ((n + i : Nat) : Int), x]
  | [], _, _, _, h => by simp [enumD] at h
  | x :: r, n, 0, d, h => by
    simp [enumD] at h
    exact ⟨x, rfl, h.symm⟩
  | x :: r, n, i + 1, d, h => by
    rw [enumD, List.getElem?_cons_succ] at h
    obtain ⟨y, h1, h2⟩ := enumD_get h
    exact ⟨y, by simpa using h1, by rw [h2]; congr 4; omega⟩
def iEnumD (m : Rho → M D) : Rho → M Src := fun ρ st => (m ρ st).bind fun d st1 => (lift (srcOf st1 d) st1).bind fun src st2 => .ok ⟨enumD 0 src.items, src.held⟩ st2
/-- a new pair that an iterator makes -/
theorem new_pair {K : PySem.W.Frag} {F : Hp} {ι : List Addr} {st : Sto} {H : Hp} {T : Addr} {d1 d2 : D} {v1 v2 : V} {o : Obj} (S : Sim K F ι st H) (hT : H T = none) (ho : o.dict = none) (r1 : Rep K F ι d1 v1) (r2 : Rep K F ι d2 v2) :
    ∃ F2, Ext F ι H F2 ι (upd H T (.frz o (.tup [v1, v2]))) ∧ Sim K F2 ι st (upd H T (.frz o (.tup [v1, v2]))) ∧ Rep K F2 ι (.tup [d1, d2]) (.ref T) := by
  have x : Ext F ι H (upd F T (.frz o (.tup [v1, v2]))) ι (upd H T (.frz o (.tup [v1, v2]))) := Ext.frozen hT S.sub
  refine ⟨_, x, S.frozen hT trivial, ?_⟩
  simp only [Rep]
  exact ⟨T, [v1, v2], rfl, .inl ⟨o, ho, upd_same⟩, Reps.cons (r1.ext x) (Reps.cons (r2.ext x) Reps.nil)⟩
theorem di_enum {elts : List Expr} {kk : Nat} {tpos : Pos} (hg : Gl X "enumerate") (hm : X.mg "enumerate" = none) (h : DE X W e m1) (hs : starEach [e] X.env = [(false, eval e X.env)] := by rfl) : DI X W (.Tuple elts kk tpos) (.Call (.Name "enumerate" p) [e] [] pos) (iEnumD m1) := by
  have ha : PA X [e] (tCons (tV X.K W m1) tNil) := pa_cons h pa_nil hs
  refine PI.weak (pi_enumX hg hm ha hs) fun σ H Q ⟨F, ι, ρ, st, S, R, q⟩ => ?_
  refine tG_seq back_I S R q fun d st1 F1 ι1 H1 v1 x1 S1 R1 r1 q1 => ?_
  cases e1 : srcOf st1 d with
  | none => rw [e1] at q1; exact q1.elim
  | some src =>
    rw [e1] at q1
    obtain ⟨k, a, e, ⟨vs, hs⟩, hk⟩ := src_sq S1 r1 e1
    refine ⟨a, k, vs, by rw [e], hs, q1 F1 ι1 H1 (IteX X.K k a) Ext.refl S1 ⟨fun i F' ι' st' H' g S' ho hi => ?_, fun F' ι' st' H' g S' ho => ?_, fun i F' ι' st' H' x H2 d g S' ho hd y => ?_⟩⟩
    · obtain ⟨vs, hv, rv⟩ := hk F' ι' st' H' g S' ho
      have hi' : i < src.items.length := by
        have h0 : i < (enumD 0 src.items).length := hi
        rw [enumD_length] at h0
        exact h0
      obtain ⟨v, q, _⟩ := rv.get (List.getElem?_eq_getElem hi')
      exact ⟨vs, v, hv, q⟩
    · obtain ⟨vs, hv, rv⟩ := hk F' ι' st' H' g S' ho
      exact ⟨vs, hv, by rw [← rv.length]; exact (enumD_length _ _).symm⟩
    · obtain ⟨vs, hv, rv⟩ := hk F' ι' st' H' g S' ho
      obtain ⟨T, z, o, ex, hT, hd0, eH, y⟩ := y
      obtain ⟨w, hw, ed⟩ := enumD_get hd
      subst ex eH ed
      have e0 : ((0 + i : Nat) : Int) = (i : Int) := by omega
      rw [e0]
      exact new_pair S' hT hd0 (by simp only [Rep]) (rv.at hw (y vs hv))
/-- zip -/
def zipD : List D → List D → List D
  | x :: xs, y :: ys => .tup [x, y] :: zipD xs ys
  | _, _ => []
theorem zipD_length : ∀ (xs ys : List D), (zipD xs ys).length = min xs.length ys.length
  | x :: xs, y :: ys => by rw [zipD, List.length_cons, List.length_cons, List.length_cons, zipD_length xs ys]; omega
  | [], _ => by simp [zipD]
  | _ :: _, [] => by simp [zipD]
theorem zipD_get : ∀ {xs ys : List D} {i : Nat} {d : D}, (zipD xs ys)[i]? = some d → ∃ x y, xs[i]? = some x ∧ ys[i]? = some y ∧ d = .tup [x, y]
  | [], _, _, _, h => by simp [zipD] at h
  | _ :: _, [], _, _, h => by simp [zipD] at h
  | x :: xs, y :: ys, 0, d, h => by
    simp [zipD] at h
    exact ⟨x, y, rfl, rfl, h.symm⟩
  | x :: xs, y :: ys, i + 1, d, h => by
    rw [zipD, List.getElem?_cons_succ] at h
    obtain ⟨a, b, h1, h2, h3⟩ := zipD_get h
    exact ⟨a, b, by simpa using h1, by simpa using h2, h3⟩
def iZipD (m1 m2 : Rho → M D) : Rho → M Src := fun ρ st => (m1 ρ st).bind fun d1 st1 => (m2 ρ st1).bind fun d2 st2 => (lift (srcOf st2 d1) st2).bind fun s1 st3 => (lift (srcOf st3 d2) st3).bind fun s2 st4 => .ok ⟨zipD s1.items s2.items, s1.held ++ s2.held⟩ st4
theorem di_zip {elts : List Expr} {kk : Nat} {tpos : Pos} (hg : Gl X "zip") (hm : X.mg "zip" = none) (h : DE X W e m1) (h' : DE X W e2 m2) (hs : starEach [e, e2] X.env = (false, eval e X.env) :: starEach [e2] X.env := by rfl) (hs2 : starEach [e2] X.env = (false, eval e2 X.env) :: starEach [] X.env := by rfl) (hpl : (backTo pos (starEach [e2] X.env)).any (·.1) = false := by rfl) :
    DI X W (.Tuple elts kk tpos) (.Call (.Name "zip" p) [e, e2] [] pos) (iZipD m1 m2) := by
  have ha : PA X [e, e2] (tCons (tV X.K W m1) (tCons (tV X.K W m2) tNil)) := pa_cons h (pa_cons h' pa_nil hs2) hs
  refine PI.weak (pi_zipX hg hm ha hs hpl) fun σ H Q ⟨F, ι, ρ, st, S, R, q⟩ => ?_
  refine tG_seq back_I S R q fun d1 st1 F1 ι1 H1 v1 x1 S1 R1 r1 q1 => ?_
  refine tG_seq back_I S1 R1 q1 fun d2 st2 F2 ι2 H2 v2 x2 S2 R2 r2 q2 => ?_
  cases e1 : srcOf st2 d1 with
  | none => rw [e1] at q2; exact q2.elim
  | some s1 =>
    rw [e1] at q2
    have q2 : post X.K W σ F2 ι2 H2 (pI X.K) ((lift (srcOf st2 d2) st2).bind fun s2 st4 => .ok ⟨zipD s1.items s2.items, s1.held ++ s2.held⟩ st4) Q := q2
    cases e3 : srcOf st2 d2 with
    | none => rw [e3] at q2; exact q2.elim
    | some s2 =>
      rw [e3] at q2
      obtain ⟨k1, a1, ea1, ⟨vs1, hv1⟩, hk1⟩ := src_sq S2 (Rep.ext r1 x2) e1
      obtain ⟨k2, a2, ea2, ⟨vs2, hv2⟩, hk2⟩ := src_sq S2 r2 e3
      have sp : ∀ st', heldOk (s1.held ++ s2.held) st' → heldOk s1.held st' ∧ heldOk s2.held st' := fun st' ho => ⟨fun p hp => ho p (List.mem_append_left _ hp), fun p hp => ho p (List.mem_append_right _ hp)⟩
      refine ⟨a1, a2, k1, k2, vs1, vs2, by rw [ea1, ea2], hv1, hv2, q2 F2 ι2 H2 (ItzX X.K k1 k2 a1 a2) Ext.refl S2 ⟨fun i F' ι' st' H' g S' ho hi => ?_, fun F' ι' st' H' g S' ho => ?_, fun i F' ι' st' H' x H3 d g S' ho hd y => ?_⟩⟩
      · obtain ⟨w1, q1, rv1⟩ := hk1 F' ι' st' H' g S' (sp st' ho).1
        obtain ⟨w2, q2, rv2⟩ := hk2 F' ι' st' H' g S' (sp st' ho).2
        have hi' : i < min s1.items.length s2.items.length := by
          have h0 : i < (zipD s1.items s2.items).length := hi
          rw [zipD_length] at h0
          exact h0
        obtain ⟨u1, p1, _⟩ := rv1.get (List.getElem?_eq_getElem (show i < s1.items.length by omega))
        obtain ⟨u2, p2, _⟩ := rv2.get (List.getElem?_eq_getElem (show i < s2.items.length by omega))
        exact ⟨w1, w2, u1, u2, q1, q2, p1, p2⟩
      · obtain ⟨w1, q1, rv1⟩ := hk1 F' ι' st' H' g S' (sp st' ho).1
        obtain ⟨w2, q2, rv2⟩ := hk2 F' ι' st' H' g S' (sp st' ho).2
        exact ⟨w1, w2, q1, q2, by rw [← rv1.length, ← rv2.length]; exact zipD_length _ _⟩
      · obtain ⟨w1, q1, rv1⟩ := hk1 F' ι' st' H' g S' (sp st' ho).1
        obtain ⟨w2, q2, rv2⟩ := hk2 F' ι' st' H' g S' (sp st' ho).2
        obtain ⟨T, z1, z2, o, ex, hT, hd0, eH, y1, y2⟩ := y
        obtain ⟨b1, b2, hb1, hb2, ed⟩ := zipD_get hd
        subst ex eH ed
        exact new_pair S' hT hd0 (rv1.at hb1 (y1 w1 q1)) (rv2.at hb2 (y2 w2 q2))
end
end Dn
/-! DnI: comprehensions; statements; loops. -/
namespace Dn
open PySem PySem.Spec PyProof.Rows L2
/-! ### what lies outside -/
theorem Ext.outF {F : Hp} {ι : List Addr} {H F' : Hp} {ι' : List Addr} {H' : Hp} (x : Ext F ι H F' ι' H') {p : Addr} (hH : H p ≠ none) (hF : F p = none) : F' p = none := by
  cases e : F' p with
  | none => rfl
  | some o =>
    rcases x.newF p o e with q | q
    · rw [hF] at q; cases q
    · exact absurd q hH
theorem Ext.outI {F : Hp} {ι : List Addr} {H F' : Hp} {ι' : List Addr} {H' : Hp} (x : Ext F ι H F' ι' H') {p : Addr} (hH : H p ≠ none) (hi : p ∉ ι) : p ∉ ι' := fun h => by
  rcases x.newI p h with q | q
  · exact hi q
  · exact hH q
theorem Sim.outside {K : PySem.W.Frag} {F : Hp} {ι : List Addr} {st : Sto} {H : Hp} (S : Sim K F ι st H) {p : Addr} {o : HO} (hF : F p = none) (hi : p ∉ ι) : Sim K F ι st (upd H p o) := by
  have nf : ∀ a u, F a = some u → a ≠ p := fun a u h e => by rw [e, hF] at h; cases h
  have ni : ∀ a, a ∈ ι → a ≠ p := fun a h e => hi (by rw [← e]; exact h)
  refine ⟨fun a u h => by rw [upd_ne (nf a u h)]; exact S.sub a u h, S.kind, S.len, S.nd, S.free, fun a h => by rw [upd_ne (ni a h)]; exact S.there a h, fun l m a h1 h2 => ?_⟩
  exact (S.obj l m a h1 h2).mono (fun _ _ h => h) (fun _ _ h => h) (upd_ne (ni a (List.mem_of_getElem? h2)))
theorem Ext.outside {F : Hp} {ι : List Addr} {H F' : Hp} {ι' : List Addr} {H' : Hp} (x : Ext F ι H F' ι' H') {p : Addr} {o : HO} (h0 : H p = none) (h1 : H' p ≠ none) : Ext F ι H F' ι' (upd H' p o) := by
  refine ⟨x.f, x.i, fun a u h n => ?_, fun a h => ?_, x.newF, x.newI, x.long⟩
  · rw [upd_ne (ne_of_none h h0)]; exact x.keep a u h n
  · by_cases e : a = p
    · subst e; exact h0
    · rw [upd_ne e] at h; exact x.there a h
theorem wipe_idem (σ : L2.St) (vs : List Nat) : wipe (wipe σ vs) vs = wipe σ vs := by
  have key : ∀ (us : List Nat), (∀ u ∈ us, u ∈ vs) → ∀ τ : L2.St, wipe (wipe τ us) vs = wipe τ vs := by
    intro us
    induction us with
    | nil => intro _ τ; rfl
    | cons u us ih =>
      intro h τ
      show wipe ((wipe τ us).set u none) vs = _
      rw [wipe_set (h u (by simp)), ih (fun v hv => h v (List.mem_cons_of_mem _ hv))]
  exact key vs (fun _ h => h) σ

/-! ### comprehensions -/
open Classical in
/-- the items, one after another, while what is held stands -/
noncomputable def lcL (held : List (Nat × List D)) (f : D → Sto → Out (Option D)) : List D → Sto → Out (List D)
  | [], st => if heldOk held st then .ok [] st else .bad
  | d :: ds, st => if heldOk held st then (f d st).bind fun o st1 => (lcL held f ds st1).bind fun ys st2 => .ok (o.toList ++ ys) st2 else .bad
def lcF (gf : D → Rho → M Rho) (mt : Rho → M Bool) (me : Rho → M D) (ρ : Rho) : D → Sto → Out (Option D) := fun d st =>
  (gf d ρ st).bind fun ρ2 s2 => (mt ρ2 s2).bind fun b s3 => if b = true then (me ρ2 s3).bind fun y s4 => .ok (some y) s4 else .ok none s3
noncomputable def lLc (ms : Rho → M Src) (gf : D → Rho → M Rho) (mt : Rho → M Bool) (me : Rho → M D) (vs : List Nat) : Rho → M (List D) := fun ρ st =>
  (ms ρ st).bind fun src st1 => if src.items.length ≤ SZ then nox (lcL src.held (lcF gf mt me (wipeD ρ vs)) src.items st1) else .bad
theorem bind_ok {α β : Type} {r : Out α} {f : α → Sto → Out β} {b : β} {st : Sto} (h : r.bind f = .ok b st) : ∃ a st1, r = .ok a st1 ∧ f a st1 = .ok b st := by
  cases r with
  | ok a st1 => exact ⟨a, st1, rfl, h⟩
  | exc _ _ => cases h
  | bad => cases h
def DTs (X : Cx) (W : WX) (ifs : List Expr) (m : Rho → M Bool) : Prop := PTs X ifs (tT X.K W m)
def bYes : Rho → M Bool := fun _ st => .ok true st
theorem dts_nil {X : Cx} {W : WX} : DTs X W [] bYes := ⟨fun pins s σ H Q I ⟨F, ι, ρ, st, S, R, q⟩ => pts_nil.run pins s σ H Q I (q F ι H true Ext.refl S rfl)⟩
theorem dts_one {X : Cx} {W : WX} {c : Expr} {m : Rho → M Bool} (h : DT X W c m) : DTs X W [c] m := pts_one h
theorem post_ok {α β : Type} {K : PySem.W.Frag} {W : WX} {σ : L2.St} {F : Hp} {ι : List Addr} {H : Hp} {P : Hp → Hp → List Addr → Hp → α → β → Prop} {r : Out α} {a : α} {st : Sto} {Q : β → Hp → Prop} (e : r = .ok a st)
    (h : ∀ F' ι' H' b, Ext F ι H F' ι' H' → Sim K F' ι' st H' → P H F' ι' H' a b → Q b H') : post K W σ F ι H P r Q := by
  subst e
  exact h
theorem lc_of {K : PySem.W.Frag} {W : WX} {ms : Rho → M Src} {js : List Nat} {gf : D → Rho → M Rho} {mt : Rho → M Bool} {me : Rho → M D} {vs : List Nat} (hjs : ∀ j, j ∈ js → j ∈ vs) {σ : L2.St} {H : Hp} {Q : VK} (h : tL K W (lLc ms gf mt me vs) σ H Q) :
    tLc (tG K W (pI K) ms) (tGt K js gf) (tT K wN mt) (tV K wN me) vs σ H Q := by
  obtain ⟨F, ι, ρ, st, S, R, q⟩ := h
  refine tG_seq back_L S R q fun src st1 F1 ι1 H1 J x1 S1 R1 hJ q1 => ?_
  have hJ : SrcIt K F1 ι1 src J := hJ
  split at q1
  rotate_left
  · exact q1.elim
  rename_i hsz
  intro D hD
  cases er : lcL src.held (lcF gf mt me (wipeD ρ vs)) src.items st1 with
  | exc _ _ => rw [er] at q1; exact (q1 : False).elim
  | bad => rw [er] at q1; exact (q1 : False).elim
  | ok tot stf =>
    rw [er] at q1
    have q1 : ∀ F' ι' H' b, Ext F1 ι1 H1 F' ι' H' → Sim K F' ι' stf H' → pL K H1 F' ι' H' tot b → Q b H' := q1
    refine ⟨fun i m H' => m = src.items.length - i ∧ i ≤ src.items.length ∧ ∃ F' ι' st' acc av, Ext F1 ι1 H1 F' ι' H' ∧ Sim K F' ι' st' H' ∧ H' D = some (.lst av) ∧ F' D = none ∧ D ∉ ι' ∧ Reps K F' ι' acc av ∧ acc.length ≤ i ∧
      ∃ ys, lcL src.held (lcF gf mt me (wipeD ρ vs)) (src.items.drop i) st' = .ok ys stf ∧ acc ++ ys = tot, ⟨_, rfl, Nat.zero_le _, F1, ι1, st1, [], [], Ext.laid hD, S1.laid hD, upd_same, ?_, fun h => S1.there D h hD, Reps.nil, Nat.zero_le _, tot, er, rfl⟩, ?_⟩
    · cases e : F1 D with
      | none => rfl
      | some o =>
        have := S1.sub D o e
        rw [hD] at this
        cases this
    rintro i m H' ⟨rfl, hi, F', ι', st', acc, av, x', S', hv, hF', hi', ra, hla, ys, ey, et⟩
    by_cases hlt : i < src.items.length
    · right
      rw [List.drop_eq_getElem_cons hlt] at ey
      unfold lcL at ey
      split at ey
      rotate_left
      · cases ey
      rename_i ho
      obtain ⟨o, st2, e1, ey⟩ := bind_ok ey
      obtain ⟨ys', st3, e2, ey⟩ := bind_ok ey
      cases ey
      have g' : Grow F1 ι1 F' ι' := x'.grow
      refine ⟨hJ.go i F' ι' st' H' g' S' ho hlt, fun H'' => ∃ m', m' < src.items.length - i ∧ _, fun H'' h => h, fun x H2 y => ?_⟩
      obtain ⟨F2, x2, S2, r2⟩ := hJ.yld i F' ι' st' H' x H2 src.items[i] g' S' ho (by simp [hlt]) y
      unfold lcF at e1
      obtain ⟨ρ2, s2, e3, e1⟩ := bind_ok e1
      obtain ⟨b, s3, e4, e1⟩ := bind_ok e1
      have nH' : H' D ≠ none := by rw [hv]; simp
      refine ⟨F2, ι', wipeD ρ vs, st', _, S2, ((R1.ext x').ext x2).wipe vs, r2, post_ok e3 fun F3 ι3 H3 σ2 x3 S3 ⟨R3, hw⟩ => ?_⟩
      refine ⟨(hw vs hjs).trans (wipe_idem σ vs), F3, ι3, ρ2, s2, S3, R3, post_ok e4 fun F4 ι4 H4 b' x4 S4 eb => ?_⟩
      have eb : b = b' := eb
      subst eb
      have xx4 : Ext F' ι' H' F4 ι4 H4 := (x2.trans x3).trans x4
      cases b with
      | false =>
        rw [if_neg (by decide)] at e1 ⊢
        cases e1
        refine ⟨_, ?_, rfl, hlt, F4, ι4, _, acc, av, x'.trans xx4, S4, xx4.keep D _ hv hi', xx4.outF nH' hF', xx4.outI nH' hi', ra.ext xx4, Nat.le_succ_of_le hla, ys', e2, et⟩
        omega
      | true =>
        rw [if_pos rfl] at e1 ⊢
        obtain ⟨yd, s4, e5, e1⟩ := bind_ok e1
        cases e1
        refine ⟨F4, ι4, ρ2, s3, S4, R3.ext x4, post_ok e5 fun F5 ι5 H5 yv x5 S5 r5 => ?_⟩
        have xx5 : Ext F' ι' H' F5 ι5 H5 := xx4.trans x5
        have hv5 := xx5.keep D _ hv hi'
        have hF5 := xx5.outF nH' hF'
        have hi5 := xx5.outI nH' hi'
        refine ⟨av, hv5, by rw [← ra.length]; exact sz_lt (by omega), _, ?_, rfl, hlt, F5, ι5, _, acc ++ [yd], av ++ [yv], (x'.trans xx5).outside hD (by rw [hv5]; simp), S5.outside hF5 hi5, upd_same, hF5, hi5, (ra.ext xx5).snoc r5, ?_, ys', e2, ?_⟩
        · omega
        · rw [List.length_append]; simp; omega
        · rw [← et]; simp
    · left
      have e0 : i = src.items.length := by omega
      subst e0
      rw [List.drop_length] at ey
      unfold lcL at ey
      split at ey
      rotate_left
      · cases ey
      rename_i ho
      cases ey
      rw [List.append_nil] at et
      subst et
      exact ⟨hJ.stop F' ι' _ H' x'.grow S' ho, q1 F' ι' H' (.ref D) x' S' ⟨D, av, rfl, hv, hF', hi', hD, ra⟩⟩
section
variable {X : Cx} {W : WX} {pos spos py : Pos} {tg iter elt : Expr} {ifs : List Expr} {scope : Scope} {own : List (Str × Nat)} {ms : Rho → M Src} {js : List Nat} {gf : D → Rho → M Rho} {mt : Rho → M Bool} {me : Rho → M D}
theorem dl_lc (hc : X.calm = true) (hN : X.N.Nodup) (hi : DI X W tg iter ms) (ok : BlkOk X.N X.env.scope scope own) (hjs : ∀ j, j ∈ js → j ∈ own.map (·.2))
    (hg : ∀ (s : Shared) (H : Hp) (C : Addr) (cl : List (Str × Addr)) (fp : List Addr), DG (X.blk s H scope (compEnvC scope cl C X.env) fp) js tg gf) (ht : ∀ (s : Shared) (H : Hp) (C : Addr) (cl : List (Str × Addr)) (fp : List Addr), DTs (X.blk s H scope (compEnvC scope cl C X.env) fp) wN ifs mt)
    (he : ∀ (s : Shared) (H : Hp) (C : Addr) (cl : List (Str × Addr)) (fp : List Addr), DE (X.blk s H scope (compEnvC scope cl C X.env) fp) wN elt me) (hs : ∀ x, foldedSetIterable iter X.env x = pure x := by intro _; rfl) :
    DL X W (.ListComp elt [⟨tg, iter, ifs, 0⟩] scope pos) (lLc ms gf mt me (own.map (·.2))) :=
  PE.weak (pe_lc (g := tGt X.K js gf) (tt := tT X.K wN mt) (te := tV X.K wN me) hc hN hi ok hg ht he hs) fun _ _ _ h => lc_of hjs h
end

/-! ### statements -/
inductive Fl where
  | next (ρ : Rho) (st : Sto) | ret (d : D) (st : Sto) | brk (ρ : Rho) (st : Sto) | cnt (ρ : Rho) (st : Sto) | exc (x : Xc) (ρ : Rho) (st : Sto) | bad
def Out.fl {α : Type} (r : Out α) (ρ : Rho) (f : α → Sto → Fl) : Fl := match r with
  | .ok a st => f a st
  | .exc x st => .exc x ρ st
  | .bad => .bad
@[simp] theorem Out.fl_ok {α : Type} (a : α) (st : Sto) (ρ : Rho) (f : α → Sto → Fl) : (Out.ok a st).fl ρ f = f a st := rfl
@[simp] theorem Out.fl_exc {α : Type} (x : Xc) (st : Sto) (ρ : Rho) (f : α → Sto → Fl) : (Out.exc x st : Out α).fl ρ f = .exc x ρ st := rfl
@[simp] theorem Out.fl_bad {α : Type} (ρ : Rho) (f : α → Sto → Fl) : (Out.bad : Out α).fl ρ f = .bad := rfl
def sPost (K : PySem.W.Frag) (W : WX) (E : Ends) (F : Hp) (ι : List Addr) (H : Hp) (r : Fl) : Prop := match r with
  | .next ρ' st' => ∀ F' ι' H' σ', Ext F ι H F' ι' H' → Sim K F' ι' st' H' → REnv K F' ι' ρ' σ' → E.nx σ' H'
  | .brk ρ' st' => ∀ F' ι' H' σ', Ext F ι H F' ι' H' → Sim K F' ι' st' H' → REnv K F' ι' ρ' σ' → E.bk σ' H'
  | .cnt ρ' st' => ∀ F' ι' H' σ', Ext F ι H F' ι' H' → Sim K F' ι' st' H' → REnv K F' ι' ρ' σ' → E.ct σ' H'
  | .ret d st' => ∀ F' ι' H' v, Ext F ι H F' ι' H' → Sim K F' ι' st' H' → Rep K F' ι' d v → E.rt v H'
  | .exc x ρ' st' => ∀ F' ι' H' cls dd σ', Ext F ι H F' ι' H' → Sim K F' ι' st' H' → REnv K F' ι' ρ' σ' → XcR K F' ι' H' x cls dd → W cls dd σ' H'
  | .bad => False
theorem sPost_ext {K : PySem.W.Frag} {W : WX} {E : Ends} {F F1 : Hp} {ι ι1 : List Addr} {H H1 : Hp} {r : Fl} (h : sPost K W E F ι H r) (x : Ext F ι H F1 ι1 H1) : sPost K W E F1 ι1 H1 r := by
  cases r with
  | next ρ st => exact fun F' ι' H' σ' y => h F' ι' H' σ' (x.trans y)
  | brk ρ st => exact fun F' ι' H' σ' y => h F' ι' H' σ' (x.trans y)
  | cnt ρ st => exact fun F' ι' H' σ' y => h F' ι' H' σ' (x.trans y)
  | ret d st => exact fun F' ι' H' σ' y => h F' ι' H' σ' (x.trans y)
  | exc e ρ st => exact fun F' ι' H' c d σ' y => h F' ι' H' c d σ' (x.trans y)
  | bad => exact h
def tS (K : PySem.W.Frag) (W : WX) (m : Rho → Sto → Fl) : TS := fun E σ H => ∃ F ι ρ st, Sim K F ι st H ∧ REnv K F ι ρ σ ∧ sPost K W E F ι H (m ρ st)
def DS (X : Cx) (W : WX) (s : Stmt) (m : Rho → Sto → Fl) : Prop := PS X s (tS X.K W m)
def DSs (X : Cx) (W : WX) (s : List Stmt) (m : Rho → Sto → Fl) : Prop := PSs X s (tS X.K W m)
/-- a sub-expression of a statement -/
theorem fl_seq {α β : Type} {K : PySem.W.Frag} {W : WX} {P : Hp → Hp → List Addr → Hp → α → β → Prop} {m : Rho → M α} {E : Ends} {σ : L2.St} {F : Hp} {ι : List Addr} {H : Hp} {ρ : Rho} {st : Sto} {f : α → Sto → Fl} {Q' : β → Hp → Prop}
    (S : Sim K F ι st H) (R : REnv K F ι ρ σ) (h : sPost K W E F ι H ((m ρ st).fl ρ f))
    (k : ∀ a st1 F1 ι1 H1 b, Ext F ι H F1 ι1 H1 → Sim K F1 ι1 st1 H1 → REnv K F1 ι1 ρ σ → P H F1 ι1 H1 a b → sPost K W E F1 ι1 H1 (f a st1) → Q' b H1) : tG K W P m σ H Q' := by
  refine ⟨F, ι, ρ, st, S, R, ?_⟩
  cases e : m ρ st with
  | ok a st1 =>
    rw [e] at h
    exact fun F1 ι1 H1 b x S1 p => k a st1 F1 ι1 H1 b x S1 (R.ext x) p (sPost_ext h x)
  | exc y st1 =>
    rw [e] at h
    exact fun F1 ι1 H1 c d x S1 p => h F1 ι1 H1 c d σ x S1 (R.ext x) p
  | bad =>
    rw [e] at h
    exact h
section
variable {X : Cx} {W : WX} {pos : Pos} {st : Stmt} {rest : List Stmt} {s1 s2 : Rho → Sto → Fl}
def sNext : Rho → Sto → Fl := fun ρ st => .next ρ st
def Fl.seq (r : Fl) (k : Rho → Sto → Fl) : Fl := match r with
  | .next ρ st => k ρ st
  | r => r
def sSeq (s1 s2 : Rho → Sto → Fl) : Rho → Sto → Fl := fun ρ st => (s1 ρ st).seq s2
theorem dss_nil : DSs X W [] sNext := PSs.weak pss_nil fun E σ H ⟨F, ι, ρ, st, S, R, q⟩ => q F ι H σ Ext.refl S R
theorem dss_cons (h1 : DS X W st s1) (h2 : DSs X W rest s2) : DSs X W (st :: rest) (sSeq s1 s2) := by
  refine PSs.weak (pss_cons h1 h2) fun E σ H ⟨F, ι, ρ, st, S, R, q⟩ => ⟨F, ι, ρ, st, S, R, ?_⟩
  unfold sSeq Fl.seq at q
  generalize s1 ρ st = r at q
  cases r with
  | next ρ1 st1 => exact fun F' ι' H' σ' x S' R' => ⟨F', ι', ρ1, st1, S', R', sPost_ext q x⟩
  | ret d st1 => exact q
  | brk ρ1 st1 => exact q
  | cnt ρ1 st1 => exact q
  | exc x ρ1 st1 => exact q
  | bad => exact q
theorem dss_one (h1 : DS X W st s1) : DSs X W [st] s1 := pss_one h1
theorem ds_pass : DS X W (.Pass pos) sNext := PS.weak ps_pass fun E σ H ⟨F, ι, ρ, st, S, R, q⟩ => q F ι H σ Ext.refl S R
def sBrk : Rho → Sto → Fl := fun ρ st => .brk ρ st
def sCnt : Rho → Sto → Fl := fun ρ st => .cnt ρ st
theorem ds_break : DS X W (.Break pos) sBrk := PS.weak ps_break fun E σ H ⟨F, ι, ρ, st, S, R, q⟩ => q F ι H σ Ext.refl S R
theorem ds_cont : DS X W (.Continue pos) sCnt := PS.weak ps_continue fun E σ H ⟨F, ι, ρ, st, S, R, q⟩ => q F ι H σ Ext.refl S R
variable {e c : Expr} {m : Rho → M D} {mt : Rho → M Bool}
def sDrop (m : Rho → M D) : Rho → Sto → Fl := fun ρ st => (m ρ st).fl ρ fun _ st1 => .next ρ st1
theorem ds_expr (he : DE X W e m) (hs : swapsWith e none pos.line X.env = pure false := by rfl) : DS X W (.Expr e pos) (sDrop m) :=
  PS.weak (ps_expr he hs) fun E σ H ⟨F, ι, ρ, st, S, R, q⟩ => fl_seq S R q fun a st1 F1 ι1 H1 b x1 S1 R1 r1 q1 => q1 F1 ι1 H1 σ Ext.refl S1 R1
def sRet (m : Rho → M D) : Rho → Sto → Fl := fun ρ st => (m ρ st).fl ρ fun d st1 => .ret d st1
theorem ds_ret (he : DE X W e m) : DS X W (.Return (some e) pos) (sRet m) :=
  PS.weak (ps_ret he) fun E σ H ⟨F, ι, ρ, st, S, R, q⟩ => fl_seq S R q fun a st1 F1 ι1 H1 b x1 S1 R1 r1 q1 => q1 F1 ι1 H1 b Ext.refl S1 r1
def sRetN : Rho → Sto → Fl := fun _ st => .ret .non st
theorem ds_retN : DS X W (.Return none pos) sRetN := PS.weak ps_retN fun E σ H ⟨F, ι, ρ, st, S, R, q⟩ => q F ι H .non Ext.refl S (by simp only [Rep])
def sIf (t : Rho → M Bool) (s1 s2 : Rho → Sto → Fl) : Rho → Sto → Fl := fun ρ st => (t ρ st).fl ρ fun b st1 => if b = true then s1 ρ st1 else s2 ρ st1
theorem ds_if {p1 p2 : List Stmt} (hc : DT X W c mt) (h1 : DSs X W p1 s1) (h2 : DSs X W p2 s2) : DS X W (.If c p1 p2 pos) (sIf mt s1 s2) := by
  refine PS.weak (ps_if hc h1 h2) fun E σ H ⟨F, ι, ρ, st, S, R, q⟩ => fl_seq S R q fun a st1 F1 ι1 H1 b x1 S1 R1 r1 q1 => ?_
  have r1 : a = b := r1
  subst r1
  cases a with
  | true => exact ⟨F1, ι1, ρ, st1, S1, R1, q1⟩
  | false => exact ⟨F1, ι1, ρ, st1, S1, R1, q1⟩
def sAsg (gf : D → Rho → M Rho) (m : Rho → M D) : Rho → Sto → Fl := fun ρ st => (m ρ st).fl ρ fun d st1 => (nox (gf d ρ st1)).fl ρ fun ρ2 st2 => .next ρ2 st2
theorem ds_asg {tg : Expr} {js : List Nat} {gf : D → Rho → M Rho} (he : DE X W e m) (hg : DG X js tg gf) (hs : swapsWithSole [tg] e pos.line X.env = pure false := by rfl) (hw : swappedStores [tg] e X.env = pure none := by rfl)
    (h1 : (assignEach [tg] X.env).map (·.2) = [assign tg X.env] := by rfl) : DS X W (.Assign [tg] e pos) (sAsg gf m) := by
  refine PS.weak (ps_asg he hg hs hw h1) fun E σ H ⟨F, ι, ρ, st, S, R, q⟩ => fl_seq S R q fun a st1 F1 ι1 H1 b x1 S1 R1 r1 q1 => ?_
  refine ⟨F1, ι1, ρ, st1, a, S1, R1, r1, ?_⟩
  cases e1 : gf a ρ st1 with
  | ok ρ2 st2 =>
    rw [e1] at q1
    exact fun F' ι' H' σ' x S' r => q1 F' ι' H' σ' x S' r.1
  | exc _ _ => rw [e1] at q1; exact (q1 : False).elim
  | bad => rw [e1] at q1; exact (q1 : False).elim
theorem name_of {K : PySem.W.Frag} {i : Nat} {E : Ends} {σ : L2.St} {H : Hp} (h : tS K W (sAsg (gN i) m) E σ H) : tV K W m σ H fun x H1 => gName i x σ H1 E.nx := by
  obtain ⟨F, ι, ρ, st, S, R, q⟩ := h
  exact fl_seq S R q fun a st1 F1 ι1 H1 b x1 S1 R1 r1 q1 => q1 F1 ι1 H1 _ Ext.refl S1 (R1.set r1 i)
theorem ds_set {i : Nat} {x : Str} {pos' : Pos} (hN : X.N.Nodup) (hi : X.N[i]? = some x) (hx : Loc X.env.scope x) (he : DE X W e m) (hs : swapsWith e (some (.Name x pos')) pos.line X.env = pure false := by rfl) (hf : X.fn x = true ∨ X.env.scope.names.lookup x = some .local := by first | exact .inl rfl | exact .inr rfl | assumption) :
    DS X W (.Assign [.Name x pos'] e pos) (sAsg (gN i) m) :=
  PS.weak (ps_set hN hi hx he hs hf) fun E σ H h => name_of h
/-- name = [..] of one line, the name a local: the list frozen, the list kept -/
theorem ds_setLc {spos py : Pos} {tg iter elt : Expr} {ifs : List Expr} {scope : Scope} {own : List (Str × Nat)} {ms : Rho → M Src} {js : List Nat} {gf : D → Rho → M Rho} {mt : Rho → M Bool} {me : Rho → M D} {i : Nat} {y : Str} (fz : Bool) (hc : X.calm = true) (hN : X.N.Nodup) (hy : X.N[i]? = some y) (hyl : X.env.scope.names.lookup y = some .local)
    (hsw : swapsWith (.ListComp elt [⟨tg, iter, ifs, 0⟩] scope pos) (some (.Name y py)) spos.line X.env = pure true) (hi : DI X W tg iter ms) (ok : BlkOk X.N X.env.scope scope own) (hjs : ∀ j, j ∈ js → j ∈ own.map (·.2))
    (hg : ∀ (s : Shared) (H : Hp) (C : Addr) (cl : List (Str × Addr)) (fp : List Addr), DG (X.blk s H scope (compEnvC scope cl C X.env) fp) js tg gf) (ht : ∀ (s : Shared) (H : Hp) (C : Addr) (cl : List (Str × Addr)) (fp : List Addr), DTs (X.blk s H scope (compEnvC scope cl C X.env) fp) wN ifs mt)
    (he : ∀ (s : Shared) (H : Hp) (C : Addr) (cl : List (Str × Addr)) (fp : List Addr), DE (X.blk s H scope (compEnvC scope cl C X.env) fp) wN elt me) (hs : ∀ x, foldedSetIterable iter X.env x = pure x := by intro _; rfl) :
    DS X W (.Assign [.Name y py] (.ListComp elt [⟨tg, iter, ifs, 0⟩] scope pos) spos) (sAsg (gN i) ((if fz = true then mFrz else mNew) (lLc ms gf mt me (own.map (·.2))))) :=
  PS.weak (ps_setLc (g := tGt X.K js gf) (tt := tT X.K wN mt) (te := tV X.K wN me) hc hN hy hyl hsw hi ok hg ht he hs) fun E σ H h => lc_of hjs (by
    have q := name_of h
    cases fz with
    | true => exact frz_of q
    | false => exact new_of q)
/-- a, b = x, y: two different plain names -/
def sPar (i j : Nat) (a : Rho → M (List D)) : Rho → Sto → Fl := fun ρ st => (a ρ st).fl ρ fun ds st1 => match ds with
  | [x, y] => .next ((ρ.set i (some x)).set j (some y)) st1
  | _ => .bad
theorem ds_par {i j : Nat} {x y : Str} {a b : Expr} {am : Rho → M (List D)} {px py pt : Pos} {kt k2 pt2} (hc : X.calm = true) (hN : X.N.Nodup) (hi : X.N[i]? = some x) (hj : X.N[j]? = some y) (hij : i ≠ j)
    (hx : X.env.scope.names.lookup x = some .local) (hy : X.env.scope.names.lookup y = some .local) (ha : DA X W [a, b] am)
    (hw : swappedStores [.Tuple [.Name x px, .Name y py] kt pt] (.Tuple [a, b] k2 pt2) X.env = pure (some [x, y]))
    (hs : swapsWithSole [.Tuple [.Name x px, .Name y py] kt pt] (.Tuple [a, b] k2 pt2) pos.line X.env = pure false := by rfl) :
    DS X W (.Assign [.Tuple [.Name x px, .Name y py] kt pt] (.Tuple [a, b] k2 pt2) pos) (sPar i j am) := by
  refine PS.weak (ps_par hc hN hi hj hij hx hy ha hw hs) fun E σ H ⟨F, ι, ρ, st, S, R, q⟩ => fl_seq S R q fun ds st1 F1 ι1 H1 vs x1 S1 R1 r1 q1 => ?_
  split at q1
  · rename_i d1 d2
    obtain ⟨v1, v2, e, r1, r2⟩ := Reps.two (show Reps X.K F1 ι1 [d1, d2] vs from r1)
    exact ⟨v1, v2, e, q1 F1 ι1 H1 _ Ext.refl S1 ((R1.set r1 i).set r2 j)⟩
  · exact q1.elim

/-! ### loops -/
open Classical in
noncomputable def forL (held : List (Nat × List D)) (body : D → Rho → Sto → Fl) : List D → Rho → Sto → Fl
  | [], ρ, st => if heldOk held st then .next ρ st else .bad
  | d :: ds, ρ, st => if heldOk held st then (match body d ρ st with
    | .next ρ' st' => forL held body ds ρ' st'
    | .cnt ρ' st' => forL held body ds ρ' st'
    | .brk ρ' st' => .next ρ' st'
    | r => r) else .bad
def forB (gf : D → Rho → M Rho) (mb : Rho → Sto → Fl) : D → Rho → Sto → Fl := fun d ρ st => (nox (gf d ρ st)).fl ρ fun ρ' st' => mb ρ' st'
noncomputable def sFor (ms : Rho → M Src) (gf : D → Rho → M Rho) (mb : Rho → Sto → Fl) : Rho → Sto → Fl := fun ρ st => (ms ρ st).fl ρ fun src st1 => forL src.held (forB gf mb) src.items ρ st1
theorem ds_for {tg iter : Expr} {body : List Stmt} {ms : Rho → M Src} {js : List Nat} {gf : D → Rho → M Rho} {mb : Rho → Sto → Fl} (hp : PassesOwn (model X.prog X.w) X.A X.env X.xe) (hc : X.calm = true) (hi : DI X W tg iter ms) (hg : DG X js tg gf) (hb : DSs X W body mb)
    (hs : ∀ x, foldedSetIterable iter X.env x = pure x := by intro _; rfl) : DS X W (.For tg iter body [] pos) (sFor ms gf mb) := by
  refine PS.weak (ps_for hp hc hi hg hb hs) fun E σ H ⟨F, ι, ρ, st, S, R, q⟩ => fl_seq S R q fun src st1 F1 ι1 H1 J x1 S1 R1 hJ q1 => ?_
  have hJ : SrcIt X.K F1 ι1 src J := hJ
  refine ⟨fun i m σ' H' => m = src.items.length - i ∧ i ≤ src.items.length ∧ ∃ F' ι' ρ' st', Ext F1 ι1 H1 F' ι' H' ∧ Sim X.K F' ι' st' H' ∧ REnv X.K F' ι' ρ' σ' ∧ sPost X.K W E F' ι' H' (forL src.held (forB gf mb) (src.items.drop i) ρ' st'),
    ⟨_, rfl, Nat.zero_le _, F1, ι1, ρ, st1, Ext.refl, S1, R1, q1⟩, ?_⟩
  rintro i m σ' H' ⟨rfl, hi, F', ι', ρ', st', x', S', R', q'⟩
  by_cases hlt : i < src.items.length
  · right
    rw [List.drop_eq_getElem_cons hlt] at q'
    unfold forL at q'
    split at q'
    rotate_left
    · exact q'.elim
    rename_i ho
    refine ⟨hJ.go i F' ι' st' H' x'.grow S' ho hlt, fun σ'' H'' => ∃ m', m' < src.items.length - i ∧ _, fun σ'' H'' h => h, fun x H2 y => ?_⟩
    obtain ⟨F2, x2, S2, r2⟩ := hJ.yld i F' ι' st' H' x H2 src.items[i] x'.grow S' ho (by simp [hlt]) y
    refine ⟨F2, ι', ρ', st', _, S2, R'.ext x2, r2, ?_⟩
    unfold forB at q'
    cases e1 : gf src.items[i] ρ' st' with
    | exc _ _ => rw [e1] at q'; exact (q' : False).elim
    | bad => rw [e1] at q'; exact (q' : False).elim
    | ok ρ2 st2 =>
      rw [e1] at q'
      intro F3 ι3 H3 σ3 x3 S3 R3
      refine ⟨F3, ι3, ρ2, st2, S3, R3.1, ?_⟩
      have xx : Ext F' ι' H' F3 ι3 H3 := x2.trans x3
      have q'' := sPost_ext q' xx
      simp only [nox_ok, Out.fl_ok] at q''
      cases e2 : mb ρ2 st2 with
      | next ρ4 st4 =>
        rw [e2] at q''
        intro F4 ι4 H4 σ4 x4 S4 R4
        exact ⟨src.items.length - (i + 1), by omega, rfl, hlt, F4, ι4, ρ4, st4, (x'.trans xx).trans x4, S4, R4, sPost_ext q'' x4⟩
      | cnt ρ4 st4 =>
        rw [e2] at q''
        intro F4 ι4 H4 σ4 x4 S4 R4
        exact ⟨src.items.length - (i + 1), by omega, rfl, hlt, F4, ι4, ρ4, st4, (x'.trans xx).trans x4, S4, R4, sPost_ext q'' x4⟩
      | brk ρ4 st4 => rw [e2] at q''; exact q''
      | ret d st4 => rw [e2] at q''; exact q''
      | exc x ρ4 st4 => rw [e2] at q''; exact q''
      | bad => rw [e2] at q''; exact q''
  · left
    have e0 : i = src.items.length := by omega
    subst e0
    rw [List.drop_length] at q'
    unfold forL at q'
    split at q'
    rotate_left
    · exact q'.elim
    rename_i ho
    exact ⟨hJ.stop F' ι' st' H' x'.grow S' ho, q' F' ι' H' σ' Ext.refl S' R'⟩
/-- while: at most so many turns -/
def whileL (t : Rho → M Bool) (mb : Rho → Sto → Fl) : Nat → Rho → Sto → Fl
  | 0, _, _ => .bad
  | n + 1, ρ, st => (t ρ st).fl ρ fun b st1 => if b = true then (match mb ρ st1 with
    | .next ρ' st' => whileL t mb n ρ' st'
    | .cnt ρ' st' => whileL t mb n ρ' st'
    | .brk ρ' st' => .next ρ' st'
    | r => r) else .next ρ st1
def sWhile (n : Nat) (t : Rho → M Bool) (mb : Rho → Sto → Fl) : Rho → Sto → Fl := fun ρ st => whileL t mb n ρ st
theorem ds_while {n : Nat} {body : List Stmt} {mb : Rho → Sto → Fl} (hp : PassesOwn (model X.prog X.w) X.A X.env X.xe) (hc : DT X W c mt) (hb : DSs X W body mb) : DS X W (.While c body [] pos) (sWhile n mt mb) := by
  refine PS.weak (ps_while hp hc hb) fun E σ H ⟨F, ι, ρ, st, S, R, q⟩ => ?_
  refine ⟨fun m σ' H' => ∃ F' ι' ρ' st', Sim X.K F' ι' st' H' ∧ REnv X.K F' ι' ρ' σ' ∧ sPost X.K W E F' ι' H' (whileL mt mb m ρ' st'), ⟨n, F, ι, ρ, st, S, R, q⟩, ?_⟩
  rintro m σ' H' ⟨F', ι', ρ', st', S', R', q'⟩
  cases m with
  | zero => exact (q' : False).elim
  | succ m =>
    refine fl_seq S' R' q' fun a st1 F1 ι1 H1 b x1 S1 R1 r1 q1 => ?_
    have r1 : a = b := r1
    subst r1
    cases a with
    | false => exact q1 F1 ι1 H1 σ' Ext.refl S1 R1
    | true =>
      rw [if_pos rfl] at q1 ⊢
      refine ⟨fun σ'' H'' => ∃ m', m' < m + 1 ∧ _, fun σ'' H'' h => h, F1, ι1, ρ', st1, S1, R1, ?_⟩
      cases e2 : mb ρ' st1 with
      | next ρ4 st4 =>
        rw [e2] at q1
        exact fun F4 ι4 H4 σ4 x4 S4 R4 => ⟨m, Nat.lt_succ_self m, F4, ι4, ρ4, st4, S4, R4, sPost_ext q1 x4⟩
      | cnt ρ4 st4 =>
        rw [e2] at q1
        exact fun F4 ι4 H4 σ4 x4 S4 R4 => ⟨m, Nat.lt_succ_self m, F4, ι4, ρ4, st4, S4, R4, sPost_ext q1 x4⟩
      | brk ρ4 st4 => rw [e2] at q1; exact q1
      | ret d st4 => rw [e2] at q1; exact q1
      | exc x ρ4 st4 => rw [e2] at q1; exact q1
      | bad => rw [e2] at q1; exact q1
end
end Dn
/-! DnJ: functions: what a def promises, its calls, the end of a law. -/
namespace Dn
open PySem PySem.Spec PyProof.Rows L2
/-! ### what a call leaves behind in the store -/
mutual
def D.low (n : Nat) : D → Bool
  | .tup xs => D.lows n xs
  | .lst xs => D.lows n xs
  | .scr xs => D.lows n xs
  | .ref l => decide (l < n)
  | .non => true
  | .bl _ => true
  | .int _ => true
  | .str _ => true
  | .adr _ => true
def D.lows (n : Nat) : List D → Bool
  | [] => true
  | d :: ds => D.low n d && D.lows n ds
end
def MO.low (n : Nat) : MO → Bool
  | .lst xs => D.lows n xs
  | .dct _ => false
  | .ins _ fs => fs.all fun p => p.2.low n
section
variable {K : PySem.W.Frag} {F F' : Hp} {ι ι' : List Addr} {H H' : Hp} {st st' : Sto} {n : Nat}
mutual
theorem Rep.cut : ∀ (d : D) (v : V), Rep K F ι d v → d.low n = true → Rep K F (ι.take n) d v
  | .non, _, h, _ => by simpa only [Rep] using h
  | .bl _, _, h, _ => by simpa only [Rep] using h
  | .int _, _, h, _ => by simpa only [Rep] using h
  | .str _, _, h, _ => by simpa only [Rep] using h
  | .adr _, _, h, _ => by simpa only [Rep] using h
  | .tup xs, v, h, l => by
    simp only [Rep] at h ⊢
    simp only [D.low] at l
    obtain ⟨a, vs, e, q, r⟩ := h
    exact ⟨a, vs, e, q, Reps.cut xs vs r l⟩
  | .lst xs, v, h, l => by
    simp only [Rep] at h ⊢
    simp only [D.low] at l
    obtain ⟨a, vs, e, q, r⟩ := h
    exact ⟨a, vs, e, q, Reps.cut xs vs r l⟩
  | .scr xs, v, h, l => by
    simp only [Rep] at h ⊢
    simp only [D.low] at l
    obtain ⟨a, vs, e, q, r⟩ := h
    exact ⟨a, vs, e, q, Reps.cut xs vs r l⟩
  | .ref j, v, h, l => by
    simp only [Rep] at h ⊢
    simp only [D.low, decide_eq_true_eq] at l
    obtain ⟨a, e, q⟩ := h
    exact ⟨a, e, by rw [List.getElem?_take_of_lt l]; exact q⟩
theorem Reps.cut : ∀ (ds : List D) (vs : List V), Reps K F ι ds vs → D.lows n ds = true → Reps K F (ι.take n) ds vs
  | [], _, h, _ => by simpa only [Reps] using h
  | d :: ds, vs, h, l => by
    simp only [Reps] at h ⊢
    simp only [D.lows, Bool.and_eq_true] at l
    obtain ⟨v, r, e, h1, h2⟩ := h
    exact ⟨v, r, e, Rep.cut d v h1 l.1, Reps.cut ds r h2 l.2⟩
end
mutual
theorem Rep.isLow : ∀ (d : D) (v : V), Rep K F ι d v → d.low ι.length = true
  | .non, _, _ => by simp only [D.low]
  | .bl _, _, _ => by simp only [D.low]
  | .int _, _, _ => by simp only [D.low]
  | .str _, _, _ => by simp only [D.low]
  | .adr _, _, _ => by simp only [D.low]
  | .tup xs, v, h => by
    simp only [Rep] at h
    simp only [D.low]
    obtain ⟨a, vs, e, q, r⟩ := h
    exact Reps.isLow xs vs r
  | .lst xs, v, h => by
    simp only [Rep] at h
    simp only [D.low]
    obtain ⟨a, vs, e, q, r⟩ := h
    exact Reps.isLow xs vs r
  | .scr xs, v, h => by
    simp only [Rep] at h
    simp only [D.low]
    obtain ⟨a, vs, e, q, r⟩ := h
    exact Reps.isLow xs vs r
  | .ref j, v, h => by
    simp only [Rep] at h
    simp only [D.low, decide_eq_true_eq]
    obtain ⟨a, e, q⟩ := h
    exact (List.getElem?_eq_some_iff.mp q).1
theorem Reps.isLow : ∀ (ds : List D) (vs : List V), Reps K F ι ds vs → D.lows ι.length ds = true
  | [], _, _ => by simp only [D.lows]
  | d :: ds, vs, h => by
    simp only [Reps] at h
    simp only [D.lows, Bool.and_eq_true]
    obtain ⟨v, r, e, h1, h2⟩ := h
    exact ⟨Rep.isLow d v h1, Reps.isLow ds r h2⟩
end
theorem RepF.cut {fs : List (Str × D)} {gs : List (Str × V)} (h : RepF K F ι fs gs) (l : (fs.all fun p => p.2.low n) = true) : RepF K F (ι.take n) fs gs := by
  induction h with
  | nil => exact .nil
  | cons a b ih =>
    simp only [List.all_cons, Bool.and_eq_true] at l
    exact .cons ⟨a.1, Rep.cut _ _ a.2 l.1⟩ (ih l.2)
theorem RepF.isLow {fs : List (Str × D)} {gs : List (Str × V)} (h : RepF K F ι fs gs) : (fs.all fun p => p.2.low ι.length) = true := by
  induction h with
  | nil => rfl
  | cons a b ih =>
    simp only [List.all_cons, Bool.and_eq_true]
    exact ⟨Rep.isLow _ _ a.2, ih⟩
theorem ObjR.cut {a : Addr} {m : MO} (h : ObjR K F ι H a m) (l : m.low n = true) : ObjR K F (ι.take n) H a m := by
  cases m with
  | lst xs =>
    obtain ⟨vs, e, r⟩ := h
    exact ⟨vs, e, Reps.cut _ _ r l⟩
  | dct _ => exact h
  | ins C fs =>
    obtain ⟨dx, gs, e, r⟩ := h
    exact ⟨dx, gs, e, RepF.cut r l⟩
theorem ObjR.isLow {a : Addr} {m : MO} (h : ObjR K F ι H a m) : m.low ι.length = true := by
  cases m with
  | lst xs =>
    obtain ⟨vs, e, r⟩ := h
    exact Reps.isLow _ _ r
  | dct _ => exact h.elim
  | ins C fs =>
    obtain ⟨dx, gs, e, r⟩ := h
    exact RepF.isLow r
theorem Sim.isLow (S : Sim K F ι st H) {l : Nat} {m : MO} (e : st[l]? = some m) : m.low st.length = true := by
  have hl : l < ι.length := by rw [S.len]; exact (List.getElem?_eq_some_iff.mp e).1
  rw [← S.len]
  exact (S.obj l m _ e (List.getElem?_eq_getElem hl)).isLow
theorem Sim.take (S : Sim K F ι st H) (h : ∀ (l : Nat) (m : MO), (st.take n)[l]? = some m → m.low n = true) : Sim K F (ι.take n) (st.take n) H := by
  refine ⟨S.sub, S.kind, by rw [List.length_take, List.length_take, S.len], S.nd.sublist (List.take_sublist _ _), fun a q => S.free a (List.mem_of_mem_take q), fun a q => S.there a (List.mem_of_mem_take q), fun l m a e1 e2 => ?_⟩
  have hl : l < n := by
    have := (List.getElem?_eq_some_iff.mp e1).1
    rw [List.length_take] at this
    omega
  refine ObjR.cut (S.obj l m a ?_ ?_) (h l m e1)
  · rw [← List.getElem?_take_of_lt hl]; exact e1
  · rw [← List.getElem?_take_of_lt hl]; exact e2
theorem Ext.take (x : Ext F ι H F' ι' H') (h : ι.length ≤ n) : Ext F ι H F' (ι'.take n) H' := by
  refine ⟨x.f, fun l a q => ?_, x.keep, x.there, x.newF, fun a q => x.newI a (List.mem_of_mem_take q), ?_⟩
  · have hl := (List.getElem?_eq_some_iff.mp q).1
    rw [List.getElem?_take_of_lt (by omega)]
    exact x.i l a q
  · rw [List.length_take]
    have := x.long
    omega
end
/-- what the call made is dropped where nothing tells of it -/
def lowS (n : Nat) (st : Sto) : Prop := ∀ (l : Nat) (m : MO), st[l]? = some m → m.low n = true
def Xc.low (n : Nat) (x : Xc) : Bool := match x.fld with
  | none => true
  | some p => p.2.low n
/-- the changed entries tell of nothing new -/
def Tidy (st0 st : Sto) : Prop := st0.length ≤ st.length ∧ ∀ (l : Nat) (m : MO), l < st0.length → st[l]? = some m → st0[l]? = some m ∨ m.low st0.length = true
open Classical in
noncomputable def clean (st0 : Sto) (r : Out D) : Out D := match r with
  | .ok d st => if d.low st0.length = true ∧ Tidy st0 st then .ok d (st.take st0.length) else .ok d st
  | .exc x st => if x.low st0.length = true ∧ Tidy st0 st then .exc x (st.take st0.length) else .exc x st
  | .bad => .bad
section
variable {K : PySem.W.Frag} {W : WX} {σ : L2.St} {F F' : Hp} {ι ι' : List Addr} {H H' : Hp} {st st' : Sto} {Q : VK}
theorem clean_low (S : Sim K F ι st H) (h : Tidy st st') : lowS st.length (st'.take st.length) := fun l m e => by
  have hl : l < st.length := by
    have := (List.getElem?_eq_some_iff.mp e).1
    rw [List.length_take] at this
    omega
  rw [List.getElem?_take_of_lt hl] at e
  rcases h.2 l m hl e with q | q
  · exact S.isLow q
  · exact q
theorem clean_ok {d : D} {v : V} (S : Sim K F ι st H) (x : Ext F ι H F' ι' H') (S' : Sim K F' ι' st' H') (r : Rep K F' ι' d v) (q : post K W σ F ι H (pV K) (clean st (.ok d st')) Q) : Q v H' := by
  unfold clean at q
  dsimp only at q
  split at q
  · rename_i h
    exact q F' (ι'.take st.length) H' v (x.take (by rw [S.len]; exact Nat.le_refl _)) (S'.take (clean_low S h.2)) (Rep.cut _ _ r h.1)
  · exact q F' ι' H' v x S' r
theorem clean_exc {e : Xc} {cls : Value} {dd : Option Addr} (S : Sim K F ι st H) (x : Ext F ι H F' ι' H') (S' : Sim K F' ι' st' H') (r : XcR K F' ι' H' e cls dd) (q : post K W σ F ι H (pV K) (clean st (.exc e st')) Q) : W cls dd σ H' := by
  unfold clean at q
  dsimp only at q
  split at q
  · rename_i h
    refine q F' (ι'.take st.length) H' cls dd (x.take (by rw [S.len]; exact Nat.le_refl _)) (S'.take (clean_low S h.2)) ⟨r.1, ?_⟩
    have h1 := h.1
    have r2 := r.2
    unfold Xc.low at h1
    split
    · rename_i e1
      rw [e1] at r2
      exact r2
    · rename_i f d e1
      rw [e1] at r2 h1
      obtain ⟨a, v, q1, q2, q3⟩ := r2
      exact ⟨a, v, q1, q2, Rep.cut _ _ q3 h1⟩
  · exact q F' ι' H' cls dd x S' r
end
def flOut (r : Fl) : Out D := match r with
  | .next _ st => .ok .non st
  | .ret d st => .ok d st
  | .exc x _ st => .exc x st
  | _ => .bad
/-- the slots at a def's entry -/
def rho0 (n : Nat) (ds : List D) : Rho := ds.map some ++ List.replicate (n - ds.length) none
noncomputable def fnD (np nN : Nat) (body : Rho → Sto → Fl) : List D → M D := fun ds st => if ds.length = np then clean st (flOut (body (rho0 nN ds) st)) else .bad
def wE (E : XK) : WX := fun cls dd _ H => E cls dd H
def spD (K : PySem.W.Frag) (np : Nat) (spec : List D → M D) : Sp := fun vs H Q E => vs.length = np ∧ ∃ F ι st ds, Sim K F ι st H ∧ Reps K F ι ds vs ∧ post K (wE E) [] F ι H (pV K) (spec ds st) Q
/-- a def's promise, where no repr runs -/
structure FnG (P : Program) (w : World) (K : PySem.W.Frag) (mg : Str → Option Value) (base : Heap) (k : Nat) (f : Addr) (fd : FuncData) (ps : List Str) (sp : Sp) : Prop where
  len : ∀ vs H Q E, sp vs H Q E → vs.length = ps.length
  run : ∀ (B : Around) (fr : List Env) (s : Shared) (H : Hp) (ar : Args) (us : List Value) (vs : List V) (Q : VK) (E : XK), Room k B → B.guards = some [] → Env0 P w K mg base B fr s H → BindsTo s fd ar (ps.zip us) → Vals vs us → sp vs H Q E →
    codeAny (model P w) B (.call (.ref f) ar) (CR (L2.CX P w) fr P w H s Q E) s
/-- what a body may lean on -/
structure Bd (X : Cx) (W : WX) (k : Nat) : Prop where
  room : Room k X.A
  gd : X.A.guards = some []
  calm : X.calm = true
  nd : X.N.Nodup
  tk : Takes X W
theorem REnv.start {K : PySem.W.Frag} {F : Hp} {ι : List Addr} {ds : List D} {vs : List V} {N : List Str} (r : Reps K F ι ds vs) (hl : ds.length ≤ N.length) : REnv K F ι (rho0 N.length ds) (start N vs) := by
  have e := r.length
  refine ⟨?_, fun i d h => ?_⟩
  · unfold rho0 L2.start
    simp only [List.length_append, List.length_map, List.length_replicate]
    omega
  · unfold rho0 at h
    have hi : i < ds.length := by
      by_cases hi : i < ds.length
      · exact hi
      · rw [List.getElem?_append_right (by simpa using hi), List.getElem?_replicate] at h
        split at h <;> cases h
    rw [List.getElem?_append_left (by simpa using hi), List.getElem?_map] at h
    cases e1 : ds[i]? with
    | none => rw [e1] at h; cases h
    | some d1 =>
      rw [e1] at h
      cases h
      obtain ⟨v, q1, q2⟩ := r.get e1
      refine ⟨v, ?_, q2⟩
      unfold L2.start
      rw [List.getElem?_append_left (by rw [List.length_map]; omega), List.getElem?_map, q1]
      rfl
theorem body_end {K : PySem.W.Frag} {E : XK} {Q : VK} {F : Hp} {ι : List Addr} {H : Hp} {st : Sto} {r : Fl} (S : Sim K F ι st H) (q : post K (wE E) [] F ι H (pV K) (clean st (flOut r)) Q) :
    sPost K (wE E) { nx := fun _ H' => Q .non H', rt := Q } F ι H r := by
  cases r with
  | next ρ st' => exact fun F' ι' H' σ' x S' R' => clean_ok (v := V.non) S x S' (by simp only [Rep]) q
  | ret d st' => exact fun F' ι' H' v x S' r' => clean_ok S x S' r' q
  | exc e ρ st' => exact fun F' ι' H' cls dd σ' x S' R' r' => clean_exc (σ := []) S x S' r' q
  | brk _ _ => exact (q : False).elim
  | cnt _ _ => exact (q : False).elim
  | bad => exact (q : False).elim
section
variable {P : Program} {w : World} {K : PySem.W.Frag} {mg : Str → Option Value} {base : Heap}
/-- a def keeps its promise, by its body's meaning -/
theorem fnG_of {x qual : Str} {stm : Stmt} {f : Addr} {fd : FuncData} {N ps : List Str} {k : Nat} {m : Rho → Sto → Fl} (Fn : Fun K x qual stm f fd) (SC : FnScope N ps (defScope stm)) (hN : ps.length ≤ N.length)
    (hb : ∀ (cdv : Value) (B : Around) (fr : List Env) (s : Shared) (H : Hp) (E : XK), Bd (cxOf (L2.CX P w) P w K mg base N qual (defScope stm) f cdv B fr s H E) (wE E) k →
      PassesOwn (model P w) (B.deeper (envOfC qual (defScope stm) s.heap.objs.size f cdv)) (envOfC qual (defScope stm) s.heap.objs.size f cdv) (cxOf (L2.CX P w) P w K mg base N qual (defScope stm) f cdv B fr s H E).xe →
      DSs (cxOf (L2.CX P w) P w K mg base N qual (defScope stm) f cdv B fr s H E) (wE E) (defBody stm) m) :
    FnG P w K mg base (k + 1) f fd ps (spD K ps.length (fnD ps.length N.length m)) := by
  obtain ⟨oc, od, kV, doc, pm, an, cdv, ct, osl, rfl, lk, hcd⟩ := Fn.ex
  refine ⟨fun vs H Q E h => h.1, fun B fr s H ar us vs Q E hr hgd e0 hbn rv hsp => ?_⟩
  have hl : vs.length = ps.length := hsp.1
  have hKs : K.In s.heap := e0.mod.kin.keeps fun b o e => (e0.bs b o e).1
  have hlim : s.heap.NoLimit := e0.mod.nolimit.keeps fun b o e => (e0.bs b o e).1
  refine codeAny_call_function hr.depth (hKs _ _ lk) rfl SC.co SC.gen rfl (PySem.W.codeRec_of hKs hcd) (hbn _ _ _ _ ?_)
  refine wpAny_newFunctionEnv_cells SC.kind (fun ⟨y, u⟩ hy => ?_) fun env he s1 ic => ?_
  · rcases SC.par y (List.of_mem_zip hy).1 with q | q
    · exact .inl q
    · exact .inr ⟨q, PySem.W.cellsFrom_some _ _ _ (.inl q)⟩
  subst he
  refine ⟨hlim.keeps ic.toInCall.keep, codeAny_func ?_⟩
  obtain ⟨_, F, ι, st, ds, S, rs, q⟩ := hsp
  have hds : ds.length = ps.length := by rw [rs.length]; exact hl
  have I := inv_start (CX := L2.CX P w) (E := E) (cd := cdv) SC hr.hd e0 hl rv ic
  have bd : Bd (cxOf (L2.CX P w) P w K mg base N qual (defScope stm) f cdv B fr s H E) (wE E) k :=
    ⟨hr.deeper _, hgd, rfl, SC.nd, takes_of (X := cxOf (L2.CX P w) P w K mg base N qual (defScope stm) f cdv B fr s H E) (E := E) (E₁ := fun e' s'' => L2.CX P w fr H s E e' s'') rfl rfl rfl rfl⟩
  have hown := passes_of (X := cxOf (L2.CX P w) P w K mg base N qual (defScope stm) f cdv B fr s H E) (K := fun e s'' => L2.CX P w fr H s E e s'') (E₁ := fun e' s'' => L2.CX P w fr H s E e' s'') rfl
  unfold fnD at q
  rw [if_pos hds] at q
  refine wpAny_mono ((hb cdv B fr s H E bd hown).run [] s1 (start N vs) H { nx := fun _ H' => Q .non H', rt := Q } I ⟨F, ι, rho0 N.length ds, st, S, REnv.start rs (by omega), body_end S q⟩) (fun fl s' hs => ?_) fun e s' hs => hs
  cases fl with
  | ret u =>
    obtain ⟨v, σ', H', J, r', qq⟩ := hs
    exact ⟨v, H', J.os, J.bare, J.base, J.hok, r', qq⟩
  | next =>
    obtain ⟨σ', H', J, qq⟩ := hs
    exact ⟨V.non, H', J.os, J.bare, J.base, J.hok, rfl, qq⟩
  | brk =>
    obtain ⟨_, _, _, qq⟩ := hs
    exact False.elim qq
  | cont =>
    obtain ⟨_, _, _, qq⟩ := hs
    exact False.elim qq
/-- a def that may be called by its name -/
structure FnC (P : Program) (w : World) (K : PySem.W.Frag) (mg : Str → Option Value) (base : Heap) (k : Nat) (x : Str) (np : Nat) (spec : List D → M D) : Prop where
  ex : ∃ (f : Addr) (fd : FuncData) (ps : List Str), FnG P w K mg base k f fd ps (spD K np spec) ∧ mg x = some (.ref f) ∧ PySem.W.keepIn K (.ref f) = true ∧ Binds K fd ps []
end
section
variable {X : Cx} {W : WX} {k j : Nat} {x : Str} {np : Nat} {spec : List D → M D} {p pos : Pos} {e : Expr} {es : List Expr} {am : Rho → M (List D)}
theorem run_fnG {pins : List (Addr × Obj)} {σ : L2.St} {H : Hp} {s : Shared} {Q : VK} {us : List Value} {vs : List V} {f : Addr} {fd : FuncData} {ps : List Str} {sp : Sp} (F : FnG X.prog X.w X.K X.mg X.base k f fd ps sp) (hr : Room k X.A) (hgd : X.A.guards = some []) (hb : Binds X.K fd ps [])
    (tk : Takes X W) (I : Inv X pins σ H s) (r : Vals vs us) (h : sp vs H Q (fun cls dd H' => W cls dd σ H')) : wpAny (model X.prog X.w) X.A (call (.ref f) us) (EP X pins σ Q) X.xe s := by
  have hl : (us ++ []).length = ps.length := by rw [List.append_nil, ← r.length]; exact F.len _ _ _ _ h
  have bn := hb s us I.kIn hl
  rw [List.append_nil] at bn
  refine wpAny_call (codeAny_mono (F.run X.A X.stack s H ⟨us, []⟩ us vs Q _ hr hgd I.env0 bn r h) fun r s' hq => ?_)
  cases r with
  | error y => exact passAt tk σ pins H s y s' I hq
  | ok fl =>
    cases fl with
    | ret u => exact I.after hq
    | next => exact False.elim hq
    | brk => exact False.elim hq
    | cont => exact False.elim hq
def mCall (spec : List D → M D) (am : Rho → M (List D)) : Rho → M D := fun ρ st => (am ρ st).bind fun ds st1 => spec ds st1
theorem post_wE {α β : Type} {K : PySem.W.Frag} {σ : L2.St} {F : Hp} {ι : List Addr} {H : Hp} {R : Hp → Hp → List Addr → Hp → α → β → Prop} {r : Out α} {Q : β → Hp → Prop} (h : post K W σ F ι H R r Q) : post K (wE fun cls dd H' => W cls dd σ H') [] F ι H R r Q := by
  cases r with
  | ok a st => exact h
  | exc y st => exact h
  | bad => exact h
theorem spD_of {σ : L2.St} {F : Hp} {ι : List Addr} {H : Hp} {st : Sto} {ds : List D} {vs : List V} {Q : VK} {K : PySem.W.Frag} (S : Sim K F ι st H) (r : Reps K F ι ds vs) (hn : ds.length = np) (q : post K W σ F ι H (pV K) (spec ds st) Q) : spD K np spec vs H Q (fun cls dd H' => W cls dd σ H') :=
  ⟨by rw [← r.length]; exact hn, F, ι, st, ds, S, r, post_wE q⟩
/-- the length of the arguments, told by the spec -/
def NeedN (np : Nat) (spec : List D → M D) : Prop := ∀ ds st, ds.length ≠ np → spec ds st = .bad
theorem needN_fnD {nN : Nat} {m : Rho → Sto → Fl} : NeedN np (fnD np nN m) := fun ds st h => by unfold fnD; rw [if_neg h]
theorem de_call (B : Bd X W j) (C : FnC X.prog X.w X.K X.mg X.base k x np spec) (hk : k ≤ j) (hg : Gl X x) (nn : NeedN np spec) (ha : DA X W (e :: es) am) (hdb : (x == ("__debug__" : Str)) = false := by decide)
    (he : starEach (e :: es) X.env = (false, eval e X.env) :: starEach es X.env := by rfl) (hpl : (backTo pos (starEach es X.env)).any (·.1) = false := by rfl) : DE X W (.Call (.Name x p) (e :: es) [] pos) (mCall spec am) := by
  obtain ⟨f, fd, ps, F, hm, kp, hb⟩ := C.ex
  refine ⟨fun pins s σ H Q I ⟨F0, ι, ρ, st, S, R, q⟩ => ?_⟩
  refine wpAny_Call_Name_kw (ld_glob I hg hm ?_ hdb)
  refine PySem.W.callWith_K (h₀ := X.base) I.ok.mod.kin kp (thn (ha.run pos pins s σ H (fun vs H1 => spD X.K np spec vs H1 Q (fun cls dd H' => W cls dd σ H')) I ?_) fun us s1 ⟨vs, H1, I1, r, qq⟩ => ⟨I1.kIn, ?_⟩) he hpl
  · refine tG_seq back_V S R q fun ds st1 F1 ι1 H1 vs x1 S1 R1 r1 q1 => ?_
    by_cases hn : ds.length = np
    · exact spD_of S1 r1 hn q1
    · rw [nn ds st1 hn] at q1
      exact (q1 : False).elim
  · exact run_fnG F (B.room.mono hk) B.gd hb B.tk I1 r qq
theorem de_call0 (B : Bd X W j) (C : FnC X.prog X.w X.K X.mg X.base k x 0 spec) (hk : k ≤ j) (hg : Gl X x) (hdb : (x == ("__debug__" : Str)) = false := by decide) : DE X W (.Call (.Name x p) [] [] pos) (mCall spec mNil) := by
  obtain ⟨f, fd, ps, F, hm, kp, hb⟩ := C.ex
  refine ⟨fun pins s σ H Q I ⟨F0, ι, ρ, st, S, R, q⟩ => ?_⟩
  refine wpAny_Call_Name_kw (ld_glob I hg hm ?_ hdb)
  exact PySem.W.callWith_K0 I.kIn kp (run_fnG (us := []) F (B.room.mono hk) B.gd hb B.tk I .nil (spD_of (ds := []) S Reps.nil rfl q))
end
end Dn
/-! DnK: the end of a law. -/
namespace Dn
open PySem PySem.Spec PyProof.Rows L2
section
variable {P : Program} {w : World} {K : PySem.W.Frag} {mg mb : Str → Option Value} {k : Nat} {fa p : Addr} {fd : FuncData} {x : Str} {sp : Sp} {t : Shared} {us : List Value} {ns : List Int}
/-- from one abstract heap -/
theorem end_at (KX : K.In t.heap) (hns : t.heap.Ns mainGlobals mg) (hb : t.heap.Ns builtinsNs mb) (hbb : ∀ y : Str, y ≠ "__name__" → mb y = bootBuiltins y) (hlim : t.heap.NoLimit) (hg : t.gens = #[])
    (hp : t.heap.get? p = some { cls := .type "list", data := .seq us.toArray }) (hr : Room k callerA) (G : ∀ base : Heap, K.In base → base.Ns mainGlobals mg → FnG P w K mg base k fa fd [x] sp)
    (hbind : ∀ (s : Shared) (u : Value), BindsTo s fd ⟨[u], []⟩ [(x, u)]) {H : Hp} (hO : Only H) (hsp : sp [.ref p] H (fun v _ => v = .bl true) fun _ _ _ => False) (hok : HOk P w H t.heap) (one : ∀ c, H c ≠ none → c = p) (out : H p ≠ none → K.lookup p = none) :
    codeAny (model P w) callerA (.call (.ref fa) ⟨[.ref p], []⟩) (fun r t' => r = .ok (.ret (.bool true)) ∧ OldK t.heap t'.heap ∧ t'.os = t.os ∧ AllBare t'.gens) t := by
  have alone : ∀ {c : Addr} {o : Obj}, t.heap.get? c = some o → (∀ xs : Array Value, o.data ≠ .seq xs) → H c = none := fun {c o} e d => by
    cases q : H c with
    | none => rfl
    | some u =>
      obtain rfl : c = p := one c (by rw [q]; simp)
      rw [e] at hp
      cases hp
      exact absurd rfl (d us.toArray)
  have shown : ∀ {c : Addr} {f : Str → Option Value}, t.heap.Ns c f → (hidT t.heap H).Ns c f := fun {c f} ⟨o, es, n, e, d, r⟩ =>
    ⟨o, es, n, hidT_get e (alone e fun xs z => by rw [d] at z; cases z), d, r⟩
  have inB : K.In (hidT t.heap H) := fun c o e => hidT_get (KX c o e) (by
    cases q : H c with
    | none => rfl
    | some u =>
      obtain rfl : c = p := one c (by rw [q]; simp)
      have := out (by rw [q]; simp)
      rw [e] at this
      cases this)
  have M : Mod K mg (hidT t.heap H) := by
    refine ⟨inB, shown hns, ⟨mb, shown hb, hbb⟩, ?_⟩
    obtain ⟨f, h1, h2⟩ := hlim
    exact ⟨f, shown h1, h2⟩
  have E : Env0 P w K mg (hidT t.heap H) callerA [] t H := by
    refine ⟨rfl, M, fun c o e => of_hidT e, Nat.le_of_eq (hidT_size _ _), trivial, fun c hc => ?_, hok, .of_eq hg⟩
    cases (show c ∈ ([] : List Addr) from hc)
  refine codeAny_mono ((G _ inB (shown hns)).run callerA [] t H ⟨[.ref p], []⟩ [.ref p] [.ref p] _ _ hr rfl E (hbind t (.ref p)) (.cons rfl .nil) hsp) fun r t' h => ?_
  cases r with
  | error e =>
    obtain ⟨_, _, _, _, _, _, _, _, _, _, _, _, z⟩ := h
    exact z.elim
  | ok fl =>
    cases fl with
    | next => exact False.elim h
    | brk => exact False.elim h
    | cont => exact False.elim h
    | ret u =>
      obtain ⟨v, H', os, bare, un, hok', rv, hv⟩ := h
      obtain rfl : v = .bl true := hv
      obtain rfl : u = Value.bool true := rv
      refine ⟨rfl, OldK.of_keep fun c o e => ?_, os, bare⟩
      rcases hO c with z | ⟨o2, xs, z⟩
      · refine un.keep c o e z (fun y => ?_) (by simp)
        cases (show c ∈ ([] : List Addr) from y)
      · have y1 := (hok c _ z).1
        have y2 := (hok' c _ (un.frzs c o2 _ z)).1
        rw [e] at y1
        cases y1
        exact y2
theorem end_law (KX : K.In t.heap) (hns : t.heap.Ns mainGlobals mg) (hb : t.heap.Ns builtinsNs mb) (hbb : ∀ y : Str, y ≠ "__name__" → mb y = bootBuiltins y) (hlim : t.heap.NoLimit) (hg : t.gens = #[])
    (hp : t.heap.get? p = some { cls := .type "list", data := .seq us.toArray }) (hi : IntsAre us ns) (hl : ns.length ≤ sizeLine) (hr : Room k callerA) (G : ∀ base : Heap, K.In base → base.Ns mainGlobals mg → FnG P w K mg base k fa fd [x] sp)
    (hbind : ∀ (s : Shared) (u : Value), BindsTo s fd ⟨[u], []⟩ [(x, u)]) (hsp : ∀ H : Hp, Only H → SqL K H p (ns.map V.int) → sp [.ref p] H (fun v _ => v = .bl true) fun _ _ _ => False) :
    codeAny (model P w) callerA (.call (.ref fa) ⟨[.ref p], []⟩) (fun r t' => r = .ok (.ret (.bool true)) ∧ OldK t.heap t'.heap ∧ t'.os = t.os ∧ AllBare t'.gens) t := by
  have rv := vals_ints hi
  have ln := hi.length
  cases hk : K.lookup p with
  | some o =>
    have e := KX p o hk
    rw [hp] at e
    cases e
    let H : Hp := fun _ => none
    have nH : ∀ c, H c = none := fun _ => rfl
    have hS : SqL K H p (ns.map V.int) := .inr ⟨_, us.toArray, _, hk, rfl, rfl, rfl, by rw [List.size_toArray, ln]; exact hl, by simpa using rv⟩
    have hk0 : HOk P w H t.heap := fun c u z => by
      rw [nH c] at z
      cases z
    exact end_at KX hns hb hbb hlim hg hp hr G hbind (H := H) (fun c => .inl rfl) (hsp H (fun c => .inl rfl) hS) hk0 (fun c z => absurd (nH c) z) fun z => absurd (nH p) z
  | none =>
    let o : Obj := { cls := .type "list", data := .seq us.toArray }
    let H : Hp := fun c => if c = p then some (.frz o (.lst (ns.map V.int))) else none
    have atP : H p = some (.frz o (.lst (ns.map V.int))) := if_pos rfl
    have offP : ∀ c, c ≠ p → H c = none := fun c h => if_neg h
    have only : Only H := fun c => by
      by_cases h : c = p
      · exact .inr ⟨o, ns.map V.int, by rw [h]; exact atP⟩
      · exact .inl (offP c h)
    refine end_at KX hns hb hbb hlim hg hp hr G hbind (H := H) only (hsp H only (.inl (.inr ⟨o, atP⟩))) (fun c u z => ?_) (fun c z => ?_) fun _ => hk
    · by_cases h : c = p
      · subst h
        rw [atP] at z
        cases z
        exact ⟨hp, by rw [List.length_map]; exact hl, us, _, rv, hp⟩
      · rw [offP c h] at z
        cases z
    · by_cases h : c = p
      · exact h
      · exact absurd (offP c h) z
end
theorem reps_ints {K : PySem.W.Frag} {F : Hp} {ι : List Addr} : ∀ ns : List Int, Reps K F ι (ns.map D.int) (ns.map V.int)
  | [] => Reps.nil
  | n :: ns => Reps.cons (by simp only [Rep]) (reps_ints ns)
theorem sp_start {K : PySem.W.Frag} {spec : List D → M D} {H : Hp} {a : Addr} {ns : List Int} {st' : Sto} (e : spec [.scr (ns.map D.int)] [] = .ok (.bl true) st') (hO : Only H) (hS : SqL K H a (ns.map V.int)) :
    spD K 1 spec [.ref a] H (fun v _ => v = .bl true) fun _ _ _ => False := by
  refine ⟨rfl, H, [], [], [.scr (ns.map D.int)], ?_, ?_, ?_⟩
  · refine ⟨fun _ _ h => h, fun b o h => ?_, rfl, List.nodup_nil, (fun b h => nomatch h), (fun b h => nomatch h), (fun l m b h => nomatch h)⟩
    rcases hO b with q | ⟨o2, xs, q⟩
    · rw [q] at h; cases h
    · rw [q] at h; cases h; trivial
  · refine Reps.cons ?_ Reps.nil
    simp only [Rep]
    exact ⟨a, _, rfl, hS, reps_ints ns⟩
  · rw [e]
    intro F' ι' H' v x S r
    have r' : Rep K F' ι' (.bl true) v := r
    simpa only [Rep] using r'
theorem walkG {l : PySem.W.OpenLaw} {k : Nat} {q : Program} {loose : List Str} {XP : (Str → Option Value) → Heap → Prop} {YP : World → Heap → Prop} {d : DefRec} {K : Params → PySem.W.Frag} {spec : List D → M D} {x : Str}
    (hn : l.most = some 63) (hdf : d.params.defaults = []) (hr : Room k callerA)
    (hspec : ∀ ns : List Int, ns.length ≤ 63 → (∀ z ∈ ns, Builtin.Int.intBits z ≤ 1048576) → ∃ st', spec [.scr (ns.map D.int)] [] = .ok (.bl true) st')
    (hY : ∀ (w : World) (h : Heap), YP w h → (K w.params).In h)
    (G : ∀ (w : World) (mg : Str → Option Value) (fa : Addr) (h : Heap), (K w.params).In h → h.Ns mainGlobals mg → mg d.name = some (.ref fa) →
      ∃ fd : FuncData, (∀ (s : Shared) (u : Value), BindsTo s fd ⟨[u], []⟩ [(x, u)]) ∧ ∀ base : Heap, (K w.params).In base → base.Ns mainGlobals mg → FnG l.prog w (K w.params) mg base k fa fd [x] (spD (K w.params) 1 spec)) :
    PySem.W.WalkO q loose XP YP l.row.toRowW d [] (fun f vs => PySem.call f vs) := by
  refine Att.attach_callB hn hdf fun w s0 t mg mb fa o pm cd doc a vs ns Gr Y ho hd hcd hmg hobj hints hlen hbits hg => ?_
  have KX := hY w _ Y
  obtain ⟨fd, hb, hF⟩ := G w mg fa _ KX Gr.T.g hmg
  obtain ⟨st', e⟩ := hspec ns hlen hbits
  exact end_law KX Gr.T.g Gr.T.b Gr.T.builtins Gr.T.nolimit hg hobj hints (Nat.le_trans hlen (by decide)) hr hF hb fun H hO hS => sp_start e hO hS
end Dn
/-! DnL: methods of lists and texts, stores by place, starred items, sorting. -/
namespace Dn
open PySem PySem.Spec PyProof.Rows L2
/-! ### starred items -/
def mStar (m : Rho → M D) (r : Rho → M (List D)) : Rho → M (List D) := fun ρ st => (m ρ st).bind fun d st1 => match seqOf st1 d with
  | some xs => (r ρ st1).bind fun ds st2 => .ok (xs ++ ds) st2
  | none => .bad
section
variable {X : Cx} {W : WX} {p : Pos} {e : Expr} {es : List Expr} {m : Rho → M D} {r : Rho → M (List D)}
theorem da_star (he : DE X W e m) (hr : DA X W es r) (hs : starEach (.Starred e p :: es) X.env = (true, eval e X.env) :: starEach es X.env := by rfl) : DA X W (.Starred e p :: es) (mStar m r) := by
  refine PA.weak (StX.pa_star he hr hs) fun σ H Q ⟨F, ι, ρ, st, S, R, q⟩ => ?_
  refine tG_seq back_A S R q fun d st1 F1 ι1 H1 v x1 S1 R1 r1 q1 => ?_
  cases e1 : seqOf st1 d with
  | none => rw [e1] at q1; exact (q1 : False).elim
  | some xs =>
    rw [e1] at q1
    obtain ⟨a, vs, ev, hq, rr⟩ := S1.seq r1 e1
    refine ⟨a, vs, ev, hq.symm, ?_⟩
    exact tG_seq back_A S1 R1 q1 fun ds st2 F2 ι2 H2 ws x2 S2 R2 r2 q2 => q2 F2 ι2 H2 _ Ext.refl S2 ((rr.ext x2).append r2)
end
/-! ### methods -/
def D.isTy (st : Sto) (T : String) : D → Prop
  | .str _ => T = "str"
  | .int _ => T = "int"
  | .lst _ => T = "list"
  | .scr _ => T = "list"
  | .ref l => T = "list" ∧ ∃ xs, st[l]? = some (.lst xs)
  | _ => False
open Classical in
noncomputable def mMeth (T : String) (p : D → List D → M D) (mo : Rho → M D) (am : Rho → M (List D)) : Rho → M D := fun ρ st =>
  (mo ρ st).bind fun o st1 => if o.isTy st1 T then (am ρ st1).bind fun ds st2 => nox (p o ds st2) else .bad
def rM (K : PySem.W.Frag) (p : D → List D → M D) : V → List V → Hp → VK → Prop := fun x xs H Q => ∃ F ι st d ds d' st', Sim K F ι st H ∧ Rep K F ι d x ∧ Reps K F ι ds xs ∧ p d ds st = .ok d' st' ∧
  ∀ F' ι' H' v, Ext F ι H F' ι' H' → Sim K F' ι' st' H' → Rep K F' ι' d' v → Q v H'
theorem Sim.tyV {K : PySem.W.Frag} {F : Hp} {ι : List Addr} {st : Sto} {H : Hp} {d : D} {v : V} {T : String} (S : Sim K F ι st H) (r : Rep K F ι d v) (h : d.isTy st T) : L2.tyV K T v H := by
  cases d with
  | str z => simp only [Rep] at r; subst r; exact h
  | int i => simp only [Rep] at r; subst r; exact h
  | lst xs =>
    simp only [Rep] at r
    obtain ⟨a, vs, rfl, q, rr⟩ := r
    exact .inl ⟨h, vs, .inl (.inl (S.sub _ _ q))⟩
  | scr xs =>
    simp only [Rep] at r
    obtain ⟨a, vs, rfl, q, rr⟩ := r
    exact .inl ⟨h, vs, S.sqL q⟩
  | ref l =>
    simp only [Rep] at r
    obtain ⟨a, rfl, q⟩ := r
    obtain ⟨hT, xs, e⟩ := h
    obtain ⟨vs, e2, _⟩ := S.obj l _ a e q
    exact .inl ⟨hT, vs, .inl (.inl e2)⟩
  | non => exact h.elim
  | bl _ => exact h.elim
  | tup _ => exact h.elim
  | adr _ => exact h.elim
section
variable {X : Cx} {W : WX} {apos cpos : Pos} {o e : Expr} {es : List Expr} {mo : Rho → M D} {am : Rho → M (List D)} {T id : String} {name : Str} {p : D → List D → M D}
theorem nox_eq {α : Type} {r : Out α} {d : α} {st : Sto} (h : nox r = .ok d st) : r = .ok d st := by
  cases r with
  | ok a s => exact h
  | exc _ _ => cases h
  | bad => cases h
theorem de_m (pa : PlainAttrs T) (slot : Slot T name id) (hty : typeOf (.builtin id) = pure (.type "method_descriptor")) (hm : MtR X id (rM X.K p)) (ho : DE X W o mo) (ha : DA X W (e :: es) am)
    (hbase : attributeBase o name X.env (eval o X.env) = eval o X.env := by rfl)
    (hfew : ((backTo cpos (starEach (e :: es) X.env)).all (fun x => !x.1) && (backToKw cpos (keywordEach [] X.env)).all (fun x => x.1.isSome)
      && decide ((e :: es).length + ([] : List Keyword).length + (if ([] : List Keyword).isEmpty then 0 else 1) < 30)) = true := by rfl)
    (hline : (apos.endLine == cpos.line) = true := by rfl) (hs : starEach (e :: es) X.env = (false, eval e X.env) :: starEach es X.env := by rfl) (hpl : (backTo cpos (starEach es X.env)).any (·.1) = false := by rfl) :
    DE X W (.Call (.Attribute o name apos) (e :: es) [] cpos) (mMeth T p mo am) := by
  refine PE.weak (pe_bm pa slot hty hm ho ha hbase hfew hline hs hpl) fun σ H Q ⟨F, ι, ρ, st, S, R, q⟩ => ?_
  refine tG_seq back_V S R q fun d st1 F1 ι1 H1 v x1 S1 R1 r1 q1 => ?_
  split at q1
  rotate_left
  · exact (q1 : False).elim
  rename_i hT
  refine ⟨S1.tyV r1 hT, ?_⟩
  refine tG_seq back_V S1 R1 q1 fun ds st2 F2 ι2 H2 vs x2 S2 R2 r2 q2 => ?_
  cases e1 : p d ds st2 with
  | ok d' st' =>
    rw [e1] at q2
    exact ⟨F2, ι2, st2, d, ds, d', st', S2, r1.ext x2, r2, e1, q2⟩
  | exc _ _ => rw [e1] at q2; exact (q2 : False).elim
  | bad => rw [e1] at q2; exact (q2 : False).elim
theorem de_m0 (pa : PlainAttrs T) (slot : Slot T name id) (hty : typeOf (.builtin id) = pure (.type "method_descriptor")) (hm : MtR X id (rM X.K p)) (ho : DE X W o mo)
    (hbase : attributeBase o name X.env (eval o X.env) = eval o X.env := by rfl) (hline : (apos.endLine == cpos.line) = true := by rfl) : DE X W (.Call (.Attribute o name apos) [] [] cpos) (mMeth T p mo mNil) := by
  refine PE.weak (pe_bm0 pa slot hty hm ho hbase hline) fun σ H Q ⟨F, ι, ρ, st, S, R, q⟩ => ?_
  refine tG_seq back_V S R q fun d st1 F1 ι1 H1 v x1 S1 R1 r1 q1 => ?_
  split at q1
  rotate_left
  · exact (q1 : False).elim
  rename_i hT
  refine ⟨S1.tyV r1 hT, ?_⟩
  change post _ _ _ _ _ _ _ (nox (p d [] st1)) Q at q1
  cases e1 : p d [] st1 with
  | ok d' st' =>
    rw [e1] at q1
    exact ⟨F1, ι1, st1, d, [], d', st', S1, r1, Reps.nil, e1, q1⟩
  | exc _ _ => rw [e1] at q1; exact (q1 : False).elim
  | bad => rw [e1] at q1; exact (q1 : False).elim
end
/-- the list in the store -/
theorem Sim.mut {K : PySem.W.Frag} {F : Hp} {ι : List Addr} {st : Sto} {H : Hp} {l : Nat} {v : V} {xs : List D} (S : Sim K F ι st H) (r : Rep K F ι (.ref l) v) (h : st[l]? = some (.lst xs)) : ∃ a vs, v = .ref a ∧ ι[l]? = some a ∧ H a = some (.lst vs) ∧ Reps K F ι xs vs := by
  simp only [Rep] at r
  obtain ⟨a, rfl, q⟩ := r
  obtain ⟨vs, e2, rr⟩ := S.obj l _ a h q
  exact ⟨a, vs, rfl, q, e2, rr⟩
theorem write_lst {K : PySem.W.Frag} {F : Hp} {ι : List Addr} {st : Sto} {H : Hp} {l : Nat} {a : Addr} {vs ws : List V} {ys : List D} (S : Sim K F ι st H) (q : ι[l]? = some a) (h : H a = some (.lst vs)) (r : Reps K F ι ys ws) :
    Ext F ι H F ι (upd H a (.lst ws)) ∧ Sim K F ι (st.set l (.lst ys)) (upd H a (.lst ws)) :=
  ⟨Ext.write q (by rw [h]; simp), S.write q ⟨ws, upd_same, r⟩⟩
def onL (st : Sto) (d : D) (f : Nat → List D → Out D) : Out D := match d with
  | .ref l => match st[l]? with
    | some (.lst xs) => f l xs
    | _ => .bad
  | _ => .bad
theorem onL_ok {st st' : Sto} {d d' : D} {f : Nat → List D → Out D} (h : onL st d f = .ok d' st') : ∃ l xs, d = .ref l ∧ st[l]? = some (.lst xs) ∧ f l xs = .ok d' st' := by
  unfold onL at h
  split at h
  · split at h
    · rename_i l _ xs e
      exact ⟨l, xs, rfl, e, h⟩
    · cases h
  · cases h
theorem rep_non {K : PySem.W.Frag} {F : Hp} {ι : List Addr} : Rep K F ι .non .non := by simp only [Rep]
def pAppend : D → List D → M D := fun d ds st => onL st d fun l xs => match ds with
  | [y] => if xs.length < SZ then .ok .non (st.set l (.lst (xs ++ [y]))) else .bad
  | _ => .bad
def pExtend : D → List D → M D := fun d ds st => onL st d fun l xs => match ds with
  | [y] => match lstOf st y with
    | some ys => if xs.length + ys.length ≤ SZ then .ok .non (st.set l (.lst (xs ++ ys))) else .bad
    | none => .bad
  | _ => .bad
def pPop : D → List D → M D := fun d ds st => onL st d fun l xs => match ds with
  | [] => match xs[xs.length - 1]? with
    | some y => .ok y (st.set l (.lst xs.dropLast))
    | none => .bad
  | _ => .bad
noncomputable def pPopAt : D → List D → M D := fun d ds st => onL st d fun l xs => match ds with
  | [.int i] => @ite _ (-(2 ^ 63) ≤ i ∧ i < 2 ^ 63) (Classical.propDecidable _) (match seqIndex? i xs.length with
    | some k => match xs[k]? with
      | some y => .ok y (st.set l (.lst (xs.eraseIdx k)))
      | none => .bad
    | none => .bad) .bad
  | _ => .bad
noncomputable def pInsert : D → List D → M D := fun d ds st => onL st d fun l xs => match ds with
  | [.int i, y] => @ite _ (xs.length < SZ ∧ 0 ≤ i ∧ i < 2 ^ 63) (Classical.propDecidable _) (.ok .non (st.set l (.lst (xs.take i.toNat ++ [y] ++ xs.drop i.toNat)))) (.bad)
  | _ => .bad
theorem Reps.take' {K : PySem.W.Frag} {F : Hp} {ι : List Addr} : ∀ {ds : List D} {vs : List V} (n : Nat), Reps K F ι ds vs → Reps K F ι (ds.take n) (vs.take n)
  | [], _, n, h => by simp only [Reps] at h; subst h; simp only [List.take_nil]; exact Reps.nil
  | d :: ds, _, 0, h => by simp only [List.take_zero]; exact Reps.nil
  | d :: ds, _, n + 1, h => by
    simp only [Reps] at h
    obtain ⟨v, r, rfl, h1, h2⟩ := h
    exact Reps.cons h1 (Reps.take' n h2)
theorem Reps.drop' {K : PySem.W.Frag} {F : Hp} {ι : List Addr} : ∀ {ds : List D} {vs : List V} (n : Nat), Reps K F ι ds vs → Reps K F ι (ds.drop n) (vs.drop n)
  | [], _, n, h => by simp only [Reps] at h; subst h; simp only [List.drop_nil]; exact Reps.nil
  | d :: ds, _, 0, h => h
  | d :: ds, _, n + 1, h => by
    simp only [Reps] at h
    obtain ⟨v, r, rfl, h1, h2⟩ := h
    exact Reps.drop' n h2
theorem Reps.erase {K : PySem.W.Frag} {F : Hp} {ι : List Addr} : ∀ {ds : List D} {vs : List V} (n : Nat), Reps K F ι ds vs → Reps K F ι (ds.eraseIdx n) (vs.eraseIdx n)
  | [], _, n, h => by simp only [Reps] at h; subst h; exact Reps.nil
  | d :: ds, _, 0, h => by
    simp only [Reps] at h
    obtain ⟨v, r, rfl, h1, h2⟩ := h
    exact h2
  | d :: ds, _, n + 1, h => by
    simp only [Reps] at h
    obtain ⟨v, r, rfl, h1, h2⟩ := h
    exact Reps.cons h1 (Reps.erase n h2)
theorem Reps.setAt {K : PySem.W.Frag} {F : Hp} {ι : List Addr} {d : D} {v : V} (hd : Rep K F ι d v) : ∀ {ds : List D} {vs : List V} (n : Nat), Reps K F ι ds vs → Reps K F ι (ds.set n d) (vs.set n v)
  | [], _, n, h => by simp only [Reps] at h; subst h; exact Reps.nil
  | e :: ds, _, 0, h => by
    simp only [Reps] at h
    obtain ⟨v, r, rfl, h1, h2⟩ := h
    exact Reps.cons hd h2
  | e :: ds, _, n + 1, h => by
    simp only [Reps] at h
    obtain ⟨v, r, rfl, h1, h2⟩ := h
    exact Reps.cons h1 (Reps.setAt hd n h2)
theorem Reps.dropL {K : PySem.W.Frag} {F : Hp} {ι : List Addr} {ds : List D} {vs : List V} (h : Reps K F ι ds vs) : Reps K F ι ds.dropLast vs.dropLast := by
  rw [List.dropLast_eq_take, List.dropLast_eq_take, h.length]
  exact Reps.take' _ h
theorem Reps.two' {K : PySem.W.Frag} {F : Hp} {ι : List Addr} {d e : D} {vs : List V} (h : Reps K F ι [d, e] vs) : ∃ v w, vs = [v, w] ∧ Rep K F ι d v ∧ Rep K F ι e w := by
  simp only [Reps] at h
  obtain ⟨v, r, rfl, h1, w, r', rfl, h2, rfl⟩ := h
  exact ⟨v, w, rfl, h1, h2⟩
theorem Reps.one' {K : PySem.W.Frag} {F : Hp} {ι : List Addr} {d : D} {vs : List V} (h : Reps K F ι [d] vs) : ∃ v, vs = [v] ∧ Rep K F ι d v := by
  simp only [Reps] at h
  obtain ⟨v, r, rfl, h1, rfl⟩ := h
  exact ⟨v, rfl, h1⟩
theorem mtM {X : Cx} {id : String} {r : V → List V → Hp → VK → Prop} {p : D → List D → M D} (h : MtR X id r) (w : ∀ x xs H Q, rM X.K p x xs H Q → r x xs H Q) : MtR X id (rM X.K p) := fun pins s σ H x xs v us Q I rx rxs q => h pins s σ H x xs v us Q I rx rxs (w _ _ _ _ q)
section
variable {X : Cx}
theorem mt_pAppend : MtR X "list.append" (rM X.K pAppend) := mtM mt_append fun x xs H Q ⟨F, ι, st, d, ds, d', st', S, rd, rds, e, q⟩ => by
  obtain ⟨l, ys, rfl, hl, e⟩ := onL_ok e
  split at e
  · split at e
    · rename_i y hz
      cases e
      obtain ⟨a, vs, rfl, q1, q2, q3⟩ := S.mut rd hl
      obtain ⟨v, rfl, rv⟩ := rds.one'
      obtain ⟨x1, S1⟩ := write_lst S q1 q2 (q3.snoc rv)
      exact ⟨a, vs, v, rfl, rfl, q2, by rw [← q3.length]; exact sz_lt (Nat.le_of_lt hz), q _ _ _ _ x1 S1 rep_non⟩
    · cases e
  · cases e
theorem mt_pExtend : MtR X "list.extend" (rM X.K pExtend) := mtM mt_extend fun x xs H Q ⟨F, ι, st, d, ds, d', st', S, rd, rds, e, q⟩ => by
  obtain ⟨l, ys, rfl, hl, e⟩ := onL_ok e
  split at e
  · split at e
    · split at e
      · rename_i y zs hy hz
        cases e
        obtain ⟨a, vs, rfl, q1, q2, q3⟩ := S.mut rd hl
        obtain ⟨v, rfl, rv⟩ := rds.one'
        obtain ⟨b, ws, rfl, hb, rb⟩ := S.lst rv hy
        obtain ⟨x1, S1⟩ := write_lst S q1 q2 (q3.append rb)
        exact ⟨a, b, vs, ws, rfl, rfl, q2, hb, by rw [← q3.length, ← rb.length]; exact sz_le hz, q _ _ _ _ x1 S1 rep_non⟩
      · cases e
    · cases e
  · cases e
theorem mt_pPop : MtR X "list.pop" (rM X.K pPop) := mtM mt_pop fun x xs H Q ⟨F, ι, st, d, ds, d', st', S, rd, rds, e, q⟩ => by
  obtain ⟨l, ys, rfl, hl, e⟩ := onL_ok e
  split at e
  · split at e
    · rename_i y hy
      cases e
      obtain ⟨a, vs, rfl, q1, q2, q3⟩ := S.mut rd hl
      obtain ⟨v, hv, rv⟩ := q3.get hy
      obtain ⟨x1, S1⟩ := write_lst S q1 q2 q3.dropL
      simp only [Reps] at rds
      exact ⟨a, vs, v, rfl, rds, q2, by rw [← q3.length]; exact hv, q _ _ _ _ x1 S1 rv⟩
    · cases e
  · cases e
theorem mt_pPopAt : MtR X "list.pop" (rM X.K pPopAt) := mtM mt_popAt fun x xs H Q ⟨F, ι, st, d, ds, d', st', S, rd, rds, e, q⟩ => by
  obtain ⟨l, ys, rfl, hl, e⟩ := onL_ok e
  split at e
  · split at e
    · split at e
      · split at e
        · rename_i hi _ k hk _ y hy
          cases e
          obtain ⟨a, vs, rfl, q1, q2, q3⟩ := S.mut rd hl
          obtain ⟨v, hv, rv⟩ := q3.get hy
          obtain ⟨x1, S1⟩ := write_lst S q1 q2 (q3.erase k)
          obtain ⟨u, rfl, ru⟩ := rds.one'
          simp only [Rep] at ru
          subst ru
          exact ⟨a, vs, _, k, v, rfl, rfl, q2, hi.1, hi.2, by rw [← q3.length]; exact hk, hv, q _ _ _ _ x1 S1 rv⟩
        · cases e
      · cases e
    · cases e
  · cases e
theorem mt_pInsert : MtR X "list.insert" (rM X.K pInsert) := mtM mt_insert fun x xs H Q ⟨F, ι, st, d, ds, d', st', S, rd, rds, e, q⟩ => by
  obtain ⟨l, ys, rfl, hl, e⟩ := onL_ok e
  split at e
  · split at e
    · rename_i i y _ hi
      cases e
      obtain ⟨a, vs, rfl, q1, q2, q3⟩ := S.mut rd hl
      obtain ⟨u, v, rfl, ru, rv⟩ := rds.two'
      simp only [Rep] at ru
      subst ru
      obtain ⟨x1, S1⟩ := write_lst S q1 q2 (((q3.take' i.toNat).append (Reps.cons rv Reps.nil)).append (q3.drop' i.toNat))
      exact ⟨a, vs, i, v, rfl, rfl, q2, by rw [← q3.length]; exact sz_lt (Nat.le_of_lt hi.1), hi.2.1, hi.2.2, q _ _ _ _ x1 S1 rep_non⟩
    · cases e
  · cases e
end
/-! ### o[i] = v -/
def gSubD (mo mi : Rho → M D) : D → Rho → M Rho := fun d ρ st => (mo ρ st).bind fun o st1 => (mi ρ st1).bind fun i st2 => match o, i with
  | .ref l, .int k => match st2[l]? with
    | some (.lst xs) => match ixN xs.length k with
      | some j => .ok ρ (st2.set l (.lst (xs.set j d)))
      | none => .bad
    | _ => .bad
  | _, _ => .bad
section
variable {X : Cx} {pos : Pos} {o i : Expr} {mo mi : Rho → M D}
theorem dg_sub (ho : DE X wN o mo) (hi : DE X wN i mi)
    (ha : ∀ v, assign (.Subscript o i pos) X.env v = (do
      let ov ← holding [v] (eval o X.env)
      let iv ← holding [v, ov] (eval i X.env)
      standAt pos
      holding [v, ov, iv] (setItem ov iv v)
      release [v, ov, iv] []) := by intro _; rfl) : DG X [] (.Subscript o i pos) (gSubD mo mi) := by
  refine PG.weak (pg_sub ho hi set_list ha) fun v σ H Q ⟨F, ι, ρ, st, d, S, R, r, q⟩ => ?_
  have bk : Back (pR X.K [] σ) := fun _ _ _ _ _ _ _ _ h => h
  refine tG_seq bk S R q fun od st1 F1 ι1 H1 ov x1 S1 R1 r1 q1 => ?_
  refine tG_seq bk S1 R1 q1 fun id st2 F2 ι2 H2 iv x2 S2 R2 r2 q2 => ?_
  split at q2
  · split at q2
    · split at q2
      · rename_i l k _ xs hl _ j hj
        obtain ⟨a, vs, rfl, e1, e2, e3⟩ := S2.mut (r1.ext x2) hl
        have r2 : iv = V.int k := by simpa only [pV, Rep] using r2
        subst r2
        obtain ⟨x3, S3⟩ := write_lst S2 e1 e2 (e3.setAt ((r.ext x1).ext x2) j)
        exact ⟨a, vs, k, j, rfl, rfl, e2, by rw [← e3.length]; exact hj, q2 _ _ _ _ x3 S3 ⟨R2.ext x3, fun vs _ => rfl⟩⟩
      · exact (q2 : False).elim
    · exact (q2 : False).elim
  · exact (q2 : False).elim
end
end Dn
/-! DnM: sorted(..), tuple(range(..)), list(range(..)). -/
namespace Dn
open PySem PySem.Spec PyProof.Rows L2
mutual
theorem reads_lt {h : Heap} : ∀ (d : PyData) (v : Value) (as : List Addr), PySem.W.alike d d = true → Reads h v d as → ∀ a ∈ as, a < h.objs.size
  | .none, _, _, _, r, a, ha => by cases r; cases ha
  | .bool _, _, _, _, r, a, ha => by cases r; cases ha
  | .int _, _, _, _, r, a, ha => by cases r; cases ha
  | .str _, _, _, _, r, a, ha => by cases r; cases ha
  | .list xs, _, _, hal, r, a, ha => by
    cases r with
    | list h1 h2 h3 h4 =>
      rcases List.mem_cons.mp ha with e | e
      · rw [e]; exact Heap.lt_size h1
      · exact readsAll_lt xs _ _ (by simpa [PySem.W.alike] using hal) h4 a e
  | .tuple xs, _, _, hal, r, a, ha => by
    cases r with
    | tuple h1 h2 h3 h4 => exact readsAll_lt xs _ _ (by simpa [PySem.W.alike] using hal) h4 a ha
  | .dict _, _, _, hal, _, _, _ => absurd hal (by simp [PySem.W.alike])
theorem readsAll_lt {h : Heap} : ∀ (ds : List PyData) (vs : List Value) (as : List Addr), PySem.W.alikeAll ds ds = true → ReadsAll h vs ds as → ∀ a ∈ as, a < h.objs.size
  | [], _, _, _, r, a, ha => by cases r; cases ha
  | d :: ds, _, _, hal, r, a, ha => by
    cases r with
    | cons h1 h2 =>
      rcases List.mem_append.mp ha with e | e
      · exact reads_lt d _ _ (PySem.W.alike_all_cons hal).1 h1 a e
      · exact readsAll_lt ds _ _ (PySem.W.alike_all_cons hal).2 h2 a e
end
/-- pairs of a value by value and its value in the heap -/
theorem each_pairs {K : PySem.W.Frag} {F : Hp} {ι : List Addr} : ∀ {ds : List D} {vs : List V} {us : List Value}, Reps K F ι ds vs → Vals vs us → PySem.W.EachIs (fun u (p : D × V) => RelV p.2 u ∧ Rep K F ι p.1 p.2) us (ds.zip vs)
  | [], _, _, h, r => by
    simp only [Reps] at h
    subst h
    cases r
    exact .nil
  | d :: ds, _, _, h, r => by
    simp only [Reps] at h
    obtain ⟨v, ws, rfl, h1, h2⟩ := h
    cases r with
    | cons r1 r2 => exact .cons ⟨r1, h1⟩ (each_pairs h2 r2)
theorem pairs_each {K : PySem.W.Frag} {F : Hp} {ι : List Addr} : ∀ {bs : List (D × V)} {us : List Value}, PySem.W.EachIs (fun u (p : D × V) => RelV p.2 u ∧ Rep K F ι p.1 p.2) us bs → Reps K F ι (bs.map (·.1)) (bs.map (·.2)) ∧ Vals (bs.map (·.2)) us
  | [], _, h => by cases h; exact ⟨Reps.nil, .nil⟩
  | b :: bs, _, h => by
    cases h with
    | cons h1 h2 =>
      obtain ⟨a, c⟩ := pairs_each h2
      exact ⟨Reps.cons h1.2 a, .cons h1.1 c⟩
theorem zip_fst {K : PySem.W.Frag} {F : Hp} {ι : List Addr} {ds : List D} {vs : List V} (h : Reps K F ι ds vs) : (ds.zip vs).map (·.1) = ds := List.map_fst_zip (Nat.le_of_eq h.length)
theorem each_mem2 {α β : Type} {R : α → β → Prop} : ∀ {as : List α} {bs : List β}, PySem.W.EachIs R as bs → PySem.W.EachIs (fun a b => R a b ∧ b ∈ bs) as bs
  | _, _, .nil => .nil
  | _, _, .cons h t => .cons ⟨h, List.mem_cons_self⟩ ((each_mem2 t).mono fun _ _ q => ⟨q.1, List.mem_cons_of_mem _ q.2⟩)
/-- the sorted list of a list or tuple of alike data -/
def sortD (ds : List D) : List D := ds.mergeSort (PySem.W.dataLe false toP)
open Classical in
noncomputable def pSorted : Sto → List D → Option (List D) := fun st ds => match ds with
  | [d] => match seqOf st d with
    | some xs => if xs.length ≤ SZ ∧ (∀ x ∈ xs, isP x = true ∧ (toP x).depth ≤ 50) ∧ PySem.W.AllAlike (xs.map toP) ∧ PySem.W.Sortable (xs.map toP) then some (sortD xs) else none
    | none => none
  | _ => none
section
variable {X : Cx} {K : PySem.W.Frag} {F : Hp} {ι : List Addr} {st : Sto} {H : Hp}
theorem rep_dp (S : Sim K F ι st H) {d : D} {v : V} (r : Rep K F ι d v) (h : isP d = true) : Dp K H v (toP d) := by
  refine S.dp r ?_
  unfold dat
  split
  · simp [isP] at h
  · rw [if_pos h]
theorem call_pSorted (hc : X.calm = true) (hu : X.A.units + 70 < cLine) : CallR X (.builtin "sorted") (rBL X.K pSorted) := by
  intro pins s σ H vs us Q I rv ⟨F, ι, st, ds, d, S, ra, e, q⟩
  unfold pSorted at e
  split at e
  rotate_left
  · cases e
  rename_i d1
  cases e1 : seqOf st d1 with
  | none => rw [e1] at e; cases e
  | some xs =>
    rw [e1] at e
    dsimp only at e
    split at e
    rotate_left
    · cases e
    rename_i hok
    obtain ⟨hsz, hp, hal, hso⟩ := hok
    obtain rfl : sortD xs = d := Option.some.inj e
    obtain ⟨v, rfl, rd⟩ := ra.one'
    obtain ⟨u, rfl, ru⟩ := rv.one
    obtain ⟨a, ws, rfl, hq, rr⟩ := S.seq rd e1
    cases ru
    -- the object
    obtain ⟨T, o, its, n, hT, ho, hcl, hd, rits, hz⟩ : ∃ (T : String) (o : Obj) (its : List Value) (n : Nat), (T = "list" ∨ T = "tuple") ∧ s.heap.get? a = some o ∧ o.cls = .type T ∧ o.data = .seq its.toArray n ∧ Vals ws its ∧ ws.length ≤ sizeLine := by
      rcases hq with hq | hq
      · obtain ⟨its, r, pl, hz⟩ := I.list hq
        obtain ⟨o, ho, hc, n, hd⟩ := pl.isList
        exact ⟨"list", o, its, n, .inl rfl, ho, hc, hd, r, hz⟩
      · obtain ⟨its, r, pl, hz⟩ := I.tuple hq
        obtain ⟨o, ho, hc, n, hd⟩ := pl
        exact ⟨"tuple", o, its, n, .inr rfl, ho, hc, hd, r, hz⟩
    have hl := rits.length
    refine Calls.call_function_entry PyProof.Rows.kind_sorted PyProof.Rows.plain_sorted PyProof.Rows.entry_sorted (PyProof.Rows.args_sorted1 _) ?_
    unfold Builtin.«sorted»
    refine wpAny_bind (m := checkCount "sorted" 1 1 _) (wpAny_pure ?_)
    refine wpAny_bind (wpAny_collect_seq a hT ho hcl hd (fun h' hk => ?_) (by rw [List.size_toArray]; omega))
    have I1 : Inv X pins σ H { s with heap := h' } := I.kept (t' := s.toks) hk
    have ei : its.toArray.toList = its := by simp
    rw [ei]
    refine wpAny_bind (wpAny_newList ?_ (by omega))
    have hoL : (h'.push (seqObj "list" its.toArray 0)).get? h'.objs.size = some (seqObj "list" its.toArray 0) := Heap.get?_push_size _ rfl
    have ee := each_pairs rr rits
    have er : PySem.W.EachIs (fun u (b : D × V) => ∃ as, Reads (h'.push (seqObj "list" its.toArray 0)) u (toP b.1) as ∧ h'.objs.size ∉ as) its (xs.zip ws) := by
      refine (each_mem2 ee).mono fun u b ⟨⟨h1, h2⟩, hb⟩ => ?_
      have hb1 : b.1 ∈ xs := (List.of_mem_zip (show (b.1, b.2) ∈ xs.zip ws from hb)).1
      obtain ⟨as, r⟩ := Dp.reads I1 _ _ _ (rep_dp S h2 (hp b.1 hb1).1) h1
      refine ⟨as, PyProof.Rows.Reads.keeps (fun _ _ => Heap.get?_push_of_some _) r, fun hm => ?_⟩
      have hal1 : PySem.W.alike (toP b.1) (toP b.1) = true := hal _ (List.mem_map.mpr ⟨b.1, hb1, rfl⟩) _ (List.mem_map.mpr ⟨b.1, hb1, rfl⟩)
      exact absurd (reads_lt _ _ _ hal1 r _ hm) (Nat.lt_irrefl _)
    have em : (xs.zip ws).map (fun b : D × V => toP b.1) = xs.map toP := by
      have e2 : (xs.zip ws).map (fun b : D × V => toP b.1) = ((xs.zip ws).map Prod.fst).map toP := by rw [List.map_map] <;> rfl
      rw [e2, zip_fst rr]
    show wpAny _ _ _ _ _ { s with heap := h'.push (seqObj "list" its.toArray 0) }
    refine wpAny_bind (wpAny_holding (PySem.W.list_sort_data (enc := fun b : D × V => toP b.1) (bs := xs.zip ws) hoL ee er (by rw [em]; exact hal) (by rw [em]; exact hso) ?_ ?_ fun out hout eout => ?_))
    · rw [List.length_zip]; omega
    · intro b hb
      have hb1 : b.1 ∈ xs := (List.of_mem_zip (show (b.1, b.2) ∈ xs.zip ws from hb)).1
      have := (hp b.1 hb1).2
      show X.A.units + 1 + 1 + (toP b.1).depth < cLine
      omega
    obtain ⟨rs, rvs⟩ := pairs_each eout
    have es : ((xs.zip ws).mergeSort (PySem.W.dataLe false fun b : D × V => toP b.1)).map (·.1) = sortD xs := by
      unfold sortD
      have e2 := List.map_mergeSort (r := PySem.W.dataLe false fun b : D × V => toP b.1) (s := PySem.W.dataLe false toP) (f := Prod.fst) (l := xs.zip ws) (fun a _ b _ => rfl)
      rw [zip_fst rr] at e2
      exact e2
    rw [es] at rs
    obtain ⟨e', he'⟩ := PyProof.Rows.sortedHeap_at (vs := its) (out := out.toArray) hoL
    have hlen2 : (((xs.zip ws).mergeSort (PySem.W.dataLe false fun b : D × V => toP b.1)).map (·.2)).length ≤ sizeLine := by
      rw [List.length_map, List.length_mergeSort, List.length_zip]; omega
    have hnew : H h'.objs.size = none := I1.hok.fresh (Nat.le_refl _)
    refine wpAny_pure ⟨_, rfl, .ref h'.objs.size, upd H h'.objs.size (.lst (((xs.zip ws).mergeSort (PySem.W.dataLe false fun b : D × V => toP b.1)).map (·.2))), I1.laid (t' := s.toks) (fun b u e => ?_) (Nat.le_refl _)
      (show ObjOk X.prog X.w _ _ _ (.lst _) from ⟨hlen2, out, e', rvs, he'⟩), rfl, q _ _ (Ext.laid hnew) (S.laid hnew) (pL_new S hnew rs)⟩
    have hb : b < h'.objs.size := Heap.lt_size e
    rw [PyProof.Rows.sortedHeap_old (Nat.ne_of_lt hb) (by rw [size_push']; exact Nat.lt_succ_of_lt hb)]
    exact Heap.get?_push_of_some _ e
end
end Dn
/-! DnN: short words for the printer. -/
namespace Dn
open PySem PySem.Spec PyProof.Rows L2
section
variable {X : Cx} {W : WX} {k : Nat}
theorem takes_wN : Takes X wN := fun _ _ ⟨_, _, _, _, _, _, _, _, _, _, _, _, _, _, _, _, w⟩ => w.elim
theorem Bd.blk (b : Bd X W k) {s : Shared} {H : Hp} {scope : Scope} {cenv : Env} {fp : List Addr} : Bd (X.blk s H scope cenv fp) wN k := ⟨b.room, b.gd, b.calm, b.nd, takes_wN⟩
theorem Bd.u64 (b : Bd X W k) : X.A.units + 64 < cLine := by have := b.room.un; omega
theorem Bd.u65 (b : Bd X W k) : X.A.units + 65 < cLine := by have := b.room.un; omega
theorem Bd.u70 (b : Bd X W k) : X.A.units + 70 < cLine := by have := b.room.un; omega
/-- the name in slot i -/
theorem vr (i : Nat) {x : Str} {pos : Pos} (hN : X.N[i]? = some x := by rfl) (hv : Vis X.env.scope x := by first | exact Or.inl rfl | exact Or.inr (Or.inl rfl) | exact Or.inr (Or.inr rfl)) (hd : (x == ("__debug__" : Str)) = false := by decide)
    (hcd : (x == ("__classdict__" : Str)) = false := by decide) : DE X W (.Name x pos) (mVar i) := de_var hN hv hd hcd
theorem gn (i : Nat) {x : Str} {pos : Pos} (b : Bd X W k) (hi : X.N[i]? = some x := by rfl) (hx : Loc X.env.scope x := by first | exact Or.inl rfl | exact Or.inr rfl) (hf : X.fn x = true ∨ X.env.scope.names.lookup x = some .local := by first | exact .inl rfl | exact .inr rfl) : DG X [i] (.Name x pos) (gN i) :=
  dg_name b.nd hi hx hf
theorem st (i : Nat) {x : Str} {pos' pos : Pos} {e : Expr} {m : Rho → M D} (b : Bd X W k) (he : DE X W e m) (hi : X.N[i]? = some x := by rfl) (hx : Loc X.env.scope x := by first | exact Or.inl rfl | exact Or.inr rfl)
    (hs : swapsWith e (some (.Name x pos')) pos.line X.env = pure false := by rfl) (hf : X.fn x = true ∨ X.env.scope.names.lookup x = some .local := by first | exact .inl rfl | exact .inr rfl) : DS X W (.Assign [.Name x pos'] e pos) (sAsg (gN i) m) :=
  ds_set b.nd hi hx he hs hf
theorem dts1 {c : Expr} {m : Rho → M Bool} (h : DT X W c m) : DTs X W [c] m := dts_one h
/-- a, b, c = x, y, z -/
def sPar3 (i j l : Nat) (a : Rho → M (List D)) : Rho → Sto → Fl := fun ρ st => (a ρ st).fl ρ fun ds st1 => match ds with
  | [x, y, z] => .next (((ρ.set i (some x)).set j (some y)).set l (some z)) st1
  | _ => .bad
theorem ds_par3 {i j l : Nat} {x y z : Str} {a b c : Expr} {am : Rho → M (List D)} {px py pz pt pos : Pos} {kt k2 pt2} (hc : X.calm = true) (hN : X.N.Nodup) (hi : X.N[i]? = some x) (hj : X.N[j]? = some y) (hl : X.N[l]? = some z) (hij : i ≠ j) (hil : i ≠ l) (hjl : j ≠ l)
    (hx : X.env.scope.names.lookup x = some .local) (hy : X.env.scope.names.lookup y = some .local) (hz : X.env.scope.names.lookup z = some .local) (ha : DA X W [a, b, c] am)
    (hw : swappedStores [.Tuple [.Name x px, .Name y py, .Name z pz] kt pt] (.Tuple [a, b, c] k2 pt2) X.env = pure (some [x, y, z]))
    (hs : swapsWithSole [.Tuple [.Name x px, .Name y py, .Name z pz] kt pt] (.Tuple [a, b, c] k2 pt2) pos.line X.env = pure false := by rfl) :
    DS X W (.Assign [.Tuple [.Name x px, .Name y py, .Name z pz] kt pt] (.Tuple [a, b, c] k2 pt2) pos) (sPar3 i j l am) := by
  refine PS.weak (ps_par3 hc hN hi hj hl hij hil hjl hx hy hz ha hw hs) fun E σ H ⟨F, ι, ρ, st, S, R, q⟩ => fl_seq S R q fun ds st1 F1 ι1 H1 vs x1 S1 R1 r1 q1 => ?_
  split at q1
  · rename_i d1 d2 d3
    have r1 : Reps X.K F1 ι1 [d1, d2, d3] vs := r1
    simp only [Reps] at r1
    obtain ⟨v1, w1, rfl, h1, v2, w2, rfl, h2, v3, w3, rfl, h3, rfl⟩ := r1
    exact ⟨v1, v2, v3, rfl, q1 F1 ι1 H1 _ Ext.refl S1 (((R1.set h1 i).set h2 j).set h3 l)⟩
  · exact q1.elim
end
end Dn
/-! DnO: tuple(range(..)), list(range(..)), list.remove. -/
namespace Dn
open PySem PySem.Spec PyProof.Rows L2
theorem reps_rg {K : PySem.W.Frag} {F : Hp} {ι : List Addr} (lo hi : Int) : Reps K F ι (rngD lo (hi - lo).toNat) (rgV lo hi) := by
  unfold rngD rgV
  generalize (hi - lo).toNat = n
  generalize List.range n = l
  induction l with
  | nil => exact Reps.nil
  | cons x l ih =>
    rw [List.map_cons, List.map_cons]
    exact Reps.cons (by simp only [Rep]) ih
def rgOk (lo hi : Int) : Prop := -(2 ^ 62) ≤ lo ∧ lo < 2 ^ 62 ∧ -(2 ^ 62) ≤ hi ∧ hi < 2 ^ 62 ∧ (hi - lo).toNat ≤ SZ
theorem rgOk.ok {lo hi : Int} (h : rgOk lo hi) : RgOk lo hi := ⟨h.1, h.2.1, h.2.2.1, h.2.2.2.1, Nat.le_trans h.2.2.2.2 (by decide)⟩
noncomputable def lRange (lo hi : D) : Option (List D) := match lo, hi with
  | .int i, .int j => @ite _ (rgOk i j) (Classical.propDecidable _) (some (rngD i (j - i).toNat)) (none)
  | _, _ => none
noncomputable def mTupRg (m : Rho → M D) : Rho → M D := fun ρ st => (m ρ st).bind fun d st1 => lift ((lRange (.int 0) d).map .tup) st1
noncomputable def lLstRg (m : Rho → M D) : Rho → M (List D) := fun ρ st => (m ρ st).bind fun d st1 => lift (lRange (.int 0) d) st1
noncomputable def mTupRg2 (m1 m2 : Rho → M D) : Rho → M D := fun ρ st => (m1 ρ st).bind fun d1 st1 => (m2 ρ st1).bind fun d2 st2 => lift ((lRange d1 d2).map .tup) st2
noncomputable def lLstRg2 (m1 m2 : Rho → M D) : Rho → M (List D) := fun ρ st => (m1 ρ st).bind fun d1 st1 => (m2 ρ st1).bind fun d2 st2 => lift (lRange d1 d2) st2
theorem lRange_some {d1 d2 : D} {xs : List D} (h : lRange d1 d2 = some xs) : ∃ i j, d1 = .int i ∧ d2 = .int j ∧ rgOk i j ∧ xs = rngD i (j - i).toNat := by
  unfold lRange at h
  split at h
  · split at h
    · rename_i i j hr
      cases h
      exact ⟨i, j, rfl, rfl, hr, rfl⟩
    · cases h
  · cases h
section
variable {X : Cx} {W : WX} {p p2 pos pos2 : Pos} {a b : Expr} {m1 m2 : Rho → M D}
theorem rg_lst {σ : L2.St} {F : Hp} {ι : List Addr} {H : Hp} {st : Sto} {Q : VK} {lo hi : Int} (S : Sim X.K F ι st H) (q : post X.K W σ F ι H (pL X.K) (.ok (rngD lo (hi - lo).toNat) st) Q) : ∀ c, H c = none → Q (.ref c) (upd H c (.lst (rgV lo hi))) :=
  fun c hc => q F ι _ _ (Ext.laid hc) (S.laid hc) (pL_new S hc (reps_rg lo hi))
theorem rg_tup {σ : L2.St} {F : Hp} {ι : List Addr} {H : Hp} {st : Sto} {Q : VK} {lo hi : Int} (S : Sim X.K F ι st H) (q : post X.K W σ F ι H (pV X.K) (.ok (.tup (rngD lo (hi - lo).toNat)) st) Q) : ∀ (c : Addr) (o : Obj), o.dict = none → H c = none → Q (.ref c) (upd H c (.frz o (.tup (rgV lo hi)))) :=
  new_tup S (reps_rg lo hi) fun F' H' v x S' r => q F' ι H' v x S' r
def tTupRgP (te : L2.St → Hp → (Int → Int → Hp → Prop) → Prop) : TE := fun σ H Q => te σ H fun a b H1 => RgOk a b ∧ ∀ (c : Addr) (o : Obj), o.dict = none → H1 c = none → Q (.ref c) (upd H1 c (.frz o (.tup (rgV a b))))
theorem pe_tupRgP {e : Expr} {te : L2.St → Hp → (Int → Int → Hp → Prop) → Prop} (hc : X.calm = true) (hg : Gl X "tuple") (hm : X.mg "tuple" = none) (he : PRg X e te) (na : starEach [e] X.env = (false, eval e X.env) :: starEach [] X.env := by rfl) : PE X (.Call (.Name "tuple" p) [e] [] pos) (tTupRgP te) := by
  refine ⟨fun pins s σ H Q I h => Call_ (ld_blt I hg hm boot_tuple (PyProof.Rows.callWith_type1 (args_cons (thn (he pins s σ H _ I h) fun x s1 ⟨r, a, b, t, u, v, H1, ex, hr, I1, ok, q⟩ => args_nil ?_) na) na))⟩
  subst ex
  obtain ⟨b1, b2, b3, b4, b5⟩ := ok
  refine call_tuple_range (n := (b - a).toNat) (I1.ok.hd hc) hr (small_one b1 b2 b3 b4) (rangeSize_nat a b) b5 fun h' tk acc hk hi => ?_
  have I2 : Inv X pins σ H1 { s1 with heap := h', toks := tk } := I1.kept hk
  have z := fin_tup (t' := tk) (its := acc.toList) I2 (vals_rg hi) (by rw [rgV_length, sizeLine_eq]; omega) q
  rw [Array.toArray_toList] at z
  exact z
theorem de_tupRg (hc : X.calm = true) (hg : Gl X "tuple") (hm : X.mg "tuple" = none) (hg2 : Gl X "range") (hm2 : X.mg "range" = none) (ha : DE X W a m1) (na : starEach [a] X.env = (false, eval a X.env) :: starEach [] X.env := by rfl)
    (nr : starEach [.Call (.Name "range" p2) [a] [] pos2] X.env = (false, eval (.Call (.Name "range" p2) [a] [] pos2) X.env) :: starEach [] X.env := by rfl) : DE X W (.Call (.Name "tuple" p) [.Call (.Name "range" p2) [a] [] pos2] [] pos) (mTupRg m1) := by
  refine PE.weak (pe_tupRgP hc hg hm (prg_1 hg2 hm2 ha na) nr) fun σ H Q ⟨F, ι, ρ, st, S, R, q⟩ => ?_
  refine tG_seq back_V S R q fun d st1 F1 ι1 H1 v x1 S1 R1 r1 q1 => ?_
  cases e : lRange (.int 0) d with
  | none => rw [e] at q1; exact (q1 : False).elim
  | some xs =>
    rw [e] at q1
    obtain ⟨i, j, ei, rfl, hr, rfl⟩ := lRange_some e
    cases ei
    have r1 : v = V.int j := by simpa only [pV, Rep] using r1
    exact ⟨j, r1, hr.ok, rg_tup S1 q1⟩
theorem dl_lstRg (hc : X.calm = true) (hg : Gl X "list") (hm : X.mg "list" = none) (hg2 : Gl X "range") (hm2 : X.mg "range" = none) (ha : DE X W a m1) (na : starEach [a] X.env = (false, eval a X.env) :: starEach [] X.env := by rfl)
    (nr : starEach [.Call (.Name "range" p2) [a] [] pos2] X.env = (false, eval (.Call (.Name "range" p2) [a] [] pos2) X.env) :: starEach [] X.env := by rfl) : DL X W (.Call (.Name "list" p) [.Call (.Name "range" p2) [a] [] pos2] [] pos) (lLstRg m1) := by
  refine PE.weak (pe_listRg hc hg hm (prg_1 hg2 hm2 ha na) nr) fun σ H Q ⟨F, ι, ρ, st, S, R, q⟩ => ?_
  refine tG_seq back_L S R q fun d st1 F1 ι1 H1 v x1 S1 R1 r1 q1 => ?_
  cases e : lRange (.int 0) d with
  | none => rw [e] at q1; exact (q1 : False).elim
  | some xs =>
    rw [e] at q1
    obtain ⟨i, j, ei, rfl, hr, rfl⟩ := lRange_some e
    cases ei
    have r1 : v = V.int j := by simpa only [pV, Rep] using r1
    exact ⟨j, r1, hr.ok, rg_lst S1 q1⟩
theorem de_tupRg2 (hc : X.calm = true) (hg : Gl X "tuple") (hm : X.mg "tuple" = none) (hg2 : Gl X "range") (hm2 : X.mg "range" = none) (ha : DE X W a m1) (hb : DE X W b m2) (na : starEach [a, b] X.env = (false, eval a X.env) :: starEach [b] X.env := by rfl)
    (nb : starEach [b] X.env = (false, eval b X.env) :: starEach [] X.env := by rfl) (hp : (backTo pos2 (starEach [b] X.env)).any (·.1) = false := by rfl)
    (nr : starEach [.Call (.Name "range" p2) [a, b] [] pos2] X.env = (false, eval (.Call (.Name "range" p2) [a, b] [] pos2) X.env) :: starEach [] X.env := by rfl) : DE X W (.Call (.Name "tuple" p) [.Call (.Name "range" p2) [a, b] [] pos2] [] pos) (mTupRg2 m1 m2) := by
  refine PE.weak (pe_tupRgP hc hg hm (prg_2 hg2 hm2 ha hb na nb hp) nr) fun σ H Q ⟨F, ι, ρ, st, S, R, q⟩ => ?_
  refine tG_seq back_V S R q fun d st1 F1 ι1 H1 v x1 S1 R1 r1 q1 => ?_
  refine tG_seq back_V S1 R1 q1 fun d2 st2 F2 ι2 H2 v2 x2 S2 R2 r2 q2 => ?_
  cases e : lRange d d2 with
  | none => rw [e] at q2; exact (q2 : False).elim
  | some xs =>
    rw [e] at q2
    obtain ⟨i, j, rfl, rfl, hr, rfl⟩ := lRange_some e
    have r1 : v = V.int i := by simpa only [pV, Rep] using r1
    have r2 : v2 = V.int j := by simpa only [pV, Rep] using r2
    exact ⟨i, j, r1, r2, hr.ok, rg_tup S2 q2⟩
theorem dl_lstRg2 (hc : X.calm = true) (hg : Gl X "list") (hm : X.mg "list" = none) (hg2 : Gl X "range") (hm2 : X.mg "range" = none) (ha : DE X W a m1) (hb : DE X W b m2) (na : starEach [a, b] X.env = (false, eval a X.env) :: starEach [b] X.env := by rfl)
    (nb : starEach [b] X.env = (false, eval b X.env) :: starEach [] X.env := by rfl) (hp : (backTo pos2 (starEach [b] X.env)).any (·.1) = false := by rfl)
    (nr : starEach [.Call (.Name "range" p2) [a, b] [] pos2] X.env = (false, eval (.Call (.Name "range" p2) [a, b] [] pos2) X.env) :: starEach [] X.env := by rfl) : DL X W (.Call (.Name "list" p) [.Call (.Name "range" p2) [a, b] [] pos2] [] pos) (lLstRg2 m1 m2) := by
  refine PE.weak (pe_listRg hc hg hm (prg_2 hg2 hm2 ha hb na nb hp) nr) fun σ H Q ⟨F, ι, ρ, st, S, R, q⟩ => ?_
  refine tG_seq back_L S R q fun d st1 F1 ι1 H1 v x1 S1 R1 r1 q1 => ?_
  refine tG_seq back_L S1 R1 q1 fun d2 st2 F2 ι2 H2 v2 x2 S2 R2 r2 q2 => ?_
  cases e : lRange d d2 with
  | none => rw [e] at q2; exact (q2 : False).elim
  | some xs =>
    rw [e] at q2
    obtain ⟨i, j, rfl, rfl, hr, rfl⟩ := lRange_some e
    have r1 : v = V.int i := by simpa only [pV, Rep] using r1
    have r2 : v2 = V.int j := by simpa only [pV, Rep] using r2
    exact ⟨i, j, r1, r2, hr.ok, rg_lst S2 q2⟩
end
/-- all whole numbers -/
def intsOf : List D → Option (List Int)
  | [] => some []
  | .int i :: ds => (intsOf ds).map (i :: ·)
  | _ => none
theorem intsOf_some : ∀ {ds : List D} {ns : List Int}, intsOf ds = some ns → ds = ns.map D.int
  | [], _, h => by cases h; rfl
  | .int i :: ds, ns, h => by
    unfold intsOf at h
    cases e : intsOf ds with
    | none => rw [e] at h; cases h
    | some ms =>
      rw [e] at h
      cases h
      rw [intsOf_some e] <;> rfl
  | .non :: _, _, h => by cases h
  | .bl _ :: _, _, h => by cases h
  | .str _ :: _, _, h => by cases h
  | .tup _ :: _, _, h => by cases h
  | .lst _ :: _, _, h => by cases h
  | .scr _ :: _, _, h => by cases h
  | .ref _ :: _, _, h => by cases h
  | .adr _ :: _, _, h => by cases h
theorem intsOf_map : ∀ ns : List Int, intsOf (ns.map D.int) = some ns
  | [] => rfl
  | n :: ns => by
    show (intsOf (ns.map D.int)).map (n :: ·) = _
    rw [intsOf_map ns] <;> rfl
theorem reps_ints_vs {K : PySem.W.Frag} {F : Hp} {ι : List Addr} : ∀ {ns : List Int} {vs : List V}, Reps K F ι (ns.map D.int) vs → vs = ns.map V.int
  | [], _, h => by simpa only [List.map_nil, Reps] using h
  | n :: ns, _, h => by
    simp only [List.map_cons, Reps] at h
    obtain ⟨v, r, rfl, h1, h2⟩ := h
    simp only [Rep] at h1
    rw [h1, reps_ints_vs h2] <;> rfl
def pRemove : D → List D → M D := fun d ds st => onL st d fun l xs => match ds with
  | [.int i] => match intsOf xs with
    | some ns => if i ∈ ns then .ok .non (st.set l (.lst ((ns.eraseIdx (ns.idxOf i)).map .int))) else .bad
    | none => .bad
  | _ => .bad
theorem idxOf_first {i : Int} : ∀ (ns : List Int) (m : Nat), m < ns.idxOf i → ns[m]? ≠ some i
  | [], m, h => by simp
  | n :: ns, m, h => by
    rw [List.idxOf_cons] at h
    by_cases e : n = i
    · subst e
      simp at h
    · have hb : (n == i) = false := by simpa using e
      rw [hb] at h
      cases m with
      | zero => simpa using e
      | succ m =>
        have h' : m < ns.idxOf i := by simpa using h
        simpa using idxOf_first ns m h'
theorem mt_pRemove {X : Cx} : MtR X "list.remove" (rM X.K pRemove) := mtM mt_remove fun x xs H Q ⟨F, ι, st, d, ds, d', st', S, rd, rds, e, q⟩ => by
  obtain ⟨l, ys, rfl, hl, e⟩ := onL_ok e
  split at e
  · split at e
    · split at e
      · rename_i ns hns hi
        cases e
        obtain ⟨a, vs, rfl, q1, q2, q3⟩ := S.mut rd hl
        obtain ⟨u, rfl, ru⟩ := rds.one'
        simp only [Rep] at ru
        subst ru
        obtain rfl := intsOf_some hns
        obtain rfl := reps_ints_vs q3
        obtain ⟨x1, S1⟩ := write_lst S q1 q2 (reps_ints (ns.eraseIdx (ns.idxOf _)))
        refine ⟨a, ns, _, _, rfl, rfl, q2, ?_, idxOf_first ns, q _ _ _ _ x1 S1 rep_non⟩
        have hlt := List.idxOf_lt_length_of_mem hi
        rw [List.getElem?_eq_getElem hlt, List.getElem_idxOf hlt]
      · cases e
    · cases e
  · cases e
end Dn
/-! DnP: how the meanings are worked out: the words applied, loops, values. -/
namespace Dn
open PySem PySem.Spec PyProof.Rows L2
section
variable (ρ : Rho) (s : Sto)
@[simp] theorem mLit_ap (d : D) : mLit d ρ s = .ok d s := rfl
theorem mVar_ap (i : Nat) : mVar i ρ s = match ρ[i]? with | some (some d) => .ok d s | _ => .bad := rfl
@[simp] theorem mNil_ap : mNil ρ s = .ok [] s := rfl
@[simp] theorem mCons_ap (m : Rho → M D) (r : Rho → M (List D)) : mCons m r ρ s = (m ρ s).bind fun d s1 => (r ρ s1).bind fun ds s2 => .ok (d :: ds) s2 := rfl
@[simp] theorem mTup_ap (a : Rho → M (List D)) : mTup a ρ s = (a ρ s).bind fun xs s1 => if xs.length ≤ 100000 then .ok (.tup xs) s1 else .bad := rfl
@[simp] theorem lDisp_ap (a : Rho → M (List D)) : lDisp a ρ s = (a ρ s).bind fun xs s1 => if xs.length ≤ 100000 then .ok xs s1 else .bad := rfl
@[simp] theorem mFrz_ap (a : Rho → M (List D)) : mFrz a ρ s = (a ρ s).bind fun xs s1 => .ok (.lst xs) s1 := rfl
@[simp] theorem mNew_ap (a : Rho → M (List D)) : mNew a ρ s = (a ρ s).bind fun xs s1 => .ok (.ref s1.length) (s1 ++ [.lst xs]) := rfl
@[simp] theorem mOp_ap (p : Sto → D → D → Option D) (a b : Rho → M D) : mOp p a b ρ s = (a ρ s).bind fun x s1 => (b ρ s1).bind fun y s2 => lift (p s2 x y) s2 := rfl
@[simp] theorem lOp_ap (p : Sto → D → D → Option (List D)) (a b : Rho → M D) : lOp p a b ρ s = (a ρ s).bind fun x s1 => (b ρ s1).bind fun y s2 => lift (p s2 x y) s2 := rfl
@[simp] theorem mB_ap (p : Sto → List D → Option D) (a : Rho → M (List D)) : mB p a ρ s = (a ρ s).bind fun ds s1 => lift (p s1 ds) s1 := rfl
@[simp] theorem lB_ap (p : Sto → List D → Option (List D)) (a : Rho → M (List D)) : lB p a ρ s = (a ρ s).bind fun ds s1 => lift (p s1 ds) s1 := rfl
@[simp] theorem mCall_ap (f : List D → M D) (a : Rho → M (List D)) : mCall f a ρ s = (a ρ s).bind fun ds s1 => f ds s1 := rfl
@[simp] theorem mUn_ap (p : Sto → D → Option D) (a : Rho → M D) : mUn p a ρ s = (a ρ s).bind fun d s1 => lift (p s1 d) s1 := rfl
@[simp] theorem mStar_ap (m : Rho → M D) (r : Rho → M (List D)) : mStar m r ρ s = (m ρ s).bind fun d s1 => match seqOf s1 d with | some xs => (r ρ s1).bind fun ds s2 => .ok (xs ++ ds) s2 | none => .bad := rfl
@[simp] theorem isB_ap (m : Rho → M D) : isB m ρ s = (m ρ s).bind fun d s1 => match d with | .bl k => .ok k s1 | _ => .bad := rfl
@[simp] theorem mTru_ap (m : Rho → M D) : mTru m ρ s = (m ρ s).bind fun d s1 => lift (d.truth s1) s1 := rfl
@[simp] theorem bAnd_ap (a b : Rho → M Bool) : bAnd a b ρ s = (a ρ s).bind fun k s1 => if k = true then b ρ s1 else .ok false s1 := rfl
@[simp] theorem bOr_ap (a b : Rho → M Bool) : bOr a b ρ s = (a ρ s).bind fun k s1 => if k = true then .ok true s1 else b ρ s1 := rfl
@[simp] theorem bNot_ap (a : Rho → M Bool) : bNot a ρ s = (a ρ s).bind fun k s1 => .ok (!k) s1 := rfl
@[simp] theorem bYes_ap : bYes ρ s = .ok true s := rfl
@[simp] theorem mIf_ap (t : Rho → M Bool) (a b : Rho → M D) : mIf t a b ρ s = (t ρ s).bind fun k s1 => if k = true then a ρ s1 else b ρ s1 := rfl
@[simp] theorem oNone_ap : oNone ρ s = .ok none s := rfl
@[simp] theorem sSeq_ap (a b : Rho → Sto → Fl) : sSeq a b ρ s = (a ρ s).seq b := rfl
@[simp] theorem sAsg_ap (g : D → Rho → M Rho) (m : Rho → M D) : sAsg g m ρ s = (m ρ s).fl ρ fun d s1 => (nox (g d ρ s1)).fl ρ fun r s2 => .next r s2 := rfl
@[simp] theorem sRet_ap (m : Rho → M D) : sRet m ρ s = (m ρ s).fl ρ fun d s1 => .ret d s1 := rfl
@[simp] theorem sDrop_ap (m : Rho → M D) : sDrop m ρ s = (m ρ s).fl ρ fun _ s1 => .next ρ s1 := rfl
@[simp] theorem sIf_ap (t : Rho → M Bool) (a b : Rho → Sto → Fl) : sIf t a b ρ s = (t ρ s).fl ρ fun k s1 => if k = true then a ρ s1 else b ρ s1 := rfl
@[simp] theorem sNext_ap : sNext ρ s = .next ρ s := rfl
@[simp] theorem sBrk_ap : sBrk ρ s = .brk ρ s := rfl
@[simp] theorem sCnt_ap : sCnt ρ s = .cnt ρ s := rfl
@[simp] theorem gN_ap (i : Nat) (d : D) : gN i d ρ s = .ok (ρ.set i (some d)) s := rfl
@[simp] theorem gT_ap (n : Nat) (gs : List D → Rho → M Rho) (xs : List D) (h : xs.length = n) : gT n gs (.tup xs) ρ s = gs xs ρ s := by
  unfold gT
  simp [h]
@[simp] theorem gsCons_ap (g : D → Rho → M Rho) (gs : List D → Rho → M Rho) (d : D) (ds : List D) : gsCons g gs (d :: ds) ρ s = (g d ρ s).bind fun r s1 => gs ds r s1 := rfl
@[simp] theorem gsNil_ap : gsNil [] ρ s = .ok ρ s := rfl
@[simp] theorem seq_next (k : Rho → Sto → Fl) : (Fl.next ρ s).seq k = k ρ s := rfl
@[simp] theorem seq_ret (d : D) (k : Rho → Sto → Fl) : (Fl.ret d s).seq k = .ret d s := rfl
@[simp] theorem seq_brk (k : Rho → Sto → Fl) : (Fl.brk ρ s).seq k = .brk ρ s := rfl
@[simp] theorem seq_cnt (k : Rho → Sto → Fl) : (Fl.cnt ρ s).seq k = .cnt ρ s := rfl
@[simp] theorem flOut_ret (d : D) : flOut (.ret d s) = .ok d s := rfl
@[simp] theorem flOut_next : flOut (.next ρ s) = .ok .non s := rfl
@[simp] theorem sFor_ap (ms : Rho → M Src) (g : D → Rho → M Rho) (mb : Rho → Sto → Fl) : sFor ms g mb ρ s = (ms ρ s).fl ρ fun src s1 => forL src.held (forB g mb) src.items ρ s1 := rfl
@[simp] theorem sPar_ap (i j : Nat) (a : Rho → M (List D)) : sPar i j a ρ s = (a ρ s).fl ρ fun ds s1 => match ds with | [x, y] => .next ((ρ.set i (some x)).set j (some y)) s1 | _ => .bad := rfl
@[simp] theorem sPar3_ap (i j l : Nat) (a : Rho → M (List D)) : sPar3 i j l a ρ s = (a ρ s).fl ρ fun ds s1 => match ds with | [x, y, z] => .next (((ρ.set i (some x)).set j (some y)).set l (some z)) s1 | _ => .bad := rfl
@[simp] theorem iRng1D_ap (m : Rho → M D) : iRng1D m ρ s = (m ρ s).bind fun d s1 => lift (rng1 d) s1 := rfl
@[simp] theorem iSeq_ap (m : Rho → M D) : iSeq m ρ s = (m ρ s).bind fun d s1 => lift (srcOf s1 d) s1 := rfl
@[simp] theorem lLc_ap (ms : Rho → M Src) (gf : D → Rho → M Rho) (mt : Rho → M Bool) (me : Rho → M D) (vs : List Nat) : lLc ms gf mt me vs ρ s = (ms ρ s).bind fun src s1 => if src.items.length ≤ 100000 then nox (lcL src.held (lcF gf mt me (wipeD ρ vs)) src.items s1) else .bad := rfl
@[simp] theorem forB_ap (g : D → Rho → M Rho) (mb : Rho → Sto → Fl) (d : D) : forB g mb d ρ s = (nox (g d ρ s)).fl ρ fun r s1 => mb r s1 := rfl
end
/-! ### calls -/
theorem clean_same {s s' : Sto} {d : D} (h : s'.length = s.length) : clean s (.ok d s') = .ok d s' := by
  unfold clean
  dsimp only
  split
  · rw [← h, List.take_length]
  · rfl
theorem clean_drop {s s' : Sto} {d : D} (hd : d.low s.length = true) (h : Tidy s s') : clean s (.ok d s') = .ok d (s'.take s.length) := by
  unfold clean
  dsimp only
  rw [if_pos ⟨hd, h⟩]
theorem clean_pure {s ex : Sto} {d : D} (hd : d.low s.length = true) : clean s (.ok d (s ++ ex)) = .ok d s := by
  rw [clean_drop hd ⟨by simp, fun l m hl e => .inl ?_⟩]
  · simp
  · rw [List.getElem?_append_left hl] at e
    exact e
mutual
theorem low_of_isP (n : Nat) : ∀ d : D, isP d = true → d.low n = true
  | .non, _ => by simp only [D.low]
  | .bl _, _ => by simp only [D.low]
  | .int _, _ => by simp only [D.low]
  | .str _, _ => by simp only [D.low]
  | .tup xs, h => by
    simp only [D.low]
    exact lows_of_isPs n xs (by simpa only [isP] using h)
  | .lst xs, h => by
    simp only [D.low]
    exact lows_of_isPs n xs (by simpa only [isP] using h)
  | .scr _, h => by simp [isP] at h
  | .ref _, h => by simp [isP] at h
  | .adr _, h => by simp [isP] at h
theorem lows_of_isPs (n : Nat) : ∀ ds : List D, isPs ds = true → D.lows n ds = true
  | [], _ => by simp only [D.lows]
  | d :: ds, h => by
    simp only [isPs, Bool.and_eq_true] at h
    simp only [D.lows, Bool.and_eq_true]
    exact ⟨low_of_isP n d h.1, lows_of_isPs n ds h.2⟩
end
/-! ### loops -/
theorem forL_inv {held : List (Nat × List D)} {body : D → Rho → Sto → Fl} (I : Nat → Rho → Sto → Prop) (hh : ∀ i ρ s, I i ρ s → heldOk held s) :
    ∀ (items : List D) (k : Nat) (ρ : Rho) (s : Sto), I k ρ s → (∀ i ρ s d, items[i]? = some d → I (k + i) ρ s → ∃ ρ' s', (body d ρ s = .next ρ' s' ∨ body d ρ s = .cnt ρ' s') ∧ I (k + i + 1) ρ' s') →
    ∃ ρ' s', forL held body items ρ s = .next ρ' s' ∧ I (k + items.length) ρ' s'
  | [], k, ρ, s, h0, _ => ⟨ρ, s, by unfold forL; rw [if_pos (hh _ _ _ h0)], by simpa using h0⟩
  | d :: ds, k, ρ, s, h0, st => by
    obtain ⟨ρ1, s1, e1, h1⟩ := st 0 ρ s d (by simp) (by simpa using h0)
    obtain ⟨ρ2, s2, e2, h2⟩ := forL_inv I hh ds (k + 1) ρ1 s1 (by simpa using h1) fun i ρ s d hd hi => by
      have := st (i + 1) ρ s d (by simpa using hd) (by rw [← Nat.add_assoc, Nat.add_right_comm]; exact hi)
      obtain ⟨ρ', s', a, b⟩ := this
      exact ⟨ρ', s', a, by rw [Nat.add_right_comm k 1 i]; exact b⟩
    refine ⟨ρ2, s2, ?_, by rw [List.length_cons, Nat.add_comm ds.length, ← Nat.add_assoc]; exact h2⟩
    unfold forL
    rw [if_pos (hh _ _ _ h0)]
    rcases e1 with e1 | e1 <;> rw [e1] <;> exact e2
theorem lcL_pure {held : List (Nat × List D)} {f : D → Sto → Out (Option D)} {g : D → Option D} {s : Sto} (hh : heldOk held s) : ∀ items : List D, (∀ d ∈ items, f d s = .ok (g d) s) → lcL held f items s = .ok (items.filterMap g) s
  | [], _ => by unfold lcL; rw [if_pos hh] <;> rfl
  | d :: ds, h => by
    unfold lcL
    rw [if_pos hh, h d (by simp)]
    simp only [Out.bind_ok]
    rw [lcL_pure hh ds fun d hd => h d (by simp [hd])]
    simp only [Out.bind_ok]
    congr 1
    rw [List.filterMap_cons]
    cases g d <;> rfl
/-- some of the items, each changed by g, with a state that runs along -/
theorem lcL_sub {held : List (Nat × List D)} {f : D → Sto → Out (Option D)} (g : D → D) (I : Nat → Sto → Prop) (hh : ∀ i s, I i s → heldOk held s) :
    ∀ (items : List D) (k : Nat) (s : Sto), I k s → (∀ i s d, items[i]? = some d → I (k + i) s → ∃ (b : Bool) (s' : Sto), f d s = .ok (if b = true then some (g d) else none) s' ∧ I (k + i + 1) s') →
    ∃ (ys : List D) (s' : Sto), lcL held f items s = .ok (ys.map g) s' ∧ ys.Sublist items ∧ I (k + items.length) s'
  | [], k, s, h0, _ => ⟨[], s, by unfold lcL; rw [if_pos (hh _ _ h0)] <;> rfl, List.Sublist.refl _, by simpa using h0⟩
  | d :: ds, k, s, h0, st => by
    obtain ⟨b, s1, e1, h1⟩ := st 0 s d (by simp) (by simpa using h0)
    obtain ⟨ys, s2, e2, hs, h2⟩ := lcL_sub g I hh ds (k + 1) s1 (by simpa using h1) fun i s d hd hi => by
      obtain ⟨b, s', a, c⟩ := st (i + 1) s d (by simpa using hd) (by rw [← Nat.add_assoc, Nat.add_right_comm]; exact hi)
      exact ⟨b, s', a, by rw [Nat.add_right_comm k 1 i]; exact c⟩
    refine ⟨if b = true then d :: ys else ys, s2, ?_, ?_, by rw [List.length_cons, Nat.add_comm ds.length, ← Nat.add_assoc]; exact h2⟩
    · unfold lcL
      rw [if_pos (hh _ _ h0), e1]
      simp only [Out.bind_ok]
      rw [e2]
      cases b <;> rfl
    · cases b
      · exact hs.cons d
      · exact hs.cons₂ d
/-- one item for each, each with P, with a state that runs along -/
theorem lcL_all {held : List (Nat × List D)} {f : D → Sto → Out (Option D)} (P : Nat → D → Prop) (I : Nat → Sto → Prop) (hh : ∀ i s, I i s → heldOk held s) :
    ∀ (items : List D) (k : Nat) (s : Sto), I k s → (∀ i s d, items[i]? = some d → I (k + i) s → ∃ (y : D) (s' : Sto), f d s = .ok (some y) s' ∧ P (k + i) y ∧ I (k + i + 1) s') →
    ∃ (ys : List D) (s' : Sto), lcL held f items s = .ok ys s' ∧ ys.length = items.length ∧ (∀ i y, ys[i]? = some y → P (k + i) y) ∧ I (k + items.length) s'
  | [], k, s, h0, _ => ⟨[], s, by unfold lcL; rw [if_pos (hh _ _ h0)] <;> rfl, rfl, by simp, by simpa using h0⟩
  | d :: ds, k, s, h0, st => by
    obtain ⟨y, s1, e1, p1, h1⟩ := st 0 s d (by simp) (by simpa using h0)
    obtain ⟨ys, s2, e2, hl, hp, h2⟩ := lcL_all P I hh ds (k + 1) s1 (by simpa using h1) fun i s d hd hi => by
      obtain ⟨y, s', a, c, e⟩ := st (i + 1) s d (by simpa using hd) (by rw [← Nat.add_assoc, Nat.add_right_comm]; exact hi)
      exact ⟨y, s', a, by rw [Nat.add_right_comm k 1 i]; exact c, by rw [Nat.add_right_comm k 1 i]; exact e⟩
    refine ⟨y :: ys, s2, ?_, by simp [hl], ?_, by rw [List.length_cons, Nat.add_comm ds.length, ← Nat.add_assoc]; exact h2⟩
    · unfold lcL
      rw [if_pos (hh _ _ h0), e1]
      simp only [Out.bind_ok]
      rw [e2]
      rfl
    · intro i z hz
      cases i with
      | zero =>
        have : y = z := by simpa using hz
        subst this
        simpa using p1
      | succ i =>
        have := hp i z (by simpa using hz)
        rw [Nat.add_right_comm k 1 i] at this
        exact this
/-! ### values -/
def nI (n : Nat) : D := .int (n : Int)
def nT (r : List Nat) : D := .tup (r.map nI)
def nP (p : List (List Nat)) : D := .tup (p.map nT)
theorem rngD_zero (n : Nat) : rngD 0 n = (List.range n).map nI := by
  unfold rngD nI
  simp
theorem rng1_nI {n : Nat} (h : n ≤ SZ) : rng1 (nI n) = some ⟨(List.range n).map nI, []⟩ := by
  have h1 : n ≤ 100000 := h
  have h2 : (n : Int) ≤ 100000 := by omega
  unfold rng1 nI
  dsimp only
  rw [if_pos ⟨by omega, by omega⟩, Int.toNat_natCast, rngD_zero]
  rfl
theorem atI_cast {α : Type} (xs : List α) (n : Nat) : atI xs (n : Int) = xs[n]? := by
  unfold atI ixN
  rw [if_pos (Int.natCast_nonneg n)]
  by_cases h : n < xs.length
  · rw [if_pos (by omega), Option.bind_some, Int.toNat_natCast]
  · rw [if_neg (by omega), List.getElem?_eq_none (by omega)]
    rfl
@[simp] theorem pIdx_tup (s : Sto) (xs : List D) (n : Nat) : pIdx s (.tup xs) (nI n) = xs[n]? := by
  show (seqOf s (.tup xs)).bind (fun xs => atI xs (n : Int)) = _
  rw [seqOf_tup, Option.bind_some, atI_cast]
@[simp] theorem pIdx_lst (s : Sto) (xs : List D) (n : Nat) : pIdx s (.lst xs) (nI n) = xs[n]? := by
  show (seqOf s (.lst xs)).bind (fun xs => atI xs (n : Int)) = _
  rw [seqOf_lst, Option.bind_some, atI_cast]
theorem dat_P {s : Sto} {d : D} (h : isP d = true) : dat s d = some (toP d) := by
  unfold dat
  split
  · simp [isP] at h
  · rw [if_pos h]
@[simp] theorem isP_nI (n : Nat) : isP (nI n) = true := rfl
theorem isPs_map {α : Type} (f : α → D) (h : ∀ a, isP (f a) = true) : ∀ l : List α, isPs (l.map f) = true
  | [] => rfl
  | a :: l => by rw [List.map_cons, isPs, h a, isPs_map f h l] <;> rfl
@[simp] theorem isP_nT (r : List Nat) : isP (nT r) = true := by unfold nT; rw [isP]; exact isPs_map _ isP_nI r
@[simp] theorem isP_nP (p : List (List Nat)) : isP (nP p) = true := by unfold nP; rw [isP]; exact isPs_map _ isP_nT p
@[simp] theorem pEq_int (s : Sto) (i j : Int) : pEq s (.int i) (.int j) = some (.bl (decide (i = j))) := by
  have h : SeqAt.shaped (.int i) = true := rfl
  have h2 : SeqAt.shaped (.int j) = true := rfl
  show (if (SeqAt.shaped (.int i) && SeqAt.shaped (.int j)) = true then some (D.bl (PyData.eqv (.int i) (.int j))) else none) = _
  rw [h, h2, if_pos (by decide)]
  congr 2
@[simp] theorem pNe_int (s : Sto) (i j : Int) : pNe s (.int i) (.int j) = some (.bl (!decide (i = j))) := by
  have h : SeqAt.shaped (.int i) = true := rfl
  have h2 : SeqAt.shaped (.int j) = true := rfl
  show (if (SeqAt.shaped (.int i) && SeqAt.shaped (.int j)) = true then some (D.bl (!PyData.eqv (.int i) (.int j))) else none) = _
  rw [h, h2, if_pos (by decide)]
  congr 3
@[simp] theorem pEq_nI (s : Sto) (i j : Nat) : pEq s (nI i) (nI j) = some (.bl (decide (i = j))) := by
  unfold nI
  rw [pEq_int]
  congr 2
  rw [Bool.eq_iff_iff]; simp; omega
@[simp] theorem pNe_nI (s : Sto) (i j : Nat) : pNe s (nI i) (nI j) = some (.bl (!decide (i = j))) := by
  unfold nI
  rw [pNe_int]
  congr 3
  rw [Bool.eq_iff_iff]; simp; omega
@[simp] theorem pEq_str (s : Sto) (x y : Str) : pEq s (.str x) (.str y) = some (.bl (x == y)) := rfl
@[simp] theorem pNe_str (s : Sto) (x y : Str) : pNe s (.str x) (.str y) = some (.bl (!(x == y))) := rfl
theorem shaped_of {d : PyData} (h1 : d.canLay0 = true) (h2 : d.depth ≤ 64) : SeqAt.shaped d = true := by
  unfold SeqAt.shaped
  rw [h1, decide_eq_true h2] <;> rfl
theorem lay_ints : ∀ r : List Nat, PyData.canLayAll0 ((r.map nI).map toP) = true
  | [] => rfl
  | n :: r => by
    rw [List.map_cons, List.map_cons, PyData.canLayAll0, lay_ints r] <;> rfl
theorem dep_ints : ∀ r : List Nat, PyData.depthAll ((r.map nI).map toP) = 0
  | [] => rfl
  | n :: r => by
    rw [List.map_cons, List.map_cons, PyData.depthAll, dep_ints r] <;> rfl
theorem toP_nT (r : List Nat) : toP (nT r) = .tuple ((r.map nI).map toP) := by unfold nT; rw [toP, toPs_map]
theorem shaped_nT (r : List Nat) : SeqAt.shaped (toP (nT r)) = true := by
  rw [toP_nT]
  refine shaped_of (by rw [PyData.canLay0]; exact lay_ints r) ?_
  rw [PyData.depth, dep_ints]
  decide
theorem any_ints (a : Nat) : ∀ r : List Nat, (((r.map nI).map toP).any fun z => PyData.eqv z (.int (a : Int))) = decide (a ∈ r)
  | [] => by simp
  | n :: r => by
    rw [List.map_cons, List.map_cons, List.any_cons, any_ints a r]
    show (PyData.eqv (.int (n : Int)) (.int (a : Int)) || decide (a ∈ r)) = _
    have e : PyData.eqv (.int (n : Int)) (.int (a : Int)) = decide (a = n) := by
      show ((n : Int) == (a : Int)) = _
      rw [Bool.eq_iff_iff]
      simp
      omega
    rw [e, Bool.eq_iff_iff]
    simp
theorem inD_nT (s : Sto) (a : Nat) (r : List Nat) : inD s (nI a) (nT r) = some (decide (a ∈ r)) := by
  unfold inD
  show (match dat s (nI a), dat s (nT r) with
    | some p, some (.list ds) => if (SeqAt.shaped p && SeqAt.shaped (.list ds)) = true then some (ds.any fun z => PyData.eqv z p) else none
    | some p, some (.tuple ds) => if (SeqAt.shaped p && SeqAt.shaped (.tuple ds)) = true then some (ds.any fun z => PyData.eqv z p) else none
    | _, _ => none) = _
  have h := shaped_nT r
  rw [dat_P (isP_nI a), dat_P (isP_nT r)]
  rw [toP_nT] at h ⊢
  have h2 : SeqAt.shaped (toP (nI a)) = true := rfl
  simp only [h2, h, Bool.and_self, if_true]
  congr 1
  exact any_ints a r
@[simp] theorem pIn_nT (s : Sto) (a : Nat) (r : List Nat) : pIn s (nI a) (nT r) = some (.bl (decide (a ∈ r))) := by unfold pIn; rw [inD_nT] <;> rfl
@[simp] theorem pNotIn_nT (s : Sto) (a : Nat) (r : List Nat) : pNotIn s (nI a) (nT r) = some (.bl (!decide (a ∈ r))) := by unfold pNotIn; rw [inD_nT] <;> rfl
@[simp] theorem srcOf_tup (s : Sto) (xs : List D) : srcOf s (.tup xs) = some ⟨xs, []⟩ := rfl
@[simp] theorem srcOf_lst (s : Sto) (xs : List D) : srcOf s (.lst xs) = some ⟨xs, []⟩ := rfl
@[simp] theorem pLen_tup (s : Sto) (xs : List D) : pLen s [.tup xs] = some (nI xs.length) := rfl
@[simp] theorem pTuple_lst (s : Sto) (xs : List D) : pTuple s [.lst xs] = some (.tup xs) := rfl
@[simp] theorem truth_bl (s : Sto) (b : Bool) : (D.bl b).truth s = some b := rfl
/-! ### words on whole numbers -/
section
variable (s : Sto) (i j : Int)
@[simp] theorem pAdd_int : pAdd s (.int i) (.int j) = some (.int (i + j)) := rfl
@[simp] theorem pSub_int : pSub s (.int i) (.int j) = some (.int (i - j)) := rfl
@[simp] theorem pNeg_int : pNeg s (.int i) = some (.int (-i)) := rfl
theorem pMod_int (h : 0 < j) : pMod s (.int i) (.int j) = some (.int (i % j)) := by unfold pMod; dsimp only; rw [if_pos h]
theorem pDiv_int (h : 0 < j ∧ j < 1073741824) : pDiv s (.int i) (.int j) = some (.int (i / j)) := by unfold pDiv; dsimp only; rw [if_pos h]
theorem pPow_int (h : 0 ≤ j ∧ j ≤ 1000000 ∧ i.natAbs < 2 ^ 64) : pPow s (.int i) (.int j) = some (.int (i ^ j.toNat)) := by unfold pPow; dsimp only; rw [if_pos h]
theorem pMul_int (h : i.natAbs < 2 ^ 64 ∨ j.natAbs < 2 ^ 64) : pMul s (.int i) (.int j) = some (.int (i * j)) := by unfold pMul; dsimp only; rw [if_pos h]
@[simp] theorem pLt_int : pLt s (.int i) (.int j) = some (.bl (decide (i < j))) := rfl
@[simp] theorem pLe_int : pLe s (.int i) (.int j) = some (.bl (decide (i ≤ j))) := rfl
@[simp] theorem pGt_int : pGt s (.int i) (.int j) = some (.bl (decide (j < i))) := rfl
@[simp] theorem pGe_int : pGe s (.int i) (.int j) = some (.bl (decide (j ≤ i))) := rfl
@[simp] theorem pAdd_nI (a b : Nat) : pAdd s (nI a) (nI b) = some (nI (a + b)) := by unfold nI; rw [pAdd_int]; congr 2
theorem pMod_nI (a b : Nat) (h : 0 < b) : pMod s (nI a) (nI b) = some (nI (a % b)) := by unfold nI; rw [pMod_int _ _ _ (by omega)]; congr 2
theorem lit_nI (n : Nat) : D.int (OfNat.ofNat n) = nI n := rfl
end
theorem pIdx_ref {s : Sto} {l : Nat} {xs : List D} (h : s[l]? = some (.lst xs)) (i : Int) : pIdx s (.ref l) (.int i) = atI xs i := by
  show (seqOf s (.ref l)).bind _ = _
  have e : seqOf s (.ref l) = some xs := by
    show lstOf s (.ref l) = _
    unfold lstOf
    dsimp only
    rw [h]
  rw [e] <;> rfl
theorem gSubD_ref {mo mi : Rho → M D} {d : D} {ρ : Rho} {s s1 s2 : Sto} {l j : Nat} {k : Int} {xs : List D} (ho : mo ρ s = .ok (.ref l) s1) (hi : mi ρ s1 = .ok (.int k) s2) (h : s2[l]? = some (.lst xs)) (hj : ixN xs.length k = some j) : gSubD mo mi d ρ s = .ok ρ (s2.set l (.lst (xs.set j d))) := by
  unfold gSubD
  rw [ho, Out.bind_ok, hi, Out.bind_ok]
  simp only [h, hj]
theorem pLen_ref {s : Sto} {l : Nat} {xs : List D} (h : s[l]? = some (.lst xs)) : pLen s [.ref l] = some (.int xs.length) := by
  show (seqOf s (.ref l)).map _ = _
  have e : seqOf s (.ref l) = some xs := by
    show lstOf s (.ref l) = _
    unfold lstOf
    dsimp only
    rw [h]
  rw [e] <;> rfl
/-! ### comprehensions over numbers -/
theorem lc_nat {f : D → Sto → Out (Option D)} {s : Sto} (p : Nat → Bool) (g : Nat → D) (l : List Nat) (h : ∀ a ∈ l, f (nI a) s = .ok (if p a = true then some (g a) else none) s) : lcL [] f (l.map nI) s = .ok ((l.filter p).map g) s := by
  induction l with
  | nil => unfold lcL; rw [List.map_nil]; simp
  | cons a l ih =>
    rw [List.map_cons]
    unfold lcL
    rw [if_pos (by simp), h a (by simp)]
    simp only [Out.bind_ok]
    rw [ih fun b hb => h b (by simp [hb])]
    cases e : p a <;> simp [e]
/-- a part of the numbers, drawn -/
theorem lc_drawn {f : D → Sto → Out (Option D)} (I : Nat → Sto → Prop) (l : List Nat) (s : Sto) (h0 : I 0 s) (h : ∀ i s a, a ∈ l → i < l.length → I i s → ∃ (b : Bool) (s' : Sto), f (nI a) s = .ok (if b = true then some (nI a) else none) s' ∧ I (i + 1) s') :
    ∃ (r : List Nat) (s' : Sto), lcL [] f (l.map nI) s = .ok (r.map nI) s' ∧ r.Sublist l ∧ I l.length s' := by
  obtain ⟨ys, s', e, hs, hI⟩ := lcL_sub (held := []) (f := f) (fun d => d) I (fun _ _ _ => by simp) (l.map nI) 0 s h0 fun i s d hd hi => by
    rw [List.getElem?_map] at hd
    cases e : l[i]? with
    | none => rw [e] at hd; cases hd
    | some a =>
      rw [e] at hd
      cases hd
      obtain ⟨b, s', q, hi'⟩ := h i s a (List.mem_of_getElem? e) (List.getElem?_eq_some_iff.mp e).1 (by simpa using hi)
      exact ⟨b, s', q, by simpa using hi'⟩
  obtain ⟨r, hr, er⟩ := List.sublist_map_iff.mp hs
  subst er
  exact ⟨r, s', by rw [e]; simp, hr, by simpa using hI⟩
/-! ### repr -/
structure ROk (dp bk : Nat) (d : D) : Prop where
  p : isP d = true
  lay : (toP d).canLay0 = true
  dep : (toP d).depth ≤ dp
  show_ : (toP d).showable = true
  leaf : (toP d).leavesShort 60 = true
  blk : (toP d).bulk ≤ bk
theorem ROk.repr {dp bk : Nat} {d : D} (h : ROk dp bk d) (h1 : dp ≤ 64) (h2 : bk ≤ 200000) (s : Sto) : pRepr s [d] = some (.str (toP d).shown) := by
  have hl := PyData.shown_le_bulk 60 (by decide) (toP d) h.leaf
  have hb := h.blk
  have hs : (toP d).shown.length ≤ sizeLine := by rw [sizeLine_eq]; omega
  show (dat s d).bind _ = _
  rw [dat_P h.p]
  show (if SeqAt.shaped (toP d) = true ∧ (toP d).showable = true ∧ (toP d).shown.length ≤ sizeLine then some (D.str (toP d).shown) else none) = _
  rw [if_pos ⟨shaped_of h.lay (Nat.le_trans h.dep h1), h.show_, hs⟩]
theorem ROk.mono {dp bk dp' bk' : Nat} {d : D} (h : ROk dp bk d) (h1 : dp ≤ dp') (h2 : bk ≤ bk') : ROk dp' bk' d := ⟨h.p, h.lay, Nat.le_trans h.dep h1, h.show_, h.leaf, Nat.le_trans h.blk h2⟩
theorem rok_all {dp bk : Nat} : ∀ {xs : List D}, (∀ x ∈ xs, ROk dp bk x) → isPs xs = true ∧ PyData.canLayAll0 (toPs xs) = true ∧ PyData.depthAll (toPs xs) ≤ dp ∧ PyData.showableAll (toPs xs) = true ∧ PyData.leavesShortAll 60 (toPs xs) = true ∧ PyData.bulkAll (toPs xs) ≤ xs.length * (bk + 1)
  | [], _ => ⟨rfl, rfl, Nat.zero_le _, rfl, rfl, by simp [toPs, PyData.bulkAll]⟩
  | x :: xs, h => by
    obtain ⟨a1, a2, a3, a4, a5, a6⟩ := h x (by simp)
    obtain ⟨b1, b2, b3, b4, b5, b6⟩ := rok_all (xs := xs) fun y hy => h y (List.mem_cons_of_mem _ hy)
    refine ⟨by rw [isPs, a1, b1] <;> rfl, by rw [toPs, PyData.canLayAll0, a2, b2] <;> rfl, by rw [toPs, PyData.depthAll]; exact Nat.max_le.mpr ⟨a3, b3⟩, by rw [toPs, PyData.showableAll, a4, b4] <;> rfl, by rw [toPs, PyData.leavesShortAll, a5, b5] <;> rfl, ?_⟩
    rw [toPs, PyData.bulkAll, List.length_cons, Nat.add_mul]
    omega
theorem rok_tup {dp bk n : Nat} {xs : List D} (h : ∀ x ∈ xs, ROk dp bk x) (hn : xs.length ≤ n) : ROk (dp + 1) (n * (bk + 1)) (.tup xs) := by
  obtain ⟨b1, b2, b3, b4, b5, b6⟩ := rok_all h
  refine ⟨by rw [isP]; exact b1, by rw [toP, PyData.canLay0]; exact b2, by rw [toP, PyData.depth]; omega, by rw [toP, PyData.showable]; exact b4, by rw [toP, PyData.leavesShort]; exact b5, ?_⟩
  rw [toP, PyData.bulk]
  exact Nat.le_trans b6 (Nat.mul_le_mul_right _ hn)
theorem rok_lst {dp bk n : Nat} {xs : List D} (h : ∀ x ∈ xs, ROk dp bk x) (hn : xs.length ≤ n) : ROk (dp + 1) (n * (bk + 1)) (.lst xs) := by
  obtain ⟨b1, b2, b3, b4, b5, b6⟩ := rok_all h
  refine ⟨by rw [isP]; exact b1, by rw [toP, PyData.canLay0]; exact b2, by rw [toP, PyData.depth]; omega, by rw [toP, PyData.showable]; exact b4, by rw [toP, PyData.leavesShort]; exact b5, ?_⟩
  rw [toP, PyData.bulk]
  exact Nat.le_trans b6 (Nat.mul_le_mul_right _ hn)
end Dn
/-! DnQ: numbers sorted; rows and panels shown. -/
namespace Dn
open PySem PySem.Spec PyProof.Rows L2
theorem dataLe_nI (a b : Nat) : PySem.W.dataLe false toP (nI a) (nI b) = decide (a ≤ b) := by
  have e := congrFun (congrFun (PySem.W.dataLe_int (fun n : Nat => (n : Int))) a) b
  have e2 : PySem.W.dataLe false toP (nI a) (nI b) = PySem.W.dataLe false (fun n : Nat => PyData.int (n : Int)) a b := rfl
  rw [e2, e, Bool.eq_iff_iff]
  simp
theorem sort_nats {r q : List Nat} (hp : r.Perm q) (hq : q.Pairwise (· < ·)) : r.mergeSort (fun a b => decide (a ≤ b)) = q := by
  refine List.Perm.eq_of_pairwise (le := (· ≤ ·)) (fun a b _ _ h1 h2 => Nat.le_antisymm h1 h2) ?_ (hq.imp fun h => Nat.le_of_lt h) ((List.mergeSort_perm r _).trans hp)
  have := List.pairwise_mergeSort (le := fun a b : Nat => decide (a ≤ b)) (fun a b c h1 h2 => by simp at h1 h2 ⊢; omega) (fun a b => by simp; omega) r
  exact this.imp fun h => by simpa using h
theorem sortD_nI {r q : List Nat} (hp : r.Perm q) (hq : q.Pairwise (· < ·)) : sortD (r.map nI) = q.map nI := by
  unfold sortD
  rw [← List.map_mergeSort (r := fun a b : Nat => decide (a ≤ b)) (fun a _ b _ => (dataLe_nI a b).symm), sort_nats hp hq]
theorem pSorted_nI {s : Sto} {d : D} {r q : List Nat} (hs : seqOf s d = some (r.map nI)) (hl : r.length ≤ 100000) (hp : r.Perm q) (hq : q.Pairwise (· < ·)) : pSorted s [d] = some (q.map nI) := by
  unfold pSorted
  simp only [hs]
  rw [if_pos, sortD_nI hp hq]
  refine ⟨by rw [List.length_map]; exact hl, fun x hx => ?_, fun x hx y hy => ?_, .inr fun x hx => ?_⟩
  · obtain ⟨a, _, rfl⟩ := List.mem_map.mp hx
    exact ⟨rfl, Nat.zero_le _⟩
  · rw [List.map_map] at hx hy
    obtain ⟨a, _, rfl⟩ := List.mem_map.mp hx
    obtain ⟨b, _, rfl⟩ := List.mem_map.mp hy
    rfl
  · rw [List.map_map] at hx
    obtain ⟨a, _, rfl⟩ := List.mem_map.mp hx
    exact ⟨(fun h => nomatch h), (fun xs h => nomatch h)⟩
theorem sorted_sub {n : Nat} {r : List Nat} (h : r.Sublist (List.range n)) : r.Pairwise (· < ·) := (List.pairwise_lt_range (n := n)).sublist h
theorem mem_sub {n : Nat} {r : List Nat} (h : r.Sublist (List.range n)) {a : Nat} (ha : a ∈ r) : a < n := List.mem_range.mp (h.subset ha)
theorem len_sub {n : Nat} {r : List Nat} (h : r.Sublist (List.range n)) : r.length ≤ n := by have := h.length_le; rwa [List.length_range] at this
/-- the rows with the same members are the same -/
theorem sub_ext {n : Nat} {r q : List Nat} (h1 : r.Pairwise (· < ·)) (h2 : q.Pairwise (· < ·)) (h : ∀ a, a ∈ r ↔ a ∈ q) : r = q := by
  have nd : ∀ {l : List Nat}, l.Pairwise (· < ·) → l.Nodup := fun h => h.imp fun h => Nat.ne_of_lt h
  have hp : r.Perm q := (List.perm_ext_iff_of_nodup (nd h1) (nd h2)).mpr h
  exact hp.eq_of_pairwise (le := (· < ·)) (fun a b _ _ h1 h2 => absurd h1 (Nat.lt_asymm h2)) h1 h2
theorem perm_ext {r q : List Nat} (h1 : r.Nodup) (h2 : q.Nodup) (h : ∀ a, a ∈ r ↔ a ∈ q) : r.Perm q := (List.perm_ext_iff_of_nodup h1 h2).mpr h
theorem lc_each {f : D → Sto → Out (Option D)} {s : Sto} (g : Nat → D) (l : List Nat) (h : ∀ a ∈ l, f (nI a) s = .ok (some (g a)) s) : lcL [] f (l.map nI) s = .ok (l.map g) s := by
  rw [lc_nat (fun _ => true) g l (fun a ha => by rw [h a ha, if_pos rfl]), List.filter_eq_self.mpr (fun _ _ => rfl)]
theorem clean_some (s : Sto) (d : D) (s' : Sto) : ∃ st', clean s (.ok d s') = .ok d st' := by
  unfold clean
  dsimp only
  split
  · exact ⟨_, rfl⟩
  · exact ⟨_, rfl⟩
/-- by place -/
theorem lc_ix {held : List (Nat × List D)} {f : D → Sto → Out (Option D)} {s : Sto} (h : Nat → D) (hh : heldOk held s) (items : List D) (hf : ∀ i d, items[i]? = some d → f d s = .ok (some (h i)) s) : lcL held f items s = .ok ((List.range items.length).map h) s := by
  induction items generalizing h with
  | nil => unfold lcL; rw [if_pos hh]; rfl
  | cons d ds ih =>
    unfold lcL
    rw [if_pos hh, hf 0 d rfl]
    simp only [Out.bind_ok]
    rw [ih (fun i => h (i + 1)) fun i d hd => hf (i + 1) d (by simpa using hd)]
    simp only [Out.bind_ok]
    rw [List.length_cons, List.range_succ_eq_map, List.map_cons, List.map_map]
    rfl
theorem cutD_take {α : Type} (xs : List α) (n : Nat) : Dn.cutD xs none (some (n : Int)) = xs.take n := by
  unfold Dn.cutD
  rw [HT.sIx_none, HT.sIx_nat, Nat.sub_zero, List.drop_zero]
  by_cases h : n ≤ xs.length
  · rw [Nat.min_eq_left h]
  · rw [Nat.min_eq_right (by omega), List.take_length, List.take_of_length_le (by omega)]
theorem cutD_drop {α : Type} (xs : List α) (n : Nat) : Dn.cutD xs (some (n : Int)) none = xs.drop n := by
  unfold Dn.cutD
  rw [HT.sIx_none, HT.sIx_nat]
  by_cases h : n ≤ xs.length
  · rw [Nat.min_eq_left h, List.take_of_length_le (by rw [List.length_drop]; omega)]
  · rw [Nat.min_eq_right (by omega), Nat.sub_self, List.take_zero, List.drop_of_length_le (by omega)]
/-- in a list of the store -/
theorem inD_ref {s : Sto} {l a : Nat} {r : List Nat} (h : s[l]? = some (.lst (r.map nI))) : inD s (nI a) (.ref l) = some (decide (a ∈ r)) := by
  unfold inD
  have e : dat s (.ref l) = some (.list ((r.map nI).map toP)) := by
    unfold dat
    simp only [h]
    rw [if_pos (isPs_map _ isP_nI r), toPs_map]
  show (match dat s (nI a), dat s (.ref l) with
    | some p, some (.list ds) => if (SeqAt.shaped p && SeqAt.shaped (.list ds)) = true then some (ds.any fun z => PyData.eqv z p) else none
    | some p, some (.tuple ds) => if (SeqAt.shaped p && SeqAt.shaped (.tuple ds)) = true then some (ds.any fun z => PyData.eqv z p) else none
    | _, _ => none) = _
  have h3 : SeqAt.shaped (.list ((r.map nI).map toP)) = true := by
    refine shaped_of (by rw [PyData.canLay0]; exact lay_ints r) ?_
    rw [PyData.depth, dep_ints]
    decide
  have h2 : SeqAt.shaped (toP (nI a)) = true := rfl
  rw [dat_P (isP_nI a), e]
  simp only [h2, h3, Bool.and_self, if_true]
  congr 1
  exact any_ints a r
theorem pIn_ref {s : Sto} {l a : Nat} {r : List Nat} (h : s[l]? = some (.lst (r.map nI))) : pIn s (nI a) (.ref l) = some (.bl (decide (a ∈ r))) := by unfold pIn; rw [inD_ref h] <;> rfl
theorem pNotIn_ref {s : Sto} {l a : Nat} {r : List Nat} (h : s[l]? = some (.lst (r.map nI))) : pNotIn s (nI a) (.ref l) = some (.bl (!decide (a ∈ r))) := by unfold pNotIn; rw [inD_ref h] <;> rfl
theorem lst_of_ref {s : Sto} {l : Nat} {xs : List D} (h : s[l]? = some (.lst xs)) : lstOf s (.ref l) = some xs := by
  unfold lstOf
  simp only [h]
/-! shown -/
theorem shown_small (n : Nat) (h : n < 1000) : ((PyData.int (n : Int)).shown).length ≤ 60 ∧ (n : Int).natAbs.log2 < 1920 := by
  revert n
  decide +kernel
theorem rok_nI {n : Nat} (h : n < 1000) : ROk 0 0 (nI n) := by
  obtain ⟨h1, h2⟩ := shown_small n h
  refine ⟨rfl, rfl, Nat.le_refl _, ?_, ?_, Nat.le_refl _⟩
  · show decide ((n : Int).natAbs.log2 < 1920) = true
    exact decide_eq_true h2
  · show decide (((PyData.int (n : Int)).shown).length ≤ 60) = true
    exact decide_eq_true h1
theorem rok_nT {r : List Nat} {k : Nat} (h : ∀ a ∈ r, a < 1000) (hl : r.length ≤ k) : ROk 1 k (nT r) := by
  have := rok_tup (dp := 0) (bk := 0) (n := k) (xs := r.map nI) (fun x hx => by
    obtain ⟨a, ha, rfl⟩ := List.mem_map.mp hx
    exact rok_nI (h a ha)) (by rw [List.length_map]; exact hl)
  simpa [nT] using this
theorem rok_nP {p : List (List Nat)} {k m : Nat} (h : ∀ r ∈ p, ∀ a ∈ r, a < 1000) (hl : ∀ r ∈ p, r.length ≤ k) (hm : p.length ≤ m) : ROk 2 (m * (k + 1)) (nP p) := by
  exact rok_tup (dp := 1) (bk := k) (n := m) (xs := p.map nT) (fun x hx => by
    obtain ⟨r, hr, rfl⟩ := List.mem_map.mp hx
    exact rok_nT (h r hr) (hl r hr)) (by rw [List.length_map]; exact hm)
end Dn
/-! DnR: methods of tuples; count and index. -/
namespace Dn
open PySem PySem.Spec PyProof.Rows L2
def mMethT (p : D → List D → M D) (mo : Rho → M D) (am : Rho → M (List D)) : Rho → M D := fun ρ st =>
  (mo ρ st).bind fun o st1 => match o with
    | .tup xs => (am ρ st1).bind fun ds st2 => nox (p (.tup xs) ds st2)
    | _ => .bad
section
variable {X : Cx} {W : WX} {apos cpos : Pos} {o e : Expr} {es : List Expr} {mo : Rho → M D} {am : Rho → M (List D)} {id : String} {name : Str} {p : D → List D → M D} {pins : List (Addr × Obj)} {σ : L2.St} {H : Hp} {s : Shared}
/-- such a tuple in the heap -/
theorem _root_.L2.Inv.plainT {K : PySem.W.Frag} {a : Addr} {xs : List V} (hK : K = X.K) (I : Inv X pins σ H s) (h : SqP K H a xs) : s.TypeIs (.ref a) "tuple" ∧ ∀ b, Value.ref a = .ref b → ∃ ob, s.heap.get? b = some ob ∧ ob.dict = none := by
  subst hK
  rcases h with ⟨ob, hd, hF⟩ | ⟨ob, its, n, hk, hc, hd, _⟩
  · obtain ⟨hg, hz, us, r, ob2, hg2, hc2, _⟩ := I.hok a _ hF
    rw [hg] at hg2
    cases hg2
    exact ⟨⟨ob, hg, hc2⟩, fun b e => by cases e; exact ⟨ob, hg, hd⟩⟩
  · exact ⟨⟨ob, I.kIn a ob hk, hc⟩, fun b e => by cases e; exact ⟨ob, I.kIn a ob hk, hd⟩⟩
theorem de_mT (slot : Slot "tuple" name id) (hty : typeOf (.builtin id) = pure (.type "method_descriptor")) (hm : MtR X id (rM X.K p)) (ho : DE X W o mo) (ha : DA X W (e :: es) am)
    (hbase : attributeBase o name X.env (eval o X.env) = eval o X.env := by rfl)
    (hfew : ((backTo cpos (starEach (e :: es) X.env)).all (fun x => !x.1) && (backToKw cpos (keywordEach [] X.env)).all (fun x => x.1.isSome)
      && decide ((e :: es).length + ([] : List Keyword).length + (if ([] : List Keyword).isEmpty then 0 else 1) < 30)) = true := by rfl)
    (hline : (apos.endLine == cpos.line) = true := by rfl) (hs : starEach (e :: es) X.env = (false, eval e X.env) :: starEach es X.env := by rfl) (hpl : (backTo cpos (starEach es X.env)).any (·.1) = false := by rfl) :
    DE X W (.Call (.Attribute o name apos) (e :: es) [] cpos) (mMethT p mo am) := by
  refine ⟨fun pins s σ H Q I ⟨F, ι, ρ, st, S, R, q⟩ => ?_⟩
  refine wpAny_Call_method_late hbase hfew hline rfl (thn (ho.run pins s σ H (fun x H1 => ∃ F1 ι1 st1 xs, Sim X.K F1 ι1 st1 H1 ∧ REnv X.K F1 ι1 ρ σ ∧ Rep X.K F1 ι1 (.tup xs) x ∧ post X.K W σ F1 ι1 H1 (pV X.K) ((am ρ st1).bind fun ds st2 => nox (p (.tup xs) ds st2)) Q) I ?_) fun v s1 ⟨x, H1, I1, r1, F1, ι1, st1, xs, S1, R1, rx, q1⟩ => ?_)
  · refine tG_seq back_V S R q fun d st1 F1 ι1 H1 x x1 S1 R1 r1 q1 => ?_
    split at q1
    · exact ⟨F1, ι1, st1, _, S1, R1, r1, q1⟩
    · exact (q1 : False).elim
  have rx' := rx
  simp only [Rep] at rx
  obtain ⟨a, vs, rfl, hq, rr⟩ := rx
  obtain rfl : v = Value.ref a := r1
  obtain ⟨ht, hd⟩ := I1.plainT rfl (hq.mono S1.sub)
  refine ⟨"tuple", id, PySem.F.plainAttrs_tuple, slot, hty, ht, hd, ?_⟩
  have hA := ha.run cpos pins s1 σ H1 (fun ws H2 => rM X.K p (.ref a) ws H2 Q) I1 (by
    refine tG_seq back_V S1 R1 q1 fun ds st2 F2 ι2 H2 ws x2 S2 R2 r2 q2 => ?_
    cases e1 : p (.tup xs) ds st2 with
    | ok d' st' =>
      rw [e1] at q2
      exact ⟨F2, ι2, st2, .tup xs, ds, d', st', S2, rx'.ext x2, r2, e1, q2⟩
    | exc _ _ => rw [e1] at q2; exact (q2 : False).elim
    | bad => rw [e1] at q2; exact (q2 : False).elim)
  rw [hs] at hA ⊢
  refine Calls.callWith_builtin (by show (false || (backTo cpos (starEach es X.env)).any (·.1)) = false; rw [hpl] <;> rfl) (Calls.evalArgs_plain ?_)
  exact thn hA fun us s2 ⟨ws, H2, I2, r2, q2⟩ => hm pins s2 σ H2 (.ref a) ws (.ref a) us Q I2 rfl r2 q2
/-! ### count, index -/
open Classical in
noncomputable def countD (xs : List D) (y : D) : Option D := if isPs xs = true ∧ isP y = true ∧ SeqAt.shaped (.list (toPs xs)) = true ∧ SeqAt.shaped (toP y) = true then some (.int ((toPs xs).countP fun z => PyData.eqv z (toP y) : Nat)) else none
open Classical in
noncomputable def indexD (xs : List D) (y : D) : Option D := if isPs xs = true ∧ isP y = true ∧ SeqAt.shaped (.list (toPs xs)) = true ∧ SeqAt.shaped (toP y) = true then (SeqAt.dataPlace (toPs xs) (toP y)).map fun j => .int (j : Nat) else none
noncomputable def pCountT : D → List D → M D := fun d ds st => match d, ds with
  | .tup xs, [y] => lift (countD xs y) st
  | _, _ => .bad
noncomputable def pIndexT : D → List D → M D := fun d ds st => match d, ds with
  | .tup xs, [y] => lift (indexD xs y) st
  | _, _ => .bad
noncomputable def pCountL : D → List D → M D := fun d ds st => match lstOf st d, ds with
  | some xs, [y] => lift (countD xs y) st
  | _, _ => .bad
noncomputable def pIndexL : D → List D → M D := fun d ds st => match lstOf st d, ds with
  | some xs, [y] => lift (indexD xs y) st
  | _, _ => .bad
theorem lift_ok {α : Type} {o : Option α} {st st' : Sto} {d : α} (h : lift o st = .ok d st') : o = some d ∧ st' = st := by
  cases o with
  | none => cases h
  | some a => cases h; exact ⟨rfl, rfl⟩
theorem reads_all {K : PySem.W.Frag} (hK : K = X.K) (I : Inv X pins σ H s) {F : Hp} {ι : List Addr} {st : Sto} (S : Sim K F ι st H) {xs : List D} {vs : List V} {its : List Value} (h : isPs xs = true) (r : Reps K F ι xs vs) (rv : Vals vs its) : ∃ as, ReadsAll s.heap its (toPs xs) as := by
  subst hK
  exact Dp.readsAll I _ _ _ (dps_of S.sub xs vs h r) rv
theorem shaped_parts {xs : List PyData} (h : SeqAt.shaped (.list xs) = true) : PyData.plainAll xs = true ∧ PyData.depthAll xs ≤ 63 := by
  have h1 := SeqAt.canLay_of_shaped h
  have h2 := SeqAt.depth_of_shaped h
  rw [PyData.depth] at h2
  have h3 := PyData.plain_of_canLay0 (.list xs) h1
  rw [PyData.plain] at h3
  exact ⟨h3, by omega⟩
theorem room_data {xs : List PyData} {d : PyData} (hu : X.A.units + 70 < cLine) (h : PyData.depthAll xs ≤ 63) : X.A.units + 1 + min (PyData.depthAll xs) d.depth < cLine := by
  have := Nat.min_le_left (PyData.depthAll xs) d.depth
  omega
theorem countD_some {xs : List D} {y d : D} (h : countD xs y = some d) : isPs xs = true ∧ isP y = true ∧ SeqAt.shaped (.list (toPs xs)) = true ∧ SeqAt.shaped (toP y) = true ∧ d = .int ((toPs xs).countP fun z => PyData.eqv z (toP y) : Nat) := by
  unfold countD at h
  split at h
  · rename_i c
    cases h
    exact ⟨c.1, c.2.1, c.2.2.1, c.2.2.2, rfl⟩
  · cases h
theorem indexD_some {xs : List D} {y d : D} (h : indexD xs y = some d) : isPs xs = true ∧ isP y = true ∧ SeqAt.shaped (.list (toPs xs)) = true ∧ SeqAt.shaped (toP y) = true ∧ ∃ j, SeqAt.dataPlace (toPs xs) (toP y) = some j ∧ d = .int (j : Nat) := by
  unfold indexD at h
  split at h
  · rename_i c
    obtain ⟨j, e, rfl⟩ := Option.map_eq_some_iff.mp h
    exact ⟨c.1, c.2.1, c.2.2.1, c.2.2.2, j, e, rfl⟩
  · cases h
theorem rep_int {K : PySem.W.Frag} {F : Hp} {ι : List Addr} {i : Int} : Rep K F ι (.int i) (.int i) := by simp only [Rep]
theorem mt_pCountT (hu : X.A.units + 70 < cLine) : MtR X "tuple.count" (rM X.K pCountT) := by
  intro pins s σ H x xs v us Q I rx rxs ⟨F, ι, st, d, ds, d', st', S, rd, rds, e, q⟩
  unfold pCountT at e
  split at e
  rotate_left
  · cases e
  rename_i ys y
  obtain ⟨e2, rfl⟩ := lift_ok e
  obtain ⟨p1, p2, p3, p4, rfl⟩ := countD_some e2
  obtain ⟨w, rfl, ry⟩ := rds.one'
  obtain ⟨u, rfl, ru⟩ := rxs.one
  simp only [Rep] at rd
  obtain ⟨a, vs, rfl, hq, rr⟩ := rd
  cases rx
  obtain ⟨its, rv, ht, hz⟩ := I.tuple (S.sqT hq)
  obtain ⟨as, ra⟩ := reads_all rfl I S p1 rr rv
  obtain ⟨bs, rb⟩ := Dp.reads I _ _ _ (rep_dp S ry p2) ru
  obtain ⟨h1, h2⟩ := shaped_parts p3
  exact SeqAt.count_tuple_data (vs := its.toArray) ht (by simpa using ra) rb h1 (PyData.plain_of_canLay0 _ (SeqAt.canLay_of_shaped p4)) (room_data hu h2) ⟨.int _, H, I.tok _, ⟨_, rfl⟩, q F ι H _ Ext.refl S rep_int⟩
theorem mt_pCountL (hu : X.A.units + 70 < cLine) : MtR X "list.count" (rM X.K pCountL) := by
  intro pins s σ H x xs v us Q I rx rxs ⟨F, ι, st, d, ds, d', st', S, rd, rds, e, q⟩
  unfold pCountL at e
  split at e
  rotate_left
  · cases e
  rename_i ys y e1
  obtain ⟨e2, rfl⟩ := lift_ok e
  obtain ⟨p1, p2, p3, p4, rfl⟩ := countD_some e2
  obtain ⟨w, rfl, ry⟩ := rds.one'
  obtain ⟨u, rfl, ru⟩ := rxs.one
  obtain ⟨a, vs, rfl, hq, rr⟩ := S.lst rd e1
  cases rx
  obtain ⟨its, rv, pl, hz⟩ := I.list (SqL.of hq)
  obtain ⟨as, ra⟩ := reads_all rfl I S p1 rr rv
  obtain ⟨bs, rb⟩ := Dp.reads I _ _ _ (rep_dp S ry p2) ru
  obtain ⟨h1, h2⟩ := shaped_parts p3
  exact SeqAt.count_list_data (vs := its.toArray) pl.isList (by simpa using ra) rb h1 (PyData.plain_of_canLay0 _ (SeqAt.canLay_of_shaped p4)) (room_data hu h2) ⟨.int _, H, I.tok _, ⟨_, rfl⟩, q F ι H _ Ext.refl S rep_int⟩
theorem mt_pIndexT (hu : X.A.units + 70 < cLine) : MtR X "tuple.index" (rM X.K pIndexT) := by
  intro pins s σ H x xs v us Q I rx rxs ⟨F, ι, st, d, ds, d', st', S, rd, rds, e, q⟩
  unfold pIndexT at e
  split at e
  rotate_left
  · cases e
  rename_i ys y
  obtain ⟨e2, rfl⟩ := lift_ok e
  obtain ⟨p1, p2, p3, p4, j, hj, rfl⟩ := indexD_some e2
  obtain ⟨w, rfl, ry⟩ := rds.one'
  obtain ⟨u, rfl, ru⟩ := rxs.one
  simp only [Rep] at rd
  obtain ⟨a, vs, rfl, hq, rr⟩ := rd
  cases rx
  obtain ⟨its, rv, ⟨⟨C, dd, dt, sl⟩, ho, hc, n, hd⟩, hz⟩ := I.tuple (S.sqT hq)
  simp only at hc hd
  subst hc hd
  obtain ⟨as, ra⟩ := reads_all rfl I S p1 rr rv
  obtain ⟨bs, rb⟩ := Dp.reads I _ _ _ (rep_dp S ry p2) ru
  obtain ⟨h1, h2⟩ := shaped_parts p3
  have ra' : ReadsAll s.heap its.toArray.toList (toPs ys) as := by simpa using ra
  obtain ⟨hjs, hit, hno⟩ := SeqAt.hit_at (vs := its.toArray) ra' h1 hj
  exact call_meets PySem.F.slot_tuple_index ⟨_, ho, rfl⟩ PySem.F.entry_tuple_index (PySem.F.args_tuple_index_2 _ _) (_root_.TI.tuple_indexAt a its.toArray n dd sl u (fun z => PyData.eqv (SeqAt.readOf s.heap z) (toP y)) j hjs hit hno)
    ⟨ho, SeqAt.items_plain ra' rb h1 (PyData.plain_of_canLay0 _ (SeqAt.canLay_of_shaped p4)) (room_data hu h2), ⟨.int _, H, I.tok _, ⟨_, rfl⟩, q F ι H _ Ext.refl S rep_int⟩⟩
theorem mt_pIndexL (hu : X.A.units + 70 < cLine) : MtR X "list.index" (rM X.K pIndexL) := by
  intro pins s σ H x xs v us Q I rx rxs ⟨F, ι, st, d, ds, d', st', S, rd, rds, e, q⟩
  unfold pIndexL at e
  split at e
  rotate_left
  · cases e
  rename_i ys y e1
  obtain ⟨e2, rfl⟩ := lift_ok e
  obtain ⟨p1, p2, p3, p4, j, hj, rfl⟩ := indexD_some e2
  obtain ⟨w, rfl, ry⟩ := rds.one'
  obtain ⟨u, rfl, ru⟩ := rxs.one
  obtain ⟨a, vs, rfl, hq, rr⟩ := S.lst rd e1
  cases rx
  obtain ⟨its, rv, ⟨⟨C, dd, dt, sl⟩, n, ho, hc, hdn, hd⟩, hz⟩ := I.list (SqL.of hq)
  simp only at hc hd
  subst hc hd
  obtain ⟨as, ra⟩ := reads_all rfl I S p1 rr rv
  obtain ⟨bs, rb⟩ := Dp.reads I _ _ _ (rep_dp S ry p2) ru
  obtain ⟨h1, h2⟩ := shaped_parts p3
  have ra' : ReadsAll s.heap its.toArray.toList (toPs ys) as := by simpa using ra
  obtain ⟨hjs, hit, hno⟩ := SeqAt.hit_at (vs := its.toArray) ra' h1 hj
  have hz' := sizeLine_eq
  exact call_meets PySem.F.slot_list_index ⟨_, ho, rfl⟩ PySem.F.entry_list_index (PySem.F.args_list_index_2 _ _) (SeqAt.list_indexAt a its.toArray n dd sl u (fun z => PyData.eqv (SeqAt.readOf s.heap z) (toP y)) j hjs (by have h8 := rv.length; have h9 := hjs; rw [List.size_toArray] at h9; omega) hit hno)
    ⟨ho, SeqAt.items_plain ra' rb h1 (PyData.plain_of_canLay0 _ (SeqAt.canLay_of_shaped p4)) (room_data hu h2), ⟨.int _, H, I.tok _, ⟨_, rfl⟩, q F ι H _ Ext.refl S rep_int⟩⟩
end
/-! in use -/
@[simp] theorem mMethT_ap (p : D → List D → M D) (mo : Rho → M D) (am : Rho → M (List D)) (ρ : Rho) (s : Sto) : mMethT p mo am ρ s = (mo ρ s).bind fun o s1 => match o with | .tup xs => (am ρ s1).bind fun ds s2 => nox (p (.tup xs) ds s2) | _ => .bad := rfl
theorem toPs_nI (r : List Nat) : toPs (r.map nI) = (r.map nI).map toP := toPs_map _
theorem shaped_lnI (r : List Nat) : SeqAt.shaped (.list (toPs (r.map nI))) = true := by
  rw [toPs_nI]
  refine shaped_of (by rw [PyData.canLay0]; exact lay_ints r) ?_
  rw [PyData.depth, dep_ints]
  decide
theorem eqv_nI (a b : Nat) : PyData.eqv (toP (nI a)) (toP (nI b)) = decide (a = b) := by
  show ((a : Int) == (b : Int)) = _
  rw [Bool.eq_iff_iff]
  simp
  omega
theorem countD_nI (r : List Nat) (a : Nat) : countD (r.map nI) (nI a) = some (nI (r.count a)) := by
  unfold countD
  rw [if_pos ⟨isPs_map _ isP_nI r, rfl, shaped_lnI r, rfl⟩, toPs_nI, List.countP_map, List.countP_map]
  have : (((fun z => PyData.eqv z (toP (nI a))) ∘ toP) ∘ nI) = fun b => decide (b = a) := by
    funext b
    exact eqv_nI b a
  rw [this]
  congr 2
theorem pCountT_nT (r : List Nat) (a : Nat) (s : Sto) : pCountT (nT r) [nI a] s = .ok (nI (r.count a)) s := by
  show lift (countD (r.map nI) (nI a)) s = _
  rw [countD_nI] <;> rfl
theorem indexD_nI {r : List Nat} {a : Nat} (h : a ∈ r) : indexD (r.map nI) (nI a) = some (nI (r.idxOf a)) := by
  unfold indexD
  rw [if_pos ⟨isPs_map _ isP_nI r, rfl, shaped_lnI r, rfl⟩, toPs_nI]
  have key : SeqAt.dataPlace ((r.map nI).map toP) (toP (nI a)) = some (r.idxOf a) := by
    unfold SeqAt.dataPlace
    induction r with
    | nil => cases h
    | cons b r ih =>
      rw [List.map_cons, List.map_cons, List.findIdx?_cons, eqv_nI, List.idxOf_cons]
      by_cases e : b = a
      · subst e
        simp
      · have hb : (b == a) = false := by simpa using e
        rw [decide_eq_false e, hb]
        have hm : a ∈ r := by
          rcases List.mem_cons.mp h with q | q
          · exact absurd q.symm e
          · exact q
        rw [ih hm]
        rfl
  rw [key] <;> rfl
theorem pIndexT_nT {r : List Nat} {a : Nat} (h : a ∈ r) (s : Sto) : pIndexT (nT r) [nI a] s = .ok (nI (r.idxOf a)) s := by
  show lift (indexD (r.map nI) (nI a)) s = _
  rw [indexD_nI h] <;> rfl
end Dn
/-! DnS: a list taken apart; names of the module. -/
namespace Dn
open PySem PySem.Spec PyProof.Rows L2
/-- a tuple target, for a list -/
def gL (n : Nat) (gs : List D → Rho → M Rho) : D → Rho → M Rho := fun d ρ st => match lstOf st d with
  | some xs => if xs.length = n then gs xs ρ st else .bad
  | none => .bad
theorem dg_lst {X : Cx} {pos : Pos} {es : List Expr} {k n : Nat} {js : List Nat} {gs : List D → Rho → M Rho} (hc : X.calm = true) (h : DGs X js es gs)
    (hn : (assignEach es X.env).length = n := by rfl) (hst : (assignEach es X.env).findIdx? (·.1) = none := by rfl) : DG X js (.Tuple es k pos) (gL n gs) := by
  refine PG.weak (pg_lst hc h hn hst) fun v σ H Q ⟨F, ι, ρ, st, d, S, R, r, q⟩ => ?_
  unfold gL at q
  split at q
  · split at q
    · rename_i xs e hl
      obtain ⟨a, vs, rfl, h, rr⟩ := S.lst r e
      exact ⟨a, vs, rfl, SqL.of h, by rw [← rr.length]; exact hl, F, ι, ρ, st, xs, S, R, rr, q⟩
    · exact q.elim
  · exact q.elim
section
variable {X : Cx} {W : WX} {pos : Pos}
theorem de_gi {x : Str} {i : Int} (hg : Gl X x) (hm : ∃ t, X.mg x = some (.int i t)) (hd : (x == ("__debug__" : Str)) = false := by decide) : DE X W (.Name x pos) (mLit (.int i)) := by
  obtain ⟨t, hm⟩ := hm
  exact de_gint hg hm hd
theorem de_gs {x : Str} {i : Str} (hg : Gl X x) (hm : ∃ t, X.mg x = some (.str i t)) (hd : (x == ("__debug__" : Str)) = false := by decide) : DE X W (.Name x pos) (mLit (.str i)) := by
  obtain ⟨t, hm⟩ := hm
  exact de_gstr hg hm hd
end
@[simp] theorem gL_ref {n : Nat} {gs : List D → Rho → M Rho} {ρ : Rho} {s : Sto} {l : Nat} {xs : List D} (h : s[l]? = some (.lst xs)) (hl : xs.length = n) : gL n gs (.ref l) ρ s = gs xs ρ s := by
  unfold gL
  rw [lst_of_ref h]
  simp [hl]
end Dn

namespace Lw
open PySem PySem.Spec PyProof.Rows L2 Dn
-- ### the text by places
def top (i : Nat) : Stmt := PySem.Challenge.pw_pressrelease_k10_effects_of_rows.main.body.getD i (.Pass ⟨0, 0, 0, 0⟩)
abbrev s_changed_word : Stmt := top 4
abbrev N_changed_word : List Str := ["panel", "pressed", "button", "word"]
abbrev s_effect_after : Stmt := top 5
abbrev N_effect_after : List Str := ["panel", "effect", "pressed", "button", "word"]
abbrev s_effect_of : Stmt := top 6
abbrev N_effect_of : List Str := ["panel", "row", "effect", "button"]
abbrev s__law_draws : Stmt := top 8
abbrev N__law_draws : List Str := ["_law_script", "_law_cells", "_law_cell"]
abbrev s__law_next : Stmt := top 9
abbrev N__law_next : List Str := ["_law_drawn", "_law_many", "_law_cells", "_law_nth", "_law_rests", "_law_spot", "_law_digit", "_law_mixed", "_law_more"]
abbrev s__law_panel : Stmt := top 10
abbrev N__law_panel : List Str := ["_law_drawn", "_law_most", "_law_n", "_law_share", "_law_found", "_law_button", "_law_others", "_law_other"]
abbrev s__law_row : Stmt := top 11
abbrev N__law_row : List Str := ["_law_drawn", "_law_n", "_law_most", "_law_press"]
abbrev s__law_effect : Stmt := top 12
abbrev N__law_effect : List Str := ["_law_panel_here", "_law_row_here", "_law_found", "_law_button", "_law_word", "_law_one"]
abbrev s_law : Stmt := top 13
abbrev N_law : List Str := ["_law_script", "_law_drawn", "_law_turn", "_law_panel_here", "_law_row_here", "_law_before", "_law_due", "_law_again"]
-- ### what the defs mean
noncomputable def m_changed_word : Rho → Sto → Fl := (sSeq (sIf (isB (mOp pEq (mVar 2) (mVar 1))) (sRet (mLit (.str ("on" : Str)))) sNext)
  (sRet (mIf (isB (mOp pIn (mVar 2) (mOp pIdx (mVar 0) (mVar 1)))) (mLit (.str ("off" : Str))) (mVar 3))))
noncomputable def d_changed_word : List D → M D := fnD 4 4 m_changed_word
theorem nn_changed_word : NeedN 4 d_changed_word := needN_fnD
noncomputable def c_effect_after_1 : Rho → M (List D) := lLc (iEnumD (mVar 1)) (gT 2 (gsCons (gN 3) (gsCons (gN 4) gsNil))) bYes (mCall d_changed_word (mCons (mVar 0) (mCons (mVar 2) (mCons (mVar 3) (mCons (mVar 4) mNil))))) [3, 4]
noncomputable def m_effect_after : Rho → Sto → Fl := (sRet (mB pTuple (mCons (mFrz c_effect_after_1) mNil)))
noncomputable def d_effect_after : List D → M D := fnD 3 5 m_effect_after
theorem nn_effect_after : NeedN 3 d_effect_after := needN_fnD
noncomputable def l_effect_of_1 : Rho → Sto → Fl := (sAsg (gN 2) (mCall d_effect_after (mCons (mVar 0) (mCons (mVar 2) (mCons (mVar 3) mNil)))))
noncomputable def m_effect_of : Rho → Sto → Fl := (sSeq (sAsg (gN 2) (mOp pMul (mTup (mCons (mLit (.str ("same" : Str))) mNil)) (mB pLen (mCons (mVar 0) mNil))))
  (sSeq (sFor (iSeq (mVar 1)) (gN 3) l_effect_of_1)
  (sRet (mVar 2))))
noncomputable def d_effect_of : List D → M D := fnD 2 4 m_effect_of
theorem nn_effect_of : NeedN 2 d_effect_of := needN_fnD
noncomputable def c__law_draws_1 : Rho → M (List D) := lLc (iSeq (mVar 1)) (gN 2) bYes (mOp pMul (mVar 2) (mB pInt (mCons (mOp pGe (mVar 2) (mOp pPow (mLit (.int 10)) (mLit (.int 18)))) mNil))) [2]
noncomputable def m__law_draws : Rho → Sto → Fl := (sSeq (sAsg (gN 1) (mFrz (lOp pCat (mFrz (lB pList (mCons (mFrz (lSlL (mVar 0) oNone (oSome (mLit (.int 63))))) mNil))) (mFrz (lOp pRepL (mFrz (lDisp (mCons (mLit (.int 0)) mNil))) (mB pInt (mCons (mOp pEq (mB pLen (mCons (mVar 0) mNil)) (mLit (.int 0))) mNil)))))))
  (sRet (mNew (lDisp (mCons (mVar 1) (mCons (mLit (.int 0)) (mCons (mNew c__law_draws_1) mNil)))))))
noncomputable def d__law_draws : List D → M D := fnD 1 3 m__law_draws
theorem nn__law_draws : NeedN 1 d__law_draws := needN_fnD
noncomputable def m__law_next : Rho → Sto → Fl := (sSeq (sAsg (gL 3 (gsCons (gN 2) (gsCons (gN 3) (gsCons (gN 4) gsNil)))) (mVar 0))
  (sSeq (sAsg (gN 5) (mOp pMod (mVar 3) (mB pLen (mCons (mVar 2) mNil))))
  (sSeq (sAsg (gSubD (mVar 0) (mLit (.int 1))) (mOp pAdd (mVar 3) (mLit (.int 1))))
  (sSeq (sIf (isB (mOp pGt (mOp pIdx (mVar 4) (mVar 5)) (mLit (.int 0)))) (sSeq (sAsg (gN 6) (mOp pMod (mOp pIdx (mVar 4) (mVar 5)) (mVar 1)))
    (sSeq (sAsg (gSubD (mVar 4) (mVar 5)) (mOp pDiv (mOp pIdx (mVar 4) (mVar 5)) (mVar 1)))
    (sRet (mVar 6)))) sNext)
  (sSeq (sAsg (gN 7) (mOp pMod (mOp pPow (mOp pAdd (mOp pAdd (mOp pMod (mOp pIdx (mVar 2) (mVar 5)) (mLit (.int 2147483647))) (mOp pMul (mLit (.int 69621)) (mVar 3))) (mLit (.int 30269))) (mLit (.int 3))) (mLit (.int 2147483629))))
  (sSeq (sAsg (gN 8) (mOp pMod (mOp pPow (mOp pAdd (mOp pAdd (mVar 7) (mOp pMul (mOp pMul (mLit (.int 6007)) (mVar 3)) (mVar 3))) (mLit (.int 17))) (mLit (.int 3))) (mLit (.int 2147483587))))
  (sRet (mOp pMod (mOp pMod (mOp pAdd (mOp pMul (mVar 8) (mLit (.int 2147483423))) (mVar 7)) (mLit (.int 4611686018427387847))) (mVar 1)))))))))
noncomputable def d__law_next : List D → M D := fnD 2 9 m__law_next
theorem nn__law_next : NeedN 2 d__law_next := needN_fnD
noncomputable def c__law_panel_1 : Rho → M (List D) := lLc (iRng1D (mVar 2)) (gN 7) (isB (mOp pNe (mVar 7) (mVar 5))) (mVar 7) [7]
noncomputable def c__law_panel_2 : Rho → M (List D) := lLc (iSeq (mVar 6)) (gN 7) (isB (mOp pLt (mCall d__law_next (mCons (mVar 0) (mCons (mLit (.int 5)) mNil))) (mVar 3))) (mVar 7) [7]
noncomputable def l__law_panel_1 : Rho → Sto → Fl := (sSeq (sAsg (gN 6) (mFrz c__law_panel_1))
    (sDrop (mMeth "list" pAppend (mVar 4) (mCons (mB pTuple (mCons (mFrz c__law_panel_2) mNil)) mNil))))
noncomputable def m__law_panel : Rho → Sto → Fl := (sSeq (sAsg (gN 2) (mOp pIdx (mFrz (lDisp (mCons (mOp pAdd (mLit (.int 1)) (mCall d__law_next (mCons (mVar 0) (mCons (mVar 1) mNil)))) (mCons (mVar 1) mNil)))) (mB pInt (mCons (mOp pEq (mCall d__law_next (mCons (mVar 0) (mCons (mLit (.int 4)) mNil))) (mLit (.int 0))) mNil))))
  (sSeq (sAsg (gT 2 (gsCons (gN 3) (gsCons (gN 4) gsNil))) (mTup (mCons (mCall d__law_next (mCons (mVar 0) (mCons (mLit (.int 6)) mNil))) (mCons (mNew (lDisp mNil)) mNil))))
  (sSeq (sFor (iRng1D (mVar 2)) (gN 5) l__law_panel_1)
  (sRet (mB pTuple (mCons (mVar 4) mNil))))))
noncomputable def d__law_panel : List D → M D := fnD 2 8 m__law_panel
theorem nn__law_panel : NeedN 2 d__law_panel := needN_fnD
noncomputable def c__law_row_1 : Rho → M (List D) := lLc (iRng1D (mCall d__law_next (mCons (mVar 0) (mCons (mOp pAdd (mVar 2) (mLit (.int 1))) mNil)))) (gN 3) bYes (mCall d__law_next (mCons (mVar 0) (mCons (mVar 1) mNil))) [3]
noncomputable def m__law_row : Rho → Sto → Fl := (sRet (mB pTuple (mCons (mFrz c__law_row_1) mNil)))
noncomputable def d__law_row : List D → M D := fnD 3 4 m__law_row
theorem nn__law_row : NeedN 3 d__law_row := needN_fnD
noncomputable def l__law_effect_1 : Rho → Sto → Fl := (sIf (isB (mOp pEq (mVar 5) (mVar 3))) (sAsg (gN 4) (mLit (.str ("on" : Str)))) (sIf (isB (mOp pIn (mVar 3) (mOp pIdx (mVar 0) (mVar 5)))) (sAsg (gN 4) (mLit (.str ("off" : Str)))) sNext))
noncomputable def l__law_effect_2 : Rho → Sto → Fl := (sSeq (sAsg (gN 4) (mLit (.str ("same" : Str))))
    (sSeq (sFor (iSeq (mVar 1)) (gN 5) l__law_effect_1)
    (sDrop (mMeth "list" pAppend (mVar 2) (mCons (mVar 4) mNil)))))
noncomputable def m__law_effect : Rho → Sto → Fl := (sSeq (sAsg (gN 2) (mNew (lDisp mNil)))
  (sSeq (sFor (iRng1D (mB pLen (mCons (mVar 0) mNil))) (gN 3) l__law_effect_2)
  (sRet (mB pTuple (mCons (mVar 2) mNil)))))
noncomputable def d__law_effect : List D → M D := fnD 2 6 m__law_effect
theorem nn__law_effect : NeedN 2 d__law_effect := needN_fnD
noncomputable def c_law_1 : Rho → M (List D) := lLc (iRng1D (mLit (.int 2))) (gN 7) bYes (mCall d_effect_of (mCons (mVar 3) (mCons (mVar 4) mNil))) [7]
noncomputable def l_law_1 : Rho → Sto → Fl := (sSeq (sPar 5 6 (mCons (mB pRepr (mCons (mFrz (lDisp (mCons (mVar 3) (mCons (mVar 4) mNil)))) mNil)) (mCons (mCall d__law_effect (mCons (mVar 3) (mCons (mVar 4) mNil))) mNil)))
      (sSeq (sIf (isB (mOp pNe (mB pRepr (mCons (mFrz c_law_1) mNil)) (mB pRepr (mCons (mFrz (lDisp (mCons (mVar 6) (mCons (mVar 6) mNil)))) mNil)))) (sRet (mLit (.bl false))) sNext)
      (sIf (isB (mOp pNe (mB pRepr (mCons (mFrz (lDisp (mCons (mVar 3) (mCons (mVar 4) mNil)))) mNil)) (mVar 5))) (sRet (mLit (.bl false))) sNext)))
noncomputable def l_law_2 : Rho → Sto → Fl := (sSeq (sAsg (gN 3) (mCall d__law_panel (mCons (mVar 1) (mCons (mLit (.int 10)) mNil))))
    (sFor (iSeq (mFrz (lDisp (mCons (mTup mNil) (mCons (mCall d__law_row (mCons (mVar 1) (mCons (mB pLen (mCons (mVar 3) mNil)) (mCons (mLit (.int 60)) mNil)))) (mCons (mCall d__law_row (mCons (mVar 1) (mCons (mB pLen (mCons (mVar 3) mNil)) (mCons (mLit (.int 6)) mNil)))) mNil)))))) (gN 4) l_law_1))
noncomputable def m_law : Rho → Sto → Fl := (sSeq (sAsg (gN 1) (mCall d__law_draws (mCons (mVar 0) mNil)))
  (sSeq (sFor (iRng1D (mLit (.int 8))) (gN 2) l_law_2)
  (sRet (mLit (.bl true)))))
noncomputable def d_law : List D → M D := fnD 1 8 m_law
theorem nn_law : NeedN 1 d_law := needN_fnD

/-! ### the drawn numbers -/
def dkB (cells rests : List Int) (k : Nat) (rest : Sto) : Sto := .lst (rests.map .int) :: .lst [.lst (cells.map .int), nI k, .ref 0] :: rest
structure GoodB (cells rests : List Int) : Prop where
  len : rests.length = cells.length
  pos : 1 ≤ cells.length
  nn : ∀ z ∈ rests, 0 ≤ z
theorem goodB_set {cells rests : List Int} (g : GoodB cells rests) {j : Nat} {z : Int} (h : 0 ≤ z) : GoodB cells (rests.set j z) := ⟨by rw [List.length_set]; exact g.len, g.pos, fun y hy => by
  rcases List.mem_or_eq_of_mem_set hy with q | q
  · exact g.nn y q
  · rw [q]; exact h⟩
section
variable (c e : List Int) (k : Nat) (r : Sto)
theorem dkB_ref1 : (dkB c e k r)[1]? = some (.lst [.lst (c.map .int), nI k, .ref 0]) := rfl
theorem dkB_ref0 : (dkB c e k r)[0]? = some (.lst (e.map .int)) := rfl
theorem dkB_rest {j : Nat} (h : j < e.length) : pIdx (dkB c e k r) (.ref 0) (.int (j : Int)) = some (.int e[j]) := by
  rw [pIdx_ref (xs := e.map .int) rfl, atI_cast, List.getElem?_map, List.getElem?_eq_getElem h] <;> rfl
theorem dkB_cell {j : Nat} (h : j < c.length) (s : Sto) : pIdx s (.lst (c.map .int)) (.int (j : Int)) = some (.int c[j]) := by
  have := pIdx_lst s (c.map .int) j
  rw [List.getElem?_map, List.getElem?_eq_getElem h] at this
  exact this
theorem dkB_put (ρ : Rho) : gSubD (mVar 0) (mLit (.int 1)) (.int ((k : Int) + 1)) (some (.ref 1) :: ρ) (dkB c e k r) = .ok (some (.ref 1) :: ρ) (dkB c e (k + 1) r) := by
  rw [gSubD_ref (l := 1) (j := 1) (xs := [.lst (c.map .int), nI k, .ref 0]) rfl rfl rfl rfl] <;> rfl
theorem dkB_set {j : Nat} {z : Int} {a0 a1 a2 a3 a6 a7 a8 : Option D} (h : j < e.length) : gSubD (mVar 4) (mVar 5) (.int z) [a0, a1, a2, a3, some (.ref 0), some (.int (j : Int)), a6, a7, a8] (dkB c e k r) = .ok [a0, a1, a2, a3, some (.ref 0), some (.int (j : Int)), a6, a7, a8] (dkB c (e.set j z) k r) := by
  rw [gSubD_ref (l := 0) (j := j) (xs := e.map .int) (s1 := dkB c e k r) (s2 := dkB c e k r) (k := (j : Int)) rfl rfl rfl ?_]
  · unfold dkB
    rw [List.map_set]
    rfl
  · rw [List.length_map]
    unfold ixN
    rw [if_pos (by omega), if_pos (by omega), Int.toNat_natCast]
end
theorem next_ok {cells rests : List Int} {k m : Nat} {rest : Sto} (g : GoodB cells rests) (hk : k ≤ 10000000) (h1 : 1 ≤ m) (h2 : m < 1073741824) :
    ∃ z rests', z < m ∧ GoodB cells rests' ∧ d__law_next [.ref 1, nI m] (dkB cells rests k rest) = .ok (nI z) (dkB cells rests' (k + 1) rest) := by
  have hm : (0 : Int) < (m : Int) := by omega
  have hm2 : (m : Int) < 1073741824 := by omega
  have hpos := g.pos
  have hlen := g.len
  have hu : ∀ z rests', m__law_next [some (.ref 1), some (nI m), none, none, none, none, none, none, none] (dkB cells rests k rest) = .ret (nI z) (dkB cells rests' (k + 1) rest) → d__law_next [.ref 1, nI m] (dkB cells rests k rest) = .ok (nI z) (dkB cells rests' (k + 1) rest) := fun z c2 e => by
    show clean (dkB cells rests k rest) (flOut (m__law_next [some (.ref 1), some (nI m), none, none, none, none, none, none, none] (dkB cells rests k rest))) = _
    rw [e, flOut_ret]
    exact clean_same rfl
  obtain ⟨j, ej⟩ : ∃ j, k % cells.length = j := ⟨_, rfl⟩
  have hj : j < cells.length := by rw [← ej]; exact Nat.mod_lt _ (by omega)
  have hj2 : j < rests.length := by omega
  have hr := g.nn rests[j] (List.getElem_mem hj2)
  have em : ∀ s : Sto, pMod s (nI k) (.int (cells.length : Int)) = some (.int (j : Int)) := fun s => by
    unfold nI
    rw [pMod_int _ _ _ (by omega)]
    have : (k : Int) % (cells.length : Int) = (j : Int) := by rw [← ej]; simp
    rw [this]
  have elen : ∀ s : Sto, pLen s [.lst (cells.map .int)] = some (.int (cells.length : Int)) := fun s => by show some (D.int ((cells.map D.int).length : Int)) = _; rw [List.length_map]
  have egl : gL 3 (gsCons (gN 2) (gsCons (gN 3) (gsCons (gN 4) gsNil))) (.ref 1) [some (.ref 1), some (nI m), none, none, none, none, none, none, none] (dkB cells rests k rest) = .ok [some (.ref 1), some (nI m), some (.lst (cells.map .int)), some (nI k), some (.ref 0), none, none, none, none] (dkB cells rests k rest) := by
    rw [gL_ref (n := 3) (xs := [.lst (cells.map .int), nI k, .ref 0]) (dkB_ref1 cells rests k rest) rfl]
    rfl
  have eadd : ∀ s : Sto, pAdd s (nI k) (.int 1) = some (.int ((k : Int) + 1)) := fun s => rfl
  by_cases hb : 0 < rests[j]
  · obtain ⟨z, ez⟩ : ∃ z : Nat, rests[j] % (m : Int) = z := ⟨(rests[j] % (m : Int)).toNat, by have := Int.emod_nonneg rests[j] (Int.ne_of_gt hm); omega⟩
    have hz : z < m := by have := Int.emod_lt_of_pos rests[j] hm; omega
    refine ⟨z, rests.set j (rests[j] / (m : Int)), hz, goodB_set g (Int.ediv_nonneg hr (by omega)), hu z _ ?_⟩
    have dv : ∀ s : Sto, pDiv s (.int rests[j]) (nI m) = some (.int (rests[j] / (m : Int))) := fun s => pDiv_int _ _ _ ⟨hm, hm2⟩
    have md : ∀ s : Sto, pMod s (.int rests[j]) (nI m) = some (nI z) := fun s => by unfold nI; rw [pMod_int _ _ _ hm, ez]
    unfold m__law_next
    simp [mVar_ap, egl, elen, em, eadd, dkB_put, dkB_rest _ _ _ _ hj2, hb, md, dv, dkB_set _ _ _ _ hj2]
  · obtain ⟨a, ea⟩ : ∃ a : Int, cells[j] % 2147483647 = a := ⟨_, rfl⟩
    have ha0 : 0 ≤ a := by rw [← ea]; exact Int.emod_nonneg _ (by decide)
    have ha1 : a < 2147483647 := by rw [← ea]; exact Int.emod_lt_of_pos _ (by decide)
    obtain ⟨b, eb⟩ : ∃ b : Int, (a + 69621 * (k : Int) + 30269) ^ 3 % 2147483629 = b := ⟨_, rfl⟩
    have hb0 : 0 ≤ b := by rw [← eb]; exact Int.emod_nonneg _ (by decide)
    have hb1 : b < 2147483629 := by rw [← eb]; exact Int.emod_lt_of_pos _ (by decide)
    have hkk : 6007 * (k : Int) * (k : Int) ≤ 6007 * 10000000 * 10000000 := Int.mul_le_mul (by omega) (by omega) (by omega) (by omega)
    have hkk0 : 0 ≤ 6007 * (k : Int) * (k : Int) := Int.mul_nonneg (by omega) (by omega)
    obtain ⟨q, eq⟩ : ∃ q : Int, 6007 * (k : Int) * (k : Int) = q := ⟨_, rfl⟩
    rw [eq] at hkk hkk0
    obtain ⟨d, ed⟩ : ∃ d : Int, (b + q + 17) ^ 3 % 2147483587 = d := ⟨_, rfl⟩
    obtain ⟨z, ez⟩ : ∃ z : Nat, (d * 2147483423 + b) % 4611686018427387847 % (m : Int) = z := ⟨((d * 2147483423 + b) % 4611686018427387847 % (m : Int)).toNat, by have := Int.emod_nonneg ((d * 2147483423 + b) % 4611686018427387847) (Int.ne_of_gt hm); omega⟩
    have hz : z < m := by have := Int.emod_lt_of_pos ((d * 2147483423 + b) % 4611686018427387847) hm; omega
    refine ⟨z, rests, hz, g, hu z _ ?_⟩
    have p1 : ∀ s : Sto, pMod s (.int cells[j]) (.int 2147483647) = some (.int a) := fun s => by rw [pMod_int _ _ _ (by decide), ea]
    have p2 : ∀ s : Sto, pMul s (.int 69621) (nI k) = some (.int (69621 * (k : Int))) := fun s => pMul_int _ _ _ (.inl (by decide))
    have p3 : ∀ s : Sto, pPow s (.int (a + 69621 * (k : Int) + 30269)) (.int 3) = some (.int ((a + 69621 * (k : Int) + 30269) ^ 3)) := fun s => pPow_int _ _ _ ⟨by decide, by decide, by omega⟩
    have p4 : ∀ s : Sto, pMod s (.int ((a + 69621 * (k : Int) + 30269) ^ 3)) (.int 2147483629) = some (.int b) := fun s => by rw [pMod_int _ _ _ (by decide), eb]
    have p5 : ∀ s : Sto, pMul s (.int 6007) (nI k) = some (.int (6007 * (k : Int))) := fun s => pMul_int _ _ _ (.inl (by decide))
    have p6 : ∀ s : Sto, pMul s (.int (6007 * (k : Int))) (nI k) = some (.int q) := fun s => by unfold nI; rw [pMul_int _ _ _ (.inl (by omega)), eq]
    have p7 : ∀ s : Sto, pPow s (.int (b + q + 17)) (.int 3) = some (.int ((b + q + 17) ^ 3)) := fun s => pPow_int _ _ _ ⟨by decide, by decide, by omega⟩
    have p8 : ∀ s : Sto, pMod s (.int ((b + q + 17) ^ 3)) (.int 2147483587) = some (.int d) := fun s => by rw [pMod_int _ _ _ (by decide), ed]
    have p9 : ∀ s : Sto, pMul s (.int d) (.int 2147483423) = some (.int (d * 2147483423)) := fun s => pMul_int _ _ _ (.inr (by decide))
    have p10 : ∀ s : Sto, pMod s (.int (d * 2147483423 + b)) (.int 4611686018427387847) = some (.int ((d * 2147483423 + b) % 4611686018427387847)) := fun s => pMod_int _ _ _ (by decide)
    have p11 : ∀ s : Sto, pMod s (.int ((d * 2147483423 + b) % 4611686018427387847)) (nI m) = some (nI z) := fun s => by unfold nI; rw [pMod_int _ _ _ hm, ez]
    unfold m__law_next
    simp [mVar_ap, egl, elen, em, eadd, dkB_put, dkB_rest _ _ _ _ hj2, hb, dkB_cell _ hj, p1, p2, p3, p4, p5, p6, p7, p8, p9, p10, p11]
theorem draws_ok (ns : List Int) (h : ns.length ≤ 63) : ∃ cells rests, GoodB cells rests ∧ d__law_draws [.scr (ns.map .int)] [] = .ok (.ref 1) (dkB cells rests 0 []) := by
  obtain ⟨ms, em⟩ : ∃ ms, ns.take 63 = ms := ⟨_, rfl⟩
  have hml : ms.length ≤ 63 := by rw [← em, List.length_take]; omega
  obtain ⟨cells, hc⟩ : ∃ cells, (if ns.length = 0 then ([0] : List Int) else ms) = cells := ⟨_, rfl⟩
  have hcl : cells.length ≤ 63 ∧ 1 ≤ cells.length := by
    rw [← hc]
    by_cases e : ns.length = 0
    · rw [if_pos e]; exact ⟨by decide, by decide⟩
    · rw [if_neg e, ← em, List.length_take]; omega
  have hrr : ∀ z : Int, z * (if (1000000000000000000 : Int) ≤ z then 1 else 0) ≥ 0 := fun z => by
    split <;> omega
  refine ⟨cells, cells.map fun z => z * (if (1000000000000000000 : Int) ≤ z then 1 else 0), ⟨by rw [List.length_map], hcl.2, fun y hy => ?_⟩, ?_⟩
  · obtain ⟨z, _, rfl⟩ := List.mem_map.mp hy
    exact hrr z
  have p18 : ∀ s : Sto, pPow s (.int 10) (.int 18) = some (.int 1000000000000000000) := fun s => by rw [pPow_int _ _ _ (by decide)] <;> rfl
  have h1 : c__law_draws_1 [some (.scr (ns.map .int)), some (.lst (cells.map .int)), none] [] = .ok ((cells.map fun z => z * (if (1000000000000000000 : Int) ≤ z then 1 else 0)).map .int) [] := by
    unfold c__law_draws_1
    simp only [lLc_ap, iSeq_ap, mVar_ap, List.getElem?_cons_zero, List.getElem?_cons_succ, Out.bind_ok, srcOf_lst, lift_some, List.length_map]
    rw [if_pos (by omega), lcL_pure (g := fun d => match d with | .int z => some (.int (z * (if (1000000000000000000 : Int) ≤ z then 1 else 0))) | _ => none) (by simp)]
    · show Out.ok _ _ = Out.ok _ _
      congr 1
      clear hc hcl
      induction cells with
      | nil => rfl
      | cons a l ih => rw [List.map_cons, List.filterMap_cons, ih] <;> rfl
    · intro d hd
      obtain ⟨z, _, rfl⟩ := List.mem_map.mp hd
      have pm : ∀ (b : Bool) (s : Sto), pMul s (.int z) (.int (if b = true then 1 else 0)) = some (.int (z * (if b = true then 1 else 0))) := fun b s => by
        cases b
        · exact pMul_int _ _ _ (.inr (by decide))
        · exact pMul_int _ _ _ (.inr (by decide))
      have pi : ∀ (b : Bool) (s : Sto), pInt s [.bl b] = some (.int (if b = true then 1 else 0)) := fun b s => by cases b <;> rfl
      have pm2 := pm (decide ((1000000000000000000 : Int) ≤ z))
      by_cases hz : (1000000000000000000 : Int) ≤ z
      · rw [decide_eq_true hz] at pm2
        simp [lcF, wipeD, mVar_ap, p18, pi, hz] at pm2 ⊢
        simp [pm2]
      · rw [decide_eq_false hz] at pm2
        simp [lcF, wipeD, mVar_ap, p18, pi, hz] at pm2 ⊢
        simp [pm2]
  have hcut : Dn.cutD (ns.map D.int) none (some 63) = ms.map D.int := by
    have := cutD_take (ns.map D.int) 63
    rw [← List.map_take, em] at this
    exact this
  have hlen : ∀ s : Sto, pLen s [.scr (ns.map .int)] = some (.int (ns.length : Int)) := fun s => by show some (D.int ((ns.map D.int).length : Int)) = _; rw [List.length_map]
  have hcat : ∀ s : Sto, ∃ zs : List D, pRepL s (.lst [.int 0]) (.int (if ns.length = 0 then 1 else 0)) = some zs ∧ pCat s (.lst (ms.map .int)) (.lst zs) = some (cells.map .int) := fun s => by
    rw [← hc]
    by_cases e : ns.length = 0
    · rw [if_pos e, if_pos e]
      have em0 : ms = [] := by rw [← em, List.length_eq_zero_iff.mp e]; rfl
      subst em0
      refine ⟨[.int 0], ?_, ?_⟩
      · unfold pRepL
        simp only [lstOf_lst]
        rw [if_pos ⟨by decide, by decide, by decide⟩]
        rfl
      · unfold pCat
        simp only [lstOf_lst]
        rw [if_pos (by decide)]
        rfl
    · rw [if_neg e, if_neg e]
      refine ⟨[], ?_, ?_⟩
      · unfold pRepL
        simp only [lstOf_lst]
        rw [if_pos ⟨by decide, by decide, by decide⟩]
        rfl
      · unfold pCat
        simp only [lstOf_lst]
        rw [if_pos (by rw [List.length_map]; show ms.length + 0 ≤ 100000; omega), List.append_nil]
  obtain ⟨zs, hz1, hz2⟩ := hcat []
  have pib : ∀ (s : Sto), pInt s [.bl (decide ((ns.length : Int) = 0))] = some (.int (if ns.length = 0 then 1 else 0)) := fun s => by
    by_cases e : ns.length = 0
    · rw [decide_eq_true (by omega), if_pos e]; rfl
    · rw [decide_eq_false (by omega), if_neg e]; rfl
  have pls : ∀ s : Sto, pList s [.lst (ms.map .int)] = some (ms.map .int) := fun _ => rfl
  have hm : m__law_draws [some (.scr (ns.map .int)), none, none] [] = .ret (.ref 1) (dkB cells (cells.map fun z => z * (if (1000000000000000000 : Int) ≤ z then 1 else 0)) 0 []) := by
    unfold m__law_draws
    have l1 : ([.int 0] : List D).length ≤ 100000 := by decide
    simp only [sSeq_ap, sAsg_ap, mFrz_ap, lOp_ap, lB_ap, mCons_ap, lSlL, mVar_ap, List.getElem?_cons_zero, List.getElem?_cons_succ, Out.bind_ok, oNone_ap, oSome, mLit_ap, hcut, mNil_ap, pls, lift_some, lDisp_ap, l1, if_true, mB_ap, mOp_ap, hlen, pEq_int, pib, hz1, hz2, Out.fl_ok, gN_ap, nox_ok, List.set_cons_succ, List.set_cons_zero, seq_next, sRet_ap, mNew_ap, h1]
    rfl
  show clean [] (flOut (m__law_draws [some (.scr (ns.map .int)), none, none] [])) = _
  rw [hm, flOut_ret]
  unfold clean
  dsimp only
  rw [if_neg]
  rintro ⟨h1, _⟩
  simp [D.low] at h1
/-! ### panels from the drawn numbers -/
theorem dkB_last (c e : List Int) (k : Nat) (r : Sto) (m : MO) : (dkB c e k (r ++ [m]))[r.length + 2]? = some m := by
  unfold dkB
  simp
theorem dkB_appL {c e : List Int} {k : Nat} {r : Sto} {xs : List D} {y : D} (h : xs.length < 100000) : pAppend (.ref (r.length + 2)) [y] (dkB c e k (r ++ [.lst xs])) = .ok .non (dkB c e k (r ++ [.lst (xs ++ [y])])) := by
  show onL _ _ _ = _
  unfold onL
  simp only [dkB_last]
  rw [if_pos h]
  congr 1
  unfold dkB
  simp
theorem dkB_ty {c e : List Int} {k : Nat} {r : Sto} {xs : List D} : (D.ref (r.length + 2)).isTy (dkB c e k (r ++ [.lst xs])) "list" := ⟨rfl, xs, dkB_last _ _ _ _ _⟩
theorem dkB_tuple {c e : List Int} {k : Nat} {r : Sto} {xs : List D} : pTuple (dkB c e k (r ++ [.lst xs])) [.ref (r.length + 2)] = some (.tup xs) := by
  show (lstOf _ _).map _ = _
  unfold lstOf
  simp only [dkB_last]
  rfl
theorem dkB_drop {c e e' : List Int} {k k' : Nat} {r ex : Sto} {d : D} (h : isP d = true) : clean (dkB c e k r) (.ok d (dkB c e' k' (r ++ ex))) = .ok d (dkB c e' k' r) := by
  have hl : (dkB c e k r).length = r.length + 2 := rfl
  rw [clean_drop (low_of_isP _ _ h) ⟨by rw [hl]; simp [dkB], fun l m h1 e1 => ?_⟩]
  · rw [hl]
    congr 1
    unfold dkB
    simp
  · rw [hl] at h1
    match l with
    | 0 =>
      right
      have e2 : m = .lst (e'.map .int) := by unfold dkB at e1; simpa using e1.symm
      subst e2
      exact lows_of_isPs _ _ (isPs_map _ (fun _ => rfl) e')
    | 1 =>
      right
      have e2 : m = .lst [.lst (c.map .int), nI k', .ref 0] := by unfold dkB at e1; simpa using e1.symm
      subst e2
      show D.lows _ _ = true
      have hc := lows_of_isPs (r.length + 2) (c.map D.int) (isPs_map _ (fun _ => rfl) c)
      simp [D.lows, D.low, nI, hl, hc]
    | l + 2 =>
      left
      have e2 : (r ++ ex)[l]? = some m := by unfold dkB at e1; simpa using e1
      rw [List.getElem?_append_left (by omega)] at e2
      unfold dkB
      simpa using e2
structure PanelOk (m : Nat) (p : List (List Nat)) : Prop where
  pos : 1 ≤ p.length
  le : p.length ≤ m
  row : ∀ (i : Nat) (r : List Nat), p[i]? = some r → r.Sublist ((List.range p.length).filter fun o => !decide (o = i))
def PanI (cells : List Int) (k m n w : Nat) (rest : Sto) (i : Nat) (ρ : Rho) (s : Sto) : Prop := ∃ (e : List Int) (k' : Nat) (found : List (List Nat)) (o5 o6 o7 : Option D), GoodB cells e ∧ k' ≤ k + i * n ∧ found.length = i ∧ s = dkB cells e k' (rest ++ [.lst (found.map nT)]) ∧
    ρ = [some (.ref 1), some (nI m), some (nI n), some (nI w), some (.ref (rest.length + 2)), o5, o6, o7] ∧ ∀ (j : Nat) (r : List Nat), found[j]? = some r → r.Sublist ((List.range n).filter fun o => !decide (o = j))
theorem panel_step {cells : List Int} {k m n w : Nat} {rest : Sto} (hk : k ≤ 1000000) (hn : n ≤ 10) (i : Nat) (hi : i < n) (ρ : Rho) (s : Sto) (h : PanI cells k m n w rest i ρ s) : ∃ ρ' s', forB (gN 5) l__law_panel_1 (nI i) ρ s = .next ρ' s' ∧ PanI cells k m n w rest (i + 1) ρ' s' := by
  obtain ⟨e, k', found, o5, o6, o7, g, hk', hf, rfl, rfl, hrow⟩ := h
  have hin : i * n ≤ 100 := Nat.le_trans (Nat.mul_le_mul (Nat.le_of_lt (Nat.lt_of_lt_of_le hi hn)) hn) (by omega)
  obtain ⟨ot, hot⟩ : ∃ l, (List.range n).filter (fun o => !decide (o = i)) = l := ⟨_, rfl⟩
  have hol : ot.length ≤ n := by rw [← hot]; exact Nat.le_trans (List.length_filter_le _ _) (by simp)
  have hz : n ≤ SZ := Nat.le_trans hn (by decide)
  have hz2 : n ≤ 100000 := hz
  have h1 : ∀ o6 o7 (s : Sto), c__law_panel_1 [some (.ref 1), some (nI m), some (nI n), some (nI w), some (.ref (rest.length + 2)), some (nI i), o6, o7] s = .ok (ot.map nI) s := fun o6 o7 s => by
    unfold c__law_panel_1
    simp only [lLc_ap, iRng1D_ap, mVar_ap, List.getElem?_cons_zero, List.getElem?_cons_succ, Out.bind_ok, rng1_nI hz, lift_some, List.length_map, List.length_range]
    rw [if_pos hz2, lc_nat (fun o => !decide (o = i)) nI, hot]
    · rfl
    · intro a _
      cases e : decide (a = i) <;> simp [lcF, wipeD, mVar_ap, e]
  obtain ⟨r, s', e2, hr, e3, k2, g2, hk2, es⟩ := lc_drawn (f := lcF (gN 7) (isB (mOp pLt (mCall d__law_next (mCons (mVar 0) (mCons (mLit (.int 5)) mNil))) (mVar 3))) (mVar 7) (wipeD [some (.ref 1), some (nI m), some (nI n), some (nI w), some (.ref (rest.length + 2)), some (nI i), some (.lst (ot.map nI)), o7] [7]))
      (fun j s => ∃ (e2 : List Int) (k2 : Nat), GoodB cells e2 ∧ k2 ≤ k' + j ∧ s = dkB cells e2 k2 (rest ++ [.lst (found.map nT)])) ot (dkB cells e k' (rest ++ [.lst (found.map nT)])) ⟨e, k', g, by omega, rfl⟩ fun j s a ha hj ⟨e2, k2, g2, hk2, es⟩ => by
        subst es
        obtain ⟨z, e3, hz, g3, e4⟩ := next_ok (k := k2) (m := 5) (rest := rest ++ [.lst (found.map nT)]) g2 (by omega) (by omega) (by omega)
        have e4' : d__law_next [.ref 1, .int 5] (dkB cells e2 k2 (rest ++ [.lst (found.map nT)])) = .ok (nI z) (dkB cells e3 (k2 + 1) (rest ++ [.lst (found.map nT)])) := e4
        refine ⟨decide (z < w), _, ?_, e3, k2 + 1, g3, by omega, rfl⟩
        have el : ∀ s : Sto, pLt s (nI z) (nI w) = some (.bl (decide (z < w))) := fun s => by
          show some (D.bl (decide ((z : Int) < (w : Int)))) = _
          congr 2
          rw [Bool.eq_iff_iff]; simp
        cases hb : decide (z < w) <;> simp [lcF, wipeD, mVar_ap, e4', el, hb]
  have h2 : c__law_panel_2 [some (.ref 1), some (nI m), some (nI n), some (nI w), some (.ref (rest.length + 2)), some (nI i), some (.lst (ot.map nI)), o7] (dkB cells e k' (rest ++ [.lst (found.map nT)])) = .ok (r.map nI) (dkB cells e3 k2 (rest ++ [.lst (found.map nT)])) := by
    unfold c__law_panel_2
    simp only [lLc_ap, iSeq_ap, mVar_ap, List.getElem?_cons_zero, List.getElem?_cons_succ, Out.bind_ok, srcOf_lst, lift_some, List.length_map]
    rw [if_pos (by omega), e2, es]
    rfl
  have hmul : (i + 1) * n = i * n + n := by rw [Nat.add_mul, Nat.one_mul]
  refine ⟨_, _, ?_, e3, k2, found ++ [r], some (nI i), some (.lst (ot.map nI)), o7, g2, by omega, by simp [hf], rfl, rfl, fun j r' hjr => ?_⟩
  · have ea := dkB_appL (c := cells) (e := e3) (k := k2) (r := rest) (xs := found.map nT) (y := nT r) (by rw [List.length_map]; omega)
    have et : found.map nT ++ [nT r] = (found ++ [r]).map nT := by simp
    rw [et] at ea
    have ea' : pAppend (.ref (rest.length + 2)) [.tup (r.map nI)] (dkB cells e3 k2 (rest ++ [.lst (found.map nT)])) = .ok .non (dkB cells e3 k2 (rest ++ [.lst ((found ++ [r]).map nT)])) := ea
    have hty := dkB_ty (c := cells) (e := e) (k := k') (r := rest) (xs := found.map nT)
    simp only [forB_ap, gN_ap, nox_ok, Out.fl_ok, List.set_cons_succ, List.set_cons_zero]
    unfold l__law_panel_1
    simp only [sSeq_ap, sAsg_ap, mFrz_ap, h1, Out.bind_ok, Out.fl_ok, gN_ap, nox_ok, List.set_cons_succ, List.set_cons_zero, seq_next, sDrop_ap, mMeth, mVar_ap, List.getElem?_cons_zero, List.getElem?_cons_succ, hty, if_true, mCons_ap, mB_ap, h2, mNil_ap, pTuple_lst, lift_some, ea']
  · by_cases hj : j < found.length
    · rw [List.getElem?_append_left hj] at hjr
      exact hrow j r' hjr
    · rw [List.getElem?_append_right (by omega)] at hjr
      have hj0 : j - found.length = 0 := by
        cases e : j - found.length with
        | zero => rfl
        | succ x => rw [e] at hjr; simp at hjr
      rw [hj0] at hjr
      have eq : r = r' := by simpa using hjr
      subst eq
      have ej : j = i := by omega
      rw [ej, hot]
      exact hr
theorem panel_ok {cells rests : List Int} {k m : Nat} {rest : Sto} (g : GoodB cells rests) (hk : k ≤ 900000) (h1 : 1 ≤ m) (h2 : m ≤ 10) :
    ∃ p rests' k', PanelOk m p ∧ GoodB cells rests' ∧ k' ≤ k + 200 ∧ d__law_panel [.ref 1, nI m] (dkB cells rests k rest) = .ok (nP p) (dkB cells rests' k' rest) := by
  obtain ⟨z1, r1, hz1, g1, e1⟩ := next_ok (k := k) (rest := rest) g (by omega) h1 (by omega)
  obtain ⟨z2, r2, hz2, g2, e2⟩ := next_ok (rest := rest) (k := k + 1) (m := 4) g1 (by omega) (by omega) (by omega)
  obtain ⟨w, r3, hw, g3, e3⟩ := next_ok (rest := rest) (k := k + 1 + 1) (m := 6) g2 (by omega) (by omega) (by omega)
  obtain ⟨n, hn⟩ : ∃ n, (if z2 = 0 then m else 1 + z1) = n := ⟨_, rfl⟩
  have hn1 : 1 ≤ n := by rw [← hn]; split <;> omega
  have hn2 : n ≤ m := by rw [← hn]; split <;> omega
  have hz : n ≤ SZ := Nat.le_trans (Nat.le_trans hn2 h2) (by decide)
  obtain ⟨ρ', s', eL, e, k', found, o5, o6, o7, gc, hk', hf, es, eρ, hrow⟩ := forL_inv (held := []) (body := forB (gN 5) l__law_panel_1) (PanI cells (k + 3) m n w rest) (fun _ _ _ _ => by simp) ((List.range n).map nI) 0
    [some (.ref 1), some (nI m), some (nI n), some (nI w), some (.ref (rest.length + 2)), none, none, none] (dkB cells r3 (k + 3) (rest ++ [.lst []])) ⟨r3, k + 3, [], none, none, none, g3, by omega, rfl, rfl, rfl, by simp⟩ (fun i ρ s d hd hI => by
      rw [List.getElem?_map] at hd
      cases e : (List.range n)[i]? with
      | none => rw [e] at hd; cases hd
      | some a =>
        rw [e] at hd
        cases hd
        obtain ⟨hi, ea⟩ := List.getElem?_eq_some_iff.mp e
        rw [List.length_range] at hi
        rw [List.getElem_range] at ea
        subst ea
        obtain ⟨ρ', s', e', hI'⟩ := panel_step (k := k + 3) (by omega) (by omega) i hi ρ s (by simpa using hI)
        exact ⟨ρ', s', .inl e', by simpa using hI'⟩)
  simp only [List.length_map, List.length_range, Nat.zero_add] at hk' hf
  have hmn : n * n ≤ 100 := Nat.le_trans (Nat.mul_le_mul (Nat.le_trans hn2 h2) (Nat.le_trans hn2 h2)) (by omega)
  refine ⟨found, e, k', ⟨by omega, by omega, fun i r h => by rw [hf]; exact hrow i r h⟩, gc, by omega, ?_⟩
  subst es eρ
  have hm : m__law_panel [some (.ref 1), some (nI m), none, none, none, none, none, none] (dkB cells rests k rest) = .ret (nP found) (dkB cells e k' (rest ++ [.lst (found.map nT)])) := by
    unfold m__law_panel
    have e2' : d__law_next [.ref 1, .int 4] (dkB cells r1 (k + 1) rest) = .ok (nI z2) (dkB cells r2 (k + 1 + 1) rest) := e2
    have e3' : d__law_next [.ref 1, .int 6] (dkB cells r2 (k + 1 + 1) rest) = .ok (nI w) (dkB cells r3 (k + 3) rest) := e3
    have ez : ∀ s : Sto, pAdd s (.int 1) (nI z1) = some (nI (1 + z1)) := fun s => pAdd_nI s 1 z1
    have p0 : ∀ s : Sto, pEq s (nI z2) (.int 0) = some (.bl (decide (z2 = 0))) := fun s => pEq_nI s z2 0
    have pi : ∀ s : Sto, pInt s [.bl (decide (z2 = 0))] = some (nI (if z2 = 0 then 1 else 0)) := fun s => by
      by_cases h5 : z2 = 0
      · rw [decide_eq_true h5, if_pos h5]; rfl
      · rw [decide_eq_false h5, if_neg h5]; rfl
    have px : ∀ s : Sto, pIdx s (.lst [nI (1 + z1), nI m]) (nI (if z2 = 0 then 1 else 0)) = some (nI n) := fun s => by
      rw [← hn, pIdx_lst]
      by_cases h5 : z2 = 0
      · rw [if_pos h5, if_pos h5]; rfl
      · rw [if_neg h5, if_neg h5]; rfl
    have el : (dkB cells r3 (k + 3) rest).length = rest.length + 2 := rfl
    have ea : dkB cells r3 (k + 3) rest ++ [.lst []] = dkB cells r3 (k + 3) (rest ++ [.lst []]) := rfl
    have l2 : ([nI (1 + z1), nI m] : List D).length ≤ 100000 := by show 2 ≤ 100000; decide
    have l0 : ([] : List D).length ≤ 100000 := by decide
    have l3 : ([nI w, .ref (rest.length + 2)] : List D).length ≤ 100000 := by show 2 ≤ 100000; decide
    have eg : gT 2 (gsCons (gN 3) (gsCons (gN 4) gsNil)) (.tup [nI w, .ref (rest.length + 2)]) [some (.ref 1), some (nI m), some (nI n), none, none, none, none, none] (dkB cells r3 (k + 3) (rest ++ [.lst []])) = .ok [some (.ref 1), some (nI m), some (nI n), some (nI w), some (.ref (rest.length + 2)), none, none, none] (dkB cells r3 (k + 3) (rest ++ [.lst []])) := by
      rw [gT_ap _ _ 2 _ [nI w, .ref (rest.length + 2)] rfl]
      rfl
    simp only [sSeq_ap, sAsg_ap, mOp_ap, mFrz_ap, lDisp_ap, mCons_ap, mLit_ap, mCall_ap, mVar_ap, mNil_ap, List.getElem?_cons_zero, List.getElem?_cons_succ, Out.bind_ok, e1, ez, lift_some, l2, if_true, mB_ap, e2', p0, pi, px, Out.fl_ok, gN_ap, nox_ok, List.set_cons_succ, List.set_cons_zero, seq_next, mTup_ap, e3', mNew_ap, l0, el, ea, l3, eg, sFor_ap, iRng1D_ap, rng1_nI hz, eL, sRet_ap, dkB_tuple]
    rfl
  show clean (dkB cells rests k rest) (flOut (m__law_panel [some (.ref 1), some (nI m), none, none, none, none, none, none] (dkB cells rests k rest))) = _
  rw [hm, flOut_ret, dkB_drop (isP_nP found)]
/-! ### panels shown -/
structure PN (p : List (List Nat)) : Prop where
  le : p.length ≤ 10
  row : ∀ r ∈ p, r.Sublist (List.range p.length)
theorem PanelOk.pn {m : Nat} {p : List (List Nat)} (h : PanelOk m p) (hm : m ≤ 10) : PN p := ⟨Nat.le_trans h.le hm, fun r hr => by
  obtain ⟨i, hi⟩ := List.getElem?_of_mem hr
  exact (h.row i r hi).trans List.filter_sublist⟩
theorem PN.at {p : List (List Nat)} (h : PN p) {a : Nat} (ha : a < p.length) : (p.getD a []).Sublist (List.range p.length) := by
  rw [List.getD_eq_getElem?_getD, List.getElem?_eq_getElem ha]
  exact h.row _ (List.getElem_mem ha)
theorem PN.set {p : List (List Nat)} (h : PN p) {a : Nat} {r : List Nat} (hr : r.Sublist (List.range p.length)) : PN (p.set a r) := ⟨by rw [List.length_set]; exact h.le, fun x hx => by
  rw [List.length_set]
  rcases List.mem_or_eq_of_mem_set hx with q | q
  · exact h.row x q
  · rw [q]; exact hr⟩
theorem rok_row {n : Nat} {r : List Nat} (hn : n ≤ 10) (h : r.Sublist (List.range n)) : ROk 1 10 (nT r) := rok_nT (fun a ha => by have := mem_sub h ha; omega) (Nat.le_trans (len_sub h) hn)
theorem rok_pan {p : List (List Nat)} (h : PN p) : ROk 2 110 (nP p) :=
  (rok_nP (p := p) (k := 10) (m := 10) (fun r hr a ha => by have := mem_sub (h.row r hr) ha; have := h.le; omega) (fun r hr => Nat.le_trans (len_sub (h.row r hr)) h.le) h.le).mono (by omega) (by omega)
theorem idx_pan {p : List (List Nat)} {a : Nat} (ha : a < p.length) (s : Sto) : pIdx s (nP p) (nI a) = some (nT (p.getD a [])) := by
  unfold nP
  rw [pIdx_tup, List.getElem?_map, List.getD_eq_getElem?_getD, List.getElem?_eq_getElem ha]
  rfl
theorem len_pan (p : List (List Nat)) (s : Sto) : pLen s [nP p] = some (nI p.length) := by show some (nI (p.map nT).length) = _; rw [List.length_map]
/-! ### effects -/
def wT (ws : List Str) : D := .tup (ws.map .str)
def sOn : Str := "on"
def sOff : Str := "off"
def sSame : Str := "same"
def effS (p : List (List Nat)) (o : Nat) (w : Str) (b : Nat) : Str := if o = b then sOn else if o ∈ p.getD b [] then sOff else w
def effF (p : List (List Nat)) (f : Nat → Str) (b : Nat) : Nat → Str := fun o => effS p o (f o) b
def effN (p : List (List Nat)) (row : List Nat) : Nat → Str := fun o => row.foldl (effS p o) sSame
theorem eff_fold (p : List (List Nat)) : ∀ (row : List Nat) (f : Nat → Str) (o : Nat), row.foldl (effF p) f o = row.foldl (effS p o) (f o)
  | [], _, _ => rfl
  | b :: row, f, o => by rw [List.foldl_cons, List.foldl_cons, eff_fold p row]; rfl
theorem word_ok {p : List (List Nat)} {b o : Nat} (w : Str) (hb : b < p.length) (s : Sto) : d_changed_word [nP p, nI b, nI o, .str w] s = .ok (.str (effS p o w b)) s := by
  have hix := idx_pan hb s
  have hm : m_changed_word [some (nP p), some (nI b), some (nI o), some (.str w)] s = .ret (.str (effS p o w b)) s := by
    unfold m_changed_word effS
    generalize p.getD b [] = r at hix ⊢
    by_cases h1 : o = b
    · have e1 : pEq s (nI o) (nI b) = some (.bl true) := by rw [pEq_nI, decide_eq_true h1]
      rw [if_pos h1]
      simp only [sSeq_ap, sIf_ap, isB_ap, mOp_ap, mVar_ap, List.getElem?_cons_zero, List.getElem?_cons_succ, Out.bind_ok, e1, lift_some, Out.fl_ok, if_true, sRet_ap, mLit_ap, seq_ret]
      rfl
    · have e1 : pEq s (nI o) (nI b) = some (.bl false) := by rw [pEq_nI, decide_eq_false h1]
      rw [if_neg h1]
      by_cases h2 : o ∈ r
      · have e2 : pIn s (nI o) (nT r) = some (.bl true) := by rw [pIn_nT, decide_eq_true h2]
        rw [if_pos h2]
        simp only [sSeq_ap, sIf_ap, isB_ap, mOp_ap, mVar_ap, List.getElem?_cons_zero, List.getElem?_cons_succ, Out.bind_ok, e1, lift_some, Out.fl_ok, Bool.false_eq_true, if_false, sNext_ap, seq_next, sRet_ap, mIf_ap, hix, e2, if_true, mLit_ap]
        rfl
      · have e2 : pIn s (nI o) (nT r) = some (.bl false) := by rw [pIn_nT, decide_eq_false h2]
        rw [if_neg h2]
        simp only [sSeq_ap, sIf_ap, isB_ap, mOp_ap, mVar_ap, List.getElem?_cons_zero, List.getElem?_cons_succ, Out.bind_ok, e1, lift_some, Out.fl_ok, Bool.false_eq_true, if_false, sNext_ap, seq_next, sRet_ap, mIf_ap, hix, e2, mLit_ap]
  show clean s (flOut (m_changed_word [some (nP p), some (nI b), some (nI o), some (.str w)] s)) = _
  rw [hm, flOut_ret]
  exact clean_same rfl
theorem lc_mapA {f : D → Sto → Out (Option D)} {s : Sto} (q g : Nat → D) (l : List Nat) (h : ∀ a ∈ l, f (q a) s = .ok (some (g a)) s) : lcL [] f (l.map q) s = .ok (l.map g) s := by
  induction l with
  | nil => unfold lcL; rw [List.map_nil]; simp
  | cons a l ih =>
    rw [List.map_cons]
    unfold lcL
    rw [if_pos (by simp), h a (by simp)]
    simp only [Out.bind_ok]
    rw [ih fun b hb => h b (by simp [hb])]
    rfl
theorem enum_words (n : Nat) (f : Nat → Str) : enumD 0 ((List.range n).map fun o => .str (f o)) = (List.range n).map fun o => .tup [nI o, .str (f o)] := by
  refine List.ext_getElem? fun i => ?_
  by_cases hi : i < n
  · have hl : i < (enumD 0 ((List.range n).map fun o => D.str (f o))).length := by rw [enumD_length, List.length_map, List.length_range]; exact hi
    rw [List.getElem?_eq_getElem hl, List.getElem?_map, List.getElem?_range hi]
    obtain ⟨x, h1, h2⟩ := enumD_get (List.getElem?_eq_getElem hl)
    rw [List.getElem?_map, List.getElem?_range hi] at h1
    cases h1
    rw [h2, Nat.zero_add]
    rfl
  · rw [List.getElem?_eq_none (by rw [enumD_length, List.length_map, List.length_range]; omega), List.getElem?_eq_none (by simpa using hi)]
def eT (n : Nat) (f : Nat → Str) : D := .tup ((List.range n).map fun o => .str (f o))
theorem after_ok {p : List (List Nat)} {b : Nat} (hle : p.length ≤ 10) (f : Nat → Str) (hb : b < p.length) (s : Sto) : d_effect_after [nP p, eT p.length f, nI b] s = .ok (eT p.length (effF p f b)) s := by
  have h1 : c_effect_after_1 [some (nP p), some (eT p.length f), some (nI b), none, none] s = .ok ((List.range p.length).map fun o => .str (effF p f b o)) s := by
    unfold c_effect_after_1
    have esrc : iEnumD (mVar 1) [some (nP p), some (eT p.length f), some (nI b), none, none] s = .ok ⟨(List.range p.length).map fun o => .tup [nI o, .str (f o)], []⟩ s := by
      have e2 : srcOf s (eT p.length f) = some ⟨(List.range p.length).map fun o => .str (f o), []⟩ := rfl
      simp [iEnumD, mVar_ap, e2, enum_words]
    simp only [lLc_ap, esrc, Out.bind_ok, List.length_map, List.length_range]
    rw [if_pos (by omega), lc_mapA _ (fun o => .str (effF p f b o))]
    · rfl
    · intro o _
      have ew := word_ok (o := o) (f o) hb s
      have eg : gT 2 (gsCons (gN 3) (gsCons (gN 4) gsNil)) (.tup [nI o, .str (f o)]) (wipeD [some (nP p), some (eT p.length f), some (nI b), none, none] [3, 4]) s = .ok [some (nP p), some (eT p.length f), some (nI b), some (nI o), some (.str (f o))] s := by
        rw [gT_ap _ _ 2 _ [nI o, .str (f o)] rfl]
        rfl
      unfold lcF
      rw [eg]
      simp only [Out.bind_ok, bYes_ap, if_true, mCall_ap, mCons_ap, mVar_ap, mNil_ap, List.getElem?_cons_zero, List.getElem?_cons_succ, ew]
      rfl
  have hm : m_effect_after [some (nP p), some (eT p.length f), some (nI b), none, none] s = .ret (eT p.length (effF p f b)) s := by
    unfold m_effect_after
    simp only [sRet_ap, mB_ap, mCons_ap, mFrz_ap, h1, Out.bind_ok, mNil_ap, pTuple_lst, lift_some, Out.fl_ok]
    rfl
  show clean s (flOut (m_effect_after [some (nP p), some (eT p.length f), some (nI b), none, none] s)) = _
  rw [hm, flOut_ret]
  exact clean_same rfl
theorem effect_ok {p : List (List Nat)} {row : List Nat} (hle : p.length ≤ 10) (hr : ∀ b ∈ row, b < p.length) (s : Sto) : d_effect_of [nP p, nT row] s = .ok (eT p.length (effN p row)) s := by
  have loop : ∀ (row' : List Nat) (f : Nat → Str) (o3 : Option D), (∀ b ∈ row', b < p.length) → ∃ o3', forL [] (forB (gN 3) l_effect_of_1) (row'.map nI) [some (nP p), some (nT row), some (eT p.length f), o3] s = .next [some (nP p), some (nT row), some (eT p.length (row'.foldl (effF p) f)), o3'] s := by
    intro row'
    induction row' with
    | nil => intro f o3 _; exact ⟨o3, by unfold forL; simp⟩
    | cons b row' ih =>
      intro f o3 hb
      obtain ⟨o3', e⟩ := ih (effF p f b) (some (nI b)) fun x hx => hb x (by simp [hx])
      refine ⟨o3', ?_⟩
      rw [List.map_cons]
      unfold forL
      rw [if_pos (by simp)]
      have ea := after_ok hle f (hb b (by simp)) s
      have eb : forB (gN 3) l_effect_of_1 (nI b) [some (nP p), some (nT row), some (eT p.length f), o3] s = .next [some (nP p), some (nT row), some (eT p.length (effF p f b)), some (nI b)] s := by
        simp only [forB_ap, gN_ap, nox_ok, Out.fl_ok, List.set_cons_succ, List.set_cons_zero]
        unfold l_effect_of_1
        simp only [sAsg_ap, mCall_ap, mCons_ap, mVar_ap, mNil_ap, List.getElem?_cons_zero, List.getElem?_cons_succ, Out.bind_ok, ea, Out.fl_ok, gN_ap, nox_ok, List.set_cons_succ, List.set_cons_zero]
      rw [eb]
      exact e
  obtain ⟨o3', e⟩ := loop row (fun _ => sSame) none hr
  have efin : eT p.length (row.foldl (effF p) fun _ => sSame) = eT p.length (effN p row) := by
    unfold eT
    congr 1
    refine List.map_congr_left fun o _ => ?_
    rw [eff_fold]
    rfl
  have hrep : pMul s (.tup [.str sSame]) (nI p.length) = some (eT p.length fun _ => sSame) := by
    unfold pMul nI
    dsimp only
    rw [if_pos ⟨by show 1 ≤ 1000; decide, by omega, by omega⟩]
    have e0 : (p.length : Int).toNat = p.length := by omega
    rw [e0]
    unfold eT
    have hf : ∀ n : Nat, (List.replicate n [D.str sSame]).flatten = (List.range n).map fun _ => D.str sSame := fun n => by
      rw [List.map_const', List.length_range]
      induction n with
      | zero => rfl
      | succ n ih => rw [List.replicate_succ, List.flatten_cons, ih, List.replicate_succ]; rfl
    rw [hf]
  have hm : m_effect_of [some (nP p), some (nT row), none, none] s = .ret (eT p.length (effN p row)) s := by
    unfold m_effect_of
    have l1 : ([.str sSame] : List D).length ≤ 100000 := by decide
    have es : ("same" : Str) = sSame := rfl
    have esrc : srcOf s (nT row) = some ⟨row.map nI, []⟩ := rfl
    simp only [sSeq_ap, sAsg_ap, mOp_ap, mTup_ap, mCons_ap, mLit_ap, mNil_ap, es, Out.bind_ok, l1, if_true, mB_ap, mVar_ap, List.getElem?_cons_zero, List.getElem?_cons_succ, len_pan, lift_some, hrep, Out.fl_ok, gN_ap, nox_ok, List.set_cons_succ, List.set_cons_zero, seq_next, sFor_ap, iSeq_ap, esrc, e, sRet_ap, efin]
  show clean s (flOut (m_effect_of [some (nP p), some (nT row), none, none] s)) = _
  rw [hm, flOut_ret]
  exact clean_same rfl
/-! ### the law's own words -/
theorem lweff_ok {p : List (List Nat)} {row : List Nat} (hle : p.length ≤ 10) (hr : ∀ b ∈ row, b < p.length) (s : Sto) : d__law_effect [nP p, nT row] s = .ok (eT p.length (effN p row)) s := by
  have hz : p.length ≤ SZ := Nat.le_trans hle (by decide)
  have at_ : ∀ (xs : List D), (s ++ [MO.lst xs])[s.length]? = some (.lst xs) := fun xs => by simp
  have inner : ∀ (o : Nat) (row' : List Nat) (w : Str) (o5 : Option D) (S : Sto) (a2 : Option D), (∀ b ∈ row', b < p.length) → ∃ o5', forL [] (forB (gN 5) l__law_effect_1) (row'.map nI) [some (nP p), some (nT row), a2, some (nI o), some (.str w), o5] S = .next [some (nP p), some (nT row), a2, some (nI o), some (.str (row'.foldl (effS p o) w)), o5'] S := by
    intro o row'
    induction row' with
    | nil => intro w o5 S a2 _; exact ⟨o5, by unfold forL; simp⟩
    | cons b row' ih =>
      intro w o5 S a2 hb
      obtain ⟨o5', e⟩ := ih (effS p o w b) (some (nI b)) S a2 fun x hx => hb x (by simp [hx])
      refine ⟨o5', ?_⟩
      rw [List.map_cons]
      unfold forL
      rw [if_pos (by simp)]
      have hix := idx_pan (hb b (by simp)) S
      have eb : forB (gN 5) l__law_effect_1 (nI b) [some (nP p), some (nT row), a2, some (nI o), some (.str w), o5] S = .next [some (nP p), some (nT row), a2, some (nI o), some (.str (effS p o w b)), some (nI b)] S := by
        simp only [forB_ap, gN_ap, nox_ok, Out.fl_ok, List.set_cons_succ, List.set_cons_zero]
        unfold l__law_effect_1 effS
        generalize p.getD b [] = r at hix ⊢
        by_cases h1 : o = b
        · have e1 : pEq S (nI b) (nI o) = some (.bl true) := by rw [pEq_nI, decide_eq_true h1.symm]
          rw [if_pos h1]
          simp only [sIf_ap, isB_ap, mOp_ap, mVar_ap, List.getElem?_cons_zero, List.getElem?_cons_succ, Out.bind_ok, e1, lift_some, Out.fl_ok, if_true, sAsg_ap, mLit_ap, gN_ap, nox_ok, List.set_cons_succ, List.set_cons_zero]
          rfl
        · have e1 : pEq S (nI b) (nI o) = some (.bl false) := by rw [pEq_nI, decide_eq_false fun q => h1 q.symm]
          rw [if_neg h1]
          by_cases h2 : o ∈ r
          · have e2 : pIn S (nI o) (nT r) = some (.bl true) := by rw [pIn_nT, decide_eq_true h2]
            rw [if_pos h2]
            simp only [sIf_ap, isB_ap, mOp_ap, mVar_ap, List.getElem?_cons_zero, List.getElem?_cons_succ, Out.bind_ok, e1, lift_some, Out.fl_ok, Bool.false_eq_true, if_false, hix, e2, if_true, sAsg_ap, mLit_ap, gN_ap, nox_ok, List.set_cons_succ, List.set_cons_zero]
            rfl
          · have e2 : pIn S (nI o) (nT r) = some (.bl false) := by rw [pIn_nT, decide_eq_false h2]
            rw [if_neg h2]
            simp only [sIf_ap, isB_ap, mOp_ap, mVar_ap, List.getElem?_cons_zero, List.getElem?_cons_succ, Out.bind_ok, e1, lift_some, Out.fl_ok, Bool.false_eq_true, if_false, hix, e2, sNext_ap]
      rw [eb]
      exact e
  let all : List D := (List.range p.length).map fun o => .str (effN p row o)
  have hal : all.length = p.length := by simp [all]
  have step : ∀ (i : Nat) (o3 o4 o5 : Option D), i < p.length → ∃ o3' o4' o5', forB (gN 3) l__law_effect_2 (nI i) [some (nP p), some (nT row), some (.ref s.length), o3, o4, o5] (s ++ [.lst (all.take i)]) = .next [some (nP p), some (nT row), some (.ref s.length), o3', o4', o5'] (s ++ [.lst (all.take (i + 1))]) := fun i o3 o4 o5 hi => by
    obtain ⟨o5', e⟩ := inner i row sSame o5 (s ++ [.lst (all.take i)]) (some (.ref s.length)) hr
    have hnew : all[i]? = some (.str (effN p row i)) := by simp only [all]; rw [List.getElem?_map, List.getElem?_range hi]; rfl
    have happ : pAppend (.ref s.length) [.str (effN p row i)] (s ++ [.lst (all.take i)]) = .ok .non (s ++ [.lst (all.take (i + 1))]) := by
      show onL _ _ _ = _
      unfold onL
      simp only [at_]
      rw [if_pos (by rw [List.length_take, hal]; show _ < 100000; omega)]
      congr 1
      rw [List.set_append_right _ _ (Nat.le_refl _), Nat.sub_self, List.take_add_one, hnew]
      rfl
    have hty : (D.ref s.length).isTy (s ++ [.lst (all.take i)]) "list" := ⟨rfl, _, at_ _⟩
    have esrc : srcOf (s ++ [.lst (all.take i)]) (nT row) = some ⟨row.map nI, []⟩ := rfl
    have es : ("same" : Str) = sSame := rfl
    refine ⟨some (nI i), some (.str (effN p row i)), o5', ?_⟩
    have e' : forL [] (forB (gN 5) l__law_effect_1) (row.map nI) [some (nP p), some (nT row), some (.ref s.length), some (nI i), some (.str sSame), o5] (s ++ [.lst (all.take i)]) = .next [some (nP p), some (nT row), some (.ref s.length), some (nI i), some (.str (effN p row i)), o5'] (s ++ [.lst (all.take i)]) := e
    simp only [forB_ap, gN_ap, nox_ok, Out.fl_ok, List.set_cons_succ, List.set_cons_zero]
    unfold l__law_effect_2
    simp only [sSeq_ap, sAsg_ap, mLit_ap, es, Out.fl_ok, gN_ap, nox_ok, List.set_cons_succ, List.set_cons_zero, seq_next, sFor_ap, iSeq_ap, mVar_ap, List.getElem?_cons_zero, List.getElem?_cons_succ, Out.bind_ok, esrc, lift_some, e', sDrop_ap, mMeth, hty, if_true, mCons_ap, mNil_ap, happ]
  obtain ⟨ρ', s', e, ⟨o3', o4', o5', eρ, es⟩⟩ := forL_inv (held := []) (body := forB (gN 3) l__law_effect_2) (fun i ρ s' => ∃ o3 o4 o5, ρ = [some (nP p), some (nT row), some (.ref s.length), o3, o4, o5] ∧ s' = s ++ [.lst (all.take i)]) (fun _ _ _ _ => by simp)
    ((List.range p.length).map nI) 0 [some (nP p), some (nT row), some (.ref s.length), none, none, none] (s ++ [.lst []]) ⟨none, none, none, rfl, rfl⟩ (fun i ρ s' d hd ⟨o3, o4, o5, eρ, es⟩ => by
      subst eρ es
      rw [List.getElem?_map] at hd
      cases e : (List.range p.length)[i]? with
      | none => rw [e] at hd; cases hd
      | some a =>
        rw [e] at hd
        cases hd
        obtain ⟨hi, ea⟩ := List.getElem?_eq_some_iff.mp e
        rw [List.length_range] at hi
        rw [List.getElem_range] at ea
        subst ea
        rw [Nat.zero_add]
        obtain ⟨o3', o4', o5', e⟩ := step i o3 o4 o5 hi
        exact ⟨_, _, .inl e, o3', o4', o5', rfl, rfl⟩)
  rw [List.length_map, List.length_range, Nat.zero_add, List.take_of_length_le (by rw [hal]; exact Nat.le_refl _)] at es
  subst eρ es
  have hm : m__law_effect [some (nP p), some (nT row), none, none, none, none] s = .ret (eT p.length (effN p row)) (s ++ [.lst all]) := by
    unfold m__law_effect
    have h2 : ([] : List D).length ≤ 100000 := by decide
    have ept : pTuple (s ++ [.lst all]) [.ref s.length] = some (.tup all) := by
      show (lstOf _ (.ref s.length)).map _ = _
      rw [lst_of_ref (at_ _)]
      rfl
    simp only [sSeq_ap, sAsg_ap, mNew_ap, lDisp_ap, mNil_ap, Out.bind_ok, h2, if_true, Out.fl_ok, gN_ap, nox_ok, List.set_cons_succ, List.set_cons_zero, seq_next, sFor_ap, iRng1D_ap, mB_ap, mCons_ap, mVar_ap, List.getElem?_cons_zero, List.getElem?_cons_succ, len_pan, lift_some, rng1_nI hz, e, sRet_ap, ept]
    rfl
  show clean s (flOut (m__law_effect [some (nP p), some (nT row), none, none, none, none] s)) = _
  have hp : isP (eT p.length (effN p row)) = true := by unfold eT; rw [isP]; exact isPs_map _ (fun _ => rfl) _
  rw [hm, flOut_ret, clean_pure (low_of_isP _ _ hp)]
/-! ### the law -/
theorem eff_val (p : List (List Nat)) (o : Nat) : ∀ (row : List Nat) (w : Str), (w = sOn ∨ w = sOff ∨ w = sSame) → (row.foldl (effS p o) w = sOn ∨ row.foldl (effS p o) w = sOff ∨ row.foldl (effS p o) w = sSame)
  | [], _, h => h
  | b :: row, w, h => by
    rw [List.foldl_cons]
    refine eff_val p o row _ ?_
    unfold effS
    split
    · exact .inl rfl
    · split
      · exact .inr (.inl rfl)
      · exact h
theorem rok_word {w : Str} (h : w = sOn ∨ w = sOff ∨ w = sSame) : ROk 0 4 (.str w) := by
  rcases h with e | e | e
  · subst e; exact ⟨rfl, by decide +kernel, Nat.zero_le _, rfl, by decide +kernel, by decide +kernel⟩
  · subst e; exact ⟨rfl, by decide +kernel, Nat.zero_le _, rfl, by decide +kernel, by decide +kernel⟩
  · subst e; exact ⟨rfl, by decide +kernel, Nat.zero_le _, rfl, by decide +kernel, by decide +kernel⟩
theorem rok_eff {p : List (List Nat)} (hle : p.length ≤ 10) (row : List Nat) : ROk 1 50 (eT p.length (effN p row)) :=
  (rok_tup (dp := 0) (bk := 4) (n := 10) (xs := (List.range p.length).map fun o => .str (effN p row o)) (fun x hx => by
    obtain ⟨o, _, rfl⟩ := List.mem_map.mp hx
    exact rok_word (eff_val p o row sSame (.inr (.inr rfl)))) (by rw [List.length_map, List.length_range]; exact hle)).mono (by omega) (by omega)
structure RowN (n : Nat) (r : List Nat) : Prop where
  len : r.length ≤ 60
  lt : ∀ b ∈ r, b < n
theorem nats_of {Q : Nat → Prop} : ∀ (ys : List D), (∀ (i : Nat) (y : D), ys[i]? = some y → ∃ a, y = nI a ∧ Q a) → ∃ r : List Nat, ys = r.map nI ∧ ∀ a ∈ r, Q a
  | [], _ => ⟨[], rfl, fun _ h => nomatch h⟩
  | y :: ys, h => by
    obtain ⟨a, rfl, ha⟩ := h 0 y rfl
    obtain ⟨r, rfl, hr⟩ := nats_of ys fun i y hy => h (i + 1) y (by simpa using hy)
    exact ⟨a :: r, rfl, fun b hb => by
      rcases List.mem_cons.mp hb with e | e
      · rw [e]; exact ha
      · exact hr b e⟩
theorem row_ok {cells rests : List Int} {k n m : Nat} {rest : Sto} (g : GoodB cells rests) (hk : k ≤ 900000) (h1 : 1 ≤ n) (h2 : n ≤ 10) (hm : m ≤ 60) :
    ∃ r rests' k', RowN n r ∧ GoodB cells rests' ∧ k' ≤ k + 61 ∧ d__law_row [.ref 1, nI n, nI m] (dkB cells rests k rest) = .ok (nT r) (dkB cells rests' k' rest) := by
  obtain ⟨z, r1, hz, g1, e1⟩ := next_ok (rest := rest) (k := k) (m := m + 1) g (by omega) (by omega) (by omega)
  have hzS : z ≤ SZ := Nat.le_trans (by omega : z ≤ 100) (by decide)
  obtain ⟨ys, s', e, hl, hy, ⟨r2, k2, g2, hk2, es⟩⟩ := lcL_all (held := []) (f := lcF (gN 3) bYes (mCall d__law_next (mCons (mVar 0) (mCons (mVar 1) mNil))) (wipeD [some (.ref 1), some (nI n), some (nI m), none] [3])) (fun _ y => ∃ a, y = nI a ∧ a < n)
    (fun i s => ∃ (r2 : List Int) (k2 : Nat), GoodB cells r2 ∧ k2 ≤ k + 1 + i ∧ s = dkB cells r2 k2 rest) (fun _ _ _ => by simp) ((List.range z).map nI) 0 (dkB cells r1 (k + 1) rest) ⟨r1, k + 1, g1, by omega, rfl⟩ (fun i s d hd ⟨r2, k2, g2, hk2, es⟩ => by
      subst es
      have hi : i < z := by have := (List.getElem?_eq_some_iff.mp hd).1; simpa using this
      obtain ⟨a, r3, ha, g3, e3⟩ := next_ok (rest := rest) (k := k2) (m := n) g2 (by omega) h1 (by omega)
      refine ⟨nI a, _, ?_, ⟨a, rfl, ha⟩, r3, k2 + 1, g3, by omega, rfl⟩
      simp [lcF, wipeD, mVar_ap, e3])
  obtain ⟨r, rfl, hr⟩ := nats_of ys hy
  rw [List.length_map, List.length_map, List.length_range] at hl
  rw [List.length_map, List.length_range] at hk2
  refine ⟨r, r2, k2, ⟨by omega, hr⟩, g2, by omega, ?_⟩
  have hm : m__law_row [some (.ref 1), some (nI n), some (nI m), none] (dkB cells rests k rest) = .ret (nT r) (dkB cells r2 k2 rest) := by
    unfold m__law_row
    have hz2 : z ≤ 100000 := hzS
    have ea : ∀ s : Sto, pAdd s (nI m) (.int 1) = some (nI (m + 1)) := fun s => pAdd_nI s m 1
    have ec : c__law_row_1 [some (.ref 1), some (nI n), some (nI m), none] (dkB cells rests k rest) = .ok (r.map nI) (dkB cells r2 k2 rest) := by
      unfold c__law_row_1
      simp only [lLc_ap, iRng1D_ap, mCall_ap, mCons_ap, mOp_ap, mVar_ap, mLit_ap, mNil_ap, List.getElem?_cons_zero, List.getElem?_cons_succ, Out.bind_ok, ea, lift_some, e1, rng1_nI hzS, List.length_map, List.length_range]
      rw [if_pos hz2, e, es]
      rfl
    simp only [sRet_ap, mB_ap, mCons_ap, mFrz_ap, ec, Out.bind_ok, mNil_ap, pTuple_lst, lift_some, Out.fl_ok]
    rfl
  show clean (dkB cells rests k rest) (flOut (m__law_row [some (.ref 1), some (nI n), some (nI m), none] (dkB cells rests k rest))) = _
  rw [hm, flOut_ret]
  exact clean_same rfl
def S1 (p : List (List Nat)) (r : List Nat) : Str := (toP (.lst [nP p, nT r])).shown
theorem repr_pr {p : List (List Nat)} {r : List Nat} (h : PN p) (hr : RowN p.length r) (s : Sto) : pRepr s [.lst [nP p, nT r]] = some (.str (S1 p r)) := by
  have hle := h.le
  refine ROk.repr (dp := 3) (bk := 222) (rok_lst (dp := 2) (bk := 110) (n := 2) (fun x hx => ?_) (by simp)) (by omega) (by omega) s
  rcases List.mem_cons.mp hx with e | hx
  · rw [e]; exact rok_pan h
  · rw [List.mem_singleton.mp hx]
    exact (rok_nT (k := 60) (fun a ha => by have := hr.lt a ha; omega) hr.len).mono (by omega) (by omega)
theorem inner_ok {p : List (List Nat)} {r : List Nat} (h : PN p) (hr : RowN p.length r) (a0 a1 a2 o4 o5 o6 o7 : Option D) (s : Sto) : ∃ o5' o6', forB (gN 4) l_law_1 (nT r) [a0, a1, a2, some (nP p), o4, o5, o6, o7] s =
    .next [a0, a1, a2, some (nP p), some (nT r), o5', o6', o7] s := by
  have e1 := repr_pr h hr s
  have e2 := lweff_ok h.le hr.lt s
  have e3 := effect_ok h.le hr.lt s
  have e4 : ∀ o5 o6 o7, c_law_1 [a0, a1, a2, some (nP p), some (nT r), o5, o6, o7] s = .ok [eT p.length (effN p r), eT p.length (effN p r)] s := fun o5 o6 o7 => by
    unfold c_law_1
    have hr2 : rng1 (.int 2) = some ⟨(List.range 2).map nI, []⟩ := rng1_nI (n := 2) (by decide)
    simp only [lLc_ap, iRng1D_ap, mLit_ap, Out.bind_ok, hr2, lift_some, List.length_map, List.length_range]
    rw [if_pos (by decide), lc_each (fun _ => eT p.length (effN p r))]
    · rfl
    · intro a _
      simp [lcF, wipeD, mVar_ap, e3]
  have e5 := (rok_lst (dp := 1) (bk := 50) (n := 2) (xs := [eT p.length (effN p r), eT p.length (effN p r)]) (fun x hx => by
    have : x = eT p.length (effN p r) := by simpa using hx
    rw [this]; exact rok_eff h.le r) (by simp)).repr (by omega) (by omega) s
  refine ⟨some (.str (S1 p r)), some (eT p.length (effN p r)), ?_⟩
  simp only [forB_ap, gN_ap, nox_ok, Out.fl_ok, List.set_cons_succ, List.set_cons_zero]
  unfold l_law_1
  simp [mVar_ap, e1, e2, e4, e5]
def TurnI (ns cells : List Int) (i : Nat) (ρ : Rho) (s : Sto) : Prop := ∃ (e : List Int) (k : Nat) (o2 o3 o4 o5 o6 o7 : Option D), GoodB cells e ∧ k ≤ 400 * i ∧ s = dkB cells e k [] ∧ ρ = [some (.scr (ns.map .int)), some (.ref 1), o2, o3, o4, o5, o6, o7]
theorem turn_ok {ns cells : List Int} {i : Nat} {ρ : Rho} {s : Sto} (hi : i < 8) (h : TurnI ns cells i ρ s) : ∃ ρ' s', forB (gN 2) l_law_2 (nI i) ρ s = .next ρ' s' ∧ TurnI ns cells (i + 1) ρ' s' := by
  obtain ⟨e, k, o2, o3, o4, o5, o6, o7, g, hk, rfl, rfl⟩ := h
  obtain ⟨p, r1, k1, hp, g1, hk1, e1⟩ := panel_ok (rest := []) (k := k) (m := 10) g (by omega) (by omega) (by omega)
  have hpn := hp.pn (Nat.le_refl _)
  obtain ⟨q1, r2, k2, hq1, g2, hk2, e2⟩ := row_ok (rest := []) (k := k1) (n := p.length) (m := 60) g1 (by omega) hp.pos hpn.le (by omega)
  obtain ⟨q2, r3, k3, hq2, g3, hk3, e3⟩ := row_ok (rest := []) (k := k2) (n := p.length) (m := 6) g2 (by omega) hp.pos hpn.le (by omega)
  have e1' : d__law_panel [.ref 1, .int 10] (dkB cells e k []) = .ok (nP p) (dkB cells r1 k1 []) := e1
  have e2' : d__law_row [.ref 1, nI p.length, .int 60] (dkB cells r1 k1 []) = .ok (nT q1) (dkB cells r2 k2 []) := e2
  have e3' : d__law_row [.ref 1, nI p.length, .int 6] (dkB cells r2 k2 []) = .ok (nT q2) (dkB cells r3 k3 []) := e3
  obtain ⟨ρ', s', e4, ⟨o4', o5', o6', eρ, es⟩⟩ := forL_inv (held := []) (body := forB (gN 4) l_law_1) (fun _ ρ s' => ∃ o4 o5 o6, ρ = [some (.scr (ns.map .int)), some (.ref 1), some (nI i), some (nP p), o4, o5, o6, o7] ∧ s' = dkB cells r3 k3 []) (fun _ _ _ _ => by simp)
    [nT [], nT q1, nT q2] 0 [some (.scr (ns.map .int)), some (.ref 1), some (nI i), some (nP p), o4, o5, o6, o7] (dkB cells r3 k3 []) ⟨o4, o5, o6, rfl, rfl⟩ (fun j ρ s' d hd ⟨o4, o5, o6, eρ, es⟩ => by
      subst eρ es
      obtain ⟨r, hr, rfl⟩ : ∃ r, RowN p.length r ∧ d = nT r := by
        have := List.mem_of_getElem? hd
        simp only [List.mem_cons, List.not_mem_nil, or_false] at this
        rcases this with h | h | h
        · exact ⟨[], ⟨Nat.zero_le _, fun _ h => nomatch h⟩, h⟩
        · exact ⟨_, hq1, h⟩
        · exact ⟨_, hq2, h⟩
      obtain ⟨o5', o6', e⟩ := inner_ok hpn hr (some (.scr (ns.map .int))) (some (.ref 1)) (some (nI i)) o4 o5 o6 o7 (dkB cells r3 k3 [])
      exact ⟨_, _, .inl e, some (nT r), o5', o6', rfl, rfl⟩)
  refine ⟨ρ', s', ?_, r3, k3, some (nI i), some (nP p), o4', o5', o6', o7, g3, by omega, es, eρ⟩
  subst es eρ
  simp only [forB_ap, gN_ap, nox_ok, Out.fl_ok, List.set_cons_succ, List.set_cons_zero]
  unfold l_law_2
  have et : nT [] = .tup [] := rfl
  rw [et] at e4
  simp [mVar_ap, e1', len_pan, e2', e3', e4]
theorem law_true (ns : List Int) (hl : ns.length ≤ 63) (_ : ∀ z ∈ ns, Builtin.Int.intBits z ≤ 1048576) : ∃ st', d_law [.scr (ns.map .int)] [] = .ok (.bl true) st' := by
  obtain ⟨cells, rests, g, e0⟩ := draws_ok ns hl
  obtain ⟨ρ', s', e, hI⟩ := forL_inv (held := []) (body := forB (gN 2) l_law_2) (TurnI ns cells) (fun _ _ _ _ => by simp) ((List.range 8).map nI) 0
    [some (.scr (ns.map .int)), some (.ref 1), none, none, none, none, none, none] (dkB cells rests 0 []) ⟨rests, 0, none, none, none, none, none, none, g, by omega, rfl, rfl⟩ (fun i ρ s d hd hI => by
      rw [List.getElem?_map] at hd
      cases e : (List.range 8)[i]? with
      | none => rw [e] at hd; cases hd
      | some a =>
        rw [e] at hd
        cases hd
        obtain ⟨hi, ea⟩ := List.getElem?_eq_some_iff.mp e
        rw [List.length_range] at hi
        rw [List.getElem_range] at ea
        subst ea
        rw [Nat.zero_add] at hI ⊢
        obtain ⟨ρ', s', e', hI'⟩ := turn_ok hi hI
        exact ⟨ρ', s', .inl e', hI'⟩)
  have h8 : rng1 (.int 8) = some ⟨(List.range 8).map nI, []⟩ := rng1_nI (n := 8) (by decide)
  have hm : m_law [some (.scr (ns.map .int)), none, none, none, none, none, none, none] [] = .ret (.bl true) s' := by
    unfold m_law
    simp [mVar_ap, e0, h8, e]
  obtain ⟨st', hc⟩ := clean_some [] (.bl true) s'
  refine ⟨st', ?_⟩
  show clean [] (flOut (m_law [some (.scr (ns.map .int)), none, none, none, none, none, none, none] [])) = _
  rw [hm, flOut_ret, hc]
--PROOF
-- ### that they mean so
structure Txt (mg : Str → Option Value) : Prop where
  m_enumerate : mg "enumerate" = none
  m_int : mg "int" = none
  m_len : mg "len" = none
  m_list : mg "list" = none
  m_range : mg "range" = none
  m_repr : mg "repr" = none
  m_tuple : mg "tuple" = none
  g_OFF : ∃ t, mg "OFF" = some (.str ("off" : Str) t)
  g_ON : ∃ t, mg "ON" = some (.str ("on" : Str) t)
  g_SAME : ∃ t, mg "SAME" = some (.str ("same" : Str) t)
section
variable {P : Program} {w : World} {K : PySem.W.Frag} {mg : Str → Option Value} {base : Heap}
theorem sc_changed_word : FnScope N_changed_word ["panel", "pressed", "button", "word"] (defScope s_changed_word) := ⟨rfl, rfl, rfl, by decide +kernel, rfl, by decide +kernel, by decide +kernel⟩
theorem b_changed_word (T : Txt mg)  {f : Addr} {cdv : Value} {B : Around} {fr : List Env} {s : Shared} {H : Hp} {E : XK} (bd : Bd (cxOf (L2.CX P w) P w K mg base N_changed_word "changed_word" (defScope s_changed_word) f cdv B fr s H E) (wE E) 0)
    (hp : PassesOwn (model P w) (B.deeper (envOfC "changed_word" (defScope s_changed_word) s.heap.objs.size f cdv)) (envOfC "changed_word" (defScope s_changed_word) s.heap.objs.size f cdv) (cxOf (L2.CX P w) P w K mg base N_changed_word "changed_word" (defScope s_changed_word) f cdv B fr s H E).xe) :
    DSs (cxOf (L2.CX P w) P w K mg base N_changed_word "changed_word" (defScope s_changed_word) f cdv B fr s H E) (wE E) (defBody s_changed_word) m_changed_word :=
  (dss_cons (ds_if (dt_cmp (op_pEq bd.u64) (vr 2) (vr 1)) (dss_one (ds_ret (de_gs (by rfl) T.g_ON))) dss_nil)
  (dss_one (ds_ret (de_if (dt_cmp (op_pIn bd.u65) (vr 2) (de_idx (vr 0) (vr 1))) (de_gs (by rfl) T.g_OFF) (vr 3)))))
theorem g_changed_word (T : Txt mg)  {f : Addr} {fd : FuncData} (F : Fun K "changed_word" "changed_word" s_changed_word f fd) : FnG P w K mg base 1 f fd ["panel", "pressed", "button", "word"] (spD K 4 d_changed_word) :=
  fnG_of F sc_changed_word (by decide) fun _ _ _ _ _ _ bd hp => b_changed_word T  bd hp
theorem sc_effect_after : FnScope N_effect_after ["panel", "effect", "pressed"] (defScope s_effect_after) := ⟨rfl, rfl, rfl, by decide +kernel, rfl, by decide +kernel, by decide +kernel⟩
theorem b_effect_after (T : Txt mg) (C_changed_word : FnC P w K mg base 1 "changed_word" 4 d_changed_word) {f : Addr} {cdv : Value} {B : Around} {fr : List Env} {s : Shared} {H : Hp} {E : XK} (bd : Bd (cxOf (L2.CX P w) P w K mg base N_effect_after "effect_after" (defScope s_effect_after) f cdv B fr s H E) (wE E) 1)
    (hp : PassesOwn (model P w) (B.deeper (envOfC "effect_after" (defScope s_effect_after) s.heap.objs.size f cdv)) (envOfC "effect_after" (defScope s_effect_after) s.heap.objs.size f cdv) (cxOf (L2.CX P w) P w K mg base N_effect_after "effect_after" (defScope s_effect_after) f cdv B fr s H E).xe) :
    DSs (cxOf (L2.CX P w) P w K mg base N_effect_after "effect_after" (defScope s_effect_after) f cdv B fr s H E) (wE E) (defBody s_effect_after) m_effect_after :=
  (dss_one (ds_ret (de_bT call_pTuple (by rfl) T.m_tuple (by rfl) (da_cons (de_frz (dl_lc (own := [("button", 3), ("word", 4)]) bd.calm bd.nd (di_enum (by rfl) T.m_enumerate (vr 1)) (blkOk_by (own := [("button", 3), ("word", 4)]) (N := N_effect_after) (sc := defScope s_effect_after) (by decide +kernel)) (by decide) (fun _ _ _ _ _ => (dg_tup bd.blk.calm (dgs_cons (gn 3 bd.blk) (dgs_cons (gn 4 bd.blk) dgs_nil)))) (fun _ _ _ _ _ => dts_nil) (fun _ _ _ _ _ => (de_call bd.blk C_changed_word (by decide) (by rfl) nn_changed_word (da_cons (vr 0) (da_cons (vr 2) (da_cons (vr 3) (da_cons (vr 4) da_nil)))))))) da_nil))))
theorem g_effect_after (T : Txt mg) (C_changed_word : FnC P w K mg base 1 "changed_word" 4 d_changed_word) {f : Addr} {fd : FuncData} (F : Fun K "effect_after" "effect_after" s_effect_after f fd) : FnG P w K mg base 2 f fd ["panel", "effect", "pressed"] (spD K 3 d_effect_after) :=
  fnG_of F sc_effect_after (by decide) fun _ _ _ _ _ _ bd hp => b_effect_after T C_changed_word bd hp
theorem sc_effect_of : FnScope N_effect_of ["panel", "row"] (defScope s_effect_of) := ⟨rfl, rfl, rfl, by decide +kernel, rfl, by decide +kernel, by decide +kernel⟩
theorem b_effect_of (T : Txt mg) (C_effect_after : FnC P w K mg base 2 "effect_after" 3 d_effect_after) {f : Addr} {cdv : Value} {B : Around} {fr : List Env} {s : Shared} {H : Hp} {E : XK} (bd : Bd (cxOf (L2.CX P w) P w K mg base N_effect_of "effect_of" (defScope s_effect_of) f cdv B fr s H E) (wE E) 2)
    (hp : PassesOwn (model P w) (B.deeper (envOfC "effect_of" (defScope s_effect_of) s.heap.objs.size f cdv)) (envOfC "effect_of" (defScope s_effect_of) s.heap.objs.size f cdv) (cxOf (L2.CX P w) P w K mg base N_effect_of "effect_of" (defScope s_effect_of) f cdv B fr s H E).xe) :
    DSs (cxOf (L2.CX P w) P w K mg base N_effect_of "effect_of" (defScope s_effect_of) f cdv B fr s H E) (wE E) (defBody s_effect_of) m_effect_of :=
  (dss_cons (st 2 bd (de_bin op_pMul (de_tup (da_cons (de_gs (by rfl) T.g_SAME) da_nil)) (de_b call_pLen (by rfl) T.m_len (by rfl) (da_cons (vr 0) da_nil))))
  (dss_cons (ds_for hp bd.calm (di_seq (vr 1)) (gn 3 bd) (dss_one (st 2 bd (de_call bd C_effect_after (by decide) (by rfl) nn_effect_after (da_cons (vr 0) (da_cons (vr 2) (da_cons (vr 3) da_nil)))))))
  (dss_one (ds_ret (vr 2)))))
theorem g_effect_of (T : Txt mg) (C_effect_after : FnC P w K mg base 2 "effect_after" 3 d_effect_after) {f : Addr} {fd : FuncData} (F : Fun K "effect_of" "effect_of" s_effect_of f fd) : FnG P w K mg base 3 f fd ["panel", "row"] (spD K 2 d_effect_of) :=
  fnG_of F sc_effect_of (by decide) fun _ _ _ _ _ _ bd hp => b_effect_of T C_effect_after bd hp
theorem sc__law_draws : FnScope N__law_draws ["_law_script"] (defScope s__law_draws) := ⟨rfl, rfl, rfl, by decide +kernel, rfl, by decide +kernel, by decide +kernel⟩
theorem b__law_draws (T : Txt mg)  {f : Addr} {cdv : Value} {B : Around} {fr : List Env} {s : Shared} {H : Hp} {E : XK} (bd : Bd (cxOf (L2.CX P w) P w K mg base N__law_draws "_law_draws" (defScope s__law_draws) f cdv B fr s H E) (wE E) 0)
    (hp : PassesOwn (model P w) (B.deeper (envOfC "_law_draws" (defScope s__law_draws) s.heap.objs.size f cdv)) (envOfC "_law_draws" (defScope s__law_draws) s.heap.objs.size f cdv) (cxOf (L2.CX P w) P w K mg base N__law_draws "_law_draws" (defScope s__law_draws) f cdv B fr s H E).xe) :
    DSs (cxOf (L2.CX P w) P w K mg base N__law_draws "_law_draws" (defScope s__law_draws) f cdv B fr s H E) (wE E) (defBody s__law_draws) m__law_draws :=
  (dss_cons (st 1 bd (de_frz (dl_bin op_pCat (de_frz (dl_bT call_pList (by rfl) T.m_list (by rfl) (da_cons (de_frz (dl_slL (vr 0) do_none (do_some de_int))) da_nil))) (de_frz (dl_bin op_pRepL (de_frz (dl_disp (da_cons de_int da_nil))) (de_bT call_pInt (by rfl) T.m_int (by rfl) (da_cons (de_cmp (op_pEq bd.u64) (de_b call_pLen (by rfl) T.m_len (by rfl) (da_cons (vr 0) da_nil)) de_int) da_nil)))))))
  (dss_one (ds_ret (de_new (dl_disp (da_cons (vr 1) (da_cons de_int (da_cons (de_new (dl_lc (own := [("_law_cell", 2)]) bd.calm bd.nd (di_seq (vr 1)) (blkOk_by (own := [("_law_cell", 2)]) (N := N__law_draws) (sc := defScope s__law_draws) (by decide +kernel)) (by decide) (fun _ _ _ _ _ => (gn 2 bd.blk)) (fun _ _ _ _ _ => dts_nil) (fun _ _ _ _ _ => (de_bin op_pMul (vr 2) (de_bT call_pInt (by rfl) T.m_int (by rfl) (da_cons (de_cmp op_pGe (vr 2) (de_bin op_pPow de_int de_int)) da_nil)))))) da_nil))))))))
theorem g__law_draws (T : Txt mg)  {f : Addr} {fd : FuncData} (F : Fun K "_law_draws" "_law_draws" s__law_draws f fd) : FnG P w K mg base 1 f fd ["_law_script"] (spD K 1 d__law_draws) :=
  fnG_of F sc__law_draws (by decide) fun _ _ _ _ _ _ bd hp => b__law_draws T  bd hp
theorem sc__law_next : FnScope N__law_next ["_law_drawn", "_law_many"] (defScope s__law_next) := ⟨rfl, rfl, rfl, by decide +kernel, rfl, by decide +kernel, by decide +kernel⟩
theorem b__law_next (T : Txt mg)  {f : Addr} {cdv : Value} {B : Around} {fr : List Env} {s : Shared} {H : Hp} {E : XK} (bd : Bd (cxOf (L2.CX P w) P w K mg base N__law_next "_law_next" (defScope s__law_next) f cdv B fr s H E) (wE E) 0)
    (hp : PassesOwn (model P w) (B.deeper (envOfC "_law_next" (defScope s__law_next) s.heap.objs.size f cdv)) (envOfC "_law_next" (defScope s__law_next) s.heap.objs.size f cdv) (cxOf (L2.CX P w) P w K mg base N__law_next "_law_next" (defScope s__law_next) f cdv B fr s H E).xe) :
    DSs (cxOf (L2.CX P w) P w K mg base N__law_next "_law_next" (defScope s__law_next) f cdv B fr s H E) (wE E) (defBody s__law_next) m__law_next :=
  (dss_cons (ds_asg (vr 0) (dg_lst bd.calm (dgs_cons (gn 2 bd) (dgs_cons (gn 3 bd) (dgs_cons (gn 4 bd) dgs_nil)))))
  (dss_cons (st 5 bd (de_bin op_pMod (vr 3) (de_b call_pLen (by rfl) T.m_len (by rfl) (da_cons (vr 2) da_nil))))
  (dss_cons (ds_asg (de_bin op_pAdd (vr 3) de_int) (dg_sub (vr 0) de_int))
  (dss_cons (ds_if (dt_cmp op_pGt (de_idx (vr 4) (vr 5)) de_int) (dss_cons (st 6 bd (de_bin op_pMod (de_idx (vr 4) (vr 5)) (vr 1)))
    (dss_cons (ds_asg (de_bin op_pDiv (de_idx (vr 4) (vr 5)) (vr 1)) (dg_sub (vr 4) (vr 5)))
    (dss_one (ds_ret (vr 6))))) dss_nil)
  (dss_cons (st 7 bd (de_bin op_pMod (de_bin op_pPow (de_bin op_pAdd (de_bin op_pAdd (de_bin op_pMod (de_idx (vr 2) (vr 5)) de_int) (de_bin op_pMul de_int (vr 3))) de_int) de_int) de_int))
  (dss_cons (st 8 bd (de_bin op_pMod (de_bin op_pPow (de_bin op_pAdd (de_bin op_pAdd (vr 7) (de_bin op_pMul (de_bin op_pMul de_int (vr 3)) (vr 3))) de_int) de_int) de_int))
  (dss_one (ds_ret (de_bin op_pMod (de_bin op_pMod (de_bin op_pAdd (de_bin op_pMul (vr 8) de_int) (vr 7)) de_int) (vr 1))))))))))
theorem g__law_next (T : Txt mg)  {f : Addr} {fd : FuncData} (F : Fun K "_law_next" "_law_next" s__law_next f fd) : FnG P w K mg base 1 f fd ["_law_drawn", "_law_many"] (spD K 2 d__law_next) :=
  fnG_of F sc__law_next (by decide) fun _ _ _ _ _ _ bd hp => b__law_next T  bd hp
theorem sc__law_panel : FnScope N__law_panel ["_law_drawn", "_law_most"] (defScope s__law_panel) := ⟨rfl, rfl, rfl, by decide +kernel, rfl, by decide +kernel, by decide +kernel⟩
theorem b__law_panel (T : Txt mg) (C__law_next : FnC P w K mg base 1 "_law_next" 2 d__law_next) {f : Addr} {cdv : Value} {B : Around} {fr : List Env} {s : Shared} {H : Hp} {E : XK} (bd : Bd (cxOf (L2.CX P w) P w K mg base N__law_panel "_law_panel" (defScope s__law_panel) f cdv B fr s H E) (wE E) 1)
    (hp : PassesOwn (model P w) (B.deeper (envOfC "_law_panel" (defScope s__law_panel) s.heap.objs.size f cdv)) (envOfC "_law_panel" (defScope s__law_panel) s.heap.objs.size f cdv) (cxOf (L2.CX P w) P w K mg base N__law_panel "_law_panel" (defScope s__law_panel) f cdv B fr s H E).xe) :
    DSs (cxOf (L2.CX P w) P w K mg base N__law_panel "_law_panel" (defScope s__law_panel) f cdv B fr s H E) (wE E) (defBody s__law_panel) m__law_panel :=
  (dss_cons (st 2 bd (de_idx (de_frz (dl_disp (da_cons (de_bin op_pAdd de_int (de_call bd C__law_next (by decide) (by rfl) nn__law_next (da_cons (vr 0) (da_cons (vr 1) da_nil)))) (da_cons (vr 1) da_nil)))) (de_bT call_pInt (by rfl) T.m_int (by rfl) (da_cons (de_cmp (op_pEq bd.u64) (de_call bd C__law_next (by decide) (by rfl) nn__law_next (da_cons (vr 0) (da_cons de_int da_nil))) de_int) da_nil))))
  (dss_cons (ds_asg (de_tup (da_cons (de_call bd C__law_next (by decide) (by rfl) nn__law_next (da_cons (vr 0) (da_cons de_int da_nil))) (da_cons (de_new (dl_disp da_nil)) da_nil))) (dg_tup bd.calm (dgs_cons (gn 3 bd) (dgs_cons (gn 4 bd) dgs_nil))))
  (dss_cons (ds_for hp bd.calm (di_range1 (by rfl) T.m_range (vr 2)) (gn 5 bd) (dss_cons (ds_setLc (i := 6) (own := [("_law_other", 7)]) true bd.calm bd.nd rfl rfl (sw_true rfl rfl rfl (by decide +kernel)) (di_range1 (by rfl) T.m_range (vr 2)) (blkOk_by (own := [("_law_other", 7)]) (N := N__law_panel) (sc := defScope s__law_panel) (by decide +kernel)) (by decide) (fun _ _ _ _ _ => (gn 7 bd.blk)) (fun _ _ _ _ _ => (dts1 (dt_cmp (op_pNe bd.blk.u64) (vr 7) (vr 5)))) (fun _ _ _ _ _ => (vr 7)))
    (dss_one (ds_expr (de_m PySem.F.plainAttrs_list PySem.F.slot_list_append PySem.F.type_list_append mt_pAppend (vr 4) (da_cons (de_bT call_pTuple (by rfl) T.m_tuple (by rfl) (da_cons (de_frz (dl_lc (own := [("_law_other", 7)]) bd.calm bd.nd (di_seq (vr 6)) (blkOk_by (own := [("_law_other", 7)]) (N := N__law_panel) (sc := defScope s__law_panel) (by decide +kernel)) (by decide) (fun _ _ _ _ _ => (gn 7 bd.blk)) (fun _ _ _ _ _ => (dts1 (dt_cmp (op_pLt bd.blk.u65) (de_call bd.blk C__law_next (by decide) (by rfl) nn__law_next (da_cons (vr 0) (da_cons de_int da_nil))) (vr 3)))) (fun _ _ _ _ _ => (vr 7)))) da_nil)) da_nil))))))
  (dss_one (ds_ret (de_bT call_pTuple (by rfl) T.m_tuple (by rfl) (da_cons (vr 4) da_nil)))))))
theorem g__law_panel (T : Txt mg) (C__law_next : FnC P w K mg base 1 "_law_next" 2 d__law_next) {f : Addr} {fd : FuncData} (F : Fun K "_law_panel" "_law_panel" s__law_panel f fd) : FnG P w K mg base 2 f fd ["_law_drawn", "_law_most"] (spD K 2 d__law_panel) :=
  fnG_of F sc__law_panel (by decide) fun _ _ _ _ _ _ bd hp => b__law_panel T C__law_next bd hp
theorem sc__law_row : FnScope N__law_row ["_law_drawn", "_law_n", "_law_most"] (defScope s__law_row) := ⟨rfl, rfl, rfl, by decide +kernel, rfl, by decide +kernel, by decide +kernel⟩
theorem b__law_row (T : Txt mg) (C__law_next : FnC P w K mg base 1 "_law_next" 2 d__law_next) {f : Addr} {cdv : Value} {B : Around} {fr : List Env} {s : Shared} {H : Hp} {E : XK} (bd : Bd (cxOf (L2.CX P w) P w K mg base N__law_row "_law_row" (defScope s__law_row) f cdv B fr s H E) (wE E) 1)
    (hp : PassesOwn (model P w) (B.deeper (envOfC "_law_row" (defScope s__law_row) s.heap.objs.size f cdv)) (envOfC "_law_row" (defScope s__law_row) s.heap.objs.size f cdv) (cxOf (L2.CX P w) P w K mg base N__law_row "_law_row" (defScope s__law_row) f cdv B fr s H E).xe) :
    DSs (cxOf (L2.CX P w) P w K mg base N__law_row "_law_row" (defScope s__law_row) f cdv B fr s H E) (wE E) (defBody s__law_row) m__law_row :=
  (dss_one (ds_ret (de_bT call_pTuple (by rfl) T.m_tuple (by rfl) (da_cons (de_frz (dl_lc (own := [("_law_press", 3)]) bd.calm bd.nd (di_range1 (by rfl) T.m_range (de_call bd C__law_next (by decide) (by rfl) nn__law_next (da_cons (vr 0) (da_cons (de_bin op_pAdd (vr 2) de_int) da_nil)))) (blkOk_by (own := [("_law_press", 3)]) (N := N__law_row) (sc := defScope s__law_row) (by decide +kernel)) (by decide) (fun _ _ _ _ _ => (gn 3 bd.blk)) (fun _ _ _ _ _ => dts_nil) (fun _ _ _ _ _ => (de_call bd.blk C__law_next (by decide) (by rfl) nn__law_next (da_cons (vr 0) (da_cons (vr 1) da_nil)))))) da_nil))))
theorem g__law_row (T : Txt mg) (C__law_next : FnC P w K mg base 1 "_law_next" 2 d__law_next) {f : Addr} {fd : FuncData} (F : Fun K "_law_row" "_law_row" s__law_row f fd) : FnG P w K mg base 2 f fd ["_law_drawn", "_law_n", "_law_most"] (spD K 3 d__law_row) :=
  fnG_of F sc__law_row (by decide) fun _ _ _ _ _ _ bd hp => b__law_row T C__law_next bd hp
theorem sc__law_effect : FnScope N__law_effect ["_law_panel_here", "_law_row_here"] (defScope s__law_effect) := ⟨rfl, rfl, rfl, by decide +kernel, rfl, by decide +kernel, by decide +kernel⟩
theorem b__law_effect (T : Txt mg)  {f : Addr} {cdv : Value} {B : Around} {fr : List Env} {s : Shared} {H : Hp} {E : XK} (bd : Bd (cxOf (L2.CX P w) P w K mg base N__law_effect "_law_effect" (defScope s__law_effect) f cdv B fr s H E) (wE E) 0)
    (hp : PassesOwn (model P w) (B.deeper (envOfC "_law_effect" (defScope s__law_effect) s.heap.objs.size f cdv)) (envOfC "_law_effect" (defScope s__law_effect) s.heap.objs.size f cdv) (cxOf (L2.CX P w) P w K mg base N__law_effect "_law_effect" (defScope s__law_effect) f cdv B fr s H E).xe) :
    DSs (cxOf (L2.CX P w) P w K mg base N__law_effect "_law_effect" (defScope s__law_effect) f cdv B fr s H E) (wE E) (defBody s__law_effect) m__law_effect :=
  (dss_cons (st 2 bd (de_new (dl_disp da_nil)))
  (dss_cons (ds_for hp bd.calm (di_range1 (by rfl) T.m_range (de_b call_pLen (by rfl) T.m_len (by rfl) (da_cons (vr 0) da_nil))) (gn 3 bd) (dss_cons (st 4 bd de_str)
    (dss_cons (ds_for hp bd.calm (di_seq (vr 1)) (gn 5 bd) (dss_one (ds_if (dt_cmp (op_pEq bd.u64) (vr 5) (vr 3)) (dss_one (st 4 bd de_str)) (dss_one (ds_if (dt_cmp (op_pIn bd.u65) (vr 3) (de_idx (vr 0) (vr 5))) (dss_one (st 4 bd de_str)) dss_nil)))))
    (dss_one (ds_expr (de_m PySem.F.plainAttrs_list PySem.F.slot_list_append PySem.F.type_list_append mt_pAppend (vr 2) (da_cons (vr 4) da_nil)))))))
  (dss_one (ds_ret (de_bT call_pTuple (by rfl) T.m_tuple (by rfl) (da_cons (vr 2) da_nil))))))
theorem g__law_effect (T : Txt mg)  {f : Addr} {fd : FuncData} (F : Fun K "_law_effect" "_law_effect" s__law_effect f fd) : FnG P w K mg base 1 f fd ["_law_panel_here", "_law_row_here"] (spD K 2 d__law_effect) :=
  fnG_of F sc__law_effect (by decide) fun _ _ _ _ _ _ bd hp => b__law_effect T  bd hp
theorem sc_law : FnScope N_law ["_law_script"] (defScope s_law) := ⟨rfl, rfl, rfl, by decide +kernel, rfl, by decide +kernel, by decide +kernel⟩
theorem b_law (T : Txt mg) (C_effect_of : FnC P w K mg base 3 "effect_of" 2 d_effect_of) (C__law_draws : FnC P w K mg base 1 "_law_draws" 1 d__law_draws) (C__law_panel : FnC P w K mg base 2 "_law_panel" 2 d__law_panel) (C__law_row : FnC P w K mg base 2 "_law_row" 3 d__law_row) (C__law_effect : FnC P w K mg base 1 "_law_effect" 2 d__law_effect) {f : Addr} {cdv : Value} {B : Around} {fr : List Env} {s : Shared} {H : Hp} {E : XK} (bd : Bd (cxOf (L2.CX P w) P w K mg base N_law "law" (defScope s_law) f cdv B fr s H E) (wE E) 3)
    (hp : PassesOwn (model P w) (B.deeper (envOfC "law" (defScope s_law) s.heap.objs.size f cdv)) (envOfC "law" (defScope s_law) s.heap.objs.size f cdv) (cxOf (L2.CX P w) P w K mg base N_law "law" (defScope s_law) f cdv B fr s H E).xe) :
    DSs (cxOf (L2.CX P w) P w K mg base N_law "law" (defScope s_law) f cdv B fr s H E) (wE E) (defBody s_law) m_law :=
  (dss_cons (st 1 bd (de_call bd C__law_draws (by decide) (by rfl) nn__law_draws (da_cons (vr 0) da_nil)))
  (dss_cons (ds_for hp bd.calm (di_range1 (by rfl) T.m_range de_int) (gn 2 bd) (dss_cons (st 3 bd (de_call bd C__law_panel (by decide) (by rfl) nn__law_panel (da_cons (vr 1) (da_cons de_int da_nil))))
    (dss_one (ds_for hp bd.calm (di_seq (de_frz (dl_disp (da_cons (de_tup da_nil) (da_cons (de_call bd C__law_row (by decide) (by rfl) nn__law_row (da_cons (vr 1) (da_cons (de_b call_pLen (by rfl) T.m_len (by rfl) (da_cons (vr 3) da_nil)) (da_cons de_int da_nil)))) (da_cons (de_call bd C__law_row (by decide) (by rfl) nn__law_row (da_cons (vr 1) (da_cons (de_b call_pLen (by rfl) T.m_len (by rfl) (da_cons (vr 3) da_nil)) (da_cons de_int da_nil)))) da_nil)))))) (gn 4 bd) (dss_cons (ds_par (i := 5) (j := 6) bd.calm bd.nd rfl rfl (by decide) rfl rfl (da_cons (de_b (call_pRepr bd.gd bd.u70) (by rfl) T.m_repr (by rfl) (da_cons (de_frz (dl_disp (da_cons (vr 3) (da_cons (vr 4) da_nil)))) da_nil)) (da_cons (de_call bd C__law_effect (by decide) (by rfl) nn__law_effect (da_cons (vr 3) (da_cons (vr 4) da_nil))) da_nil)) (by rfl))
      (dss_cons (ds_if (dt_cmp (op_pNe bd.u64) (de_b (call_pRepr bd.gd bd.u70) (by rfl) T.m_repr (by rfl) (da_cons (de_frz (dl_lc (own := [("_law_again", 7)]) bd.calm bd.nd (di_range1 (by rfl) T.m_range de_int) (blkOk_by (own := [("_law_again", 7)]) (N := N_law) (sc := defScope s_law) (by decide +kernel)) (by decide) (fun _ _ _ _ _ => (gn 7 bd.blk)) (fun _ _ _ _ _ => dts_nil) (fun _ _ _ _ _ => (de_call bd.blk C_effect_of (by decide) (by rfl) nn_effect_of (da_cons (vr 3) (da_cons (vr 4) da_nil)))))) da_nil)) (de_b (call_pRepr bd.gd bd.u70) (by rfl) T.m_repr (by rfl) (da_cons (de_frz (dl_disp (da_cons (vr 6) (da_cons (vr 6) da_nil)))) da_nil))) (dss_one (ds_ret de_bl)) dss_nil)
      (dss_one (ds_if (dt_cmp (op_pNe bd.u64) (de_b (call_pRepr bd.gd bd.u70) (by rfl) T.m_repr (by rfl) (da_cons (de_frz (dl_disp (da_cons (vr 3) (da_cons (vr 4) da_nil)))) da_nil)) (vr 5)) (dss_one (ds_ret de_bl)) dss_nil))))))))
  (dss_one (ds_ret de_bl))))
theorem g_law (T : Txt mg) (C_effect_of : FnC P w K mg base 3 "effect_of" 2 d_effect_of) (C__law_draws : FnC P w K mg base 1 "_law_draws" 1 d__law_draws) (C__law_panel : FnC P w K mg base 2 "_law_panel" 2 d__law_panel) (C__law_row : FnC P w K mg base 2 "_law_row" 3 d__law_row) (C__law_effect : FnC P w K mg base 1 "_law_effect" 2 d__law_effect) {f : Addr} {fd : FuncData} (F : Fun K "law" "law" s_law f fd) : FnG P w K mg base 4 f fd ["_law_script"] (spD K 1 d_law) :=
  fnG_of F sc_law (by decide) fun _ _ _ _ _ _ bd hp => b_law T C_effect_of C__law_draws C__law_panel C__law_row C__law_effect bd hp
theorem all_mk {h : Heap} {f0 f1 f2 f3 f4 f5 f6 f7 f8 : Addr} (X : K.In h) (G : h.Ns mainGlobals mg) {fa : Addr} (hfa : mg "law" = some (.ref fa))
    {od0 an0 od1 an1 od2 an2 od3 an3 od4 an4 od5 an5 od6 an6 od7 an7 od8 an8 : Option Addr} {sl0 sl1 sl2 sl3 sl4 sl5 sl6 sl7 sl8 : Array (Option Value)} {oc0 kV0 dc0 pm0 cd0 ct0 oc1 kV1 dc1 pm1 cd1 ct1 oc2 kV2 dc2 pm2 cd2 ct2 oc3 kV3 dc3 pm3 cd3 ct3 oc4 kV4 dc4 pm4 cd4 ct4 oc5 kV5 dc5 pm5 cd5 ct5 oc6 kV6 dc6 pm6 cd6 ct6 oc7 kV7 dc7 pm7 cd7 ct7 oc8 kV8 dc8 pm8 cd8 ct8 : Value}
    (a0 : PySem.W.nsIn K mainGlobals "changed_word" = some (some (.ref f0))) (l0 : K.lookup f0 = some ⟨oc0, od0, .func (PySem.W.fnOf "changed_word" "changed_word" (defArgs s_changed_word) (defBody s_changed_word) (defScope s_changed_word) .none kV0 dc0 pm0 an0 cd0 ct0), sl0⟩) (c0 : PySem.W.codeIn K cd0 "changed_word" = true) (k0 : PySem.W.keepIn K (.ref f0) = true)
    (a1 : PySem.W.nsIn K mainGlobals "effect_after" = some (some (.ref f1))) (l1 : K.lookup f1 = some ⟨oc1, od1, .func (PySem.W.fnOf "effect_after" "effect_after" (defArgs s_effect_after) (defBody s_effect_after) (defScope s_effect_after) .none kV1 dc1 pm1 an1 cd1 ct1), sl1⟩) (c1 : PySem.W.codeIn K cd1 "effect_after" = true) (k1 : PySem.W.keepIn K (.ref f1) = true)
    (a2 : PySem.W.nsIn K mainGlobals "effect_of" = some (some (.ref f2))) (l2 : K.lookup f2 = some ⟨oc2, od2, .func (PySem.W.fnOf "effect_of" "effect_of" (defArgs s_effect_of) (defBody s_effect_of) (defScope s_effect_of) .none kV2 dc2 pm2 an2 cd2 ct2), sl2⟩) (c2 : PySem.W.codeIn K cd2 "effect_of" = true) (k2 : PySem.W.keepIn K (.ref f2) = true)
    (a3 : PySem.W.nsIn K mainGlobals "_law_draws" = some (some (.ref f3))) (l3 : K.lookup f3 = some ⟨oc3, od3, .func (PySem.W.fnOf "_law_draws" "_law_draws" (defArgs s__law_draws) (defBody s__law_draws) (defScope s__law_draws) .none kV3 dc3 pm3 an3 cd3 ct3), sl3⟩) (c3 : PySem.W.codeIn K cd3 "_law_draws" = true) (k3 : PySem.W.keepIn K (.ref f3) = true)
    (a4 : PySem.W.nsIn K mainGlobals "_law_next" = some (some (.ref f4))) (l4 : K.lookup f4 = some ⟨oc4, od4, .func (PySem.W.fnOf "_law_next" "_law_next" (defArgs s__law_next) (defBody s__law_next) (defScope s__law_next) .none kV4 dc4 pm4 an4 cd4 ct4), sl4⟩) (c4 : PySem.W.codeIn K cd4 "_law_next" = true) (k4 : PySem.W.keepIn K (.ref f4) = true)
    (a5 : PySem.W.nsIn K mainGlobals "_law_panel" = some (some (.ref f5))) (l5 : K.lookup f5 = some ⟨oc5, od5, .func (PySem.W.fnOf "_law_panel" "_law_panel" (defArgs s__law_panel) (defBody s__law_panel) (defScope s__law_panel) .none kV5 dc5 pm5 an5 cd5 ct5), sl5⟩) (c5 : PySem.W.codeIn K cd5 "_law_panel" = true) (k5 : PySem.W.keepIn K (.ref f5) = true)
    (a6 : PySem.W.nsIn K mainGlobals "_law_row" = some (some (.ref f6))) (l6 : K.lookup f6 = some ⟨oc6, od6, .func (PySem.W.fnOf "_law_row" "_law_row" (defArgs s__law_row) (defBody s__law_row) (defScope s__law_row) .none kV6 dc6 pm6 an6 cd6 ct6), sl6⟩) (c6 : PySem.W.codeIn K cd6 "_law_row" = true) (k6 : PySem.W.keepIn K (.ref f6) = true)
    (a7 : PySem.W.nsIn K mainGlobals "_law_effect" = some (some (.ref f7))) (l7 : K.lookup f7 = some ⟨oc7, od7, .func (PySem.W.fnOf "_law_effect" "_law_effect" (defArgs s__law_effect) (defBody s__law_effect) (defScope s__law_effect) .none kV7 dc7 pm7 an7 cd7 ct7), sl7⟩) (c7 : PySem.W.codeIn K cd7 "_law_effect" = true) (k7 : PySem.W.keepIn K (.ref f7) = true)
    (a8 : PySem.W.nsIn K mainGlobals "law" = some (some (.ref f8))) (l8 : K.lookup f8 = some ⟨oc8, od8, .func (PySem.W.fnOf "law" "law" (defArgs s_law) (defBody s_law) (defScope s_law) .none kV8 dc8 pm8 an8 cd8 ct8), sl8⟩) (c8 : PySem.W.codeIn K cd8 "law" = true) (k8 : PySem.W.keepIn K (.ref f8) = true)
    (z_enumerate : PySem.W.nsIn K mainGlobals "enumerate" = some none)
    (z_int : PySem.W.nsIn K mainGlobals "int" = some none)
    (z_len : PySem.W.nsIn K mainGlobals "len" = some none)
    (z_list : PySem.W.nsIn K mainGlobals "list" = some none)
    (z_range : PySem.W.nsIn K mainGlobals "range" = some none)
    (z_repr : PySem.W.nsIn K mainGlobals "repr" = some none)
    (z_tuple : PySem.W.nsIn K mainGlobals "tuple" = some none)
    {t0 : Tok} (y_OFF : PySem.W.nsIn K mainGlobals "OFF" = some (some (.str ("off" : Str) t0)))
    {t1 : Tok} (y_ON : PySem.W.nsIn K mainGlobals "ON" = some (some (.str ("on" : Str) t1)))
    {t2 : Tok} (y_SAME : PySem.W.nsIn K mainGlobals "SAME" = some (some (.str ("same" : Str) t2)))
    : ∃ fd : FuncData, (∀ (s : Shared) (v : Value), BindsTo s fd ⟨[v], []⟩ [("_law_script", v)]) ∧ ∀ base : Heap, K.In base → base.Ns mainGlobals mg → FnG P w K mg base 4 fa fd ["_law_script"] (spD K 1 d_law) := by
  have e := hfa.symm.trans (PySem.W.mg_of X G a8)
  cases e
  have T : Txt mg := ⟨PySem.W.mg_none_of X G z_enumerate, PySem.W.mg_none_of X G z_int, PySem.W.mg_none_of X G z_len, PySem.W.mg_none_of X G z_list, PySem.W.mg_none_of X G z_range, PySem.W.mg_none_of X G z_repr, PySem.W.mg_none_of X G z_tuple, ⟨_, PySem.W.mg_of X G y_OFF⟩, ⟨_, PySem.W.mg_of X G y_ON⟩, ⟨_, PySem.W.mg_of X G y_SAME⟩⟩
  have F0 := fun_mk (st := s_changed_word) l0 c0 k0
  have b0 := F0.binds (ps := ["panel", "pressed", "button", "word"]) fun _ _ _ _ _ _ us hl => match us, hl with | [_, _, _, _], _ => rfl
  have F1 := fun_mk (st := s_effect_after) l1 c1 k1
  have b1 := F1.binds (ps := ["panel", "effect", "pressed"]) fun _ _ _ _ _ _ us hl => match us, hl with | [_, _, _], _ => rfl
  have F2 := fun_mk (st := s_effect_of) l2 c2 k2
  have b2 := F2.binds (ps := ["panel", "row"]) fun _ _ _ _ _ _ us hl => match us, hl with | [_, _], _ => rfl
  have F3 := fun_mk (st := s__law_draws) l3 c3 k3
  have b3 := F3.binds (ps := ["_law_script"]) fun _ _ _ _ _ _ us hl => match us, hl with | [_], _ => rfl
  have F4 := fun_mk (st := s__law_next) l4 c4 k4
  have b4 := F4.binds (ps := ["_law_drawn", "_law_many"]) fun _ _ _ _ _ _ us hl => match us, hl with | [_, _], _ => rfl
  have F5 := fun_mk (st := s__law_panel) l5 c5 k5
  have b5 := F5.binds (ps := ["_law_drawn", "_law_most"]) fun _ _ _ _ _ _ us hl => match us, hl with | [_, _], _ => rfl
  have F6 := fun_mk (st := s__law_row) l6 c6 k6
  have b6 := F6.binds (ps := ["_law_drawn", "_law_n", "_law_most"]) fun _ _ _ _ _ _ us hl => match us, hl with | [_, _, _], _ => rfl
  have F7 := fun_mk (st := s__law_effect) l7 c7 k7
  have b7 := F7.binds (ps := ["_law_panel_here", "_law_row_here"]) fun _ _ _ _ _ _ us hl => match us, hl with | [_, _], _ => rfl
  have F8 := fun_mk (st := s_law) l8 c8 k8
  refine ⟨PySem.W.fnOf "law" "law" (defArgs s_law) (defBody s_law) (defScope s_law) .none kV8 dc8 pm8 an8 cd8 ct8, fun s v => .of_eq rfl, fun base _ _ => ?_⟩
  have C_changed_word : FnC P w K mg base 1 "changed_word" 4 d_changed_word := ⟨_, _, _, g_changed_word T  F0, PySem.W.mg_of X G a0, k0, b0⟩
  have C_effect_after : FnC P w K mg base 2 "effect_after" 3 d_effect_after := ⟨_, _, _, g_effect_after T C_changed_word F1, PySem.W.mg_of X G a1, k1, b1⟩
  have C_effect_of : FnC P w K mg base 3 "effect_of" 2 d_effect_of := ⟨_, _, _, g_effect_of T C_effect_after F2, PySem.W.mg_of X G a2, k2, b2⟩
  have C__law_draws : FnC P w K mg base 1 "_law_draws" 1 d__law_draws := ⟨_, _, _, g__law_draws T  F3, PySem.W.mg_of X G a3, k3, b3⟩
  have C__law_next : FnC P w K mg base 1 "_law_next" 2 d__law_next := ⟨_, _, _, g__law_next T  F4, PySem.W.mg_of X G a4, k4, b4⟩
  have C__law_panel : FnC P w K mg base 2 "_law_panel" 2 d__law_panel := ⟨_, _, _, g__law_panel T C__law_next F5, PySem.W.mg_of X G a5, k5, b5⟩
  have C__law_row : FnC P w K mg base 2 "_law_row" 3 d__law_row := ⟨_, _, _, g__law_row T C__law_next F6, PySem.W.mg_of X G a6, k6, b6⟩
  have C__law_effect : FnC P w K mg base 1 "_law_effect" 2 d__law_effect := ⟨_, _, _, g__law_effect T  F7, PySem.W.mg_of X G a7, k7, b7⟩
  exact g_law T C_effect_of C__law_draws C__law_panel C__law_row C__law_effect F8
end
end Lw
open PySem PySem.W PyProof.Rows in
set_option maxRecDepth 100000 in
set_option maxHeartbeats 0 in
theorem PySem.Challenge.cw_pressrelease_k10_effects_of_rows_holds : PySem.Challenge.rw_pressrelease_k10_effects_of_rows.Holds := by
  w_on; o_law; k_head; (case hw => w_witness2)
  k_fill
  refine Dn.walkG (l := PySem.Challenge.rw_pressrelease_k10_effects_of_rows) (k := 4) (spec := Lw.d_law) (x := "_law_script") rfl rfl ⟨rfl, by decide, by decide⟩ Lw.law_true (fun w h Y => PySem.W.kIn_of Y) ?F
  case F =>
    intro w mg fa h KX G hmg
    refine' Lw.all_mk KX G hmg ?a0 ?l0 ?c0 ?k0 ?a1 ?l1 ?c1 ?k1 ?a2 ?l2 ?c2 ?k2 ?a3 ?l3 ?c3 ?k3 ?a4 ?l4 ?c4 ?k4 ?a5 ?l5 ?c5 ?k5 ?a6 ?l6 ?c6 ?k6 ?a7 ?l7 ?c7 ?k7 ?a8 ?l8 ?c8 ?k8 ?z_enumerate ?z_int ?z_len ?z_list ?z_range ?z_repr ?z_tuple ?y_OFF ?y_ON ?y_SAME
    (case a0 => k_is)
    (case l0 => k_is)
    (case c0 => k_is)
    (case k0 => k_is)
    (case a1 => k_is)
    (case l1 => k_is)
    (case c1 => k_is)
    (case k1 => k_is)
    (case a2 => k_is)
    (case l2 => k_is)
    (case c2 => k_is)
    (case k2 => k_is)
    (case a3 => k_is)
    (case l3 => k_is)
    (case c3 => k_is)
    (case k3 => k_is)
    (case a4 => k_is)
    (case l4 => k_is)
    (case c4 => k_is)
    (case k4 => k_is)
    (case a5 => k_is)
    (case l5 => k_is)
    (case c5 => k_is)
    (case k5 => k_is)
    (case a6 => k_is)
    (case l6 => k_is)
    (case c6 => k_is)
    (case k6 => k_is)
    (case a7 => k_is)
    (case l7 => k_is)
    (case c7 => k_is)
    (case k7 => k_is)
    (case a8 => k_is)
    (case l8 => k_is)
    (case c8 => k_is)
    (case k8 => k_is)
    (case z_enumerate => k_is)
    (case z_int => k_is)
    (case z_len => k_is)
    (case z_list => k_is)
    (case z_range => k_is)
    (case z_repr => k_is)
    (case z_tuple => k_is)
    (case y_OFF => k_is)
    (case y_ON => k_is)
    (case y_SAME => k_is)
