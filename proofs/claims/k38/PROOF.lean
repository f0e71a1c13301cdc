import PyProof.Rows.All
import Wide.All
import OpenK.AllK
import Wide.FinOn
import HandS.ForMost
import HandS.Flow
import HandS.Deep
import HandS.ForExc
import HandS.ExcInit
import HandS.TryMany
import HandS.Star
import HandS.TupMul
import HandS.TupAny
import HandS.TupLe
import HandS.EndBits
import KE.SortData
import KE.DataCmp
import PyProof.ReprRoads
import KE.DataEq
import KE.KRevSl
import HandS.IsInst
import KE.GoesMore
import KE.GoesEnum
import HandS.WordsExc
import HandS.SetFor
import HandS.Style
import HandS.Conv
import PyProof.ReprBulk
import KE.DataFind
import HandS.Strs
import HandS.TupSets
import KE.DataMinMax
import HandS.FStr
import HandS.Text
import PyProof.Rows.TupDisplay
import HandS.Dict
import KE.KDictSum
import HandS.ExcOwn
import HandS.ExcIs
import HandS.ExcField
import HandS.Zip0
import HandS.Zip
import HandS.ExcValue
import KE.KDictZip
import KE.KDictItemsList
import PySem.Challenge.RW_pressrelease_k38_whole_sets_of_states
set_option Elab.async false
set_option linter.all false
set_option maxRecDepth 100000
set_option maxHeartbeats 4000000
set_option autoImplicit false
/-! DnA: values with tuples and lists by value, a store of what may change, outcomes; how they lie in the abstract heap. -/
namespace Dn
open PySem PySem.Spec PyProof.Rows L2

/-- a value: tuples and lists that nobody changes by value; what may change by its place in the store -/
inductive D where
  | non | bl (b : Bool) | int (i : Int) | str (s : Str) | tup (xs : List D) | lst (xs : List D) | scr (xs : List D) | ref (l : Nat) | adr (a : Addr) | fd (ks : List (List Int)) (xs : List D) | exo (a dd : Addr) (f : Str) (d : D) | obj (nm : Str) (ks : List Str) (xs : List D)
/-- what stands in the store -/
inductive MO where
  | lst (xs : List D) | dct (ks : List (List Int)) (xs : List D) | ins (nm : Str) (fs : List (Str × D)) | gone
abbrev Sto := List MO
abbrev Rho := List (Option D)
/-- an exception: its class by name, its one field -/
structure Xc where
  nm : Str
  fld : Option (Str × D)
inductive Out (α : Type) where
  | ok (a : α) (st : Sto) | exc (x : Xc) (st : Sto) | bad
abbrev M (α : Type) := Sto → Out α
def Out.bind {α β : Type} (r : Out α) (f : α → Sto → Out β) : Out β :=
  match r with
  | .ok a st => f a st
  | .exc x st => .exc x st
  | .bad => .bad
@[simp] theorem Out.bind_ok {α β : Type} (a : α) (st : Sto) (f : α → Sto → Out β) : (Out.ok a st).bind f = f a st := rfl
@[simp] theorem Out.bind_exc {α β : Type} (x : Xc) (st : Sto) (f : α → Sto → Out β) : (Out.exc x st : Out α).bind f = .exc x st := rfl
@[simp] theorem Out.bind_bad {α β : Type} (f : α → Sto → Out β) : (Out.bad : Out α).bind f = .bad := rfl

theorem nodup_at {α : Type} {l : List α} (h : l.Nodup) {i j : Nat} {x : α} (a : l[i]? = some x) (b : l[j]? = some x) : i = j := by
  obtain ⟨h1, e1⟩ := List.getElem?_eq_some_iff.mp a
  obtain ⟨h2, e2⟩ := List.getElem?_eq_some_iff.mp b
  exact (List.getElem_inj h).mp (e1.trans e2.symm)
/-! ### how values lie in the abstract heap -/
/-- a tuple without a dict of its own -/
def SqP (K : PySem.W.Frag) (F : Hp) (a : Addr) (xs : List V) : Prop :=
  (∃ o : Obj, o.dict = none ∧ F a = some (.frz o (.tup xs))) ∨
    ∃ (o : Obj) (its : Array Value) (n : Nat), K.lookup a = some o ∧ o.cls = .type "tuple" ∧ o.dict = none ∧ o.data = .seq its n ∧ its.size ≤ sizeLine ∧ Vals xs its.toList
/-- the object of a dict whose keys are tuples of whole numbers: keys, where they stand, what they lead to -/
def hzI (ks : List Int) : Int := reduceHash (Builtin.Tuple.tupleHashOf (ks.map hashInt))
def entI (x : List Int × Addr × Value) : DictEntry := ⟨hzI x.1, .ref x.2.1, x.2.2⟩
def DctH (a : Addr) (xs : List (List Int × Addr × Value)) (h : Heap) : Prop := ∃ o es ep, h.get? a = some o ∧ o.ExactDict ∧ o.data = .dict es ep ∧ es.toList = xs.map entI ∧ (xs.map (·.1)).Nodup
def DctO (a : Addr) (xs : List (List Int × Addr × Value)) : HO := .ext (DctH a xs)
/-- .. the keys are known tuples -/
def KeysT (K : PySem.W.Frag) (F : Hp) (ks : List (List Int)) (xs : List (List Int × Addr × Value)) : Prop := xs.map (·.1) = ks ∧ ∀ x ∈ xs, SqP K F x.2.1 (x.1.map V.int)
mutual
def Rep (K : PySem.W.Frag) (F : Hp) (ι : List Addr) : D → V → Prop
  | .non, v => v = .non
  | .bl b, v => v = .bl b
  | .int i, v => v = .int i
  | .str s, v => v = .str s
  | .tup xs, v => ∃ a vs, v = .ref a ∧ SqP K F a vs ∧ Reps K F ι xs vs
  | .lst xs, v => ∃ a vs, v = .ref a ∧ F a = some (.lst vs) ∧ Reps K F ι xs vs
  | .scr xs, v => ∃ a vs, v = .ref a ∧ SqL K F a vs ∧ Reps K F ι xs vs
  | .ref l, v => ∃ a, v = .ref a ∧ ι[l]? = some a
  | .adr a, v => v = .ref a
  | .fd ks ds, v => ∃ a xs ws, v = .ref a ∧ (a == sysModules) = false ∧ F a = some (DctO a xs) ∧ KeysT K F ks xs ∧ Vals ws (xs.map (·.2.2)) ∧ Reps K F ι ds ws
  | .exo a dd f d, v => v = .ref a ∧ ∃ u, F dd = some (.xd [(f, u)]) ∧ Rep K F ι d u
  | .obj nm ks ds, v => ∃ a C dx gs, v = .ref a ∧ PySem.W.nsIn K mainGlobals nm = some (some (.ref C)) ∧ F a = some (.ins C dx gs) ∧ gs.map (·.1) = ks ∧ Reps K F ι ds (gs.map (·.2))
def Reps (K : PySem.W.Frag) (F : Hp) (ι : List Addr) : List D → List V → Prop
  | [], vs => vs = []
  | d :: ds, vs => ∃ v r, vs = v :: r ∧ Rep K F ι d v ∧ Reps K F ι ds r
end
/-- the frozen part: tuples and lists -/
def Fz : HO → Prop
  | .tup _ => True
  | .lst _ => True
  | .frz _ (.lst _) => True
  | .frz _ (.tup _) => True
  | .ext _ => True
  | .xd _ => True
  | .ins _ _ _ => True
  | _ => False
def RepF (K : PySem.W.Frag) (F : Hp) (ι : List Addr) : List (Str × D) → List (Str × V) → Prop := Paired fun p q => p.1 = q.1 ∧ Rep K F ι p.2 q.2
/-- how an object of the store lies there -/
def ObjR (K : PySem.W.Frag) (F : Hp) (ι : List Addr) (H : Hp) (a : Addr) : MO → Prop
  | .lst xs => ∃ vs, H a = some (.lst vs) ∧ Reps K F ι xs vs
  | .dct ks ds => ∃ xs ws, (a == sysModules) = false ∧ H a = some (DctO a xs) ∧ KeysT K F ks xs ∧ Vals ws (xs.map (·.2.2)) ∧ Reps K F ι ds ws
  | .gone => True
  | .ins nm fs => ∃ C dx gs, PySem.W.nsIn K mainGlobals nm = some (some (.ref C)) ∧ H a = some (.ins C dx gs) ∧ RepF K F ι fs gs
structure Sim (K : PySem.W.Frag) (F : Hp) (ι : List Addr) (st : Sto) (H : Hp) : Prop where
  sub : ∀ a o, F a = some o → H a = some o
  kind : ∀ a o, F a = some o → Fz o
  len : ι.length = st.length
  nd : ι.Nodup
  free : ∀ (l : Nat) (a : Addr), ι[l]? = some a → st[l]? ≠ some .gone → F a = none
  there : ∀ a, a ∈ ι → H a ≠ none
  obj : ∀ (l : Nat) (m : MO) (a : Addr), st[l]? = some m → ι[l]? = some a → ObjR K F ι H a m
/-- what may have happened between two states -/
structure Ext (F : Hp) (ι : List Addr) (H F' : Hp) (ι' : List Addr) (H' : Hp) : Prop where
  f : ∀ a o, F a = some o → F' a = some o
  i : ∀ (l : Nat) (a : Addr), ι[l]? = some a → ι'[l]? = some a
  keep : ∀ a o, H a = some o → a ∉ ι → H' a = some o
  there : ∀ a, H' a = none → H a = none
  newF : ∀ a o, F' a = some o → F a = some o ∨ H a = none ∨ a ∈ ι
  newI : ∀ a, a ∈ ι' → a ∈ ι ∨ H a = none
  long : ι.length ≤ ι'.length
section
variable {K : PySem.W.Frag} {F F' F'' : Hp} {ι ι' ι'' : List Addr} {H H' H'' : Hp} {st st' : Sto}
theorem Ext.refl : Ext F ι H F ι H := ⟨fun _ _ h => h, fun _ _ h => h, fun _ _ h _ => h, fun _ h => h, fun _ _ h => .inl h, fun _ h => .inl h, Nat.le_refl _⟩
theorem Ext.trans (a : Ext F ι H F' ι' H') (b : Ext F' ι' H' F'' ι'' H'') : Ext F ι H F'' ι'' H'' := by
  refine ⟨fun x o h => b.f x o (a.f x o h), fun l x h => b.i l x (a.i l x h), fun x o h n => b.keep x o (a.keep x o h n) fun m => ?_, fun x h => a.there x (b.there x h), fun x o h => ?_, fun x h => ?_, Nat.le_trans a.long b.long⟩
  · rcases a.newI x m with q | q
    · exact n q
    · rw [h] at q
      cases q
  · rcases b.newF x o h with q | q | q
    · exact a.newF x o q
    · exact .inr (.inl (a.there x q))
    · rcases a.newI x q with q | q
      · exact .inr (.inr q)
      · exact .inr (.inl q)
  · rcases b.newI x h with q | q
    · exact a.newI x q
    · exact .inr (a.there x q)
theorem Rd.mono {a : Addr} {u : HO} (h : Rd F a u) (f : ∀ a o, F a = some o → F' a = some o) : Rd F' a u := by
  rcases h with h | ⟨o, h⟩
  · exact .inl (f _ _ h)
  · exact .inr ⟨o, f _ _ h⟩
theorem SqP.mono {a : Addr} {vs : List V} (h : SqP K F a vs) (f : ∀ a o, F a = some o → F' a = some o) : SqP K F' a vs := by
  rcases h with ⟨o, h1, h2⟩ | h
  · exact .inl ⟨o, h1, f _ _ h2⟩
  · exact .inr h
theorem SqP.sqT {a : Addr} {vs : List V} (h : SqP K F a vs) : SqT K F a vs := by
  rcases h with ⟨o, _, h2⟩ | ⟨o, its, n, h1, h2, _, h3, h4, h5⟩
  · exact .inl (.inr ⟨o, h2⟩)
  · exact .inr ⟨o, its, n, h1, h2, h3, h4, h5⟩
theorem SqT.mono {a : Addr} {vs : List V} (h : SqT K F a vs) (f : ∀ a o, F a = some o → F' a = some o) : SqT K F' a vs := by
  rcases h with h | h
  · exact .inl (Rd.mono h f)
  · exact .inr h
theorem SqL.mono {a : Addr} {vs : List V} (h : SqL K F a vs) (f : ∀ a o, F a = some o → F' a = some o) : SqL K F' a vs := by
  rcases h with h | h
  · exact .inl (Rd.mono h f)
  · exact .inr h
theorem KeysT.mono {ks : List (List Int)} {xs : List (List Int × Addr × Value)} (h : KeysT K F ks xs) (f : ∀ a o, F a = some o → F' a = some o) : KeysT K F' ks xs := ⟨h.1, fun x hx => (h.2 x hx).mono f⟩
mutual
theorem Rep.mono (f : ∀ a o, F a = some o → F' a = some o) (i : ∀ (l : Nat) (a : Addr), ι[l]? = some a → ι'[l]? = some a) : ∀ (d : D) (v : V), Rep K F ι d v → Rep K F' ι' d v
  | .non, _, h => by simpa only [Rep] using h
  | .bl _, _, h => by simpa only [Rep] using h
  | .int _, _, h => by simpa only [Rep] using h
  | .str _, _, h => by simpa only [Rep] using h
  | .adr _, _, h => by simpa only [Rep] using h
  | .tup xs, v, h => by
    simp only [Rep] at h ⊢
    obtain ⟨a, vs, e, q, r⟩ := h
    exact ⟨a, vs, e, SqP.mono q f, Reps.mono f i xs vs r⟩
  | .lst xs, v, h => by
    simp only [Rep] at h ⊢
    obtain ⟨a, vs, e, q, r⟩ := h
    exact ⟨a, vs, e, f _ _ q, Reps.mono f i xs vs r⟩
  | .scr xs, v, h => by
    simp only [Rep] at h ⊢
    obtain ⟨a, vs, e, q, r⟩ := h
    exact ⟨a, vs, e, SqL.mono q f, Reps.mono f i xs vs r⟩
  | .ref l, v, h => by
    simp only [Rep] at h ⊢
    obtain ⟨a, e, q⟩ := h
    exact ⟨a, e, i l a q⟩
  | .fd ks ds, v, h => by
    simp only [Rep] at h ⊢
    obtain ⟨a, xs, ws, e, z, q, kt, vr, r⟩ := h
    exact ⟨a, xs, ws, e, z, f _ _ q, kt.mono f, vr, Reps.mono f i ds ws r⟩
  | .exo a dd g d, v, h => by
    simp only [Rep] at h ⊢
    obtain ⟨e, u, q, r⟩ := h
    exact ⟨e, u, f _ _ q, Rep.mono f i d u r⟩
  | .obj nm ks ds, v, h => by
    simp only [Rep] at h ⊢
    obtain ⟨a, C, dx, gs, e, z, q, kk, r⟩ := h
    exact ⟨a, C, dx, gs, e, z, f _ _ q, kk, Reps.mono f i ds _ r⟩
theorem Reps.mono (f : ∀ a o, F a = some o → F' a = some o) (i : ∀ (l : Nat) (a : Addr), ι[l]? = some a → ι'[l]? = some a) : ∀ (ds : List D) (vs : List V), Reps K F ι ds vs → Reps K F' ι' ds vs
  | [], _, h => by simpa only [Reps] using h
  | d :: ds, vs, h => by
    simp only [Reps] at h ⊢
    obtain ⟨v, r, e, h1, h2⟩ := h
    exact ⟨v, r, e, Rep.mono f i d v h1, Reps.mono f i ds r h2⟩
end
theorem Rep.ext {d : D} {v : V} (h : Rep K F ι d v) (e : Ext F ι H F' ι' H') : Rep K F' ι' d v := Rep.mono e.f e.i d v h
theorem Reps.ext {ds : List D} {vs : List V} (h : Reps K F ι ds vs) (e : Ext F ι H F' ι' H') : Reps K F' ι' ds vs := Reps.mono e.f e.i ds vs h
theorem RepF.ext {fs : List (Str × D)} {gs : List (Str × V)} (h : RepF K F ι fs gs) (e : Ext F ι H F' ι' H') : RepF K F' ι' fs gs := Paired.mapP h fun _ _ q => ⟨q.1, q.2.ext e⟩
theorem Reps.nil : Reps K F ι [] [] := by simp only [Reps]
theorem Reps.cons {d : D} {v : V} {ds : List D} {vs : List V} (h : Rep K F ι d v) (r : Reps K F ι ds vs) : Reps K F ι (d :: ds) (v :: vs) := by
  simp only [Reps]
  exact ⟨v, vs, rfl, h, r⟩
theorem Reps.length : ∀ {ds : List D} {vs : List V}, Reps K F ι ds vs → ds.length = vs.length
  | [], _, h => by simp only [Reps] at h; subst h; rfl
  | _ :: ds, _, h => by
    simp only [Reps] at h
    obtain ⟨v, r, e, _, h2⟩ := h
    subst e
    rw [List.length_cons, List.length_cons, Reps.length h2]
theorem Reps.get : ∀ {ds : List D} {vs : List V} {i : Nat} {d : D}, Reps K F ι ds vs → ds[i]? = some d → ∃ v, vs[i]? = some v ∧ Rep K F ι d v
  | [], _, _, _, _, e => by simp at e
  | d :: ds, _, 0, _, h, e => by
    simp only [Reps] at h
    obtain ⟨v, r, rfl, h1, _⟩ := h
    simp at e
    subst e
    exact ⟨v, rfl, h1⟩
  | d :: ds, _, i + 1, _, h, e => by
    simp only [Reps] at h
    obtain ⟨v, r, rfl, _, h2⟩ := h
    obtain ⟨u, q1, q2⟩ := Reps.get (i := i) h2 (by simpa using e)
    exact ⟨u, by simpa using q1, q2⟩
theorem Reps.append : ∀ {ds es : List D} {vs ws : List V}, Reps K F ι ds vs → Reps K F ι es ws → Reps K F ι (ds ++ es) (vs ++ ws)
  | [], _, _, _, h, g => by simp only [Reps] at h; subst h; exact g
  | d :: ds, _, _, _, h, g => by
    simp only [Reps] at h
    obtain ⟨v, r, rfl, h1, h2⟩ := h
    exact Reps.cons h1 (Reps.append h2 g)
theorem Reps.snoc {ds : List D} {vs : List V} {d : D} {v : V} (h : Reps K F ι ds vs) (g : Rep K F ι d v) : Reps K F ι (ds ++ [d]) (vs ++ [v]) := h.append (Reps.cons g Reps.nil)
theorem Reps.mem {ds : List D} {vs : List V} (h : Reps K F ι ds vs) : ∀ d, d ∈ ds → ∃ v, v ∈ vs ∧ Rep K F ι d v := fun d hd => by
  obtain ⟨i, hi⟩ := List.getElem?_of_mem hd
  obtain ⟨v, q1, q2⟩ := h.get hi
  exact ⟨v, List.mem_of_getElem? q1, q2⟩
/-- from the places -/
theorem Reps.of_get : ∀ {ds : List D} {vs : List V}, ds.length = vs.length → (∀ (i : Nat) d v, ds[i]? = some d → vs[i]? = some v → Rep K F ι d v) → Reps K F ι ds vs
  | [], [], _, _ => Reps.nil
  | [], _ :: _, h, _ => by simp at h
  | _ :: _, [], h, _ => by simp at h
  | d :: ds, v :: vs, h, g => Reps.cons (g 0 d v rfl rfl) (Reps.of_get (by simpa using h) fun i d v a b => g (i + 1) d v (by simpa using a) (by simpa using b))
theorem Reps.at {ds : List D} {vs : List V} {i : Nat} {d : D} {v : V} (h : Reps K F ι ds vs) (a : ds[i]? = some d) (b : vs[i]? = some v) : Rep K F ι d v := by
  obtain ⟨u, q1, q2⟩ := h.get a
  rw [b] at q1
  cases q1
  exact q2

theorem Sim.sqT (S : Sim K F ι st H) {a : Addr} {vs : List V} (h : SqP K F a vs) : SqT K H a vs := (h.mono S.sub).sqT
theorem Sim.sqL (S : Sim K F ι st H) {a : Addr} {vs : List V} (h : SqL K F a vs) : SqL K H a vs := SqL.mono h S.sub
theorem Sim.addr (S : Sim K F ι st H) {l : Nat} {m : MO} (h : st[l]? = some m) : ∃ a, ι[l]? = some a ∧ ObjR K F ι H a m := by
  have hl : l < st.length := (List.getElem?_eq_some_iff.mp h).1
  have hl' : l < ι.length := by rw [S.len]; exact hl
  exact ⟨ι[l], by simp [hl'], S.obj l m _ h (by simp [hl'])⟩

/-- a new object laid, frozen -/
theorem Ext.frozen {p : Addr} {o : HO} (hp : H p = none) (hF : ∀ a o, F a = some o → H a = some o) : Ext F ι H (upd F p o) ι (upd H p o) := by
  have ne : ∀ a o', F a = some o' → a ≠ p := fun a o' h e => by
    have := hF a o' h
    rw [e, hp] at this
    cases this
  refine ⟨fun a o' h => ?_, fun _ _ h => h, fun a o' h _ => ?_, fun a h => ?_, fun a o' h => ?_, fun _ h => .inl h, Nat.le_refl _⟩
  · rw [upd_ne (ne a o' h)]; exact h
  · rw [upd_ne (ne_of_none h hp)]; exact h
  · by_cases e : a = p
    · subst e; exact hp
    · rw [upd_ne e] at h; exact h
  · by_cases e : a = p
    · subst e; exact .inr (.inl hp)
    · rw [upd_ne e] at h; exact .inl h
theorem ObjR.mono {a : Addr} {m : MO} (h : ObjR K F ι H a m) (f : ∀ a o, F a = some o → F' a = some o) (i : ∀ (l : Nat) (a : Addr), ι[l]? = some a → ι'[l]? = some a) (k : H' a = H a) : ObjR K F' ι' H' a m := by
  cases m with
  | lst xs =>
    obtain ⟨vs, e, r⟩ := h
    exact ⟨vs, k.trans e, Reps.mono f i _ _ r⟩
  | dct ks ds =>
    obtain ⟨xs, ws, z, q, kt, vr, r⟩ := h
    exact ⟨xs, ws, z, k.trans q, kt.mono f, vr, Reps.mono f i _ _ r⟩
  | gone => trivial
  | ins C fs =>
    obtain ⟨C, dx, gs, z, e, r⟩ := h
    exact ⟨C, dx, gs, z, k.trans e, Paired.mapP r fun _ _ q => ⟨q.1, Rep.mono f i _ _ q.2⟩⟩
theorem Sim.frozen (S : Sim K F ι st H) {p : Addr} {o : HO} (hp : H p = none) (hz : Fz o) : Sim K (upd F p o) ι st (upd H p o) := by
  have X : Ext F ι H (upd F p o) ι (upd H p o) := Ext.frozen hp S.sub
  have np : ∀ a, a ∈ ι → a ≠ p := fun a h e => S.there a h (by rw [e]; exact hp)
  refine ⟨fun a u h => ?_, fun a u h => ?_, S.len, S.nd, fun l a h hg => ?_, fun a h => ?_, fun l m a h1 h2 => ?_⟩
  · by_cases e : a = p
    · subst e; rw [upd_same] at h ⊢; exact h
    · rw [upd_ne e] at h ⊢; exact S.sub a u h
  · by_cases e : a = p
    · subst e; rw [upd_same] at h; cases h; exact hz
    · rw [upd_ne e] at h; exact S.kind a u h
  · rw [upd_ne (np a (List.mem_of_getElem? h))]; exact S.free l a h hg
  · rw [upd_ne (np a h)]; exact S.there a h
  · exact (S.obj l m a h1 h2).mono X.f X.i (upd_ne (np a (List.mem_of_getElem? h2)))
/-- a new object laid, not known -/
theorem Sim.laid (S : Sim K F ι st H) {p : Addr} {o : HO} (hp : H p = none) : Sim K F ι st (upd H p o) := by
  have np : ∀ a, a ∈ ι → a ≠ p := fun a h e => S.there a h (by rw [e]; exact hp)
  refine ⟨fun a u h => ?_, S.kind, S.len, S.nd, S.free, fun a h => ?_, fun l m a h1 h2 => ?_⟩
  · rw [upd_ne (ne_of_none (S.sub a u h) hp)]; exact S.sub a u h
  · rw [upd_ne (np a h)]; exact S.there a h
  · exact (S.obj l m a h1 h2).mono (fun _ _ h => h) (fun _ _ h => h) (upd_ne (np a (List.mem_of_getElem? h2)))
theorem Ext.laid {p : Addr} {o : HO} (hp : H p = none) : Ext F ι H F ι (upd H p o) := by
  refine ⟨fun _ _ h => h, fun _ _ h => h, fun a u h _ => ?_, fun a h => ?_, fun _ _ h => .inl h, fun _ h => .inl h, Nat.le_refl _⟩
  · rw [upd_ne (ne_of_none h hp)]; exact h
  · by_cases e : a = p
    · subst e; exact hp
    · rw [upd_ne e] at h; exact h
/-- an object that stands is taken into the frozen part -/
theorem Sim.freeze (S : Sim K F ι st H) {p : Addr} {o : HO} (hp : H p = some o) (hF : F p = none) (hi : p ∉ ι) (hz : Fz o) : Sim K (upd F p o) ι st H := by
  refine ⟨fun a u h => ?_, fun a u h => ?_, S.len, S.nd, fun l a h hg => ?_, S.there, fun l m a h1 h2 => ?_⟩
  · by_cases e : a = p
    · subst e; rw [upd_same] at h; rw [hp]; exact h
    · rw [upd_ne e] at h; exact S.sub a u h
  · by_cases e : a = p
    · subst e; rw [upd_same] at h; cases h; exact hz
    · rw [upd_ne e] at h; exact S.kind a u h
  · rw [upd_ne (fun e => hi (by rw [← e]; exact List.mem_of_getElem? h))]; exact S.free l a h hg
  · exact (S.obj l m a h1 h2).mono (fun a u h => by rw [upd_ne (fun e => by rw [e, hF] at h; cases h)]; exact h) (fun _ _ h => h) rfl
theorem Ext.freeze {p : Addr} {o : HO} (x : Ext F ι H F' ι' H') (hF : F' p = none) (hp : H p = none) : Ext F ι H (upd F' p o) ι' H' := by
  refine ⟨fun a u h => ?_, x.i, x.keep, x.there, fun a u h => ?_, x.newI, x.long⟩
  · have h' := x.f a u h
    rw [upd_ne (fun e => by rw [e, hF] at h'; cases h')]
    exact h'
  · by_cases e : a = p
    · subst e; exact .inr (.inl hp)
    · rw [upd_ne e] at h; exact x.newF a u h
/-- .. is given a place in the store -/
theorem Sim.locate (S : Sim K F ι st H) {p : Addr} {m : MO} (hp : H p ≠ none) (hF : F p = none) (hi : p ∉ ι) (ho : ObjR K F (ι ++ [p]) H p m) : Sim K F (ι ++ [p]) (st ++ [m]) H := by
  have mo : ∀ (l : Nat) (a : Addr), ι[l]? = some a → (ι ++ [p])[l]? = some a := fun l a h => by
    rw [List.getElem?_append_left (List.getElem?_eq_some_iff.mp h).1]; exact h
  refine ⟨S.sub, S.kind, by simp [S.len], ?_, fun l a h hg => ?_, fun a h => ?_, fun l m' a h1 h2 => ?_⟩
  · rw [List.nodup_append]
    refine ⟨S.nd, by simp, fun a ha b hb e => ?_⟩
    have : b = p := by simpa using hb
    subst this
    subst e
    exact hi ha
  · by_cases hl : l < st.length
    · rw [List.getElem?_append_left hl] at hg
      rw [List.getElem?_append_left (by rw [S.len]; exact hl)] at h
      exact S.free l a h hg
    · rw [List.getElem?_append_right (by rw [S.len]; omega)] at h
      have : a = p := by
        have := List.mem_of_getElem? h
        simpa using this
      subst this; exact hF
  · rcases List.mem_append.mp h with h | h
    · exact S.there a h
    · have : a = p := by simpa using h
      subst this; exact hp
  · by_cases hl : l < st.length
    · rw [List.getElem?_append_left hl] at h1
      rw [List.getElem?_append_left (by rw [S.len]; exact hl)] at h2
      exact (S.obj l m' a h1 h2).mono (fun _ _ h => h) mo rfl
    · have e : l = st.length := by
        have := (List.getElem?_eq_some_iff.mp h1).1
        simp at this
        omega
      subst e
      rw [List.getElem?_append_right (Nat.le_refl _)] at h1
      rw [List.getElem?_append_right (by rw [S.len]; exact Nat.le_refl _)] at h2
      simp [S.len] at h1 h2
      subst h1 h2
      exact ho
theorem Ext.locate {p : Addr} (x : Ext F ι H F' ι' H') (hp : H p = none) : Ext F ι H F' (ι' ++ [p]) H' := by
  refine ⟨x.f, fun l a h => ?_, x.keep, x.there, x.newF, fun a h => ?_, by simp; exact Nat.le_succ_of_le x.long⟩
  · have h' := x.i l a h
    rw [List.getElem?_append_left (List.getElem?_eq_some_iff.mp h').1]; exact h'
  · rcases List.mem_append.mp h with h | h
    · exact x.newI a h
    · have : a = p := by simpa using h
      subst this; exact .inr hp
/-- an object of the store is changed -/
theorem Sim.write (S : Sim K F ι st H) {l : Nat} {p : Addr} {m : MO} {o : HO} (hl : ι[l]? = some p) (hgo : st[l]? ≠ some .gone) (ho : ObjR K F ι (upd H p o) p m) : Sim K F ι (st.set l m) (upd H p o) := by
  have hp : p ∈ ι := List.mem_of_getElem? hl
  have nf : ∀ a u, F a = some u → a ≠ p := fun a u h e => by
    rw [e, S.free l p hl hgo] at h; cases h
  refine ⟨fun a u h => ?_, S.kind, by simp [S.len], S.nd, fun k a h hg => ?_, fun a h => ?_, fun k m' a h1 h2 => ?_⟩
  · rw [upd_ne (nf a u h)]; exact S.sub a u h
  · by_cases e : k = l
    · subst e
      rw [hl] at h
      cases h
      exact S.free k p hl hgo
    · rw [List.getElem?_set_ne (Ne.symm e)] at hg
      exact S.free k a h hg
  · by_cases e : a = p
    · subst e; rw [upd_same]; simp
    · rw [upd_ne e]; exact S.there a h
  · by_cases e : k = l
    · subst e
      rw [hl] at h2
      cases h2
      have hk : k < st.length := by
        have := (List.getElem?_eq_some_iff.mp h1).1
        simpa using this
      rw [List.getElem?_set_self hk] at h1
      cases h1
      exact ho
    · rw [List.getElem?_set_ne (Ne.symm e)] at h1
      refine (S.obj k m' a h1 h2).mono (fun _ _ h => h) (fun _ _ h => h) (upd_ne fun q => e ?_)
      subst q
      exact nodup_at S.nd h2 hl
theorem Ext.write {l : Nat} {p : Addr} {o : HO} (hl : ι[l]? = some p) (hp : H p ≠ none) : Ext F ι H F ι (upd H p o) := by
  have hm : p ∈ ι := List.mem_of_getElem? hl
  refine ⟨fun _ _ h => h, fun _ _ h => h, fun a u h n => ?_, fun a h => ?_, fun _ _ h => .inl h, fun _ h => .inl h, Nat.le_refl _⟩
  · rw [upd_ne (fun e => n (by rw [e]; exact hm))]; exact h
  · by_cases e : a = p
    · subst e; rw [upd_same] at h; cases h
    · rw [upd_ne e] at h; exact h
/-- a list of the store is changed no more: it is frozen, its place is given up -/
theorem Sim.retireO (S : Sim K F ι st H) {l : Nat} {p : Addr} {o : HO} (hl : ι[l]? = some p) (hp : H p = some o) (hz : Fz o) : Sim K (upd F p o) ι (st.set l .gone) H := by
  refine ⟨fun a u h => ?_, fun a u h => ?_, by simp [S.len], S.nd, fun k a h hg => ?_, S.there, fun k m' a h1 h2 => ?_⟩
  · by_cases e : a = p
    · subst e; rw [upd_same] at h; rw [hp]; exact h
    · rw [upd_ne e] at h; exact S.sub a u h
  · by_cases e : a = p
    · subst e; rw [upd_same] at h; cases h; exact hz
    · rw [upd_ne e] at h; exact S.kind a u h
  · by_cases e : k = l
    · subst e
      refine absurd ?_ hg
      have hk : k < st.length := by rw [← S.len]; exact (List.getElem?_eq_some_iff.mp h).1
      rw [List.getElem?_set_self hk]
    · rw [List.getElem?_set_ne (Ne.symm e)] at hg
      rw [upd_ne fun q => e (by subst q; exact nodup_at S.nd h hl)]
      exact S.free k a h hg
  · by_cases e : k = l
    · subst e
      have hk : k < st.length := by
        have := (List.getElem?_eq_some_iff.mp h1).1
        simpa using this
      rw [List.getElem?_set_self hk] at h1
      cases h1
      trivial
    · rw [List.getElem?_set_ne (Ne.symm e)] at h1
      by_cases eg : m' = .gone
      · subst eg; trivial
      · refine (S.obj k m' a h1 h2).mono (fun b u hb => ?_) (fun _ _ h => h) rfl
        by_cases eb : b = p
        · subst eb
          have := S.sub b u hb
          rw [hp] at this
          cases this
          rw [upd_same]
        · rw [upd_ne eb]; exact hb
theorem Sim.retire (S : Sim K F ι st H) {l : Nat} {p : Addr} {vs : List V} (hl : ι[l]? = some p) (hp : H p = some (.lst vs)) : Sim K (upd F p (.lst vs)) ι (st.set l .gone) H := S.retireO hl hp trivial
theorem Ext.retireO (S : Sim K F ι st H) {l : Nat} {p : Addr} {o : HO} (hl : ι[l]? = some p) (hp : H p = some o) : Ext F ι H (upd F p o) ι H := by
  refine ⟨fun a u h => ?_, fun _ _ h => h, fun a u h _ => h, fun a h => h, fun a u h => ?_, fun _ h => .inl h, Nat.le_refl _⟩
  · by_cases e : a = p
    · subst e
      have := S.sub a u h
      rw [hp] at this
      cases this
      rw [upd_same]
    · rw [upd_ne e]; exact h
  · by_cases e : a = p
    · subst e; exact .inr (.inr (List.mem_of_getElem? hl))
    · rw [upd_ne e] at h; exact .inl h
theorem Ext.retire (S : Sim K F ι st H) {l : Nat} {p : Addr} {vs : List V} (hl : ι[l]? = some p) (hp : H p = some (.lst vs)) : Ext F ι H (upd F p (.lst vs)) ι H := Ext.retireO S hl hp
end
end Dn
/-! DnB: what a piece of code means (a function of the slots and the store), and that it means so; expressions. -/
namespace Dn
open PySem PySem.Spec PyProof.Rows L2

def XcR (K : PySem.W.Frag) (F : Hp) (ι : List Addr) (H : Hp) (x : Xc) (cls : Value) (dd : Option Addr) : Prop :=
  PySem.W.nsIn K mainGlobals x.nm = some (some cls) ∧ match x.fld with
    | none => dd = none
    | some (f, d) => ∃ a v, dd = some a ∧ F a = some (.xd [(f, v)]) ∧ Rep K F ι d v
structure REnv (K : PySem.W.Frag) (F : Hp) (ι : List Addr) (ρ : Rho) (σ : L2.St) : Prop where
  len : ρ.length = σ.length
  at_ : ∀ (i : Nat) (d : D), ρ[i]? = some (some d) → ∃ v, σ[i]? = some (some v) ∧ Rep K F ι d v
/-- what is wanted behind an outcome -/
def post {α β : Type} (K : PySem.W.Frag) (W : WX) (σ : L2.St) (F : Hp) (ι : List Addr) (H : Hp) (P : Hp → Hp → List Addr → Hp → α → β → Prop) (r : Out α) (Q : β → Hp → Prop) : Prop :=
  match r with
  | .ok a st' => ∀ F' ι' H' b, Ext F ι H F' ι' H' → Sim K F' ι' st' H' → P H F' ι' H' a b → Q b H'
  | .exc x st' => ∀ F' ι' H' cls dd, Ext F ι H F' ι' H' → Sim K F' ι' st' H' → XcR K F' ι' H' x cls dd → W cls dd σ H'
  | .bad => False
def pV (K : PySem.W.Frag) : Hp → Hp → List Addr → Hp → D → V → Prop := fun _ F ι _ d v => Rep K F ι d v
def pA (K : PySem.W.Frag) : Hp → Hp → List Addr → Hp → List D → List V → Prop := fun _ F ι _ d v => Reps K F ι d v
def pB : Hp → Hp → List Addr → Hp → Bool → Bool → Prop := fun _ _ _ _ b c => b = c
/-- a new list -/
def pL (K : PySem.W.Frag) : Hp → Hp → List Addr → Hp → List D → V → Prop := fun H0 F ι H ds v => ∃ a vs, v = .ref a ∧ H a = some (.lst vs) ∧ F a = none ∧ a ∉ ι ∧ H0 a = none ∧ Reps K F ι ds vs
/-- P looks back at the start in one way only -/
def Back {α β : Type} (P : Hp → Hp → List Addr → Hp → α → β → Prop) : Prop := ∀ H0 H1 F ι H a b, (∀ x, H1 x = none → H0 x = none) → P H1 F ι H a b → P H0 F ι H a b
theorem back_V {K : PySem.W.Frag} : Back (pV K) := fun _ _ _ _ _ _ _ _ h => h
theorem back_A {K : PySem.W.Frag} : Back (pA K) := fun _ _ _ _ _ _ _ _ h => h
theorem back_B : Back pB := fun _ _ _ _ _ _ _ _ h => h
theorem back_L {K : PySem.W.Frag} : Back (pL K) := fun _ _ _ _ _ _ _ f ⟨a, vs, e, h, hF, hi, h0, r⟩ => ⟨a, vs, e, h, hF, hi, f a h0, r⟩
section
variable {α β γ δ : Type} {K : PySem.W.Frag} {W : WX} {σ : L2.St} {F F1 : Hp} {ι ι1 : List Addr} {H H1 : Hp} {P : Hp → Hp → List Addr → Hp → α → β → Prop} {P' : Hp → Hp → List Addr → Hp → γ → δ → Prop} {Q : δ → Hp → Prop} {Q' : β → Hp → Prop}
theorem post_ext (bk : Back P') {r : Out γ} (h : post K W σ F ι H P' r Q) (x : Ext F ι H F1 ι1 H1) : post K W σ F1 ι1 H1 P' r Q := by
  cases r with
  | ok a st => exact fun F' ι' H' b y S p => h F' ι' H' b (x.trans y) S (bk _ _ _ _ _ _ _ x.there p)
  | exc e st => exact fun F' ι' H' c d y S p => h F' ι' H' c d (x.trans y) S p
  | bad => exact h
theorem post_seq (bk : Back P') {r : Out α} {f : α → Sto → Out γ} (h : post K W σ F ι H P' (r.bind f) Q)
    (k : ∀ a st1 F1 ι1 H1 b, r = .ok a st1 → Ext F ι H F1 ι1 H1 → Sim K F1 ι1 st1 H1 → P H F1 ι1 H1 a b → post K W σ F1 ι1 H1 P' (f a st1) Q → Q' b H1) : post K W σ F ι H P r Q' := by
  cases r with
  | ok a st => exact fun F' ι' H' b y S p => k a st F' ι' H' b rfl y S p (post_ext bk h y)
  | exc e st => exact h
  | bad => exact h
theorem post_mono {r : Out γ} {Q2 : δ → Hp → Prop} (h : post K W σ F ι H P' r Q) (q : ∀ b H', Q b H' → Q2 b H') : post K W σ F ι H P' r Q2 := by
  cases r with
  | ok a st => exact fun F' ι' H' b y S p => q _ _ (h F' ι' H' b y S p)
  | exc e st => exact h
  | bad => exact h
theorem REnv.ext {ρ : Rho} (h : REnv K F ι ρ σ) (x : Ext F ι H F1 ι1 H1) : REnv K F1 ι1 ρ σ := ⟨h.len, fun i d e => let ⟨v, a, r⟩ := h.at_ i d e; ⟨v, a, r.ext x⟩⟩
theorem REnv.set {ρ : Rho} (h : REnv K F ι ρ σ) {d : D} {v : V} (r : Rep K F ι d v) (i : Nat) : REnv K F ι (ρ.set i (some d)) (σ.set i (some v)) := by
  refine ⟨by simp [h.len], fun j e q => ?_⟩
  by_cases hj : i = j
  · subst hj
    by_cases hl : i < ρ.length
    · rw [List.getElem?_set_self hl] at q
      cases q
      exact ⟨v, by rw [List.getElem?_set_self (by rw [← h.len]; exact hl)], r⟩
    · rw [List.getElem?_eq_none (by simpa using hl)] at q
      cases q
  · rw [List.getElem?_set_ne hj] at q
    rw [List.getElem?_set_ne hj]
    exact h.at_ j e q
def wipeD (ρ : Rho) : List Nat → Rho
  | [] => ρ
  | v :: vs => (wipeD ρ vs).set v none
theorem REnv.wipe {ρ : Rho} (h : REnv K F ι ρ σ) : ∀ vs : List Nat, REnv K F ι (wipeD ρ vs) (wipe σ vs)
  | [] => h
  | v :: vs => by
    have ih := h.wipe vs
    show REnv K F ι ((wipeD ρ vs).set v none) ((L2.wipe σ vs).set v none)
    refine ⟨by simp [ih.len], fun j e q => ?_⟩
    by_cases hj : v = j
    · subst hj
      by_cases hl : v < (wipeD ρ vs).length
      · rw [List.getElem?_set_self hl] at q; cases q
      · rw [List.getElem?_eq_none (by simpa using hl)] at q; cases q
    · rw [List.getElem?_set_ne hj] at q
      rw [List.getElem?_set_ne hj]
      exact ih.at_ j e q
end

def wN : WX := fun _ _ _ _ => False
def nox {α : Type} (r : Out α) : Out α := match r with
  | .ok a st => .ok a st
  | _ => .bad
@[simp] theorem nox_ok {α : Type} (a : α) (st : Sto) : nox (.ok a st) = .ok a st := rfl
@[simp] theorem nox_bad {α : Type} : nox (.bad : Out α) = .bad := rfl
/-! ### the judgements -/
def tG {α β : Type} (K : PySem.W.Frag) (W : WX) (P : Hp → Hp → List Addr → Hp → α → β → Prop) (m : Rho → M α) : L2.St → Hp → (β → Hp → Prop) → Prop := fun σ H Q =>
  ∃ F ι ρ st, Sim K F ι st H ∧ REnv K F ι ρ σ ∧ post K W σ F ι H P (m ρ st) Q
abbrev tV (K : PySem.W.Frag) (W : WX) (m : Rho → M D) : TE := tG K W (pV K) m
abbrev tL (K : PySem.W.Frag) (W : WX) (m : Rho → M (List D)) : TE := tG K W (pL K) m
abbrev tA (K : PySem.W.Frag) (W : WX) (m : Rho → M (List D)) : TA := tG K W (pA K) m
abbrev tT (K : PySem.W.Frag) (W : WX) (m : Rho → M Bool) : TT := tG K W pB m
def DE (X : Cx) (W : WX) (e : Expr) (m : Rho → M D) : Prop := PE X e (tV X.K W m)
def DL (X : Cx) (W : WX) (e : Expr) (m : Rho → M (List D)) : Prop := PE X e (tL X.K W m)
def DA (X : Cx) (W : WX) (es : List Expr) (m : Rho → M (List D)) : Prop := PA X es (tA X.K W m)
def DT (X : Cx) (W : WX) (e : Expr) (m : Rho → M Bool) : Prop := PT X e (tT X.K W m)
theorem PE.weak {X : Cx} {e : Expr} {t t' : TE} (h : PE X e t) (w : ∀ σ H Q, t' σ H Q → t σ H Q) : PE X e t' := ⟨fun pins s σ H Q I q => h.run pins s σ H Q I (w σ H Q q)⟩
theorem PT.weak {X : Cx} {e : Expr} {t t' : TT} (h : PT X e t) (w : ∀ σ H Q, t' σ H Q → t σ H Q) : PT X e t' := ⟨fun pins s σ H Q I q => h.run pins s σ H Q I (w σ H Q q)⟩
theorem PA.weak {X : Cx} {e : List Expr} {t t' : TA} (h : PA X e t) (w : ∀ σ H Q, t' σ H Q → t σ H Q) : PA X e t' := ⟨fun pos pins s σ H Q I q => h.run pos pins s σ H Q I (w σ H Q q)⟩
theorem PS.weak {X : Cx} {e : Stmt} {t t' : TS} (h : PS X e t) (w : ∀ D σ H, t' D σ H → t D σ H) : PS X e t' := ⟨fun pins s σ H D I q => h.run pins s σ H D I (w D σ H q)⟩
theorem PSs.weak {X : Cx} {e : List Stmt} {t t' : TS} (h : PSs X e t) (w : ∀ D σ H, t' D σ H → t D σ H) : PSs X e t' := ⟨fun pins s σ H D I q => h.run pins s σ H D I (w D σ H q)⟩
/-- what a reading asks of the sub-expression, and what is known behind it -/
theorem tG_seq {α β γ δ : Type} {K : PySem.W.Frag} {W : WX} {P : Hp → Hp → List Addr → Hp → α → β → Prop} {P' : Hp → Hp → List Addr → Hp → γ → δ → Prop} (bk : Back P') {m : Rho → M α} {σ : L2.St} {F : Hp} {ι : List Addr} {H : Hp} {ρ : Rho} {st : Sto} {f : α → Sto → Out γ} {Q : δ → Hp → Prop} {Q' : β → Hp → Prop}
    (S : Sim K F ι st H) (R : REnv K F ι ρ σ) (h : post K W σ F ι H P' ((m ρ st).bind f) Q)
    (k : ∀ a st1 F1 ι1 H1 b, Ext F ι H F1 ι1 H1 → Sim K F1 ι1 st1 H1 → REnv K F1 ι1 ρ σ → P H F1 ι1 H1 a b → post K W σ F1 ι1 H1 P' (f a st1) Q → Q' b H1) : tG K W P m σ H Q' :=
  ⟨F, ι, ρ, st, S, R, post_seq bk h fun a st1 F1 ι1 H1 b _ x S1 p q => k a st1 F1 ι1 H1 b x S1 (R.ext x) p q⟩

/-! ### values -/
def lift {α : Type} (o : Option α) : M α := fun st => match o with
  | some a => .ok a st
  | none => .bad
@[simp] theorem lift_some {α : Type} (a : α) (st : Sto) : lift (some a) st = .ok a st := rfl
@[simp] theorem lift_none {α : Type} (st : Sto) : (lift none st : Out α) = .bad := rfl
def mVar (i : Nat) : Rho → M D := fun ρ st => match ρ[i]? with
  | some (some d) => .ok d st
  | _ => .bad
def mLit (d : D) : Rho → M D := fun _ st => .ok d st
section
variable {X : Cx} {W : WX} {pos : Pos}
theorem de_var {i : Nat} {x : Str} (hN : X.N[i]? = some x) (hv : Vis X.env.scope x) (hd : (x == ("__debug__" : Str)) = false := by decide) (hcd : (x == ("__classdict__" : Str)) = false := by decide) : DE X W (.Name x pos) (mVar i) := by
  refine PE.weak (pe_var hN hv hd hcd) fun σ H Q ⟨F, ι, ρ, st, S, R, h⟩ => ?_
  unfold mVar at h
  split at h
  · rename_i d e
    obtain ⟨v, q, r⟩ := R.at_ i d e
    exact ⟨v, q, h F ι H v Ext.refl S r⟩
  · exact h.elim
theorem de_c {e : Expr} {v : V} {d : D} (h : PE X e (tC v)) (r : ∀ F ι, Rep X.K F ι d v) : DE X W e (mLit d) :=
  PE.weak h fun σ H Q ⟨F, ι, ρ, st, S, R, q⟩ => q F ι H v Ext.refl S (r F ι)
theorem de_int {i : Int} {j} : DE X W (.Constant (.int i) j pos) (mLit (.int i)) := de_c pe_int fun _ _ => by simp only [Rep]
theorem de_bl {b : Bool} {j} : DE X W (.Constant (.bool b) j pos) (mLit (.bl b)) := de_c pe_bl fun _ _ => by simp only [Rep]
theorem de_non {j} : DE X W (.Constant .none j pos) (mLit .non) := de_c pe_non fun _ _ => by simp only [Rep]
theorem de_str {x : Str} {j} : DE X W (.Constant (.str x) j pos) (mLit (.str x)) := de_c pe_str fun _ _ => by simp only [Rep]
theorem de_gint {x : Str} {i : Int} {t : Tok} (hg : Gl X x) (hm : X.mg x = some (.int i t)) (hd : (x == ("__debug__" : Str)) = false := by decide) : DE X W (.Name x pos) (mLit (.int i)) := de_c (pe_glob hg hm (v := .int i) ⟨t, rfl⟩ hd) fun _ _ => by simp only [Rep]
theorem de_gstr {x : Str} {i : Str} {t : Tok} (hg : Gl X x) (hm : X.mg x = some (.str i t)) (hd : (x == ("__debug__" : Str)) = false := by decide) : DE X W (.Name x pos) (mLit (.str i)) := de_c (pe_glob hg hm (v := .str i) ⟨t, rfl⟩ hd) fun _ _ => by simp only [Rep]

/-! ### argument lists, displays -/
def mNil : Rho → M (List D) := fun _ st => .ok [] st
def mCons (m : Rho → M D) (r : Rho → M (List D)) : Rho → M (List D) := fun ρ st => (m ρ st).bind fun d st1 => (r ρ st1).bind fun ds st2 => .ok (d :: ds) st2
theorem da_nil : DA X W [] mNil := PA.weak pa_nil fun σ H Q ⟨F, ι, ρ, st, S, R, q⟩ => q F ι H [] Ext.refl S Reps.nil
theorem da_cons {e : Expr} {es : List Expr} {m : Rho → M D} {r : Rho → M (List D)} (h : DE X W e m) (hr : DA X W es r) (hs : starEach (e :: es) X.env = (false, eval e X.env) :: starEach es X.env := by rfl) : DA X W (e :: es) (mCons m r) := by
  refine PA.weak (pa_cons h hr hs) fun σ H Q ⟨F, ι, ρ, st, S, R, q⟩ => ?_
  refine tG_seq back_A S R q fun d st1 F1 ι1 H1 v x1 S1 R1 r1 q1 => ?_
  exact tG_seq back_A S1 R1 q1 fun ds st2 F2 ι2 H2 vs x2 S2 R2 r2 q2 => q2 F2 ι2 H2 _ Ext.refl S2 (Reps.cons (r1.ext x2) r2)
abbrev SZ : Nat := 100000
theorem sz_le {n : Nat} (h : n ≤ SZ) : n ≤ sizeLine := Nat.le_trans h (by decide)
theorem sz_lt {n : Nat} (h : n ≤ SZ) : n < sizeLine := Nat.lt_of_le_of_lt h (by decide)
/-- a new tuple's object -/
theorem fin_tup {X : Cx} {pins : List (Addr × Obj)} {σ : L2.St} {H : Hp} {s : Shared} {Q : VK} {ys : List V} {its : List Value} {t' : Nat} (I : Inv X pins σ H s) (r : Vals ys its) (z : ys.length ≤ sizeLine)
    (q : ∀ (p : Addr) (o : Obj), o.dict = none → H p = none → Q (.ref p) (upd H p (.frz o (.tup ys)))) : EP X pins σ Q (.ref s.heap.objs.size) { s with heap := s.heap.push { cls := .type "tuple", data := .seq its.toArray }, toks := t' } := by
  have hn := I.hok.fresh (Nat.le_refl _)
  have hg : (s.heap.push { cls := .type "tuple", data := .seq its.toArray }).get? s.heap.objs.size = some { cls := .type "tuple", data := .seq its.toArray } := Heap.get?_push_size _ rfl
  have ok : ObjOk X.prog X.w (upd H s.heap.objs.size (.frz { cls := .type "tuple", data := .seq its.toArray } (.tup ys))) (s.heap.push { cls := .type "tuple", data := .seq its.toArray }) s.heap.objs.size (.frz { cls := .type "tuple", data := .seq its.toArray } (.tup ys)) :=
    ⟨hg, z, its, r, ⟨_, hg, rfl, _, rfl⟩⟩
  exact ⟨.ref s.heap.objs.size, _, I.laid (t' := t') (fun b u e => Heap.get?_push_of_some _ e) (Nat.le_refl _) ok, rfl, q _ _ rfl hn⟩
def tTupP (t : TA) : TE := fun σ H Q => t σ H fun xs H1 => xs.length ≤ sizeLine ∧ ∀ (p : Addr) (o : Obj), o.dict = none → H1 p = none → Q (.ref p) (upd H1 p (.frz o (.tup xs)))
theorem pe_tupP {X : Cx} {es : List Expr} {x1} {pos : Pos} {t : TA} (h : PA X es t) : PE X (.Tuple es x1 pos) (tTupP t) := by
  refine ⟨fun pins s σ H Q I hq => wpAny_Tuple_spliced (thn (h.run pos pins s σ H _ I hq) fun us s1 ⟨xs, H1, I1, r, z, q⟩ => ?_)⟩
  exact ⟨by rw [← r.length]; exact z, fin_tup (t' := s1.toks) I1 r z q⟩
def mTup (a : Rho → M (List D)) : Rho → M D := fun ρ st => (a ρ st).bind fun xs st1 => if xs.length ≤ SZ then .ok (.tup xs) st1 else .bad
theorem de_tup {es : List Expr} {x1} {a : Rho → M (List D)} (h : DA X W es a) : DE X W (.Tuple es x1 pos) (mTup a) := by
  refine PE.weak (pe_tupP h) fun σ H Q ⟨F, ι, ρ, st, S, R, q⟩ => ?_
  refine tG_seq back_V S R q fun xs st1 F1 ι1 H1 vs x1 S1 R1 r1 q1 => ?_

  split at q1
  · rename_i hz
    refine ⟨by rw [← Reps.length r1]; exact sz_le hz, fun p o ho hp => ?_⟩
    refine q1 (upd F1 p (.frz o (.tup vs))) ι1 _ _ (Ext.frozen hp S1.sub) (S1.frozen hp trivial) ?_
    show Rep _ _ _ _ _
    simp only [Rep]
    exact ⟨p, vs, rfl, .inl ⟨o, ho, upd_same⟩, Reps.ext r1 (Ext.frozen (H := H1) hp S1.sub)⟩
  · exact q1.elim
def lDisp (a : Rho → M (List D)) : Rho → M (List D) := fun ρ st => (a ρ st).bind fun xs st1 => if xs.length ≤ SZ then .ok xs st1 else .bad
/-- a new list at p, unknown so far -/
theorem pL_new {K : PySem.W.Frag} {F : Hp} {ι : List Addr} {H : Hp} {st : Sto} {p : Addr} {ds : List D} {vs : List V} (S : Sim K F ι st H) (hp : H p = none) (r : Reps K F ι ds vs) : pL K H F ι (upd H p (.lst vs)) ds (.ref p) := by
  refine ⟨p, vs, rfl, upd_same, ?_, fun h => S.there p h hp, hp, r⟩
  cases e : F p with
  | none => rfl
  | some o =>
    have := S.sub p o e
    rw [hp] at this
    cases this
theorem dl_disp {es : List Expr} {a : Rho → M (List D)} (h : DA X W es a) : DL X W (.List es pos) (lDisp a) := by
  refine PE.weak (pe_lst h) fun σ H Q ⟨F, ι, ρ, st, S, R, q⟩ => ?_
  refine tG_seq back_L S R q fun xs st1 F1 ι1 H1 vs x1 S1 R1 r1 q1 => ?_

  split at q1
  · rename_i hz
    refine ⟨by rw [← Reps.length r1]; exact sz_le hz, fun p hp => ?_⟩
    exact q1 F1 ι1 _ _ (Ext.laid hp) (S1.laid hp) (pL_new S1 hp r1)
  · exact q1.elim
/-- a new list, never changed | kept in the store -/
def mFrz (l : Rho → M (List D)) : Rho → M D := fun ρ st => (l ρ st).bind fun xs st1 => .ok (.lst xs) st1
def mNew (l : Rho → M (List D)) : Rho → M D := fun ρ st => (l ρ st).bind fun xs st1 => .ok (.ref st1.length) (st1 ++ [.lst xs])
theorem frz_of {K : PySem.W.Frag} {W : WX} {l : Rho → M (List D)} {σ : L2.St} {H : Hp} {Q : VK} (h : tV K W (mFrz l) σ H Q) : tL K W l σ H Q := by
  obtain ⟨F, ι, ρ, st, S, R, q⟩ := h
  refine ⟨F, ι, ρ, st, S, R, ?_⟩
  unfold mFrz at q
  generalize l ρ st = r at q ⊢
  cases r with
  | ok xs st1 =>
    intro F' ι' H' b x S' ⟨a, vs, e, h, hF, hi, h0, rr⟩
    subst e
    have x' := x.freeze (o := .lst vs) hF h0
    refine q (upd F' a (.lst vs)) ι' H' (.ref a) x' (S'.freeze h hF hi trivial) ?_
    show Rep _ _ _ _ _
    simp only [Rep]
    refine ⟨a, vs, rfl, upd_same, Reps.mono (fun b o hb => ?_) (fun _ _ h => h) _ _ rr⟩
    rw [upd_ne (fun e => by rw [e, hF] at hb; cases hb)]
    exact hb
  | exc _ _ => exact q
  | bad => exact q
theorem de_frz {e : Expr} {l : Rho → M (List D)} (h : DL X W e l) : DE X W e (mFrz l) := PE.weak h fun _ _ _ q => frz_of q
theorem new_of {K : PySem.W.Frag} {W : WX} {l : Rho → M (List D)} {σ : L2.St} {H : Hp} {Q : VK} (h : tV K W (mNew l) σ H Q) : tL K W l σ H Q := by
  obtain ⟨F, ι, ρ, st, S, R, q⟩ := h
  refine ⟨F, ι, ρ, st, S, R, ?_⟩
  unfold mNew at q
  generalize l ρ st = r at q ⊢
  cases r with
  | ok xs st1 =>
    intro F' ι' H' b x S' ⟨a, vs, e, h, hF, hi, h0, rr⟩
    subst e
    have mo : ∀ (l : Nat) (b : Addr), ι'[l]? = some b → (ι' ++ [a])[l]? = some b := fun l b h => by
      rw [List.getElem?_append_left (List.getElem?_eq_some_iff.mp h).1]; exact h
    refine q F' (ι' ++ [a]) H' (.ref a) (x.locate h0) (S'.locate (m := .lst xs) (by rw [h]; simp) hF hi ⟨vs, h, Reps.mono (fun _ _ h => h) mo _ _ rr⟩) ?_
    show Rep _ _ _ _ _
    simp only [Rep]
    exact ⟨a, rfl, by rw [← S'.len, List.getElem?_append_right (Nat.le_refl _)]; simp⟩
  | exc _ _ => exact q
  | bad => exact q
theorem de_new {e : Expr} {l : Rho → M (List D)} (h : DL X W e l) : DE X W e (mNew l) := PE.weak h fun _ _ _ q => new_of q
end
end Dn
/-! DnC: operators, comparisons, tests, subscripts, slices. -/
namespace Dn
open PySem PySem.Spec PyProof.Rows L2

/-! ### plain data -/
mutual
def isP : D → Bool
  | .non => true | .bl _ => true | .int _ => true | .str _ => true
  | .tup xs => isPs xs | .lst xs => isPs xs
  | .scr _ => false | .ref _ => false | .adr _ => false | .fd _ _ => false | .exo _ _ _ _ => false | .obj _ _ _ => false
def isPs : List D → Bool
  | [] => true
  | d :: ds => isP d && isPs ds
end
mutual
def toP : D → PyData
  | .non => .none | .bl b => .bool b | .int i => .int i | .str s => .str s
  | .tup xs => .tuple (toPs xs) | .lst xs => .list (toPs xs)
  | .scr _ => .none | .ref _ => .none | .adr _ => .none | .fd _ _ => .none | .exo _ _ _ _ => .none | .obj _ _ _ => .none
def toPs : List D → List PyData
  | [] => []
  | d :: ds => toP d :: toPs ds
end
theorem toPs_map : ∀ ds : List D, toPs ds = ds.map toP
  | [] => rfl
  | d :: ds => by rw [toPs, List.map_cons, toPs_map ds]
theorem isPs_all : ∀ ds : List D, isPs ds = ds.all isP
  | [] => rfl
  | d :: ds => by rw [isPs, List.all_cons, isPs_all ds]
mutual
theorem dp_of {K : PySem.W.Frag} {F H : Hp} {ι : List Addr} (sub : ∀ a o, F a = some o → H a = some o) : ∀ (d : D) (v : V), isP d = true → Rep K F ι d v → Dp K H v (toP d)
  | .non, v, _, r => by simp only [Rep] at r; subst r; simp only [toP]; exact .non
  | .bl b, v, _, r => by simp only [Rep] at r; subst r; simp only [toP]; exact .bl b
  | .int b, v, _, r => by simp only [Rep] at r; subst r; simp only [toP]; exact .int b
  | .str b, v, _, r => by simp only [Rep] at r; subst r; simp only [toP]; exact .str b
  | .tup xs, v, p, r => by
    simp only [Rep] at r
    obtain ⟨a, vs, e, q, r⟩ := r
    subst e
    simp only [toP]
    exact .tup (SqP.mono q sub).sqT (dps_of sub xs vs (by simpa only [isP] using p) r)
  | .lst xs, v, p, r => by
    simp only [Rep] at r
    obtain ⟨a, vs, e, q, r⟩ := r
    subst e
    simp only [toP]
    exact .lst (SqL.of (sub _ _ q)) (dps_of sub xs vs (by simpa only [isP] using p) r)
  | .scr _, _, p, _ => by simp [isP] at p
  | .ref _, _, p, _ => by simp [isP] at p
  | .adr _, _, p, _ => by simp [isP] at p
  | .fd _ _, _, p, _ => by simp [isP] at p
  | .exo _ _ _ _, _, p, _ => by simp [isP] at p
  | .obj _ _ _, _, p, _ => by simp [isP] at p
theorem dps_of {K : PySem.W.Frag} {F H : Hp} {ι : List Addr} (sub : ∀ a o, F a = some o → H a = some o) : ∀ (ds : List D) (vs : List V), isPs ds = true → Reps K F ι ds vs → DpAll K H vs (toPs ds)
  | [], vs, _, r => by simp only [Reps] at r; subst r; simp only [toPs]; exact .nil
  | d :: ds, vs, p, r => by
    simp only [Reps] at r
    obtain ⟨v, rs, e, r1, r2⟩ := r
    subst e
    simp only [isPs, Bool.and_eq_true] at p
    simp only [toPs]
    exact .cons (dp_of sub d v p.1 r1) (dps_of sub ds rs p.2 r2)
end
/-- the items of a list; of a list or a tuple -/
def lstOf (st : Sto) : D → Option (List D)
  | .lst xs => some xs
  | .ref l => match st[l]? with
    | some (.lst xs) => some xs
    | _ => none
  | _ => none
def seqOf (st : Sto) : D → Option (List D)
  | .tup xs => some xs
  | .scr xs => some xs
  | d => lstOf st d
@[simp] theorem lstOf_lst (st : Sto) (xs : List D) : lstOf st (.lst xs) = some xs := rfl
@[simp] theorem seqOf_tup (st : Sto) (xs : List D) : seqOf st (.tup xs) = some xs := rfl
@[simp] theorem seqOf_lst (st : Sto) (xs : List D) : seqOf st (.lst xs) = some xs := rfl
@[simp] theorem seqOf_scr (st : Sto) (xs : List D) : seqOf st (.scr xs) = some xs := rfl
theorem lstOf_ref {st : Sto} {l : Nat} {xs : List D} (h : st[l]? = some (.lst xs)) : lstOf st (.ref l) = some xs := by simp [lstOf, h]
theorem seqOf_ref {st : Sto} {l : Nat} {xs : List D} (h : st[l]? = some (.lst xs)) : seqOf st (.ref l) = some xs := by simp [seqOf, lstOf, h]
def dat (st : Sto) (d : D) : Option PyData := match d with
  | .ref l => match st[l]? with
    | some (.lst xs) => if isPs xs = true then some (.list (toPs xs)) else none
    | _ => none
  | d => if isP d = true then some (toP d) else none
section
variable {K : PySem.W.Frag} {F H : Hp} {ι : List Addr} {st : Sto}
theorem Sim.lst (S : Sim K F ι st H) {d : D} {v : V} {xs : List D} (r : Rep K F ι d v) (h : lstOf st d = some xs) : ∃ a vs, v = .ref a ∧ H a = some (.lst vs) ∧ Reps K F ι xs vs := by
  unfold lstOf at h
  split at h
  · cases h
    simp only [Rep] at r
    obtain ⟨a, vs, e, q, r⟩ := r
    exact ⟨a, vs, e, S.sub _ _ q, r⟩
  · rename_i l
    split at h
    · rename_i ys e
      cases h
      simp only [Rep] at r
      obtain ⟨a, e2, q⟩ := r
      obtain ⟨vs, h1, h2⟩ := S.obj l _ a e q
      exact ⟨a, vs, e2, h1, h2⟩
    · cases h
  · cases h
theorem Sim.seq (S : Sim K F ι st H) {d : D} {v : V} {xs : List D} (r : Rep K F ι d v) (h : seqOf st d = some xs) : ∃ a vs, v = .ref a ∧ (SqL K H a vs ∨ SqT K H a vs) ∧ Reps K F ι xs vs := by
  unfold seqOf at h
  split at h
  · cases h
    simp only [Rep] at r
    obtain ⟨a, vs, e, q, r⟩ := r
    exact ⟨a, vs, e, .inr (S.sqT q), r⟩
  · cases h
    simp only [Rep] at r
    obtain ⟨a, vs, e, q, r⟩ := r
    exact ⟨a, vs, e, .inl (S.sqL q), r⟩
  · obtain ⟨a, vs, e, q, r⟩ := S.lst r h
    exact ⟨a, vs, e, .inl (SqL.of q), r⟩
theorem Sim.dp (S : Sim K F ι st H) {d : D} {v : V} {p : PyData} (r : Rep K F ι d v) (h : dat st d = some p) : Dp K H v p := by
  unfold dat at h
  split at h
  · rename_i l
    split at h
    · rename_i xs e
      split at h
      · rename_i hp
        cases h
        simp only [Rep] at r
        obtain ⟨a, e2, q⟩ := r
        subst e2
        obtain ⟨vs, h1, h2⟩ := S.obj l _ a e q
        exact .lst (SqL.of h1) (dps_of S.sub xs vs hp h2)
      · cases h
    · cases h
  · split at h
    · rename_i hp
      cases h
      exact dp_of S.sub _ _ hp r
    · cases h
end

/-! ### operations of two values -/
def rP (K : PySem.W.Frag) (p : Sto → D → D → Option D) : R2 := fun x y H Q => ∃ F ι st a b d, Sim K F ι st H ∧ Rep K F ι a x ∧ Rep K F ι b y ∧ p st a b = some d ∧
  ∀ F' H' v, Ext F ι H F' ι H' → Sim K F' ι st H' → Rep K F' ι d v → Q v H'
def mOp (p : Sto → D → D → Option D) (m1 m2 : Rho → M D) : Rho → M D := fun ρ st => (m1 ρ st).bind fun a st1 => (m2 ρ st1).bind fun b st2 => lift (p st2 a b) st2
def rPL (K : PySem.W.Frag) (p : Sto → D → D → Option (List D)) : R2 := fun x y H Q => ∃ F ι st a b ds, Sim K F ι st H ∧ Rep K F ι a x ∧ Rep K F ι b y ∧ p st a b = some ds ∧
  ∀ H' v, Ext F ι H F ι H' → Sim K F ι st H' → pL K H F ι H' ds v → Q v H'
def lOp (p : Sto → D → D → Option (List D)) (m1 m2 : Rho → M D) : Rho → M (List D) := fun ρ st => (m1 ρ st).bind fun a st1 => (m2 ρ st1).bind fun b st2 => lift (p st2 a b) st2
section
variable {X : Cx} {W : WX} {pos : Pos} {a b : Expr} {m1 m2 : Rho → M D}
theorem tOp_of {K : PySem.W.Frag} {p : Sto → D → D → Option D} {σ : L2.St} {H : Hp} {Q : VK} (h : tV K W (mOp p m1 m2) σ H Q) : tOp (rP K p) (tV K W m1) (tV K W m2) σ H Q := by
  obtain ⟨F, ι, ρ, st, S, R, q⟩ := h
  refine tG_seq back_V S R q fun d1 st1 F1 ι1 H1 v1 x1 S1 R1 r1 q1 => ?_
  refine tG_seq back_V S1 R1 q1 fun d2 st2 F2 ι2 H2 v2 x2 S2 R2 r2 q2 => ?_
  cases e : p st2 d1 d2 with
  | none => rw [e] at q2; exact q2.elim
  | some d =>
    rw [e] at q2
    exact ⟨F2, ι2, st2, d1, d2, d, S2, Rep.ext r1 x2, r2, e, fun F' H' v x S' r => q2 F' ι2 H' v x S' r⟩
theorem tOpL_of {K : PySem.W.Frag} {p : Sto → D → D → Option (List D)} {σ : L2.St} {H : Hp} {Q : VK} (h : tL K W (lOp p m1 m2) σ H Q) : tOp (rPL K p) (tV K W m1) (tV K W m2) σ H Q := by
  obtain ⟨F, ι, ρ, st, S, R, q⟩ := h
  refine tG_seq back_L S R q fun d1 st1 F1 ι1 H1 v1 x1 S1 R1 r1 q1 => ?_
  refine tG_seq back_L S1 R1 q1 fun d2 st2 F2 ι2 H2 v2 x2 S2 R2 r2 q2 => ?_
  cases e : p st2 d1 d2 with
  | none => rw [e] at q2; exact q2.elim
  | some d =>
    rw [e] at q2
    exact ⟨F2, ι2, st2, d1, d2, d, S2, Rep.ext r1 x2, r2, e, fun H' v x S' r => q2 F2 ι2 H' v x S' r⟩
theorem de_bin {op : Operator} {p : Sto → D → D → Option D} (ho : OpR X (binaryOp op) (rP X.K p)) (ha : DE X W a m1) (hb : DE X W b m2) : DE X W (.BinOp a op b pos) (mOp p m1 m2) :=
  PE.weak (pe_op ho ha hb) fun _ _ _ h => tOp_of h
theorem dl_bin {op : Operator} {p : Sto → D → D → Option (List D)} (ho : OpR X (binaryOp op) (rPL X.K p)) (ha : DE X W a m1) (hb : DE X W b m2) : DL X W (.BinOp a op b pos) (lOp p m1 m2) :=
  PE.weak (pe_op ho ha hb) fun _ _ _ h => tOpL_of h
/-- numbers -/
theorem op_ints {f : Value → Value → Sem Value} {C : Int → Int → Prop} [∀ i j, Decidable (C i j)] {g : Int → Int → Int} {p : Sto → D → D → Option D} (ho : OpR X f (rI C fun i j => .int (g i j)))
    (hp : ∀ st a b d, p st a b = some d → ∃ i j, a = .int i ∧ b = .int j ∧ C i j ∧ d = .int (g i j)) : OpR X f (rP X.K p) := by
  intro pins s σ H x y v u Q I rx ry ⟨F, ι, st, a, b, d, S, ra, rb, e, q⟩
  obtain ⟨i, j, e1, e2, hc, e3⟩ := hp st a b d e
  subst e1 e2 e3
  simp only [Rep] at ra rb
  subst ra rb
  exact ho pins s σ H _ _ v u Q I rx ry ⟨i, j, rfl, rfl, hc, q F H _ Ext.refl S (by simp only [Rep])⟩
def pSub : Sto → D → D → Option D := fun _ a b => match a, b with
  | .int i, .int j => some (.int (i - j))
  | _, _ => none
noncomputable def pDiv : Sto → D → D → Option D := fun _ a b => match a, b with
  | .int i, .int j => @ite _ (0 < j ∧ j < 1073741824) (Classical.propDecidable _) (some (.int (i / j))) (none)
  | _, _ => none
def pMod : Sto → D → D → Option D := fun _ a b => match a, b with
  | .int i, .int j => if 0 < j then some (.int (i % j)) else none
  | _, _ => none
noncomputable def pPow : Sto → D → D → Option D := fun _ a b => match a, b with
  | .int i, .int j => @ite _ (0 ≤ j ∧ j ≤ 1000000 ∧ i.natAbs < 2 ^ 64) (Classical.propDecidable _) (some (.int (i ^ j.toNat))) (none)
  | _, _ => none
noncomputable def pShl : Sto → D → D → Option D := fun _ a b => match a, b with
  | .int i, .int j => @ite _ (0 ≤ j ∧ j ≤ 1000000 ∧ i.natAbs < 2 ^ 64) (Classical.propDecidable _) (some (.int (i * 2 ^ j.toNat))) (none)
  | _, _ => none
def pNeg : Sto → D → Option D := fun _ a => match a with
  | .int i => some (.int (-i))
  | _ => none
theorem op_pSub : OpR X (binaryOp .Sub) (rP X.K pSub) := by
  refine op_ints (C := fun _ _ => True) (g := fun i j => i - j) (fun pins s σ H x y v u Q I rx ry ⟨i, j, e1, e2, _, q⟩ => op_sub pins s σ H x y v u Q I rx ry ⟨i, j, e1, e2, q⟩) fun st a b d e => ?_
  unfold pSub at e
  split at e
  · cases e; exact ⟨_, _, rfl, rfl, trivial, rfl⟩
  · cases e
theorem op_pDiv : OpR X (binaryOp .FloorDiv) (rP X.K pDiv) := by
  refine op_ints (C := fun i j => 0 < j ∧ j < 1073741824) (g := fun i j => i / j) (op_fdiv) fun st a b d e => ?_
  unfold pDiv at e
  split at e
  · split at e
    · rename_i h; cases e; exact ⟨_, _, rfl, rfl, h, rfl⟩
    · cases e
  · cases e
theorem op_pMod : OpR X (binaryOp .Mod) (rP X.K pMod) := by
  refine op_ints (C := fun i j => 0 < j) (g := fun i j => i % j) (op_mod) fun st a b d e => ?_
  unfold pMod at e
  split at e
  · split at e
    · rename_i h; cases e; exact ⟨_, _, rfl, rfl, h, rfl⟩
    · cases e
  · cases e
theorem op_pPow : OpR X (binaryOp .Pow) (rP X.K pPow) := by
  refine op_ints (C := fun i j => 0 ≤ j ∧ j ≤ 1000000 ∧ i.natAbs < 2 ^ 64) (g := fun i j => i ^ j.toNat) (op_pow) fun st a b d e => ?_
  unfold pPow at e
  split at e
  · split at e
    · rename_i h; cases e; exact ⟨_, _, rfl, rfl, h, rfl⟩
    · cases e
  · cases e
theorem op_pShl : OpR X (binaryOp .LShift) (rP X.K pShl) := by
  refine op_ints (C := fun i j => 0 ≤ j ∧ j ≤ 1000000 ∧ i.natAbs < 2 ^ 64) (g := fun i j => i * 2 ^ j.toNat) (op_shl) fun st a b d e => ?_
  unfold pShl at e
  split at e
  · split at e
    · rename_i h; cases e; exact ⟨_, _, rfl, rfl, h, rfl⟩
    · cases e
  · cases e
def mUn (p : Sto → D → Option D) (m : Rho → M D) : Rho → M D := fun ρ st => (m ρ st).bind fun a st1 => lift (p st1 a) st1
theorem de_neg (ha : DE X W a m1) : DE X W (.UnaryOp .USub a pos) (mUn pNeg m1) := by
  refine PE.weak (pe_un un_neg ha) fun σ H Q ⟨F, ι, ρ, st, S, R, q⟩ => ?_
  refine tG_seq back_V S R q fun d1 st1 F1 ι1 H1 v1 x1 S1 R1 r1 q1 => ?_
  unfold pNeg at q1
  split at q1
  · rename_i i
    have r : Rep X.K F1 ι1 (.int i) v1 := r1
    simp only [Rep] at r
    exact ⟨i, r, q1 F1 ι1 H1 _ Ext.refl S1 (by show Rep _ _ _ _ _; simp only [Rep])⟩
  · exact q1.elim
/-- + of numbers, texts, tuples -/
def pAdd : Sto → D → D → Option D := fun _ a b => match a, b with
  | .int i, .int j => some (.int (i + j))
  | .int i, .bl k => some (.int (i + b2i k))
  | .str x, .str y => if x.length + y.length ≤ sizeLine then some (.str (x ++ y)) else none
  | .tup xs, .tup ys => if xs.length + ys.length ≤ SZ then some (.tup (xs ++ ys)) else none
  | _, _ => none
/-- what follows a new tuple -/
theorem new_tup {K : PySem.W.Frag} {F : Hp} {ι : List Addr} {H : Hp} {st : Sto} {xs : List D} {vs : List V} {Q : VK} (S : Sim K F ι st H) (r : Reps K F ι xs vs) (q : ∀ F' H' v, Ext F ι H F' ι H' → Sim K F' ι st H' → Rep K F' ι (.tup xs) v → Q v H') :
    ∀ (p : Addr) (o : Obj), o.dict = none → H p = none → Q (.ref p) (upd H p (.frz o (.tup vs))) := fun p o ho hp => by
  refine q (upd F p (.frz o (.tup vs))) _ _ (Ext.frozen hp S.sub) (S.frozen hp trivial) ?_
  simp only [Rep]
  exact ⟨p, vs, rfl, .inl ⟨o, ho, upd_same⟩, Reps.ext r (Ext.frozen (H := H) hp S.sub)⟩
theorem same_tup {K : PySem.W.Frag} {F : Hp} {ι : List Addr} {H : Hp} {st : Sto} {xs ys : List D} {v : V} {Q : VK} (S : Sim K F ι st H) (r : Rep K F ι (.tup xs) v) (e : xs = ys) (q : ∀ F' H' v, Ext F ι H F' ι H' → Sim K F' ι st H' → Rep K F' ι (.tup ys) v → Q v H') : Q v H :=
  q F H v Ext.refl S (by rw [← e]; exact r)
def rCatP (K : PySem.W.Frag) : R2 := fun x y H Q => ∃ a b xs ys, x = .ref a ∧ y = .ref b ∧ SqT K H a xs ∧ SqT K H b ys ∧ xs.length + ys.length ≤ sizeLine ∧
  (xs = [] → Q (.ref b) H) ∧ (xs ≠ [] → ys = [] → Q (.ref a) H) ∧ (xs ≠ [] → ys ≠ [] → ∀ (p : Addr) (o : Obj), o.dict = none → H p = none → Q (.ref p) (upd H p (.frz o (.tup (xs ++ ys)))))
theorem op_catP : OpR X (binaryOp .Add) (rCatP X.K) := by
  intro pins s σ H x y v u Q I rx ry ⟨a, b, xs, ys, e1, e2, ha, hb, hz, q0, q1, q2⟩
  subst e1 e2
  by_cases hx : xs = []
  · exact op_catA pins s σ H _ _ v u Q I rx ry ⟨a, b, xs, ys, rfl, rfl, ha, hb, hz, q0, q1, fun h => absurd hx h⟩
  · by_cases hy : ys = []
    · exact op_catA pins s σ H _ _ v u Q I rx ry ⟨a, b, xs, ys, rfl, rfl, ha, hb, hz, q0, q1, fun _ h => absurd hy h⟩
    · cases rx
      cases ry
      obtain ⟨i1, r1, p1, _⟩ := I.tuple ha
      obtain ⟨i2, r2, p2, _⟩ := I.tuple hb
      refine HT.cat_tup p1 p2 (fun z => hx (r1.nil_iff.mp z)) (fun z => absurd (r2.nil_iff.mp z) hy) (fun z => ?_) (by rw [← r1.length, ← r2.length]; exact hz)
      exact fin_tup (t' := s.toks) I (r1.append r2) (by rw [List.length_append]; exact hz) (q2 hx hy)
theorem op_pAdd : OpR X (binaryOp .Add) (rP X.K pAdd) := by
  intro pins s σ H x y v u Q I rx ry ⟨F, ι, st, a, b, d, S, ra, rb, e, q⟩
  unfold pAdd at e
  split at e
  · cases e
    simp only [Rep] at ra rb
    subst ra rb
    exact op_add pins s σ H _ _ v u Q I rx ry ⟨_, _, rfl, rfl, q F H _ Ext.refl S (by simp only [Rep])⟩
  · cases e
    simp only [Rep] at ra rb
    subst ra rb
    exact op_add_ib pins s σ H _ _ v u Q I rx ry ⟨_, _, rfl, rfl, q F H _ Ext.refl S (by simp only [Rep])⟩
  · split at e
    · rename_i hz
      cases e
      simp only [Rep] at ra rb
      subst ra rb
      exact op_add_str pins s σ H _ _ v u Q I rx ry ⟨_, _, rfl, rfl, hz, q F H _ Ext.refl S (by simp only [Rep])⟩
    · cases e
  · split at e
    · rename_i xs ys hz
      cases e
      have ra' := ra
      have rb' := rb
      simp only [Rep] at ra rb
      obtain ⟨a1, vs1, e1, h1, r1⟩ := ra
      obtain ⟨a2, vs2, e2, h2, r2⟩ := rb
      subst e1 e2
      refine op_catP pins s σ H _ _ v u Q I rx ry ⟨a1, a2, vs1, vs2, rfl, rfl, S.sqT h1, S.sqT h2, ?_, fun h => ?_, fun h h' => ?_, fun _ _ => new_tup S (r1.append r2) q⟩
      · rw [← r1.length, ← r2.length]; exact sz_le hz
      · subst h
        have : xs = [] := List.eq_nil_of_length_eq_zero r1.length
        subst this
        exact same_tup S rb' rfl q
      · subst h'
        have : ys = [] := List.eq_nil_of_length_eq_zero r2.length
        subst this
        exact same_tup S ra' (by simp) q
    · cases e
  · cases e
/-- lists -/
def pCat : Sto → D → D → Option (List D) := fun st a b => match lstOf st a, lstOf st b with
  | some xs, some ys => if xs.length + ys.length ≤ SZ then some (xs ++ ys) else none
  | _, _ => none
theorem op_pCat : OpR X (binaryOp .Add) (rPL X.K pCat) := by
  intro pins s σ H x y v u Q I rx ry ⟨F, ι, st, a, b, d, S, ra, rb, e, q⟩
  unfold pCat at e
  split at e
  · rename_i xs ys e1 e2
    split at e
    · rename_i hz
      cases e
      obtain ⟨a1, vs1, q1, h1, r1⟩ := S.lst ra e1
      obtain ⟨a2, vs2, q2, h2, r2⟩ := S.lst rb e2
      subst q1 q2
      exact op_cat pins s σ H _ _ v u Q I rx ry ⟨a1, a2, vs1, vs2, rfl, rfl, h1, h2, by rw [← r1.length, ← r2.length]; exact sz_le hz, fun p hp => q _ _ (Ext.laid hp) (S.laid hp) (pL_new S hp (r1.append r2))⟩
    · cases e
  · cases e
theorem Reps.rep {K : PySem.W.Frag} {F : Hp} {ι : List Addr} {xs : List D} {vs : List V} (h : Reps K F ι xs vs) : ∀ k : Nat, Reps K F ι (List.replicate k xs).flatten (List.replicate k vs).flatten
  | 0 => Reps.nil
  | k + 1 => by
    rw [List.replicate_succ, List.replicate_succ, List.flatten_cons, List.flatten_cons]
    exact h.append (Reps.rep h k)
def pRepL : Sto → D → D → Option (List D) := fun st a b => match lstOf st a, b with
  | some xs, .int k => if xs.length * k.toNat ≤ SZ ∧ -1000000 ≤ k ∧ k ≤ 1000000 then some (List.replicate k.toNat xs).flatten else none
  | _, _ => none
theorem op_pRepL : OpR X (binaryOp .Mult) (rPL X.K pRepL) := by
  intro pins s σ H x y v u Q I rx ry ⟨F, ι, st, a, b, d, S, ra, rb, e, q⟩
  unfold pRepL at e
  split at e
  · rename_i xs k e1
    split at e
    · rename_i hz
      cases e
      obtain ⟨a1, vs1, q1, h1, r1⟩ := S.lst ra e1
      simp only [Rep] at rb
      subst q1 rb
      exact op_rep pins s σ H _ _ v u Q I rx ry ⟨a1, k, vs1, rfl, rfl, h1, by omega, by omega, by rw [← r1.length]; exact sz_le hz.1, fun p hp => q _ _ (Ext.laid hp) (S.laid hp) (pL_new S hp (r1.rep _))⟩
    · cases e
  · cases e
end
end Dn
namespace Dn
open PySem PySem.Spec PyProof.Rows L2
theorem tuple_mul_same (l : Addr) (items : Array Value) (n : Nat) (dd : Option Addr) (sl : Array (Option Value)) (x : Int) (u : Tok) (c0 : (decide (x < -(2 ^ 63)) || decide (x ≥ 2 ^ 63)) = false) (c1 : (items.isEmpty || x == 1) = true) :
    Meets (Builtin.«tuple.__mul__» ⟨[.ref l, .int x u], []⟩) (fun _ R s => s.heap.get? l = some { cls := .type "tuple", dict := dd, data := .seq items n, slots := sl } ∧
      R (.ok (.ret (Value.ref l))) s) :=
  .of_wp fun prog w A R s h => by
    obtain ⟨hp, g, d, tk, os⟩ := s
    obtain ⟨hl, h⟩ := h
    have f1 := AutoSeq1.idx_int
    wp_walk using wpAny_loadPart' hl
    repeat (first
      | (refine wpAny_ite_false (decide_eq_false (by rw [c0]; exact Bool.false_ne_true)) ?_; wp_walk using wpAny_loadPart' hl)
      | (refine wpAny_ite_true (decide_eq_true (by rw [c1])) ?_; wp_walk using wpAny_loadPart' hl))
    exact ⟨_, rfl, h⟩
theorem tuple_mul_nil (l : Addr) (items : Array Value) (n : Nat) (dd : Option Addr) (sl : Array (Option Value)) (x : Int) (u : Tok) (c0 : (decide (x < -(2 ^ 63)) || decide (x ≥ 2 ^ 63)) = false) (c1 : (items.isEmpty || x == 1) = false) (c2 : (decide (x ≤ 0) || items.isEmpty) = true) :
    Meets (Builtin.«tuple.__mul__» ⟨[.ref l, .int x u], []⟩) (fun _ R s => s.heap.get? l = some { cls := .type "tuple", dict := dd, data := .seq items n, slots := sl } ∧
      R (.ok (.ret (Value.ref s.heap.objs.size))) { s with heap := s.heap.push { cls := Value.type "tuple", data := Data.seq #[] }, toks := s.toks }) :=
  .of_wp fun prog w A R s h => by
    obtain ⟨hp, g, d, tk, os⟩ := s
    obtain ⟨hl, h⟩ := h
    have f1 := AutoSeq1.idx_int
    wp_walk using wpAny_loadPart' hl
    repeat (first
      | (refine wpAny_ite_false (decide_eq_false (by rw [c0]; exact Bool.false_ne_true)) ?_; wp_walk using wpAny_loadPart' hl)
      | (refine wpAny_ite_false (decide_eq_false (by rw [c1]; exact Bool.false_ne_true)) ?_; wp_walk using wpAny_loadPart' hl)
      | (refine wpAny_ite_true (decide_eq_true (by rw [c2])) ?_; wp_walk using wpAny_loadPart' hl))
    exact ⟨_, rfl, h⟩
section
variable {X : Cx} {W : WX} {pos : Pos} {a b c : Expr} {m1 m2 m3 : Rho → M D}
/-- a tuple, more than once -/
theorem op_repP : OpR X (binaryOp .Mult) (fun x y H Q => ∃ l k xs, x = .ref l ∧ y = .int k ∧ SqT X.K H l xs ∧ xs ≠ [] ∧ 2 ≤ k ∧ k ≤ 1000 ∧ xs.length ≤ 1000 ∧ ∀ (p : Addr) (o : Obj), o.dict = none → H p = none → Q (.ref p) (upd H p (.frz o (.tup (List.replicate k.toNat xs).flatten)))) := by
  intro pins s σ H x y v u Q I rx ry ⟨l, k, xs, e1, e2, hT, hne, h1, h2, hz, q⟩
  subst e1 e2
  cases rx
  obtain ⟨t, rfl⟩ := ry
  obtain ⟨its, r, ⟨⟨C, dd, dt, sl⟩, ho, hc, n, hd⟩, hs⟩ := I.tuple hT
  simp only at hc hd
  subst hc hd
  have hlen : its.length = xs.length := r.length.symm
  have hin : its ≠ [] := fun e => hne (List.eq_nil_of_length_eq_zero (by rw [← hlen, e]; rfl))
  have hie : its.toArray.isEmpty = false := by
    cases its with
    | nil => exact absurd rfl hin
    | cons _ _ => rfl
  have hsz : its.toArray.size = xs.length := by rw [List.size_toArray, hlen]
  have hmul : ((its.toArray.size : Nat) : Int) * k ≤ 1000000 := by
    rw [hsz]
    have := Int.mul_le_mul_of_nonneg_right (show ((xs.length : Nat) : Int) ≤ 1000 by omega) (show 0 ≤ k by omega)
    omega
  have hnat : k.toNat * xs.length ≤ 1000000 := Nat.le_trans (Nat.mul_le_mul (show k.toNat ≤ 1000 by omega) hz) (by decide)
  have hflat : (List.replicate k.toNat its).flatten.length ≤ sizeLine := by
    rw [PyProof.Rows.lm_len_rep_flat, hlen, sizeLine_eq]
    omega
  have d0 : (decide (k < -(2 ^ 63)) || decide (k ≥ 2 ^ 63)) = false := by
    rw [Bool.or_eq_false_iff]
    exact ⟨decide_eq_false (by omega), decide_eq_false (by omega)⟩
  have d1 : (its.toArray.isEmpty || k == 1) = false := by
    rw [Bool.or_eq_false_iff]
    exact ⟨hie, beq_eq_false_iff_ne.mpr (by omega)⟩
  have d2 : (decide (k ≤ 0) || its.toArray.isEmpty) = false := by
    rw [Bool.or_eq_false_iff]
    exact ⟨decide_eq_false (by omega), hie⟩
  have d4 : Builtin.Tuple.tupleTooMany (((its.toArray.size : Nat) : Int) * k) = false := by
    unfold Builtin.Tuple.tupleTooMany
    exact decide_eq_false (by rw [sizeLine_eq]; omega)
  refine wpAny_binaryOp_repeat_ref (T := "tuple") (U := "int") (by decide) ⟨_, ho, rfl⟩ (fun s' => typeIs_int s' k t) noFill_tuple_mul PySem.F.fills_int_mul PySem.F.slot_int_rmul repeat_tuple PySem.F.slot_int_index.lookup
    (call_meets PySem.F.slot_int_rmul (typeIs_int s k t) PySem.F.entry_int_rmul (PySem.F.args_int_rmul_2 _ _) (int_rmul_tuple k t l its.toArray n dd sl) ⟨ho, rfl, ⟨_, ho, rfl⟩,
      call_meets PySem.F.slot_tuple_mul ⟨_, ho, rfl⟩ PySem.F.entry_tuple_mul (PySem.F.args_tuple_mul_2 _ _) (tuple_mulW l its.toArray n dd sl k t d0 d1 d2 (by omega) d4 (by rw [size_rep, List.size_toArray]; exact hflat)) ⟨ho, ?_⟩⟩)
  rw [size_rep]
  exact fin_tup (t' := s.toks) I (r.rep k.toNat) (by rw [PyProof.Rows.lm_len_rep_flat, sizeLine_eq]; omega) q
/-- * of numbers; of a tuple and a number -/
noncomputable def pMul : Sto → D → D → Option D := fun _ a b => match a, b with
  | .int i, .int j => @ite _ (i.natAbs < 2 ^ 64 ∨ j.natAbs < 2 ^ 64) (Classical.propDecidable _) (some (.int (i * j))) (none)
  | .tup xs, .int k => if xs.length ≤ 1000 ∧ -1000 ≤ k ∧ k ≤ 1000 then some (.tup (List.replicate k.toNat xs).flatten) else none
  | _, _ => none
theorem op_pMul : OpR X (binaryOp .Mult) (rP X.K pMul) := by
  intro pins s σ H x y v u Q I rx ry ⟨F, ι, st, a, b, d, S, ra, rb, e, q⟩
  unfold pMul at e
  split at e
  · split at e
    · rename_i hc
      cases e
      simp only [Rep] at ra rb
      subst ra rb
      refine op_mul pins s σ H _ _ v u Q I rx ry ⟨_, _, rfl, rfl, ?_, q F H _ Ext.refl S (by simp only [Rep])⟩
      rcases hc with h | h
      · exact .inl (by omega)
      · exact .inr (by omega)
    · cases e
  · split at e
    · rename_i xs k hc
      cases e
      have ra' := ra
      simp only [Rep] at ra rb
      obtain ⟨a1, vs, e1, h1, r1⟩ := ra
      subst e1 rb
      have hT := S.sqT h1
      have hx := rx
      cases rx
      obtain ⟨t, rfl⟩ := ry
      obtain ⟨its, r, ⟨⟨cls, dd, data, sl⟩, ho, hc1, n, hd⟩, hs⟩ := I.tuple hT
      simp only at hc1 hd
      subst hc1 hd
      have hle : its.length = xs.length := r.length.symm.trans r1.length.symm
      have c0 : (decide (k < -(2 ^ 63)) || decide (k ≥ 2 ^ 63)) = false := by
        rw [decide_eq_false (by omega), decide_eq_false (by omega)] <;> rfl
      by_cases c1 : (its.toArray.isEmpty || k == 1) = true
      · refine wpAny_binaryOp_repeat_ref (T := "tuple") (U := "int") (by decide) ⟨_, ho, rfl⟩ (fun s' => typeIs_int s' k t) noFill_tuple_mul PySem.F.fills_int_mul PySem.F.slot_int_rmul repeat_tuple PySem.F.slot_int_index.lookup
          (call_meets PySem.F.slot_int_rmul (typeIs_int s k t) PySem.F.entry_int_rmul (PySem.F.args_int_rmul_2 _ _) (int_rmul_tuple k t a1 its.toArray n dd sl)
            ⟨ho, rfl, ⟨_, ho, rfl⟩, call_meets PySem.F.slot_tuple_mul ⟨_, ho, rfl⟩ PySem.F.entry_tuple_mul (PySem.F.args_tuple_mul_2 _ _) (tuple_mul_same a1 its.toArray n dd sl k t c0 c1) ⟨ho, ?_⟩⟩)
        refine ⟨.ref a1, H, I, rfl, q F H _ Ext.refl S ?_⟩
        have e2 : (List.replicate k.toNat xs).flatten = xs := by
          rw [Bool.or_eq_true] at c1
          rcases c1 with c1 | c1
          · have : its = [] := by simpa using c1
            have h0 : xs = [] := List.eq_nil_of_length_eq_zero (by rw [← hle, this]; rfl)
            subst h0
            simp
          · have : k = 1 := by simpa using c1
            subst this
            simp
        rw [e2]
        exact ra'
      · have c1 : (its.toArray.isEmpty || k == 1) = false := by simpa using c1
        by_cases c2 : (decide (k ≤ 0) || its.toArray.isEmpty) = true
        · refine wpAny_binaryOp_repeat_ref (T := "tuple") (U := "int") (by decide) ⟨_, ho, rfl⟩ (fun s' => typeIs_int s' k t) noFill_tuple_mul PySem.F.fills_int_mul PySem.F.slot_int_rmul repeat_tuple PySem.F.slot_int_index.lookup
            (call_meets PySem.F.slot_int_rmul (typeIs_int s k t) PySem.F.entry_int_rmul (PySem.F.args_int_rmul_2 _ _) (int_rmul_tuple k t a1 its.toArray n dd sl)
              ⟨ho, rfl, ⟨_, ho, rfl⟩, call_meets PySem.F.slot_tuple_mul ⟨_, ho, rfl⟩ PySem.F.entry_tuple_mul (PySem.F.args_tuple_mul_2 _ _) (tuple_mul_nil a1 its.toArray n dd sl k t c0 c1 c2) ⟨ho, ?_⟩⟩)
          have e2 : (List.replicate k.toNat xs).flatten = [] := by
            rw [Bool.or_eq_true] at c2
            rcases c2 with c2 | c2
            · have : k.toNat = 0 := by
                have := of_decide_eq_true c2
                omega
              rw [this]
              rfl
            · rw [Bool.or_eq_false_iff] at c1
              rw [c1.1] at c2
              cases c2
          rw [e2] at q
          exact fin_tup (t' := s.toks) I (ys := []) (its := []) .nil (Nat.zero_le _) (new_tup S Reps.nil q)
        · have h2 : 2 ≤ k := by
            simp only [Bool.or_eq_true, decide_eq_true_eq, not_or] at c2
            rw [Bool.or_eq_false_iff] at c1
            have : k ≠ 1 := by simpa using c1.2
            omega
          have hne : vs ≠ [] := by
            intro h0
            rw [Bool.or_eq_false_iff] at c1
            have h1 := c1.1
            subst h0
            cases r
            simp at h1
          exact op_repP pins s σ H _ _ _ _ Q I hx (show RelV (V.int k) (Value.int k t) from ⟨t, rfl⟩) ⟨a1, k, vs, rfl, rfl, hT, hne, h2, hc.2.2, by rw [← r1.length]; exact hc.1, new_tup S (r1.rep _) q⟩
    · cases e
  · cases e

/-! ### comparisons -/
def pEq : Sto → D → D → Option D := fun st a b => match a, b with
  | .str x, .str y => some (.bl ((x == y)))
  | a, b => match dat st a, dat st b with
  | some p, some q => if min p.depth q.depth ≤ 64 then some (.bl (PyData.eqv p q)) else none
  | _, _ => none
def pNe : Sto → D → D → Option D := fun st a b => match a, b with
  | .str x, .str y => some (.bl (!(x == y)))
  | a, b => match dat st a, dat st b with
  | some p, some q => if min p.depth q.depth ≤ 64 then some (.bl (!PyData.eqv p q)) else none
  | _, _ => none
mutual
theorem plain_toP : ∀ d : D, isP d = true → (toP d).plain = true
  | .non, _ => rfl
  | .bl _, _ => rfl
  | .int _, _ => rfl
  | .str _, _ => rfl
  | .tup xs, h => by
    simp only [isP] at h
    simp only [toP, PyData.plain]
    exact plain_toPs xs h
  | .lst xs, h => by
    simp only [isP] at h
    simp only [toP, PyData.plain]
    exact plain_toPs xs h
  | .scr _, h => by simp [isP] at h
  | .ref _, h => by simp [isP] at h
  | .adr _, h => by simp [isP] at h
  | .fd _ _, h => by simp [isP] at h
  | .exo _ _ _ _, h => by simp [isP] at h
  | .obj _ _ _, h => by simp [isP] at h
theorem plain_toPs : ∀ ds : List D, isPs ds = true → PyData.plainAll (toPs ds) = true
  | [], _ => rfl
  | d :: ds, h => by
    simp only [isPs, Bool.and_eq_true] at h
    simp only [toPs, PyData.plainAll, plain_toP d h.1, plain_toPs ds h.2, Bool.and_self]
end
theorem dat_plain {st : Sto} {d : D} {p : PyData} (h : dat st d = some p) : p.plain = true := by
  unfold dat at h
  split at h
  · split at h
    · split at h
      · rename_i hp
        cases h
        simp only [PyData.plain]
        exact plain_toPs _ hp
      · cases h
    · cases h
  · split at h
    · rename_i hp
      cases h
      exact plain_toP _ hp
    · cases h
theorem op_pEq (hu : X.A.units + 64 < cLine) : OpR X (compareOp .Eq) (rP X.K pEq) := by
  intro pins s σ H x y v u Q I rx ry ⟨F, ι, st, a, b, d, S, ra, rb, e, q⟩
  unfold pEq at e
  split at e
  · rename_i x1 y1
    cases e
    have e1 : x = V.str x1 := by simpa only [Rep] using ra
    have e2 : y = V.str y1 := by simpa only [Rep] using rb
    subst e1
    subst e2
    refine op_eq pins s σ H _ _ v u Q I rx ry ⟨rfl, ?_⟩
    rw [dec_str]
    exact q F H _ Ext.refl S (by simp only [Rep])
  split at e
  · rename_i p1 p2 e1 e2
    split at e
    · rename_i hc
      cases e
      obtain ⟨as, r1⟩ := Dp.reads I p1 x v (S.dp ra e1) rx
      obtain ⟨bs, r2⟩ := Dp.reads I p2 y u (S.dp rb e2) ry
      exact SeqAt.eq_plain r1 r2 (dat_plain e1) (dat_plain e2) (by omega) ⟨.bl _, H, I, rfl, q F H _ Ext.refl S (by simp only [Rep])⟩
    · cases e
  · cases e
theorem op_pNe (hu : X.A.units + 64 < cLine) : OpR X (compareOp .NotEq) (rP X.K pNe) := by
  intro pins s σ H x y v u Q I rx ry ⟨F, ι, st, a, b, d, S, ra, rb, e, q⟩
  unfold pNe at e
  split at e
  · rename_i x1 y1
    cases e
    have e1 : x = V.str x1 := by simpa only [Rep] using ra
    have e2 : y = V.str y1 := by simpa only [Rep] using rb
    subst e1
    subst e2
    refine op_ne pins s σ H _ _ v u Q I rx ry ⟨rfl, ?_⟩
    rw [dec_str]
    exact q F H _ Ext.refl S (by simp only [Rep])
  split at e
  · rename_i p1 p2 e1 e2
    split at e
    · rename_i hc
      cases e
      obtain ⟨as, r1⟩ := Dp.reads I p1 x v (S.dp ra e1) rx
      obtain ⟨bs, r2⟩ := Dp.reads I p2 y u (S.dp rb e2) ry
      exact SeqAt.ne_plain r1 r2 (dat_plain e1) (dat_plain e2) (by omega) ⟨.bl _, H, I, rfl, q F H _ Ext.refl S (by simp only [Rep])⟩
    · cases e
  · cases e
/-- in: a list, a tuple, a text -/
def inD (st : Sto) (a b : D) : Option Bool := match b with
  | .str y => match a with
    | .str x => some (!(Builtin.Str.occurrences y x 0 y.length 1).isEmpty)
    | _ => none
  | b => match dat st a, dat st b with
    | some p, some (.list ds) => if p.depth ≤ 64 then some (ds.any fun z => PyData.eqv z p) else none
    | some p, some (.tuple ds) => if p.depth ≤ 64 then some (ds.any fun z => PyData.eqv z p) else none
    | _, _ => none
def pIn : Sto → D → D → Option D := fun st a b => (inD st a b).map fun k => .bl k
def pNotIn : Sto → D → D → Option D := fun st a b => (inD st a b).map fun k => .bl (!k)
theorem room_inT {A : Around} {d : PyData} {ds : List PyData} (sd : SeqAt.shaped d = true) (hu : A.units + 65 < cLine) : A.units + 1 + min (PyData.depthAll ds) d.depth < cLine := room_in_shaped sd hu
theorem op_pIn (hu : X.A.units + 65 < cLine) : OpR X (compareOp .In) (rP X.K pIn) := by
  intro pins s σ H x y v u Q I rx ry ⟨F, ι, st, a, b, d, S, ra, rb, e, q⟩
  unfold pIn inD at e
  split at e
  · split at e
    · cases e
      simp only [Rep] at ra rb
      subst ra rb
      exact op_in_str pins s σ H _ _ v u Q I rx ry ⟨_, _, rfl, rfl, q F H _ Ext.refl S (by simp only [Rep])⟩
    · cases e
  · split at e
    · rename_i p ds e1 e2
      split at e
      · rename_i hc
        cases e
        obtain ⟨as, r1⟩ := Dp.reads I p x v (S.dp ra e1) rx
        obtain ⟨bs, r2⟩ := Dp.reads I (.list ds) y u (S.dp rb e2) ry
        exact SeqAt.in_list_data r2 r1 (by simpa only [PyData.plain] using dat_plain e2) (dat_plain e1) (by omega) ⟨.bl _, H, I, rfl, q F H _ Ext.refl S (by simp only [Rep])⟩
      · cases e
    · rename_i p ds e1 e2
      split at e
      · rename_i hc
        cases e
        obtain ⟨as, r1⟩ := Dp.reads I p x v (S.dp ra e1) rx
        obtain ⟨bs, r2⟩ := Dp.reads I (.tuple ds) y u (S.dp rb e2) ry
        exact SeqAt.in_tuple_data r2 r1 (by simpa only [PyData.plain] using dat_plain e2) (dat_plain e1) (by omega) ⟨.bl _, H, I, rfl, q F H _ Ext.refl S (by simp only [Rep])⟩
      · cases e
    · cases e
theorem op_pNotIn (hu : X.A.units + 65 < cLine) : OpR X (compareOp .NotIn) (rP X.K pNotIn) := by
  intro pins s σ H x y v u Q I rx ry ⟨F, ι, st, a, b, d, S, ra, rb, e, q⟩
  unfold pNotIn inD at e
  split at e
  · split at e
    · cases e
      simp only [Rep] at ra rb
      subst ra rb
      exact op_notin_str pins s σ H _ _ v u Q I rx ry ⟨_, _, rfl, rfl, q F H _ Ext.refl S (by simp only [Rep])⟩
    · cases e
  · split at e
    · rename_i p ds e1 e2
      split at e
      · rename_i hc
        cases e
        obtain ⟨as, r1⟩ := Dp.reads I p x v (S.dp ra e1) rx
        obtain ⟨bs, r2⟩ := Dp.reads I (.list ds) y u (S.dp rb e2) ry
        exact SeqAt.notIn_list_data r2 r1 (by simpa only [PyData.plain] using dat_plain e2) (dat_plain e1) (by omega) ⟨.bl _, H, I, rfl, q F H _ Ext.refl S (by simp only [Rep])⟩
      · cases e
    · rename_i p ds e1 e2
      split at e
      · rename_i hc
        cases e
        obtain ⟨as, r1⟩ := Dp.reads I p x v (S.dp ra e1) rx
        obtain ⟨bs, r2⟩ := Dp.reads I (.tuple ds) y u (S.dp rb e2) ry
        exact SeqAt.notIn_tuple_data r2 r1 (by simpa only [PyData.plain] using dat_plain e2) (dat_plain e1) (by omega) ⟨.bl _, H, I, rfl, q F H _ Ext.refl S (by simp only [Rep])⟩
      · cases e
    · cases e
/-- <, <=, >, >= of numbers; < of texts and of tuples of one shape -/
def pLt : Sto → D → D → Option D := fun st a b => match a, b with
  | .int i, .int j => some (.bl (decide (i < j)))
  | .str x, .str y => some (.bl (decide (x.cps.toList < y.cps.toList)))
  | .tup xs, .tup ys => if isPs xs = true ∧ isPs ys = true ∧ PySem.W.alikeAll (toPs xs) (toPs ys) = true ∧ PyData.depth (toP (.tup xs)) ≤ 64 then some (.bl (PySem.W.dataLt (toP (.tup xs)) (toP (.tup ys)))) else none
  | _, _ => none
def pLe : Sto → D → D → Option D := fun _ a b => match a, b with
  | .int i, .int j => some (.bl (decide (i ≤ j)))
  | _, _ => none
def pGt : Sto → D → D → Option D := fun _ a b => match a, b with
  | .int i, .int j => some (.bl (decide (j < i)))
  | _, _ => none
def pGe : Sto → D → D → Option D := fun _ a b => match a, b with
  | .int i, .int j => some (.bl (decide (j ≤ i)))
  | _, _ => none
theorem op_cmpI {f : Value → Value → Sem Value} {g : Int → Int → Bool} {p : Sto → D → D → Option D} (ho : OpR X f (rI0 fun i j => .bl (g i j)))
    (hp : ∀ st a b d, p st a b = some d → ∃ i j, a = .int i ∧ b = .int j ∧ d = .bl (g i j)) : OpR X f (rP X.K p) := by
  intro pins s σ H x y v u Q I rx ry ⟨F, ι, st, a, b, d, S, ra, rb, e, q⟩
  obtain ⟨i, j, e1, e2, e3⟩ := hp st a b d e
  subst e1 e2 e3
  simp only [Rep] at ra rb
  subst ra rb
  exact ho pins s σ H _ _ v u Q I rx ry ⟨i, j, rfl, rfl, q F H _ Ext.refl S (by simp only [Rep])⟩
theorem op_pLt (hu : X.A.units + 65 < cLine) : OpR X (compareOp .Lt) (rP X.K pLt) := by
  intro pins s σ H x y v u Q I rx ry ⟨F, ι, st, a, b, d, S, ra, rb, e, q⟩
  unfold pLt at e
  split at e
  · cases e
    simp only [Rep] at ra rb
    subst ra rb
    exact op_lt pins s σ H _ _ v u Q I rx ry ⟨_, _, rfl, rfl, q F H _ Ext.refl S (by simp only [Rep])⟩
  · cases e
    simp only [Rep] at ra rb
    subst ra rb
    exact op_lt_str pins s σ H _ _ v u Q I rx ry ⟨_, _, rfl, rfl, q F H _ Ext.refl S (by simp only [Rep])⟩
  · split at e
    · rename_i xs ys hc
      cases e
      obtain ⟨h1, h2, h3, h4⟩ := hc
      obtain ⟨as, r1⟩ := Dp.reads I _ x v (dp_of S.sub (.tup xs) x (by simp only [isP]; exact h1) ra) rx
      obtain ⟨bs, r2⟩ := Dp.reads I _ y u (dp_of S.sub (.tup ys) y (by simp only [isP]; exact h2) rb) ry
      exact PySem.W.lt_data r1 r2 (by simp only [toP, PySem.W.alike]; exact h3) (by simp only [toP]; exact fun h => nomatch h) (by omega) ⟨.bl _, H, I, rfl, q F H _ Ext.refl S (by simp only [Rep])⟩
    · cases e
  · cases e
theorem op_pLe : OpR X (compareOp .LtE) (rP X.K pLe) := op_cmpI op_le fun st a b d e => by
  unfold pLe at e
  split at e
  · cases e; exact ⟨_, _, rfl, rfl, rfl⟩
  · cases e
theorem op_pGt : OpR X (compareOp .Gt) (rP X.K pGt) := op_cmpI op_gt fun st a b d e => by
  unfold pGt at e
  split at e
  · cases e; exact ⟨_, _, rfl, rfl, rfl⟩
  · cases e
theorem op_pGe : OpR X (compareOp .GtE) (rP X.K pGe) := op_cmpI op_ge fun st a b d e => by
  unfold pGe at e
  split at e
  · cases e; exact ⟨_, _, rfl, rfl, rfl⟩
  · cases e
/-- is None, is not None -/
def D.isNon : D → Bool
  | .non => true
  | _ => false
def pIs : Sto → D → D → Option D := fun _ a b => match b with
  | .non => some (.bl a.isNon)
  | _ => none
def pIsNot : Sto → D → D → Option D := fun _ a b => match b with
  | .non => some (.bl (!a.isNon))
  | _ => none
theorem isNon_of {K : PySem.W.Frag} {F : Hp} {ι : List Addr} {d : D} {v : V} (r : Rep K F ι d v) : decide (v = V.non) = d.isNon := by
  cases d <;> simp only [Rep] at r <;> first
    | (subst r; rfl)
    | (subst r; exact decide_eq_false (fun h => nomatch h))
    | (obtain ⟨_, _, e, _⟩ := r; subst e; exact decide_eq_false (fun h => nomatch h))
    | (obtain ⟨_, e, _⟩ := r; subst e; exact decide_eq_false (fun h => nomatch h))
    | (obtain ⟨_, _, _, e, _⟩ := r; subst e; exact decide_eq_false (fun h => nomatch h))
    | (obtain ⟨_, _, _, _, e, _⟩ := r; subst e; exact decide_eq_false (fun h => nomatch h))
    | (rw [r.1]; exact decide_eq_false (fun h => nomatch h))
theorem op_pIs : OpR X (compareOp .Is) (rP X.K pIs) := by
  intro pins s σ H x y v u Q I rx ry ⟨F, ι, st, a, b, d, S, ra, rb, e, q⟩
  unfold pIs at e
  split at e
  · cases e
    simp only [Rep] at rb
    subst rb
    exact op_isN pins s σ H _ _ v u Q I rx ry ⟨rfl, by rw [isNon_of ra]; exact q F H _ Ext.refl S (by simp only [Rep])⟩
  · cases e
theorem op_pIsNot : OpR X (compareOp .IsNot) (rP X.K pIsNot) := by
  intro pins s σ H x y v u Q I rx ry ⟨F, ι, st, a, b, d, S, ra, rb, e, q⟩
  unfold pIsNot at e
  split at e
  · cases e
    simp only [Rep] at rb
    subst rb
    exact op_notN pins s σ H _ _ v u Q I rx ry ⟨rfl, by rw [isNon_of ra]; exact q F H _ Ext.refl S (by simp only [Rep])⟩
  · cases e
theorem de_cmp {op : CmpOp} {p : Sto → D → D → Option D} (ho : OpR X (compareOp op) (rP X.K p)) (ha : DE X W a m1) (hb : DE X W b m2) (hm : behindInMarks op b = false := by rfl) : DE X W (.Compare a [op] [b] pos) (mOp p m1 m2) :=
  PE.weak (pe_cmpR ho ha hb hm) fun _ _ _ h => tOp_of h
/-- a truth value as a test -/
def isB (m : Rho → M D) : Rho → M Bool := fun ρ st => (m ρ st).bind fun d st1 => match d with
  | .bl k => .ok k st1
  | _ => .bad
theorem isB_of {K : PySem.W.Frag} {m : Rho → M D} {σ : L2.St} {H : Hp} {Q : Bool → Hp → Prop} (h : tT K W (isB m) σ H Q) : tTest (tV K W m) σ H Q := by
  obtain ⟨F, ι, ρ, st, S, R, q⟩ := h
  refine tG_seq back_B S R q fun d1 st1 F1 ι1 H1 v1 x1 S1 R1 r1 q1 => ?_
  split at q1
  · have r : Rep K F1 ι1 (.bl _) v1 := r1
    simp only [Rep] at r
    exact ⟨_, r, q1 F1 ι1 H1 _ Ext.refl S1 rfl⟩
  · exact q1.elim
theorem dt_cmp {op : CmpOp} {p : Sto → D → D → Option D} (ho : OpR X (compareOp op) (rP X.K p)) (ha : DE X W a m1) (hb : DE X W b m2) (hm : behindInMarks op b = false := by rfl) : DT X W (.Compare a [op] [b] pos) (isB (mOp p m1 m2)) :=
  PT.weak (pt_cmpR ho ha hb hm) fun σ H Q h => by
    have q := isB_of h
    unfold tTest at q ⊢
    exact tOp_of q
/-- a op b op' c -/
def mChain (p p' : Sto → D → D → Option D) (m1 m2 m3 : Rho → M D) : Rho → M D := fun ρ st => (m1 ρ st).bind fun a st1 => (m2 ρ st1).bind fun b st2 => match p st2 a b with
  | some (.bl true) => (m3 ρ st2).bind fun c st3 => lift (p' st3 b c) st3
  | some (.bl false) => .ok (.bl false) st2
  | _ => .bad
theorem tChain_of {K : PySem.W.Frag} {p p' : Sto → D → D → Option D} {σ : L2.St} {H : Hp} {Q : VK} (h : tV K W (mChain p p' m1 m2 m3) σ H Q) : tChain (rP K p) (rP K p') (tV K W m1) (tV K W m2) (tV K W m3) σ H Q := by
  obtain ⟨F, ι, ρ, st, S, R, q⟩ := h
  refine tG_seq back_V S R q fun d1 st1 F1 ι1 H1 v1 x1 S1 R1 r1 q1 => ?_
  refine tG_seq back_V S1 R1 q1 fun d2 st2 F2 ι2 H2 v2 x2 S2 R2 r2 q2 => ?_
  split at q2
  · rename_i e
    refine ⟨F2, ι2, st2, d1, d2, .bl true, S2, Rep.ext r1 x2, r2, e, fun F3 H3 v x3 S3 r3 => ?_⟩
    simp only [Rep] at r3
    refine ⟨true, r3, ?_⟩
    rw [if_pos rfl]
    refine tG_seq back_V S3 (R2.ext x3) (post_ext back_V q2 x3) fun d3 st4 F4 ι4 H4 v4 x4 S4 R4 r4 q4 => ?_
    cases e' : p' st4 d2 d3 with
    | none => rw [e'] at q4; exact q4.elim
    | some d =>
      rw [e'] at q4
      exact ⟨F4, ι4, st4, d2, d3, d, S4, Rep.ext (Rep.ext r2 x3) x4, r4, e', fun F' H' v x S' r => q4 F' ι4 H' v x S' r⟩
  · rename_i e
    refine ⟨F2, ι2, st2, d1, d2, .bl false, S2, Rep.ext r1 x2, r2, e, fun F3 H3 v x3 S3 r3 => ?_⟩
    simp only [Rep] at r3
    refine ⟨false, r3, ?_⟩
    rw [if_neg (by decide)]
    exact q2 F3 ι2 H3 _ x3 S3 (by show Rep _ _ _ _ _; simp only [Rep])
  · exact q2.elim
theorem de_chain {op op' : CmpOp} {p p' : Sto → D → D → Option D} (ho : OpR X (compareOp op) (rP X.K p)) (ho' : OpR X (compareOp op') (rP X.K p')) (ha : DE X W a m1) (hb : DE X W b m2) (hc : DE X W c m3)
    (hm : lastMarks [op, op'] [b, c] = false := by with_unfolding_all rfl) : DE X W (.Compare a [op, op'] [b, c] pos) (mChain p p' m1 m2 m3) :=
  PE.weak (pe_chain ho ho' ha hb hc hm) fun _ _ _ h => tChain_of h
theorem dt_chain {op op' : CmpOp} {p p' : Sto → D → D → Option D} (ho : OpR X (compareOp op) (rP X.K p)) (ho' : OpR X (compareOp op') (rP X.K p')) (ha : DE X W a m1) (hb : DE X W b m2) (hc : DE X W c m3)
    (hm : lastMarks [op, op'] [b, c] = false := by with_unfolding_all rfl) : DT X W (.Compare a [op, op'] [b, c] pos) (isB (mChain p p' m1 m2 m3)) :=
  PT.weak (pt_chain ho ho' ha hb hc hm) fun σ H Q h => by
    have q := isB_of h
    unfold tTest at q ⊢
    exact tChain_of q

/-! ### truth, and, or, not -/
def D.truth (st : Sto) : D → Option Bool
  | .non => some false
  | .bl b => some b
  | .int i => some (i != 0)
  | .str s => if s.length ≤ sizeLine then some ((s.length : Int) != 0) else none
  | d => (seqOf st d).map fun xs => !xs.isEmpty
theorem isEmpty_reps {K : PySem.W.Frag} {F : Hp} {ι : List Addr} {xs : List D} {vs : List V} (r : Reps K F ι xs vs) : (!xs.isEmpty) = !vs.isEmpty := by
  have := r.length
  cases xs <;> cases vs <;> simp at this ⊢
theorem truth_of {K : PySem.W.Frag} {F : Hp} {ι : List Addr} {H : Hp} {st : Sto} {d : D} {v : V} {k : Bool} (S : Sim K F ι st H) (r : Rep K F ι d v) (h : d.truth st = some k) : TruV K v H k := by
  unfold D.truth at h
  split at h
  · cases h; simp only [Rep] at r; subst r; rfl
  · cases h; simp only [Rep] at r; subst r; rfl
  · cases h; simp only [Rep] at r; subst r; rfl
  · split at h
    · rename_i hz
      cases h; simp only [Rep] at r; subst r; exact ⟨hz, rfl⟩
    · cases h
  · cases e : seqOf st d with
    | none => rw [e] at h; cases h
    | some xs =>
      rw [e] at h
      cases h
      obtain ⟨a, vs, e1, hs, r1⟩ := S.seq r e
      subst e1
      show TruV K (V.ref a) H (!xs.isEmpty)
      rw [isEmpty_reps r1]
      rcases hs with hs | hs
      · exact .inl ⟨vs, hs, rfl⟩
      · exact .inr (.inl ⟨vs, hs, rfl⟩)
def mTru (m : Rho → M D) : Rho → M Bool := fun ρ st => (m ρ st).bind fun d st1 => lift (d.truth st1) st1
theorem dt_tru (ha : DE X W a m1) (he : ∀ whole, isTrue a X.env whole = (do let v ← whole; standAt a.pos; holding [v] (truthy v)) := by intro _; rfl) : DT X W a (mTru m1) := by
  refine PT.weak (pt_truth ha he) fun σ H Q ⟨F, ι, ρ, st, S, R, q⟩ => ?_
  refine tG_seq back_B S R q fun d1 st1 F1 ι1 H1 v1 x1 S1 R1 r1 q1 => ?_
  cases e : d1.truth st1 with
  | none => rw [e] at q1; exact q1.elim
  | some k =>
    rw [e] at q1
    exact ⟨k, truth_of S1 r1 e, q1 F1 ι1 H1 k Ext.refl S1 rfl⟩
def DW (X : Cx) (W : WX) (e : Expr) (m : Rho → M Bool) : Prop := PW X e (tT X.K W m)
theorem PW.weak {X : Cx} {e : Expr} {t t' : TT} (h : PW X e t) (w : ∀ σ H Q, t' σ H Q → t σ H Q) : PW X e t' := ⟨fun wh pins s σ H Q I q => h.run wh pins s σ H Q I (w σ H Q q)⟩
theorem dt_w {e : Expr} {m : Rho → M Bool} (h : DW X W e m) : DT X W e m := L2.PW.pt h
def bAnd (m1 m2 : Rho → M Bool) : Rho → M Bool := fun ρ st => (m1 ρ st).bind fun k st1 => if k = true then m2 ρ st1 else .ok false st1
def bOr (m1 m2 : Rho → M Bool) : Rho → M Bool := fun ρ st => (m1 ρ st).bind fun k st1 => if k = true then .ok true st1 else m2 ρ st1
def bNot (m1 : Rho → M Bool) : Rho → M Bool := fun ρ st => (m1 ρ st).bind fun k st1 => .ok (!k) st1
variable {b1 b2 : Rho → M Bool} {rest : List Expr}
theorem dw_and1 (ha : DT X W a b1) : DW X W (.BoolOp .And [a] pos) b1 := pw_and1 ha
theorem dw_or1 (ha : DT X W a b1) : DW X W (.BoolOp .Or [a] pos) b1 := pw_or1 ha
theorem dw_and (ha : DT X W a b1) (hb : DW X W (.BoolOp .And (b :: rest) pos) b2) : DW X W (.BoolOp .And (a :: b :: rest) pos) (bAnd b1 b2) := by
  refine PW.weak (pw_and ha hb) fun σ H Q ⟨F, ι, ρ, st, S, R, q⟩ => ?_
  refine tG_seq back_B S R q fun k st1 F1 ι1 H1 k' x1 S1 R1 r1 q1 => ?_
  have r1 : k = k' := r1
  subst r1
  cases k with
  | true => exact ⟨F1, ι1, ρ, st1, S1, R1, q1⟩
  | false => exact q1 F1 ι1 H1 false Ext.refl S1 rfl
theorem dw_or (ha : DT X W a b1) (hb : DW X W (.BoolOp .Or (b :: rest) pos) b2) : DW X W (.BoolOp .Or (a :: b :: rest) pos) (bOr b1 b2) := by
  refine PW.weak (pw_or ha hb) fun σ H Q ⟨F, ι, ρ, st, S, R, q⟩ => ?_
  refine tG_seq back_B S R q fun k st1 F1 ι1 H1 k' x1 S1 R1 r1 q1 => ?_
  have r1 : k = k' := r1
  subst r1
  cases k with
  | false => exact ⟨F1, ι1, ρ, st1, S1, R1, q1⟩
  | true => exact q1 F1 ι1 H1 true Ext.refl S1 rfl
theorem dt_not (ha : DT X W a b1) : DT X W (.UnaryOp .Not a pos) (bNot b1) := by
  refine PT.weak (pt_not ha) fun σ H Q ⟨F, ι, ρ, st, S, R, q⟩ => ?_
  refine tG_seq back_B S R q fun k st1 F1 ι1 H1 k' x1 S1 R1 r1 q1 => ?_
  have r1 : k = k' := r1
  subst r1
  exact q1 F1 ι1 H1 _ Ext.refl S1 rfl
/-- as values, by truth -/
def mAndV (m1 m2 : Rho → M D) : Rho → M D := fun ρ st => (m1 ρ st).bind fun d st1 => (lift (d.truth st1) st1).bind fun k st2 => if k = true then m2 ρ st2 else .ok d st2
def mOrV (m1 m2 : Rho → M D) : Rho → M D := fun ρ st => (m1 ρ st).bind fun d st1 => (lift (d.truth st1) st1).bind fun k st2 => if k = true then .ok d st2 else m2 ρ st2
def mNotV (m1 : Rho → M D) : Rho → M D := fun ρ st => (m1 ρ st).bind fun d st1 => (lift (d.truth st1) st1).bind fun k st2 => .ok (.bl (!k)) st2
theorem de_one {op : BoolOp} (h : DE X W a m1) : DE X W (.BoolOp op [a] pos) m1 := pe_one h
theorem de_and (ha : DE X W a m1) (hb : DE X W (.BoolOp .And (b :: rest) pos) m2) : DE X W (.BoolOp .And (a :: b :: rest) pos) (mAndV m1 m2) := by
  refine PE.weak (pe_andT ha hb) fun σ H Q ⟨F, ι, ρ, st, S, R, q⟩ => ?_
  refine tG_seq back_V S R q fun d1 st1 F1 ι1 H1 v1 x1 S1 R1 r1 q1 => ?_
  cases e : d1.truth st1 with
  | none => rw [e] at q1; exact q1.elim
  | some k =>
    rw [e] at q1
    refine ⟨k, truth_of S1 r1 e, ?_⟩
    cases k with
    | true => exact ⟨F1, ι1, ρ, st1, S1, R1, q1⟩
    | false => exact q1 F1 ι1 H1 _ Ext.refl S1 r1
theorem de_or (ha : DE X W a m1) (hb : DE X W (.BoolOp .Or (b :: rest) pos) m2) : DE X W (.BoolOp .Or (a :: b :: rest) pos) (mOrV m1 m2) := by
  refine PE.weak (pe_orT ha hb) fun σ H Q ⟨F, ι, ρ, st, S, R, q⟩ => ?_
  refine tG_seq back_V S R q fun d1 st1 F1 ι1 H1 v1 x1 S1 R1 r1 q1 => ?_
  cases e : d1.truth st1 with
  | none => rw [e] at q1; exact q1.elim
  | some k =>
    rw [e] at q1
    refine ⟨k, truth_of S1 r1 e, ?_⟩
    cases k with
    | false => exact ⟨F1, ι1, ρ, st1, S1, R1, q1⟩
    | true => exact q1 F1 ι1 H1 _ Ext.refl S1 r1
theorem de_not (ha : DE X W a m1) : DE X W (.UnaryOp .Not a pos) (mNotV m1) := by
  refine PE.weak (pe_notT ha) fun σ H Q ⟨F, ι, ρ, st, S, R, q⟩ => ?_
  refine tG_seq back_V S R q fun d1 st1 F1 ι1 H1 v1 x1 S1 R1 r1 q1 => ?_
  cases e : d1.truth st1 with
  | none => rw [e] at q1; exact q1.elim
  | some k =>
    rw [e] at q1
    exact ⟨k, truth_of S1 r1 e, q1 F1 ι1 H1 _ Ext.refl S1 (by show Rep _ _ _ _ _; simp only [Rep])⟩
def mIf (t : Rho → M Bool) (m1 m2 : Rho → M D) : Rho → M D := fun ρ st => (t ρ st).bind fun k st1 => if k = true then m1 ρ st1 else m2 ρ st1
theorem de_if (hc : DT X W c b1) (ha : DE X W a m1) (hb : DE X W b m2) : DE X W (.IfExp c a b pos) (mIf b1 m1 m2) := by
  refine PE.weak (pe_ifExp hc ha hb) fun σ H Q ⟨F, ι, ρ, st, S, R, q⟩ => ?_
  refine tG_seq back_V S R q fun k st1 F1 ι1 H1 k' x1 S1 R1 r1 q1 => ?_
  have r1 : k = k' := r1
  subst r1
  cases k with
  | true => exact ⟨F1, ι1, ρ, st1, S1, R1, q1⟩
  | false => exact ⟨F1, ι1, ρ, st1, S1, R1, q1⟩
end
end Dn
/-! DnE: subscripts, slices, what is backwards. -/
namespace Dn
open PySem PySem.Spec PyProof.Rows L2
section
variable {X : Cx} {W : WX} {pos p2 : Pos} {a b c : Expr} {m1 m2 m3 : Rho → M D}
theorem atI_reps {K : PySem.W.Frag} {F : Hp} {ι : List Addr} {xs : List D} {vs : List V} {i : Int} {d : D} (r : Reps K F ι xs vs) (h : atI xs i = some d) : ∃ v, atI vs i = some v ∧ Rep K F ι d v := by
  unfold atI at h ⊢
  rw [← r.length]
  cases e : ixN xs.length i with
  | none => rw [e] at h; cases h
  | some j =>
    rw [e] at h
    exact r.get h
def pIdx : Sto → D → D → Option D := fun st a i => match a, i with
  | .str z, .int i => if z.length ≤ sizeLine then (atI z.cps.toList i).map fun c => .str ⟨#[c]⟩ else none
  | a, .int i => (seqOf st a).bind fun xs => atI xs i
  | _, _ => none
theorem ix_pIdx : IxR X (rP X.K pIdx) := by
  intro value slice pins s σ H x y v u Q I rx ry ⟨F, ι, st, a, b, d, S, ra, rb, e, q⟩ hs
  unfold pIdx at e
  split at e
  · split at e
    · rename_i hz
      rename_i i
      simp only [Rep] at ra rb
      subst ra rb
      rename_i z
      cases e2 : atI z.cps.toList i with
      | none => rw [e2] at e; cases e
      | some cc =>
        rw [e2] at e
        cases e
        exact ix_seq value slice pins s σ H _ _ v u Q I rx ry (.inr (.inr ⟨_, _, cc, rfl, rfl, hz, e2, q F H _ Ext.refl S (by simp only [Rep])⟩)) hs
    · cases e
  · rename_i i hn
    cases e1 : seqOf st a with
    | none => rw [e1] at e; cases e
    | some xs =>
      rw [e1] at e
      have e : atI xs i = some d := e
      obtain ⟨p, vs, e2, h2, r⟩ := S.seq ra e1
      simp only [Rep] at rb
      subst e2 rb
      obtain ⟨w, hw, rw'⟩ := atI_reps r e
      rcases h2 with h2 | h2
      · exact ix_seq value slice pins s σ H _ _ v u Q I rx ry (.inl ⟨p, vs, i, w, rfl, rfl, h2, hw, q F H _ Ext.refl S rw'⟩) hs
      · exact ix_seq value slice pins s σ H _ _ v u Q I rx ry (.inr (.inl ⟨p, vs, i, w, rfl, rfl, h2, hw, q F H _ Ext.refl S rw'⟩)) hs
  · cases e
theorem de_idx (ha : DE X W a m1) (hb : DE X W b m2) (hs : PlainIx b := by intro _ _; rfl) : DE X W (.Subscript a b pos) (mOp pIdx m1 m2) :=
  PE.weak (pe_ix ix_pIdx ha hb hs) fun _ _ _ h => tOp_of h

/-! ### slices -/
def pO : Hp → Hp → List Addr → Hp → Option Int → Option Int → Prop := fun _ _ _ _ b c => b = c
theorem back_O : Back pO := fun _ _ _ _ _ _ _ _ h => h
def DO (X : Cx) (W : WX) (e : Option Expr) (m : Rho → M (Option Int)) : Prop := PO X e (tG X.K W pO m)
theorem PO.weak {X : Cx} {e : Option Expr} {t t' : TO} (h : PO X e t) (w : ∀ σ H Q, t' σ H Q → t σ H Q) : PO X e t' := ⟨fun pins s σ H Q I q => h.run pins s σ H Q I (w σ H Q q)⟩
def oNone : Rho → M (Option Int) := fun _ st => .ok none st
def oSome (m : Rho → M D) : Rho → M (Option Int) := fun ρ st => (m ρ st).bind fun d st1 => match d with
  | .int i => .ok (some i) st1
  | _ => .bad
theorem do_none : DO X W none oNone := PO.weak po_none fun σ H Q ⟨F, ι, ρ, st, S, R, q⟩ => q F ι H none Ext.refl S rfl
theorem do_some (ha : DE X W a m1) : DO X W (some a) (oSome m1) := by
  refine PO.weak (po_some ha) fun σ H Q ⟨F, ι, ρ, st, S, R, q⟩ => ?_
  refine tG_seq back_O S R q fun d1 st1 F1 ι1 H1 v1 x1 S1 R1 r1 q1 => ?_
  split at q1
  · have r : Rep X.K F1 ι1 (.int _) v1 := r1
    simp only [Rep] at r
    exact ⟨_, r, q1 F1 ι1 H1 _ Ext.refl S1 rfl⟩
  · exact q1.elim
/-- the items from lo to hi, any kind -/
def cutD {α : Type} (xs : List α) (lo hi : Option Int) : List α := (xs.drop (HT.sIx xs.length 0 lo)).take (HT.sIx xs.length xs.length hi - HT.sIx xs.length 0 lo)
theorem Reps.drop {K : PySem.W.Frag} {F : Hp} {ι : List Addr} : ∀ {xs : List D} {vs : List V} (n : Nat), Reps K F ι xs vs → Reps K F ι (xs.drop n) (vs.drop n)
  | _, _, 0, r => r
  | [], _, _ + 1, r => by simp only [Reps] at r; subst r; exact Reps.nil
  | d :: ds, _, n + 1, r => by
    simp only [Reps] at r
    obtain ⟨v, rs, e, _, r2⟩ := r
    subst e
    exact Reps.drop n r2
theorem Reps.take {K : PySem.W.Frag} {F : Hp} {ι : List Addr} : ∀ {xs : List D} {vs : List V} (n : Nat), Reps K F ι xs vs → Reps K F ι (xs.take n) (vs.take n)
  | _, _, 0, r => by simp; exact Reps.nil
  | [], _, _ + 1, r => by simp only [Reps] at r; subst r; exact Reps.nil
  | d :: ds, _, n + 1, r => by
    simp only [Reps] at r
    obtain ⟨v, rs, e, r1, r2⟩ := r
    subst e
    exact Reps.cons r1 (Reps.take n r2)
theorem Reps.rev {K : PySem.W.Frag} {F : Hp} {ι : List Addr} : ∀ {xs : List D} {vs : List V}, Reps K F ι xs vs → Reps K F ι xs.reverse vs.reverse
  | [], _, r => by simp only [Reps] at r; subst r; exact Reps.nil
  | d :: ds, _, r => by
    simp only [Reps] at r
    obtain ⟨v, rs, e, r1, r2⟩ := r
    subst e
    rw [List.reverse_cons, List.reverse_cons]
    exact (Reps.rev r2).snoc r1
theorem cut_reps {K : PySem.W.Frag} {F : Hp} {ι : List Addr} {xs : List D} {vs : List V} (r : Reps K F ι xs vs) (lo hi : Option Int) : Reps K F ι (cutD xs lo hi) (cutV vs lo hi) := by
  unfold cutD cutV
  rw [← r.length]
  exact (r.drop _).take _
theorem cutD_whole {α : Type} {xs : List α} {lo hi : Option Int} (h : HT.sIx xs.length 0 lo = 0 ∧ HT.sIx xs.length xs.length hi = xs.length) : cutD xs lo hi = xs := by
  unfold cutD
  rw [h.1, h.2]
  simp
def rSlP (K : PySem.W.Frag) : V → Option Int → Option Int → Hp → VK → Prop := fun x lo hi H Q => ∃ a xs, x = .ref a ∧ SqT K H a xs ∧
  (HT.sIx xs.length 0 lo = 0 ∧ HT.sIx xs.length xs.length hi = xs.length → Q (.ref a) H) ∧ (¬ (HT.sIx xs.length 0 lo = 0 ∧ HT.sIx xs.length xs.length hi = xs.length) → ∀ (p : Addr) (o : Obj), o.dict = none → H p = none → Q (.ref p) (upd H p (.frz o (.tup (cutV xs lo hi)))))
theorem sl_tupP : SlR X (rSlP X.K) := by
  intro pins s σ H x v vl vu lo hi sl Q I rx hs pl pu ⟨a, xs, e, hx, q1, q2⟩
  subst e
  by_cases hw : HT.sIx xs.length 0 lo = 0 ∧ HT.sIx xs.length xs.length hi = xs.length
  · exact sl_tupA pins s σ H _ v vl vu lo hi sl Q I rx hs pl pu ⟨a, xs, rfl, hx, q1, fun h => absurd hw h⟩
  · cases rx
    obtain ⟨its, r, ht, hz⟩ := I.tuple hx
    have hn : its.toArray.size = xs.length := by rw [List.size_toArray, r.length]
    refine ⟨"tuple", _, PyProof.Rows.slot_tuple_getitem.lookup, ht.typeIs, HT.getItem_tuple_cut ht hs pl pu (by rw [hn]; exact hw) ?_ (by rw [hn]; exact hz)⟩
    rw [hn]
    exact fin_tup (t' := s.toks) I ((r.drop (HT.sIx xs.length 0 lo)).take (HT.sIx xs.length xs.length hi - HT.sIx xs.length 0 lo)) (Nat.le_trans (cutV_length xs lo hi) hz) (q2 hw)
/-- of a tuple -/
def mSlT (m : Rho → M D) (l h : Rho → M (Option Int)) : Rho → M D := fun ρ st => (m ρ st).bind fun d st1 => (l ρ st1).bind fun lo st2 => (h ρ st2).bind fun hi st3 => match d with
  | .tup xs => .ok (.tup (cutD xs lo hi)) st3
  | _ => .bad
theorem de_slT {lo hi : Option Expr} {l h : Rho → M (Option Int)} (ha : DE X W a m1) (hl : DO X W lo l) (hh : DO X W hi h) : DE X W (.Subscript a (.Slice lo hi none p2) pos) (mSlT m1 l h) := by
  refine PE.weak (pe_slice sl_tupP ha hl hh) fun σ H Q ⟨F, ι, ρ, st, S, R, q⟩ => ?_
  refine tG_seq back_V S R q fun d st1 F1 ι1 H1 v1 x1 S1 R1 r1 q1 => ?_
  refine tG_seq back_V S1 R1 q1 fun lo st2 F2 ι2 H2 lo' x2 S2 R2 r2 q2 => ?_
  refine tG_seq back_V S2 R2 q2 fun hi st3 F3 ι3 H3 hi' x3 S3 R3 r3 q3 => ?_
  have r2 : lo = lo' := r2
  have r3 : hi = hi' := r3
  subst r2 r3
  split at q3
  · rename_i xs
    have r : Rep X.K F3 ι3 (.tup xs) v1 := (Rep.ext r1 x2).ext x3
    have r' := r
    simp only [Rep] at r
    obtain ⟨p, vs, e, hq, rr⟩ := r
    subst e
    have q3' : ∀ F' H' v, Ext F3 ι3 H3 F' ι3 H' → Sim X.K F' ι3 st3 H' → Rep X.K F' ι3 (.tup (cutD xs lo hi)) v → Q v H' := fun F' H' v x S' r => q3 F' ι3 H' v x S' r
    refine ⟨p, vs, rfl, S3.sqT hq, fun hw => ?_, fun hw => new_tup S3 (cut_reps rr lo hi) q3'⟩
    exact same_tup S3 r' (cutD_whole (by rw [rr.length]; exact hw)).symm q3'
  · exact q3.elim
/-- of a list: a new list -/
def lSlL (m : Rho → M D) (l h : Rho → M (Option Int)) : Rho → M (List D) := fun ρ st => (m ρ st).bind fun d st1 => (l ρ st1).bind fun lo st2 => (h ρ st2).bind fun hi st3 => match d with
  | .scr xs => .ok (cutD xs lo hi) st3
  | d => (lift (lstOf st3 d) st3).bind fun xs st4 => .ok (cutD xs lo hi) st4
theorem dl_slL {lo hi : Option Expr} {l h : Rho → M (Option Int)} (ha : DE X W a m1) (hl : DO X W lo l) (hh : DO X W hi h) : DL X W (.Subscript a (.Slice lo hi none p2) pos) (lSlL m1 l h) := by
  refine PE.weak (pe_slice sl_list ha hl hh) fun σ H Q ⟨F, ι, ρ, st, S, R, q⟩ => ?_
  refine tG_seq back_L S R q fun d st1 F1 ι1 H1 v1 x1 S1 R1 r1 q1 => ?_
  refine tG_seq back_L S1 R1 q1 fun lo st2 F2 ι2 H2 lo' x2 S2 R2 r2 q2 => ?_
  refine tG_seq back_L S2 R2 q2 fun hi st3 F3 ι3 H3 hi' x3 S3 R3 r3 q3 => ?_
  have r2 : lo = lo' := r2
  have r3 : hi = hi' := r3
  subst r2 r3
  have r : Rep X.K F3 ι3 d v1 := (Rep.ext r1 x2).ext x3
  split at q3
  · rename_i xs
    simp only [Rep] at r
    obtain ⟨p, vs, e, hq, rr⟩ := r
    subst e
    exact ⟨p, vs, rfl, S3.sqL hq, fun n hn => q3 F3 ι3 _ _ (Ext.laid hn) (S3.laid hn) (pL_new S3 hn (cut_reps rr lo hi))⟩
  · cases e : lstOf st3 d with
    | none => rw [e] at q3; exact q3.elim
    | some xs =>
      rw [e] at q3
      obtain ⟨p, vs, e2, hq, rr⟩ := S3.lst r e
      subst e2
      exact ⟨p, vs, rfl, SqL.of hq, fun n hn => q3 F3 ι3 _ _ (Ext.laid hn) (S3.laid hn) (pL_new S3 hn (cut_reps rr lo hi))⟩
/-- of a text -/
def mSlS (m : Rho → M D) (l h : Rho → M (Option Int)) : Rho → M D := fun ρ st => (m ρ st).bind fun d st1 => (l ρ st1).bind fun lo st2 => (h ρ st2).bind fun hi st3 => match d with
  | .str z => if z.length ≤ sizeLine then .ok (.str (cutS z lo hi)) st3 else .bad
  | _ => .bad

/-! ### backwards: a[::-1] -/
theorem getItem_tuple_rev {prog : Program} {w : World} {A : Around} {E : Value → Shared → Prop} {s : Shared} {t sl : Addr} {items : Array Value} {vk : Value} {Q : Value → Shared → Prop} (ht : IsTup s.heap t items) (hs : s.heap.IsSliceOf sl .none .none vk) (pk : IsPart vk (some (-1)))
    (h : Q (.ref s.heap.objs.size) { s with heap := s.heap.push { cls := .type "tuple", data := .seq items.toList.reverse.toArray } }) (hsz : items.size ≤ sizeLine) : wpAny (model prog w) A (getItem (.ref t) (.ref sl)) Q E s := by
  have hok : sizeOk (.seq items.toList.reverse.toArray) := by
    show items.toList.reverse.toArray.size ≤ sizeLine
    simpa using hsz
  obtain ⟨os, hos, hcs, hds⟩ := id hs
  have hTs : s.TypeIs (.ref sl) "slice" := ⟨os, hos, hcs⟩
  have happ : ∀ {Q' : Int × Int × Nat → Shared → Prop}, Q' ((items.size : Int) - 1, -1, items.size) s → wpAny (model prog w) A.in1 (Builtin.Slice.sliceApplied (.ref sl) (pure (items.size : Int))) Q' E s := fun {Q'} h => by
    unfold Builtin.Slice.sliceApplied Builtin.Slice.sliceFields
    refine wpAny_bind (wpAny_bind (wpAny_field hos hds (x := .none) rfl (wpAny_bind (wpAny_field hos hds (x := .none) rfl (wpAny_bind (wpAny_field hos hds (x := vk) rfl (wpAny_pure ?_)))))))
    refine wpAny_bind (HT.slicePart_ pk ?_)
    show wpAny _ _ (if ((-1 : Int) == 0) = true then _ else _) _ _ s
    rw [if_neg (by decide)]
    refine wpAny_bind (HT.slicePart_ .none (wpAny_bind (HT.slicePart_ .none (wpAny_bind (wpAny_pure ?_)))))
    have e1 : Builtin.Slice.sliceAdjust none none (-1) (items.size : Int) = ((items.size : Int) - 1, -1) := rfl
    show wpAny _ _ (match Builtin.Slice.sliceAdjust none none (-1) (items.size : Int) with | (lo, hi) => pure (lo, (-1 : Int), Builtin.Slice.slicePlaces lo hi (-1))) _ _ s
    rw [e1]
    have e2 : Builtin.Slice.slicePlaces ((items.size : Int) - 1) (-1) (-1) = items.size := by
      unfold Builtin.Slice.slicePlaces
      have h1 : ¬ ((-1 : Int) > 0) := by decide
      simp only [h1, if_false]
      rw [show (- -1 : Int) = 1 by decide, Int.ediv_one]
      split <;> omega
    show wpAny _ _ (pure ((items.size : Int) - 1, (-1 : Int), Builtin.Slice.slicePlaces ((items.size : Int) - 1) (-1) (-1))) _ _ s
    rw [e2]
    exact wpAny_pure h
  have hrev : ((List.range items.size).filterMap fun (k : Nat) => items[(((items.size : Int) - 1) + (k : Int) * -1).toNat]?).toArray = items.toList.reverse.toArray := by
    have e : ((List.range items.size).filterMap fun (k : Nat) => items[(((items.size : Int) - 1) + (k : Int) * -1).toNat]?) = ((List.range items.size).map fun k => items.size - 1 - k).filterMap (items[·]?) := by
      rw [List.filterMap_map]
      congr 1
      funext k
      show _ = items[items.size - 1 - k]?
      congr 1
      omega
    rw [e, PySem.W.krv_range, List.filterMap_reverse, PySem.W.krv_all]
  unfold getItem
  try with_reducible refine wpAny_holding ?_
  first | refine wpAny_bind (wpAny_pure ?_) | skip
  refine wpAny_bind (wpAny_sequenceKey ht.typeIs (by decide) ?_)
  refine wpAny_bind (wpAny_callSpecial?_slot (name := Str.ofString "__getitem__") ht.typeIs PyProof.Rows.slot_tuple_getitem
    (wpAny_call_entry PyProof.Rows.slot_tuple_getitem ht.typeIs entry_tuple_getitem ?_ (args_tuple_getitem _ _)))
  show wpAny _ _ (Builtin.Tuple.tupleItemsOf (.ref t) >>= _) _ _ s
  refine wpAny_bind (PyProof.Rows.tupleItemsOf_ ht ?_)
  refine wpAny_bind (wpAny_typeOf hTs ?_)
  rw [if_pos (by decide)]
  refine wpAny_bind (happ ?_)
  have hno : ¬ ((((items.size : Int) - 1) == 0 && (-1 : Int) == 1 && items.size == items.size) = true) := by simp
  show wpAny _ _ (if (((items.size : Int) - 1) == 0 && (-1 : Int) == 1 && items.size == items.size) = true then _ else _) _ _ s
  rw [if_neg hno, hrev]
  first
    | exact wpAny_bind (m := Builtin.Tuple.tupleExact _) (wpAny_newObj_type (wpAny_pure ⟨_, rfl, wpAny_pure h⟩) hok)
    | exact wpAny_bind (m := Builtin.Tuple.tupleExact _) (wpAny_newObj_type (wpAny_bind (wpAny_pure (wpAny_pure ⟨_, rfl, wpAny_pure h⟩))) hok)
    | exact wpAny_bind (wpAny_bind (m := Builtin.Tuple.tupleExact _) (wpAny_newObj_type (wpAny_pure (wpAny_pure ⟨_, rfl, wpAny_pure h⟩)) hok))
    | exact wpAny_bind (wpAny_bind (m := Builtin.Tuple.tupleExact _) (wpAny_newObj_type (wpAny_pure ⟨_, rfl, wpAny_pure h⟩) hok))
/-- a slice with a step, by values -/
def SlR3 (X : Cx) (r : V → Hp → VK → Prop) : Prop :=
  ∀ (pins : List (Addr × Obj)) (s : Shared) (σ : L2.St) (H : Hp) (x : V) (v vk : Value) (sl : Addr) (Q : VK), Inv X pins σ H s → RelV x v → s.heap.IsSliceOf sl .none .none vk → IsPart vk (some (-1)) → r x H Q →
    ∃ T id, typeLookup (.type T) "__getitem__" = pure (some (.builtin id)) ∧ s.TypeIs v T ∧ wpAny (model X.prog X.w) X.A (getItem v (.ref sl)) (EP X pins σ Q) X.xe s
theorem pe_rev {r : V → Hp → VK → Prop} {te : TE} (hr : SlR3 X r) (he : PE X a te) {j1 : Nat} {q1 q2 : Pos} : PE X (.Subscript a (.Slice none none (some (.UnaryOp .USub (.Constant (.int 1) j1 q1) q2)) p2) pos) (fun σ H Q => te σ H fun x H1 => r x H1 Q) := by
  refine ⟨fun pins s σ H Q I h => ?_⟩
  refine Subscript_ (thn (he.run pins s σ H _ I h) fun v s1 ⟨x, H1, I1, r1, g1⟩ => ?_)
  refine wpAny_Slice ?_
  rw [evalPart_none, evalPart_some]
  refine wpAny_pure (wpAny_pure ?_)
  refine thn ((pe_un (pos := q2) un_neg (pe_int (i := 1) (j := j1) (pos := q1))).run pins s1 σ H1 (fun y H2 => y = .int (-1) ∧ H2 = H1) I1 ⟨1, rfl, rfl, rfl⟩) fun vk s2 ⟨y, H2, I2, r2, ey, eH⟩ => ?_
  subst ey eH
  obtain ⟨t, rfl⟩ := r2
  have I4 : Inv X pins σ H2 { s2 with heap := s2.heap.push { cls := .type "slice", data := .fields #[.none, .none, .int (-1) t] } } := I2.kept (t' := s2.toks) fun b ob q => Heap.get?_push_of_some _ q
  obtain ⟨T, id, hT, ht, hg⟩ := hr pins { s2 with heap := s2.heap.push { cls := .type "slice", data := .fields #[.none, .none, .int (-1) t] } } σ H2 x v _ s2.heap.objs.size Q I4 r1 (Heap.IsSliceOf.new ..) (.int _ t) g1
  show wpAny (model X.prog X.w) X.A (subscriptTail a (.Slice none none (some (.UnaryOp .USub (.Constant (.int 1) j1 _) q2)) p2) v (.ref s2.heap.objs.size)) (EP X pins σ Q) X.xe { s2 with heap := s2.heap.push { cls := .type "slice", data := .fields #[.none, .none, .int (-1) t] } }
  exact tail_any (ops := [v, .ref s2.heap.objs.size]) ht hT hg (by with_unfolding_all rfl)
theorem sl_revT : SlR3 X (fun x H Q => ∃ a xs, x = .ref a ∧ SqT X.K H a xs ∧ ∀ (p : Addr) (o : Obj), o.dict = none → H p = none → Q (.ref p) (upd H p (.frz o (.tup xs.reverse)))) := by
  intro pins s σ H x v vk sl Q I rx hs pk ⟨a, xs, e, hx, q⟩
  subst e
  cases rx
  obtain ⟨its, r, ht, hz⟩ := I.tuple hx
  refine ⟨"tuple", _, PyProof.Rows.slot_tuple_getitem.lookup, ht.typeIs, ?_⟩
  refine getItem_tuple_rev ht hs pk ?_ (by rw [List.size_toArray, ← r.length]; exact hz)
  exact fin_tup (t' := s.toks) I r.reverse (by rw [List.length_reverse]; exact hz) q
theorem sl_revL : SlR3 X (fun x H Q => ∃ a xs, x = .ref a ∧ SqL X.K H a xs ∧ ∀ p, H p = none → Q (.ref p) (upd H p (.lst xs.reverse))) := by
  intro pins s σ H x v vk sl Q I rx hs pk ⟨a, xs, e, hx, q⟩
  subst e
  cases rx
  obtain ⟨its, r, ht, hz⟩ := I.list hx
  have hlen := r.length
  refine ⟨"list", _, slot_list_getitem.lookup, ht.isList.typeIs, ?_⟩
  refine wpAny_getItem_list_slice ht.isList hs .none .none pk (by decide) ?_ (by rw [List.size_toArray]; omega)
  rw [PySem.W.krv_pick]
  refine ⟨.ref s.heap.objs.size, _, I.laid (t' := s.toks) (o := .lst xs.reverse) (fun b ob q => Heap.get?_push_of_some _ q) (Nat.le_refl _) ?_, rfl, q _ (I.hok.fresh (Nat.le_refl _))⟩
  exact ⟨by rw [List.length_reverse]; exact hz, its.reverse, 0, r.reverse, Heap.get?_push_size _ rfl⟩
def mRevT (m : Rho → M D) : Rho → M D := fun ρ st => (m ρ st).bind fun d st1 => match d with
  | .tup xs => .ok (.tup xs.reverse) st1
  | _ => .bad
theorem de_revT {j1 : Nat} {q1 q2 : Pos} (ha : DE X W a m1) : DE X W (.Subscript a (.Slice none none (some (.UnaryOp .USub (.Constant (.int 1) j1 q1) q2)) p2) pos) (mRevT m1) := by
  refine PE.weak (pe_rev sl_revT ha) fun σ H Q ⟨F, ι, ρ, st, S, R, q⟩ => ?_
  refine tG_seq back_V S R q fun d st1 F1 ι1 H1 v1 x1 S1 R1 r1 q1 => ?_
  split at q1
  · rename_i xs
    have r : Rep X.K F1 ι1 (.tup xs) v1 := r1
    simp only [Rep] at r
    obtain ⟨p, vs, e, hq, rr⟩ := r
    exact ⟨p, vs, e, S1.sqT hq, new_tup S1 rr.rev fun F' H' v x S' r => q1 F' ι1 H' v x S' r⟩
  · exact q1.elim
def lRevL (m : Rho → M D) : Rho → M (List D) := fun ρ st => (m ρ st).bind fun d st1 => (lift (lstOf st1 d) st1).bind fun xs st2 => .ok xs.reverse st2
theorem dl_revL {j1 : Nat} {q1 q2 : Pos} (ha : DE X W a m1) : DL X W (.Subscript a (.Slice none none (some (.UnaryOp .USub (.Constant (.int 1) j1 q1) q2)) p2) pos) (lRevL m1) := by
  refine PE.weak (pe_rev sl_revL ha) fun σ H Q ⟨F, ι, ρ, st, S, R, q⟩ => ?_
  refine tG_seq back_L S R q fun d st1 F1 ι1 H1 v1 x1 S1 R1 r1 q1 => ?_
  cases e : lstOf st1 d with
  | none => rw [e] at q1; exact q1.elim
  | some xs =>
    rw [e] at q1
    obtain ⟨p, vs, e2, hq, rr⟩ := S1.lst r1 e
    exact ⟨p, vs, e2, SqL.of hq, fun n hn => q1 F1 ι1 _ _ (Ext.laid hn) (S1.laid hn) (pL_new S1 hn rr.rev)⟩
end
end Dn
/-! DnF: calls of built-in functions and of their methods. -/
namespace Dn
open PySem PySem.Spec PyProof.Rows L2
def rB (K : PySem.W.Frag) (p : Sto → List D → Option D) : List V → Hp → VK → Prop := fun vs H Q => ∃ F ι st ds d, Sim K F ι st H ∧ Reps K F ι ds vs ∧ p st ds = some d ∧
  ∀ F' H' v, Ext F ι H F' ι H' → Sim K F' ι st H' → Rep K F' ι d v → Q v H'
def rBL (K : PySem.W.Frag) (p : Sto → List D → Option (List D)) : List V → Hp → VK → Prop := fun vs H Q => ∃ F ι st ds xs, Sim K F ι st H ∧ Reps K F ι ds vs ∧ p st ds = some xs ∧
  ∀ H' v, Ext F ι H F ι H' → Sim K F ι st H' → pL K H F ι H' xs v → Q v H'
def mB (p : Sto → List D → Option D) (a : Rho → M (List D)) : Rho → M D := fun ρ st => (a ρ st).bind fun ds st1 => lift (p st1 ds) st1
def lB (p : Sto → List D → Option (List D)) (a : Rho → M (List D)) : Rho → M (List D) := fun ρ st => (a ρ st).bind fun ds st1 => lift (p st1 ds) st1
section
variable {X : Cx} {W : WX} {pos p2 p : Pos} {e : Expr} {es : List Expr} {bid T : String} {x : Str} {m1 m2 : Rho → M D} {am : Rho → M (List D)} {pf : Sto → List D → Option D} {pl : Sto → List D → Option (List D)}
theorem tCB_of {σ : L2.St} {H : Hp} {Q : VK} (h : tV X.K W (mB pf am) σ H Q) : tCB (rB X.K pf) (tA X.K W am) σ H Q := by
  obtain ⟨F, ι, ρ, st, S, R, q⟩ := h
  refine tG_seq back_V S R q fun ds st1 F1 ι1 H1 vs x1 S1 R1 r1 q1 => ?_
  cases e : pf st1 ds with
  | none => rw [e] at q1; exact q1.elim
  | some d =>
    rw [e] at q1
    exact ⟨F1, ι1, st1, ds, d, S1, r1, e, fun F' H' v x S' r => q1 F' ι1 H' v x S' r⟩
theorem tCBL_of {σ : L2.St} {H : Hp} {Q : VK} (h : tL X.K W (lB pl am) σ H Q) : tCB (rBL X.K pl) (tA X.K W am) σ H Q := by
  obtain ⟨F, ι, ρ, st, S, R, q⟩ := h
  refine tG_seq back_L S R q fun ds st1 F1 ι1 H1 vs x1 S1 R1 r1 q1 => ?_
  cases e : pl st1 ds with
  | none => rw [e] at q1; exact q1.elim
  | some d =>
    rw [e] at q1
    exact ⟨F1, ι1, st1, ds, d, S1, r1, e, fun H' v x S' r => q1 F1 ι1 H' v x S' r⟩
theorem de_b (hc : CallR X (.builtin bid) (rB X.K pf)) (hg : Gl X x) (hm : X.mg x = none) (hv : bootBuiltins x = some (.builtin bid)) (ha : DA X W (e :: es) am) (hn : x ≠ "__name__" := by decide) (hdb : (x == ("__debug__" : Str)) = false := by decide)
    (he : starEach (e :: es) X.env = (false, eval e X.env) :: starEach es X.env := by rfl) (hpl : (backTo pos (starEach es X.env)).any (·.1) = false := by rfl) : DE X W (.Call (.Name x p) (e :: es) [] pos) (mB pf am) :=
  PE.weak (pe_callB hc hg hm hv ha hn hdb he hpl) fun _ _ _ h => tCB_of h
theorem de_bT (hc : CallR X (.type T) (rB X.K pf)) (hg : Gl X x) (hm : X.mg x = none) (hv : bootBuiltins x = some (.type T)) (ha : DA X W (e :: es) am) (hn : x ≠ "__name__" := by decide) (hdb : (x == ("__debug__" : Str)) = false := by decide)
    (he : starEach (e :: es) X.env = (false, eval e X.env) :: starEach es X.env := by rfl) (hpl : (backTo pos (starEach es X.env)).any (·.1) = false := by rfl) : DE X W (.Call (.Name x p) (e :: es) [] pos) (mB pf am) :=
  PE.weak (pe_callTy hc hg hm hv ha hn hdb he hpl) fun _ _ _ h => tCB_of h
theorem dl_b (hc : CallR X (.builtin bid) (rBL X.K pl)) (hg : Gl X x) (hm : X.mg x = none) (hv : bootBuiltins x = some (.builtin bid)) (ha : DA X W (e :: es) am) (hn : x ≠ "__name__" := by decide) (hdb : (x == ("__debug__" : Str)) = false := by decide)
    (he : starEach (e :: es) X.env = (false, eval e X.env) :: starEach es X.env := by rfl) (hpl : (backTo pos (starEach es X.env)).any (·.1) = false := by rfl) : DL X W (.Call (.Name x p) (e :: es) [] pos) (lB pl am) :=
  PE.weak (pe_callB hc hg hm hv ha hn hdb he hpl) fun _ _ _ h => tCBL_of h
theorem dl_bT (hc : CallR X (.type T) (rBL X.K pl)) (hg : Gl X x) (hm : X.mg x = none) (hv : bootBuiltins x = some (.type T)) (ha : DA X W (e :: es) am) (hn : x ≠ "__name__" := by decide) (hdb : (x == ("__debug__" : Str)) = false := by decide)
    (he : starEach (e :: es) X.env = (false, eval e X.env) :: starEach es X.env := by rfl) (hpl : (backTo pos (starEach es X.env)).any (·.1) = false := by rfl) : DL X W (.Call (.Name x p) (e :: es) [] pos) (lB pl am) :=
  PE.weak (pe_callTy hc hg hm hv ha hn hdb he hpl) fun _ _ _ h => tCBL_of h
/-- one argument -/
theorem Reps.one {K : PySem.W.Frag} {F : Hp} {ι : List Addr} {d : D} {vs : List V} (r : Reps K F ι [d] vs) : ∃ v, vs = [v] ∧ Rep K F ι d v := by
  simp only [Reps] at r
  obtain ⟨v, r', e, h, e2⟩ := r
  subst e2
  exact ⟨v, e, h⟩
theorem Reps.two {K : PySem.W.Frag} {F : Hp} {ι : List Addr} {d d' : D} {vs : List V} (r : Reps K F ι [d, d'] vs) : ∃ v v', vs = [v, v'] ∧ Rep K F ι d v ∧ Rep K F ι d' v' := by
  simp only [Reps] at r
  obtain ⟨v, r', e, h, v', r'', e', h', e2⟩ := r
  subst e2 e'
  exact ⟨v, v', e, h, h'⟩
def pLen : Sto → List D → Option D := fun st ds => match ds with
  | [.str z] => if z.length ≤ sizeLine then some (.int z.length) else none
  | [d] => (seqOf st d).map fun xs => .int xs.length
  | _ => none
theorem call_pLen : CallR X (.builtin "len") (rB X.K pLen) := by
  intro pins s σ H vs us Q I rv ⟨F, ι, st, ds, d, S, ra, e, q⟩
  unfold pLen at e
  split at e
  · split at e
    · rename_i hz
      cases e
      obtain ⟨v, e1, r⟩ := ra.one
      simp only [Rep] at r
      subst e1 r
      exact call_len_str pins s σ H _ us Q I rv ⟨_, rfl, hz, q F H _ Ext.refl S (by simp only [Rep])⟩
    · cases e
  · rename_i d' _
    cases e1 : seqOf st d' with
    | none => rw [e1] at e; cases e
    | some xs =>
      rw [e1] at e
      cases e
      obtain ⟨v, e2, r⟩ := ra.one
      obtain ⟨a, ys, e3, hs, rr⟩ := S.seq r e1
      subst e2 e3
      exact call_len_seq pins s σ H _ us Q I rv ⟨a, ys, rfl, hs, q F H _ Ext.refl S (by simp only [Rep]; rw [rr.length])⟩
  · cases e
def pAbs : Sto → List D → Option D := fun _ ds => match ds with
  | [.int i] => some (.int (if i < 0 then -i else i))
  | _ => none
theorem call_pAbs : CallR X (.builtin "abs") (rB X.K pAbs) := by
  intro pins s σ H vs us Q I rv ⟨F, ι, st, ds, d, S, ra, e, q⟩
  unfold pAbs at e
  split at e
  · cases e
    obtain ⟨v, e1, r⟩ := ra.one
    simp only [Rep] at r
    subst e1 r
    exact call_abs pins s σ H _ us Q I rv ⟨_, rfl, q F H _ Ext.refl S (by simp only [Rep])⟩
  · cases e
def pInt : Sto → List D → Option D := fun _ ds => match ds with
  | [.int i] => some (.int i)
  | [.bl k] => some (.int (if k then 1 else 0))
  | _ => none
theorem call_pInt : CallR X (.type "int") (rB X.K pInt) := by
  intro pins s σ H vs us Q I rv ⟨F, ι, st, ds, d, S, ra, e, q⟩
  unfold pInt at e
  split at e
  · cases e
    obtain ⟨v, e1, r⟩ := ra.one
    simp only [Rep] at r
    subst e1 r
    exact call_int1 pins s σ H _ us Q I rv (.inl ⟨_, rfl, q F H _ Ext.refl S (by simp only [Rep])⟩)
  · cases e
    obtain ⟨v, e1, r⟩ := ra.one
    simp only [Rep] at r
    subst e1 r
    exact call_int1 pins s σ H _ us Q I rv (.inr ⟨_, rfl, q F H _ Ext.refl S (by simp only [Rep])⟩)
  · cases e
def pMax2 : Sto → List D → Option D := fun _ ds => match ds with
  | [.int i, .int j] => some (.int (if j > i then j else i))
  | _ => none
def pMin2 : Sto → List D → Option D := fun _ ds => match ds with
  | [.int i, .int j] => some (.int (if j < i then j else i))
  | _ => none
theorem call_pMax2 (hc : X.calm = true) : CallR X (.builtin "max") (rB X.K pMax2) := by
  intro pins s σ H vs us Q I rv ⟨F, ι, st, ds, d, S, ra, e, q⟩
  unfold pMax2 at e
  split at e
  · cases e
    obtain ⟨v, v', e1, r, r'⟩ := ra.two
    simp only [Rep] at r r'
    subst e1 r r'
    exact call_max2 hc pins s σ H _ us Q I rv ⟨_, _, rfl, q F H _ Ext.refl S (by simp only [Rep])⟩
  · cases e
theorem call_pMin2 (hc : X.calm = true) : CallR X (.builtin "min") (rB X.K pMin2) := by
  intro pins s σ H vs us Q I rv ⟨F, ι, st, ds, d, S, ra, e, q⟩
  unfold pMin2 at e
  split at e
  · cases e
    obtain ⟨v, v', e1, r, r'⟩ := ra.two
    simp only [Rep] at r r'
    subst e1 r r'
    exact call_min2 hc pins s σ H _ us Q I rv ⟨_, _, rfl, q F H _ Ext.refl S (by simp only [Rep])⟩
  · cases e
/-- all, any of a list of truth values -/
def blOf : List D → Option (List Bool)
  | [] => some []
  | .bl b :: r => (blOf r).map (b :: ·)
  | _ => none
theorem blOf_map : ∀ bs : List Bool, blOf (bs.map D.bl) = some bs
  | [] => rfl
  | b :: r => by rw [List.map_cons, blOf, blOf_map r]; rfl
theorem reps_bl {K : PySem.W.Frag} {F : Hp} {ι : List Addr} : ∀ {ds : List D} {bs : List Bool} {vs : List V}, Reps K F ι ds vs → blOf ds = some bs → vs = bs.map V.bl
  | [], _, _, r, h => by simp only [Reps] at r; cases h; subst r; rfl
  | .bl b :: ds, bs, vs, r, h => by
    simp only [Reps, Rep] at r
    obtain ⟨v, rs, e, e1, r2⟩ := r
    unfold blOf at h
    cases e2 : blOf ds with
    | none => rw [e2] at h; cases h
    | some cs =>
      rw [e2] at h
      cases h
      rw [e, e1, reps_bl r2 e2]
      rfl
  | .non :: _, _, _, _, h => by simp [blOf] at h
  | .int _ :: _, _, _, _, h => by simp [blOf] at h
  | .str _ :: _, _, _, _, h => by simp [blOf] at h
  | .tup _ :: _, _, _, _, h => by simp [blOf] at h
  | .lst _ :: _, _, _, _, h => by simp [blOf] at h
  | .scr _ :: _, _, _, _, h => by simp [blOf] at h
  | .ref _ :: _, _, _, _, h => by simp [blOf] at h
  | .adr _ :: _, _, _, _, h => by simp [blOf] at h
  | .fd _ _ :: _, _, _, _, h => by simp [blOf] at h
  | .exo _ _ _ _ :: _, _, _, _, h => by simp [blOf] at h
  | .obj _ _ _ :: _, _, _, _, h => by simp [blOf] at h
def pAll : Sto → List D → Option D := fun st ds => match ds with
  | [d] => ((lstOf st d).bind blOf).map fun bs => .bl (bs.all id)
  | _ => none
def pAny : Sto → List D → Option D := fun st ds => match ds with
  | [d] => ((lstOf st d).bind blOf).map fun bs => .bl (bs.any id)
  | _ => none
theorem call_pAll (hc : X.calm = true) : CallR X (.builtin "all") (rB X.K pAll) := by
  intro pins s σ H vs us Q I rv ⟨F, ι, st, ds, d, S, ra, e, q⟩
  unfold pAll at e
  split at e
  · rename_i d'
    cases e1 : lstOf st d' with
    | none => rw [e1] at e; cases e
    | some xs =>
      rw [e1] at e
      have e : (blOf xs).map (fun bs => D.bl (bs.all id)) = some d := e
      cases e2 : blOf xs with
      | none => rw [e2] at e; cases e
      | some bs =>
        rw [e2] at e
        cases e
        obtain ⟨v, e3, r⟩ := ra.one
        obtain ⟨a, ys, e4, hs, rr⟩ := S.lst r e1
        subst e3 e4
        have e5 := reps_bl rr e2
        subst e5
        exact cr_all hc pins s σ H _ us Q I rv ⟨a, bs, rfl, SqL.of hs, q F H _ Ext.refl S (by simp only [Rep])⟩
  · cases e
theorem call_pAny (hc : X.calm = true) : CallR X (.builtin "any") (rB X.K pAny) := by
  intro pins s σ H vs us Q I rv ⟨F, ι, st, ds, d, S, ra, e, q⟩
  unfold pAny at e
  split at e
  · rename_i d'
    cases e1 : lstOf st d' with
    | none => rw [e1] at e; cases e
    | some xs =>
      rw [e1] at e
      have e : (blOf xs).map (fun bs => D.bl (bs.any id)) = some d := e
      cases e2 : blOf xs with
      | none => rw [e2] at e; cases e
      | some bs =>
        rw [e2] at e
        cases e
        obtain ⟨v, e3, r⟩ := ra.one
        obtain ⟨a, ys, e4, hs, rr⟩ := S.lst r e1
        subst e3 e4
        have e5 := reps_bl rr e2
        subst e5
        exact cr_any hc pins s σ H _ us Q I rv ⟨a, bs, rfl, SqL.of hs, q F H _ Ext.refl S (by simp only [Rep])⟩
  · cases e
/-- repr -/
def pRepr : Sto → List D → Option D := fun st ds => match ds with
  | [d] => (dat st d).bind fun p => if SeqAt.shaped p = true ∧ p.showable = true ∧ p.shown.length ≤ sizeLine then some (.str p.shown) else none
  | _ => none
theorem call_pRepr (hg : X.A.guards = some []) (hu : X.A.units + 70 < cLine) : CallR X (.builtin "repr") (rB X.K pRepr) := by
  intro pins s σ H vs us Q I rv ⟨F, ι, st, ds, d, S, ra, e, q⟩
  unfold pRepr at e
  split at e
  · rename_i d'
    cases e1 : dat st d' with
    | none => rw [e1] at e; cases e
    | some p =>
      rw [e1] at e
      have e : (if SeqAt.shaped p = true ∧ p.showable = true ∧ p.shown.length ≤ sizeLine then some (D.str p.shown) else none) = some d := e
      split at e
      · rename_i hc
        cases e
        obtain ⟨h1, h2, h3⟩ := hc
        obtain ⟨v, e2, r⟩ := ra.one
        subst e2
        obtain ⟨u, eu, ru⟩ := rv.one
        subst eu
        have hq : ∀ (h' : Heap) (t : Tok) (tk : Nat), (∀ b o, s.heap.get? b = some o → h'.get? b = some o) → EP X pins σ Q (.str p.shown t) { s with heap := h', toks := tk } := fun h' t tk k =>
          ⟨.str p.shown, H, I.kept k, ⟨t, rfl⟩, q F H _ Ext.refl S (by simp only [Rep])⟩
        have hd := S.dp r e1
        obtain ⟨as, rd⟩ := Dp.reads I p v u hd ru
        have hdep : p.depth ≤ 64 := by
          unfold SeqAt.shaped at h1
          simp only [Bool.and_eq_true, decide_eq_true_eq] at h1
          exact h1.2
        have hno : p.hasDict = false := PyData.hasDict_of_canLay p (SeqAt.canLay_of_shaped h1)
        cases v with
        | ref a =>
          cases ru
          exact repr_of_reads' rd h2 (PyData.noDict_hsm hno) hg (by omega) (fun _ _ h => h) (fun h' t tk k => hq h' t tk k) h3
        | non =>
          cases ru
          cases hd
          exact PySem.P.repr_of_none (hq s.heap _ _ fun _ _ h => h)
        | bl b =>
          cases ru
          cases hd
          exact PySem.P.repr_of_bool (hq s.heap _ _ fun _ _ h => h)
        | int i =>
          obtain ⟨t, rfl⟩ := ru
          cases hd
          simp only [PyData.showable, decide_eq_true_eq] at h2
          exact PySem.P.repr_of_int h2 (hq s.heap _ _ fun _ _ h => h)
        | str i =>
          obtain ⟨t, rfl⟩ := ru
          cases hd
          exact PySem.P.repr_of_str (hq s.heap _ _ fun _ _ h => h) h3
        | byt _ => cases hd
        | flt _ => cases hd
        | ty _ => cases hd
      · cases e
  · cases e
/-- tuple(a list or a tuple), list(..) -/
def pTuple : Sto → List D → Option D := fun st ds => match ds with
  | [.tup xs] => some (.tup xs)
  | [d] => (lstOf st d).map fun xs => .tup xs
  | _ => none
theorem call_tupP : CallR X (.type "tuple") (fun xs H Q => ∃ p ys, xs = [.ref p] ∧ SqL X.K H p ys ∧ ∀ (l : Addr) (o : Obj), o.dict = none → H l = none → Q (.ref l) (upd H l (.frz o (.tup ys)))) := by
  intro pins s σ H xs us Q I r ⟨p, ys, e, hq, q⟩
  subst e
  obtain ⟨u, rfl, rx⟩ := vals1 r
  cases rx
  obtain ⟨its, r', pl, hz⟩ := I.list hq
  have hl := r'.length
  refine call_tuple_list pl.isList (fun h' kp => ?_) (by rw [List.size_toArray]; omega)
  have I1 : Inv X pins σ H { s with heap := h' } := I.kept (t' := s.toks) kp
  exact fin_tup (t' := s.toks) I1 r' hz q
theorem call_pTuple : CallR X (.type "tuple") (rB X.K pTuple) := by
  intro pins s σ H vs us Q I rv ⟨F, ι, st, ds, d, S, ra, e, q⟩
  unfold pTuple at e
  split at e
  · cases e
    obtain ⟨v, e1, r⟩ := ra.one
    have r' := r
    simp only [Rep] at r
    obtain ⟨a, ys, e2, hs, rr⟩ := r
    subst e1 e2
    exact call_tuple_of pins s σ H _ us Q I rv ⟨a, ys, rfl, .inr ⟨S.sqT hs, q F H _ Ext.refl S r'⟩⟩
  · rename_i d' _
    cases e1 : lstOf st d' with
    | none => rw [e1] at e; cases e
    | some xs =>
      rw [e1] at e
      cases e
      obtain ⟨v, e3, r⟩ := ra.one
      obtain ⟨a, ys, e4, hs, rr⟩ := S.lst r e1
      subst e3 e4
      exact call_tupP pins s σ H _ us Q I rv ⟨a, ys, rfl, SqL.of hs, new_tup S rr q⟩
  · cases e
def pList : Sto → List D → Option (List D) := fun st ds => match ds with
  | [d] => seqOf st d
  | _ => none
theorem call_pList : CallR X (.type "list") (rBL X.K pList) := by
  intro pins s σ H vs us Q I rv ⟨F, ι, st, ds, d, S, ra, e, q⟩
  unfold pList at e
  split at e
  · obtain ⟨v, e3, r⟩ := ra.one
    obtain ⟨a, ys, e4, hs, rr⟩ := S.seq r e
    subst e3 e4
    exact call_list_of pins s σ H _ us Q I rv ⟨a, ys, rfl, hs, fun l hl => q _ _ (Ext.laid hl) (S.laid hl) (pL_new S hl rr)⟩
  · cases e
def pStr : Sto → List D → Option D := fun _ ds => match ds with
  | [.int i] => if i.natAbs.log2 < 1920 then some (.str (toString i)) else none
  | _ => none
theorem call_pStr : CallR X (.type "str") (rB X.K pStr) := by
  intro pins s σ H vs us Q I rv ⟨F, ι, st, ds, d, S, ra, e, q⟩
  unfold pStr at e
  split at e
  · split at e
    · rename_i hz
      cases e
      obtain ⟨v, e1, r⟩ := ra.one
      simp only [Rep] at r
      subst e1 r
      exact call_str_int pins s σ H _ us Q I rv ⟨_, rfl, hz, q F H _ Ext.refl S (by simp only [Rep])⟩
    · cases e
  · cases e
/-- sum of a list of numbers -/
def intOf : List D → Option (List Int)
  | [] => some []
  | .int b :: r => (intOf r).map (b :: ·)
  | _ => none
theorem intOf_map : ∀ bs : List Int, intOf (bs.map D.int) = some bs
  | [] => rfl
  | b :: r => by rw [List.map_cons, intOf, intOf_map r]; rfl
theorem reps_int {K : PySem.W.Frag} {F : Hp} {ι : List Addr} : ∀ {ds : List D} {bs : List Int} {vs : List V}, Reps K F ι ds vs → intOf ds = some bs → vs = bs.map V.int
  | [], _, _, r, h => by simp only [Reps] at r; cases h; subst r; rfl
  | .int b :: ds, bs, vs, r, h => by
    simp only [Reps, Rep] at r
    obtain ⟨v, rs, e, e1, r2⟩ := r
    unfold intOf at h
    cases e2 : intOf ds with
    | none => rw [e2] at h; cases h
    | some cs =>
      rw [e2] at h
      cases h
      rw [e, e1, reps_int r2 e2]
      rfl
  | .non :: _, _, _, _, h => by simp [intOf] at h
  | .bl _ :: _, _, _, _, h => by simp [intOf] at h
  | .str _ :: _, _, _, _, h => by simp [intOf] at h
  | .tup _ :: _, _, _, _, h => by simp [intOf] at h
  | .lst _ :: _, _, _, _, h => by simp [intOf] at h
  | .scr _ :: _, _, _, _, h => by simp [intOf] at h
  | .ref _ :: _, _, _, _, h => by simp [intOf] at h
  | .adr _ :: _, _, _, _, h => by simp [intOf] at h
  | .fd _ _ :: _, _, _, _, h => by simp [intOf] at h
  | .exo _ _ _ _ :: _, _, _, _, h => by simp [intOf] at h
  | .obj _ _ _ :: _, _, _, _, h => by simp [intOf] at h
def pSum : Sto → List D → Option D := fun st ds => match ds with
  | [d] => ((lstOf st d).bind intOf).map fun ns => .int ns.sum
  | _ => none
theorem call_pSum (hc : X.calm = true) : CallR X (.builtin "sum") (rB X.K pSum) := by
  intro pins s σ H vs us Q I rv ⟨F, ι, st, ds, d, S, ra, e, q⟩
  unfold pSum at e
  split at e
  · rename_i d'
    cases e1 : lstOf st d' with
    | none => rw [e1] at e; cases e
    | some xs =>
      rw [e1] at e
      have e : (intOf xs).map (fun bs => D.int bs.sum) = some d := e
      cases e2 : intOf xs with
      | none => rw [e2] at e; cases e
      | some bs =>
        rw [e2] at e
        cases e
        obtain ⟨v, e3, r⟩ := ra.one
        obtain ⟨a, ys, e4, hs, rr⟩ := S.lst r e1
        subst e3 e4
        have e5 := reps_int rr e2
        subst e5
        exact cr_sum hc pins s σ H _ us Q I rv ⟨a, bs, rfl, SqL.of hs, q F H _ Ext.refl S (by simp only [Rep])⟩
  · cases e
end
end Dn
/-! DnG: enumerate and zip of lists and of tuples, in any mix. -/
namespace Dn
open PySem PySem.Spec PyProof.Rows L2
/-- a list | a tuple -/
inductive SK where
  | l | t
def SqX (K : PySem.W.Frag) (H : Hp) : SK → Addr → List V → Prop
  | .l, a, xs => SqL K H a xs
  | .t, a, xs => SqT K H a xs
def IsSq (h : Heap) : SK → Addr → Array Value → Prop
  | .l, a, xs => h.IsList a xs
  | .t, a, xs => h.IsTuple a xs
def ItAt (h : Heap) : SK → Addr → Addr → Nat → Prop
  | .l, it, a, i => h.IsListIter it a i
  | .t, it, a, i => h.IsTupleIter it a i
def itObj (a : Addr) : SK → Obj
  | .l => { cls := .type "list_iterator", data := .fields #[.ref a, .int 0 0] }
  | .t => { cls := .type "tuple_iterator", data := .fields #[.ref a, .int 0 0] }
theorem begins_sq (k : SK) (a : Addr) (items : Array Value) : Begins (.ref a) (itObj a k) fun h => IsSq h k a items := by
  cases k with
  | l => exact begins_list a items
  | t => exact begins_tuple a items
theorem draws_sq {prog : Program} {w : World} {A : Around} (hh : A.handled = none) (k : SK) (it a : Addr) (hne : a ≠ it) (items : Array Value) :
    Draws prog w A it [it, a] items.size (fun i v => items[i]? = some v) (fun i h => ItAt h k it a i ∧ IsSq h k a items) := by
  cases k with
  | l => exact Draws.list hh it a hne items
  | t => exact Draws.tuple hh it a hne items
theorem ItAt.obj {h : Heap} {k : SK} {it a : Addr} {i : Nat} (x : ItAt h k it a i) : ∃ o n vs, h.get? it = some o ∧ o.cls = .type n ∧ o.data = .fields vs := by
  cases k with
  | l => obtain ⟨o, e, c, d⟩ := x; exact ⟨o, _, _, e, c, d⟩
  | t => obtain ⟨o, e, c, d⟩ := x; exact ⟨o, _, _, e, c, d⟩
theorem ItAt.at {h h' : Heap} {k : SK} {it a : Addr} {i : Nat} (x : ItAt h k it a i) (e : ∀ o, h.get? it = some o → h'.get? it = some o) : ItAt h' k it a i := by
  cases k with
  | l => exact Heap.IsListIter.at x e
  | t => exact Heap.IsTupleIter.at x e
theorem ItAt.start {h : Heap} {k : SK} {it a : Addr} (e : h.get? it = some (itObj a k)) : ItAt h k it a 0 := by
  cases k with
  | l => exact ⟨_, e, rfl, rfl⟩
  | t => exact ⟨_, e, rfl, rfl⟩
theorem _root_.L2.Inv.sqx {X : Cx} {pins : List (Addr × Obj)} {σ : L2.St} {H : Hp} {s : Shared} {k : SK} {a : Addr} {xs : List V} (I : Inv X pins σ H s) (h : SqX X.K H k a xs) : ∃ its : List Value, Vals xs its ∧ IsSq s.heap k a its.toArray ∧ a < s.heap.objs.size := by
  cases k with
  | l =>
    obtain ⟨its, r, p, _⟩ := I.list h
    exact ⟨its, r, p.isList, p.lt⟩
  | t =>
    obtain ⟨its, r, p, _⟩ := I.tuple h
    exact ⟨its, r, p, p.lt⟩
theorem _root_.L2.Inv.sqx_inj {X : Cx} {pins : List (Addr × Obj)} {σ : L2.St} {H : Hp} {s : Shared} {k : SK} {a : Addr} {xs ys : List V} (I : Inv X pins σ H s) (h : SqX X.K H k a xs) (h' : SqX X.K H k a ys) : xs = ys := by
  cases k with
  | l => exact I.list_inj h h'
  | t => exact I.tuple_inj h h'
def IteX (K : PySem.W.Frag) (k : SK) (a : Addr) : It :=
  ⟨fun i H => ∃ (xs : List V) (x : V), SqX K H k a xs ∧ xs[i]? = some x, fun i H v H' => ∃ (T : Addr) (x : V) (o : Obj), v = .ref T ∧ H T = none ∧ o.dict = none ∧ H' = upd H T (.frz o (.tup [.int (i : Nat), x])) ∧ ∀ xs, SqX K H k a xs → xs[i]? = some x, fun i H => ∃ xs : List V, SqX K H k a xs ∧ xs.length = i⟩
theorem turn_enumX {P : Program} {w : World} {K : PySem.W.Frag} {elts : List Expr} {kk : Nat} {tpos : Pos} (k : SK) (a e it : Addr) :
    Turn P w K (.Tuple elts kk tpos) (IteX K k a) [e, it] e (fun i h => (∃ old, IsEnum h e it ((i : Nat) : Int) old) ∧ ItAt h k it a i ∧ e ≠ it ∧ a ≠ it ∧ e ≠ a) where
  mem := by simp
  obj := fun i h st b hb => by
    obtain ⟨⟨old, he⟩, hi, _⟩ := st
    have e' : b = e ∨ b = it := by simpa using hb
    rcases e' with z | z
    · rw [z]; exact ⟨_, he, fun v q => nomatch q⟩
    · rw [z]
      obtain ⟨o, n, vs, ho, _, hd⟩ := hi.obj
      exact ⟨o, ho, fun v q => by rw [hd] at q; cases q⟩
  keep := fun i h h' st kp => let ⟨⟨old, he⟩, hi, hne⟩ := st; ⟨⟨old, kp e (by simp) _ he⟩, hi.at fun o q => kp it (by simp) o q, hne⟩
  item := by
    intro X hP hw hK hc i pins s σ H E I hf st hg
    subst hP hw hK
    obtain ⟨⟨old, he⟩, hit, hne, hai, hea⟩ := st
    obtain ⟨xs, x, hq, hx⟩ := hg
    obtain ⟨its, rv, p, hal⟩ := I.sqx hq
    obtain ⟨u, hu, ru⟩ := rv.get hx
    have hel : e < s.heap.objs.size := Heap.lt_size he
    have hil : it < s.heap.objs.size := by obtain ⟨_, _, _, q, _⟩ := hit.obj; exact Heap.lt_size q
    have hlt : i < its.toArray.size := by
      have := (List.getElem?_eq_some_iff.mp hu).1
      simpa using this
    refine wpAny_pyNext_enum_itemD (draws_sq (A := X.A.in1) (I.ok.hd hc) k it a hai its.toArray) he ⟨hit, p⟩ hlt hne (by simp [hne, hea]) fun y h' tk hy ho ⟨hit', p'⟩ hT hsz hk => ?_
    have ey : y = u := by
      have hu' : its.toArray[i]? = some u := by simpa using hu
      rw [hu'] at hy
      exact (Option.some.inj hy).symm
    subst ey
    refine ⟨_, rfl, wpAny_letOwnedTupleGo_enum (s := { s with heap := h', toks := tk + 1 }) ho fun h'' he' sb => ?_⟩
    have hT2 : h''.get? s.heap.objs.size = some { cls := .type "tuple", data := .seq #[.int i tk, y] } := (sb.2 _ (Nat.ne_of_gt hel)).trans hT
    have new : ObjOk X.prog X.w (upd H s.heap.objs.size (.frz { cls := .type "tuple", data := .seq #[.int i tk, y] } (.tup [.int (i : Nat), x]))) h'' s.heap.objs.size (.frz { cls := .type "tuple", data := .seq #[.int i tk, y] } (.tup [.int (i : Nat), x])) :=
      ⟨hT2, by show 2 ≤ sizeLine; decide, [.int i tk, y], .cons ⟨_, rfl⟩ (.cons ru .nil), ⟨_, hT2, rfl, _, rfl⟩⟩
    have I1 : Inv X pins σ (upd H s.heap.objs.size (.frz { cls := .type "tuple", data := .seq #[.int i tk, y] } (.tup [.int (i : Nat), x]))) { s with heap := h'', toks := tk + 1 } :=
      I.turnedNew (ch := [e, it]) (fun b ob hb q => (sb.2 b (fun z => hb (by simp [z]))).trans (hk b ob (fun z => hb (by simp [z])) (fun z => hb (by simp [z])) q)) hf (Nat.le_refl _) new
    refine ⟨.ref s.heap.objs.size, _, I1, rfl, ⟨_, x, _, rfl, I.hok.fresh (Nat.le_refl _), rfl, rfl, fun ys hy => by rw [I.sqx_inj hy hq]; exact hx⟩, ⟨⟨y, ?_⟩, hit'.at fun o q => (sb.2 it (Ne.symm hne)).trans q, hne, hai, hea⟩, fun b hb => ?_⟩
    · have e1 : ((i + 1 : Nat) : Int) = (i : Int) + 1 := by omega
      rw [e1]; exact he'
    · have hb' : b < s.heap.objs.size := by
        have e' : b = e ∨ b = it := by simpa using hb
        rcases e' with z | z
        · rw [z]; exact hel
        · rw [z]; exact hil
      rw [upd_ne (Nat.ne_of_lt hb')]
      exact (hf b hb).1
  done := by
    intro X hP hw hK hc i pins s σ H E I hf st hg
    subst hP hw hK
    obtain ⟨⟨old, he⟩, hit, hne, hai, hea⟩ := st
    obtain ⟨xs, hq, hx⟩ := hg
    obtain ⟨its, rv, p, hal⟩ := I.sqx hq
    obtain ⟨f0, f1, f2, f3, f4, f5⟩ := hf it (by simp)
    have hl := rv.length
    have en : i = its.toArray.size := by simp; omega
    exact wpAny_pyNext_enum_endD (draws_sq (A := X.A.in1) (I.ok.hd hc) k it a hai its.toArray) he ⟨by rw [← en]; exact hit, p⟩ fun h' eb => ⟨rfl, I.turned (t' := s.toks) (fun b o hb q => eb b o hb q) f0 f1 f3 f4 f5⟩
  self := fun A i s Q E st h => let ⟨⟨_, he⟩, _⟩ := st; wpAny_pyIter_enum he h
theorem meets_enumerate_newB1 {v : Value} {o : Obj} {H : Heap → Prop} (B : Begins v o H) :
    Meets (Builtin.«enumerate.__new__» ⟨[.type "enumerate", v], []⟩) (fun _ R s => H s.heap ∧
      R (.ok (.ret (.ref (s.heap.push o).objs.size))) { s with heap := (s.heap.push o).push { cls := .type "enumerate", data := .fields #[.none, .bool false, .ref s.heap.objs.size, rawInt 0, .none, .none] } }) :=
  .of_wp fun prog w A R s h => by
    obtain ⟨hp, g, d, tk, os⟩ := s; obtain ⟨h1, h⟩ := h
    have hsub := sub_enumerate
    have q1 : ∀ {A' : Around} {E : Value → Shared → Prop} {Q : Value → Shared → Prop}, Q (.ref hp.objs.size) ⟨hp.push o, g, d, tk, os⟩ → wpAny (model prog w) A' (pyIter v) Q E ⟨hp, g, d, tk, os⟩ :=
      fun q => B.iter prog w _ _ ⟨hp, g, d, tk, os⟩ _ h1 q
    wp_walk using q1
    refine wpAny_stack_any fun st => wpAny_pure ?_
    split
    · rename_i c _ _ _ _ _
      cases (c == Value.type "enumerate")
      · wp_walk using q1
        exact ⟨_, rfl, h⟩
      · wp_walk using q1
        exact ⟨_, rfl, h⟩
    · wp_walk using q1
      exact ⟨_, rfl, h⟩
theorem call_enumX {prog : Program} {w : World} {A : Around} {E : Value → Shared → Prop} {s : Shared} {v : Value} {o : Obj} {H : Heap → Prop} {Q : Value → Shared → Prop} (B : Begins v o H) (h1 : H s.heap)
    (h : ∀ h', IsEnum h' (s.heap.objs.size + 1) s.heap.objs.size 0 .none → h'.get? s.heap.objs.size = some o → h'.objs.size = s.heap.objs.size + 2 →
      (∀ b o, s.heap.get? b = some o → h'.get? b = some o) → Q (.ref (s.heap.objs.size + 1)) { s with heap := h' }) :
    wpAny (model prog w) A (call (.type "enumerate") [v]) Q E s := by
  refine callType_new PySem.F.called_enumerate (by decide) (PySem.F.typeCall_enumerate_1 _) (PySem.F.newCall_enumerate_1 _) (fun obj => PySem.F.args_object_init_2 obj _) PySem.F.entry_enumerate_new
    (meets_enumerate_newB1 B) ⟨h1, ?_⟩
  have hz : (s.heap.push o).objs.size = s.heap.objs.size + 1 := Heap.size_push ..
  show _ ∧ _
  rw [hz]
  have he : IsEnum ((s.heap.push o).push { cls := .type "enumerate", data := .fields #[.none, .bool false, .ref s.heap.objs.size, rawInt 0, .none, .none] }) (s.heap.objs.size + 1) s.heap.objs.size 0 .none := by
    have := Heap.get?_push_size (s.heap.push o) (o := { cls := .type "enumerate", data := .fields #[.none, .bool false, .ref s.heap.objs.size, rawInt 0, .none, .none] }) rfl
    rw [hz] at this; exact this
  refine ⟨⟨_, he, rfl⟩, h _ he (Heap.get?_push_of_some _ (Heap.get?_push_size _ B.free)) (by rw [Heap.size_push, hz]) fun b o x => Heap.get?_push_of_some _ (Heap.get?_push_of_some _ x)⟩
def iEnumX (K : PySem.W.Frag) (ta : TA) : TI := fun σ H R => ta σ H fun vs H1 => ∃ a k xs, vs = [.ref a] ∧ SqX K H1 k a xs ∧ R (IteX K k a) H1
theorem pi_enumX {X : Cx} {e : Expr} {ta : TA} {p pos tpos : Pos} {elts : List Expr} {kk : Nat} (hg : Gl X "enumerate") (hm : X.mg "enumerate" = none) (ha : PA X [e] ta) (hs : starEach [e] X.env = [(false, eval e X.env)] := by rfl) :
    PI X (.Tuple elts kk tpos) (.Call (.Name "enumerate" p) [e] [] pos) (iEnumX X.K ta) := by
  refine ⟨fun pins s σ H R I h => ?_⟩
  refine Call_ (ld_blt I hg hm boot_enumerate (PyProof.Rows.callWith_type1 (thn (ha.run pos pins s σ H _ I h) fun us s1 ⟨vs, H1, I1, r1, q1⟩ => ?_) hs rfl))
  obtain ⟨a, k, xs, ex, hq, q⟩ := q1
  subst ex
  cases r1 with
  | cons r rr =>
    cases rr
    cases r
    obtain ⟨its, rv, p', hal⟩ := I1.sqx hq
    refine call_enumX (begins_sq k a its.toArray) p' fun h' he hit hsz hk => wpAny_pyIter_enum he ?_
    have I2 : Inv X pins σ H1 { s1 with heap := h' } := I1.kept (t' := s1.toks) hk
    refine ⟨s1.heap.objs.size + 1, [s1.heap.objs.size + 1, s1.heap.objs.size], _, _, H1, rfl, I2, turn_enumX k a (s1.heap.objs.size + 1) s1.heap.objs.size, ⟨⟨.none, he⟩, ItAt.start hit, Nat.succ_ne_self _, Nat.ne_of_lt hal, Nat.ne_of_gt (Nat.lt_succ_of_lt hal)⟩, fun b hb => ?_, q⟩
    have e' : b = s1.heap.objs.size + 1 ∨ b = s1.heap.objs.size := by simpa using hb
    have hle : s1.heap.objs.size ≤ b := by
      rcases e' with z | z
      · rw [z]; exact Nat.le_add_right _ _
      · rw [z]; exact Nat.le_refl _
    exact I1.fpOk hle (I1.hok.fresh hle)

/-! ### zip -/
def ItzX (K : PySem.W.Frag) (k1 k2 : SK) (a b : Addr) : It :=
  ⟨fun i H => ∃ (xs ys : List V) (x y : V), SqX K H k1 a xs ∧ SqX K H k2 b ys ∧ xs[i]? = some x ∧ ys[i]? = some y,
    fun i H v H' => ∃ (T : Addr) (x y : V) (o : Obj), v = .ref T ∧ H T = none ∧ o.dict = none ∧ H' = upd H T (.frz o (.tup [x, y])) ∧ (∀ xs, SqX K H k1 a xs → xs[i]? = some x) ∧ ∀ ys, SqX K H k2 b ys → ys[i]? = some y,
    fun i H => ∃ xs ys : List V, SqX K H k1 a xs ∧ SqX K H k2 b ys ∧ i = min xs.length ys.length⟩
theorem turn_zipX {P : Program} {w : World} {K : PySem.W.Frag} {elts : List Expr} {kk : Nat} {tpos : Pos} (k1 k2 : SK) {a b z TI TO i1 i2 : Addr} (D : ZipSep2 z TI TO i1 i2 [i1, a] [i2, b]) (h1a : a ≠ i1) (h2b : b ≠ i2) :
    Turn P w K (.Tuple elts kk tpos) (ItzX K k1 k2 a b) [z, TI, TO, i1, i2] z (fun i h => IsZip h z TI TO .none ∧ IsTupOf2 h TI (.ref i1) (.ref i2) ∧ (∃ x y, IsTupOf2 h TO x y) ∧ ItAt h k1 i1 a i ∧ ItAt h k2 i2 b i) where
  mem := by simp
  obj := fun i h st c hc => by
    obtain ⟨hz, hTI, ⟨x, y, hTO⟩, h1, h2⟩ := st
    obtain ⟨o1, _, _, e1, _, d1⟩ := h1.obj
    obtain ⟨o2, _, _, e2, _, d2⟩ := h2.obj
    have e' : c = z ∨ c = TI ∨ c = TO ∨ c = i1 ∨ c = i2 := by simpa using hc
    rcases e' with q | q | q | q | q
    · rw [q]; exact ⟨_, hz, fun v q => nomatch q⟩
    · rw [q]; exact ⟨_, hTI, fun v q => nomatch q⟩
    · rw [q]; exact ⟨_, hTO, fun v q => nomatch q⟩
    · rw [q]; exact ⟨o1, e1, fun v q => by rw [d1] at q; cases q⟩
    · rw [q]; exact ⟨o2, e2, fun v q => by rw [d2] at q; cases q⟩
  keep := fun i h h' st k => by
    obtain ⟨hz, hTI, ⟨x, y, hTO⟩, h1, h2⟩ := st
    exact ⟨k z (by simp) _ hz, k TI (by simp) _ hTI, ⟨x, y, k TO (by simp) _ hTO⟩, h1.at fun o q => k i1 (by simp) o q, h2.at fun o q => k i2 (by simp) o q⟩
  item := by
    intro X hP hw hK hc i pins s σ H E I hf st hg
    subst hP hw hK
    obtain ⟨hz, hTI, ⟨x0, y0, hTO⟩, h1, h2⟩ := st
    obtain ⟨xs, ys, x, y, hqx, hqy, hx, hy⟩ := hg
    obtain ⟨its, rv, p, _⟩ := I.sqx hqx
    obtain ⟨its2, rv2, p2, _⟩ := I.sqx hqy
    obtain ⟨u, hu, ru⟩ := rv.get hx
    obtain ⟨u2, hu2, ru2⟩ := rv2.get hy
    have hzl : z < s.heap.objs.size := Heap.lt_size hz
    have hlt1 : i < its.toArray.size := by have := (List.getElem?_eq_some_iff.mp hu).1; simpa using this
    have hlt2 : i < its2.toArray.size := by have := (List.getElem?_eq_some_iff.mp hu2).1; simpa using this
    refine wpAny_pyNext_zipD2_item D (draws_sq (A := X.A.in1) (I.ok.hd hc) k1 i1 a h1a its.toArray) (draws_sq (A := X.A.in1) (I.ok.hd hc) k2 i2 b h2b its2.toArray) hz hTI hTO ⟨h1, p⟩ ⟨h2, p2⟩ hlt1 hlt2 fun w1 w2 h' tk y1 y2 z' TO' ⟨h1', _⟩ ⟨h2', _⟩ hT hsz hk => ?_
    have e1 : w1 = u := by
      have hu' : its.toArray[i]? = some u := by simpa using hu
      rw [hu'] at y1
      exact (Option.some.inj y1).symm
    have e2 : w2 = u2 := by
      have hu' : its2.toArray[i]? = some u2 := by simpa using hu2
      rw [hu'] at y2
      exact (Option.some.inj y2).symm
    subst e1 e2
    refine ⟨_, rfl, wpAny_letOwnedTupleGo_zip (s := { s with heap := h', toks := tk }) z' fun h'' z'' sb => ?_⟩
    have hT2 : h''.get? s.heap.objs.size = some { cls := .type "tuple", data := .seq #[w1, w2] } := (sb.2 _ (Nat.ne_of_gt hzl)).trans hT
    have new : ObjOk X.prog X.w (upd H s.heap.objs.size (.frz { cls := .type "tuple", data := .seq #[w1, w2] } (.tup [x, y]))) h'' s.heap.objs.size (.frz { cls := .type "tuple", data := .seq #[w1, w2] } (.tup [x, y])) :=
      ⟨hT2, by show 2 ≤ sizeLine; decide, [w1, w2], .cons ru (.cons ru2 .nil), ⟨_, hT2, rfl, _, rfl⟩⟩
    have I1 : Inv X pins σ (upd H s.heap.objs.size (.frz { cls := .type "tuple", data := .seq #[w1, w2] } (.tup [x, y]))) { s with heap := h'', toks := tk } :=
      I.turnedNew (ch := [z, TI, TO, i1, i2]) (fun c o hb q => (sb.2 c (fun q' => hb (by simp [q']))).trans (hk c o (fun q' => hb (by simp [q'])) (fun q' => hb (by simp [q'])) (fun q' => hb (by simp [q'])) (fun q' => hb (by simp [q'])) q)) hf (Nat.le_refl _) new
    refine ⟨.ref s.heap.objs.size, _, I1, rfl, ⟨_, x, y, _, rfl, I.hok.fresh (Nat.le_refl _), rfl, rfl, fun l hl => by rw [I.sqx_inj hl hqx]; exact hx, fun l hl => by rw [I.sqx_inj hl hqy]; exact hy⟩, ⟨z'', ?_, ⟨w1, w2, ?_⟩, ?_, ?_⟩, fun c hcm => ?_⟩
    · exact (sb.2 _ D.TIz).trans (hk _ _ D.TIz D.TITO D.TIi1 D.TIi2 hTI)
    · exact (sb.2 _ D.TOz).trans TO'
    · exact h1'.at fun o q => (sb.2 _ (fun e => D.zi1 e.symm)).trans q
    · exact h2'.at fun o q => (sb.2 _ (fun e => D.zi2 e.symm)).trans q
    · have hlt : c < s.heap.objs.size := by
        have e' : c = z ∨ c = TI ∨ c = TO ∨ c = i1 ∨ c = i2 := by simpa using hcm
        obtain ⟨o1, _, _, q1, _⟩ := h1.obj
        obtain ⟨o2, _, _, q2, _⟩ := h2.obj
        rcases e' with q | q | q | q | q
        · rw [q]; exact hzl
        · rw [q]; exact Heap.lt_size hTI
        · rw [q]; exact Heap.lt_size hTO
        · rw [q]; exact Heap.lt_size q1
        · rw [q]; exact Heap.lt_size q2
      rw [upd_ne (Nat.ne_of_lt hlt)]
      exact (hf c hcm).1
  done := by
    intro X hP hw hK hc i pins s σ H E I hf st hg
    subst hP hw hK
    obtain ⟨hz, hTI, ⟨x0, y0, hTO⟩, h1, h2⟩ := st
    obtain ⟨xs, ys, hqx, hqy, hend⟩ := hg
    obtain ⟨its, rv, p, _⟩ := I.sqx hqx
    obtain ⟨its2, rv2, p2, _⟩ := I.sqx hqy
    have l1 := rv.length
    have l2 := rv2.length
    exact wpAny_pyNext_zipD2_end (i := i) D (draws_sq (A := X.A.in1) (I.ok.hd hc) k1 i1 a h1a its.toArray) (draws_sq (A := X.A.in1) (I.ok.hd hc) k2 i2 b h2b its2.toArray) hz hTI hTO ⟨h1, p⟩ ⟨h2, p2⟩ (by simp; omega) (by simp; omega) (by simp; omega)
      fun h' tk hk => ⟨rfl, I.turnedL (t' := tk) (ch := [z, TI, TO, i1, i2]) (fun c o hb q =>
        hk c o (fun q' => hb (by simp [q'])) (fun q' => hb (by simp [q'])) (fun q' => hb (by simp [q'])) (fun q' => hb (by simp [q'])) q) hf⟩
  self := fun A i s Q E st h => wpAny_pyIter_zip st.1 h
def iZipX (K : PySem.W.Frag) (ta : TA) : TI := fun σ H R => ta σ H fun vs H1 => ∃ a b k1 k2 xs ys, vs = [.ref a, .ref b] ∧ SqX K H1 k1 a xs ∧ SqX K H1 k2 b ys ∧ R (ItzX K k1 k2 a b) H1
theorem pi_zipX {X : Cx} {e e2 : Expr} {ta : TA} {p pos tpos : Pos} {elts : List Expr} {kk : Nat} (hg : Gl X "zip") (hm : X.mg "zip" = none) (ha : PA X [e, e2] ta)
    (hs : starEach [e, e2] X.env = (false, eval e X.env) :: starEach [e2] X.env := by rfl) (hpl : (backTo pos (starEach [e2] X.env)).any (·.1) = false := by rfl) :
    PI X (.Tuple elts kk tpos) (.Call (.Name "zip" p) [e, e2] [] pos) (iZipX X.K ta) := by
  refine ⟨fun pins s σ H R I h => ?_⟩
  refine Call_ (ld_blt I hg hm PyProof.Rows.boot_zip (PyProof.Rows.callWith_type1 (thn (ha.run pos pins s σ H _ I h) fun us s1 ⟨vs, H1, I1, r1, q1⟩ => ?_) hs hpl))
  obtain ⟨a, b, k1, k2, xs, ys, ex, hqx, hqy, q⟩ := q1
  subst ex
  cases r1 with
  | cons r rr =>
    cases rr with
    | cons r' rr =>
      cases rr
      cases r
      cases r'
      obtain ⟨its, rv, p1, la⟩ := I1.sqx hqx
      obtain ⟨its2, rv2, p2, lb⟩ := I1.sqx hqy
      refine zip_begins2 (begins_sq k1 a its.toArray) (begins_sq k2 b its2.toArray) p1 p2 fun h' hz hTI hTO h1 h2 hsz hk => wpAny_pyIter_zip hz ?_
      have I2 : Inv X pins σ H1 { s1 with heap := h' } := I1.kept (t' := s1.toks) hk
      have sep : ZipSep2 (s1.heap.objs.size + 4) (s1.heap.objs.size + 2) (s1.heap.objs.size + 3) s1.heap.objs.size (s1.heap.objs.size + 1) [s1.heap.objs.size, a] [s1.heap.objs.size + 1, b] :=
        zip_sep2 (fun c hc => by have : c = a := by simpa using hc
                                 subst this; exact la) (fun c hc => by have : c = b := by simpa using hc
                                                                       subst this; exact lb)
      refine ⟨s1.heap.objs.size + 4, [s1.heap.objs.size + 4, s1.heap.objs.size + 2, s1.heap.objs.size + 3, s1.heap.objs.size, s1.heap.objs.size + 1], _, _, H1, rfl, I2,
        turn_zipX k1 k2 sep (Nat.ne_of_lt la) (Nat.ne_of_lt (Nat.lt_succ_of_lt lb)), ⟨hz, hTI, ⟨_, _, hTO⟩, ItAt.start h1, ItAt.start h2⟩, fun c hcm => ?_, q⟩
      have e' : c = s1.heap.objs.size + 4 ∨ c = s1.heap.objs.size + 2 ∨ c = s1.heap.objs.size + 3 ∨ c = s1.heap.objs.size ∨ c = s1.heap.objs.size + 1 := by simpa using hcm
      have hle : s1.heap.objs.size ≤ c := by
        rcases e' with z | z | z | z | z
        · rw [z]; exact Nat.le_add_right _ _
        · rw [z]; exact Nat.le_add_right _ _
        · rw [z]; exact Nat.le_add_right _ _
        · rw [z]; exact Nat.le_refl _
        · rw [z]; exact Nat.le_add_right _ _
      exact I1.fpOk hle (I1.hok.fresh hle)
end Dn
/-! DnH: targets, what a loop walks, comprehensions. -/
namespace Dn
open PySem PySem.Spec PyProof.Rows L2
/-! ### targets -/
def pR (K : PySem.W.Frag) (js : List Nat) (σ0 : L2.St) : Hp → Hp → List Addr → Hp → Rho → L2.St → Prop := fun _ F ι _ ρ σ => REnv K F ι ρ σ ∧ ∀ vs : List Nat, (∀ j, j ∈ js → j ∈ vs) → wipe σ vs = wipe σ0 vs
theorem back_R {K : PySem.W.Frag} {js : List Nat} {σ0 : L2.St} : Back (pR K js σ0) := fun _ _ _ _ _ _ _ _ h => h
def tGt (K : PySem.W.Frag) (js : List Nat) (gf : D → Rho → M Rho) : TG := fun v σ H Q => ∃ F ι ρ st d, Sim K F ι st H ∧ REnv K F ι ρ σ ∧ Rep K F ι d v ∧ post K wN σ F ι H (pR K js σ) (gf d ρ st) Q
def DG (X : Cx) (js : List Nat) (e : Expr) (gf : D → Rho → M Rho) : Prop := PG X e (tGt X.K js gf)
theorem PG.weak {X : Cx} {e : Expr} {t t' : TG} (h : PG X e t) (w : ∀ v σ H Q, t' v σ H Q → t v σ H Q) : PG X e t' := ⟨fun pins s σ H v u Q I r q => h.run pins s σ H v u Q I r (w v σ H Q q)⟩
theorem wipe_set {σ : L2.St} {i : Nat} {x : Option V} : ∀ {vs : List Nat}, i ∈ vs → wipe (σ.set i x) vs = wipe σ vs
  | v :: vs, h => by
    show (wipe (σ.set i x) vs).set v none = (wipe σ vs).set v none
    by_cases hm : i ∈ vs
    · rw [wipe_set hm]
    · have e : i = v := by
        rcases List.mem_cons.mp h with e | e
        · exact e
        · exact absurd e hm
      subst e
      have key : ∀ (vs : List Nat), i ∉ vs → wipe (σ.set i x) vs = (wipe σ vs).set i x := by
        intro vs
        induction vs with
        | nil => intro _; rfl
        | cons u us ih =>
          intro h
          have h1 : i ≠ u := fun e => h (by simp [e])
          have h2 : i ∉ us := fun e => h (List.mem_cons_of_mem _ e)
          show (wipe (σ.set i x) us).set u none = ((wipe σ us).set u none).set i x
          rw [ih h2, List.set_comm _ _ h1]
      rw [key vs hm, List.set_set]
def gN (i : Nat) : D → Rho → M Rho := fun d ρ st => .ok (ρ.set i (some d)) st
theorem dg_name {X : Cx} {pos : Pos} {i : Nat} {x : Str} (hN : X.N.Nodup) (hi : X.N[i]? = some x) (hx : Loc X.env.scope x) (hf : X.fn x = true ∨ X.env.scope.names.lookup x = some .local := by first | exact .inl rfl | exact .inr rfl | assumption) : DG X [i] (.Name x pos) (gN i) :=
  PG.weak (pg_name hN hi hx hf) fun v σ H Q ⟨F, ι, ρ, st, d, S, R, r, q⟩ =>
    q F ι H _ Ext.refl S ⟨R.set r i, fun vs h => wipe_set (h i (by simp))⟩
def tGts (K : PySem.W.Frag) (js : List Nat) (gf : List D → Rho → M Rho) : TGs := fun vs σ H Q => ∃ F ι ρ st ds, Sim K F ι st H ∧ REnv K F ι ρ σ ∧ Reps K F ι ds vs ∧ post K wN σ F ι H (pR K js σ) (gf ds ρ st) Q
def DGs (X : Cx) (js : List Nat) (es : List Expr) (gf : List D → Rho → M Rho) : Prop := PGs X es (tGts X.K js gf)
theorem PGs.weak {X : Cx} {e : List Expr} {t t' : TGs} (h : PGs X e t) (w : ∀ v σ H Q, t' v σ H Q → t v σ H Q) : PGs X e t' := ⟨fun pins s σ H v u Q I r q => h.run pins s σ H v u Q I r (w v σ H Q q)⟩
def gsNil : List D → Rho → M Rho := fun ds ρ st => match ds with
  | [] => .ok ρ st
  | _ => .bad
def gsCons (g : D → Rho → M Rho) (gs : List D → Rho → M Rho) : List D → Rho → M Rho := fun ds ρ st => match ds with
  | d :: r => (g d ρ st).bind fun ρ1 st1 => gs r ρ1 st1
  | [] => .bad
theorem dgs_nil {X : Cx} : DGs X [] [] gsNil := by
  refine PGs.weak pgs_nil fun vs σ H Q ⟨F, ι, ρ, st, ds, S, R, r, q⟩ => ?_
  unfold gsNil at q
  split at q
  · simp only [Reps] at r
    exact ⟨r, q F ι H σ Ext.refl S ⟨R, fun _ _ => rfl⟩⟩
  · exact q.elim
theorem dgs_cons {X : Cx} {e : Expr} {es : List Expr} {j1 j2 : List Nat} {g : D → Rho → M Rho} {gs : List D → Rho → M Rho} (h1 : DG X j1 e g) (h2 : DGs X j2 es gs)
    (hs : (assignEach (e :: es) X.env).map (·.2) = assign e X.env :: (assignEach es X.env).map (·.2) := by rfl) : DGs X (j1 ++ j2) (e :: es) (gsCons g gs) := by
  refine PGs.weak (pgs_cons h1 h2 hs) fun vs σ H Q ⟨F, ι, ρ, st, ds, S, R, r, q⟩ => ?_
  unfold gsCons at q
  split at q
  · rename_i d ds'
    simp only [Reps] at r
    obtain ⟨v, vr, e, r1, r2⟩ := r
    refine ⟨v, vr, e, F, ι, ρ, st, d, S, R, r1, ?_⟩
    refine post_seq back_R q fun ρ1 st1 F1 ι1 H1 σ1 _ x1 S1 ⟨R1, k1⟩ q1 => ?_
    refine ⟨F1, ι1, ρ1, st1, ds', S1, R1, Reps.ext r2 x1, ?_⟩
    generalize gs ds' ρ1 st1 = rr at q1
    cases rr with
    | ok ρ2 st2 => exact fun F' ι' H' σ' y S' ⟨R', k'⟩ => q1 F' ι' H' σ' y S' ⟨R', fun vs hv => (k' vs fun j hj => hv j (List.mem_append_right _ hj)).trans (k1 vs fun j hj => hv j (List.mem_append_left _ hj))⟩
    | exc x st2 => exact fun F' ι' H' c d y S' r => (q1 F' ι' H' c d y S' r : False).elim
    | bad => exact q1
  · exact q.elim
/-- a tuple target, for a tuple -/
def gT (n : Nat) (gs : List D → Rho → M Rho) : D → Rho → M Rho := fun d ρ st => match d with
  | .tup xs => if xs.length = n then gs xs ρ st else .bad
  | _ => .bad
theorem dg_tup {X : Cx} {pos : Pos} {es : List Expr} {k n : Nat} {js : List Nat} {gs : List D → Rho → M Rho} (hc : X.calm = true) (h : DGs X js es gs)
    (hn : (assignEach es X.env).length = n := by rfl) (hst : (assignEach es X.env).findIdx? (·.1) = none := by rfl) : DG X js (.Tuple es k pos) (gT n gs) := by
  refine PG.weak (pg_tup hc h hn hst) fun v σ H Q ⟨F, ι, ρ, st, d, S, R, r, q⟩ => ?_
  unfold gT at q
  split at q
  · split at q
    · rename_i xs hl
      simp only [Rep] at r
      obtain ⟨a, vs, e, h, rr⟩ := r
      exact ⟨a, vs, e, S.sqT h, by rw [← rr.length]; exact hl, F, ι, ρ, st, xs, S, R, rr, q⟩
    · exact q.elim
  · exact q.elim

/-! ### what is walked -/
structure Src where
  items : List D
  held : List (Nat × List D)
def heldOk (held : List (Nat × List D)) (st : Sto) : Prop := ∀ p, p ∈ held → st[p.1]? = some (.lst p.2)
@[simp] theorem heldOk_nil (st : Sto) : heldOk [] st ↔ True := ⟨fun _ => trivial, fun _ _ h => by cases h⟩
@[simp] theorem heldOk_one (l : Nat) (xs : List D) (st : Sto) : heldOk [(l, xs)] st ↔ st[l]? = some (.lst xs) := by
  constructor
  · intro h; exact h (l, xs) (by simp)
  · intro h p hp
    have : p = (l, xs) := by simpa using hp
    subst this; exact h
structure Grow (F : Hp) (ι : List Addr) (F' : Hp) (ι' : List Addr) : Prop where
  f : ∀ a o, F a = some o → F' a = some o
  i : ∀ (l : Nat) (a : Addr), ι[l]? = some a → ι'[l]? = some a
theorem Ext.grow {F : Hp} {ι : List Addr} {H F' : Hp} {ι' : List Addr} {H' : Hp} (x : Ext F ι H F' ι' H') : Grow F ι F' ι' := ⟨x.f, x.i⟩
/-- the iterator J gives the items, while what is held stands as it was -/
structure SrcIt (K : PySem.W.Frag) (F : Hp) (ι : List Addr) (src : Src) (J : It) : Prop where
  go : ∀ (i : Nat) F' ι' st' H', Grow F ι F' ι' → Sim K F' ι' st' H' → heldOk src.held st' → i < src.items.length → J.go i H'
  stop : ∀ F' ι' st' H', Grow F ι F' ι' → Sim K F' ι' st' H' → heldOk src.held st' → J.stop src.items.length H'
  yld : ∀ (i : Nat) F' ι' st' H' x H2 d, Grow F ι F' ι' → Sim K F' ι' st' H' → heldOk src.held st' → src.items[i]? = some d → J.yld i H' x H2 → ∃ F2, Ext F' ι' H' F2 ι' H2 ∧ Sim K F2 ι' st' H2 ∧ Rep K F2 ι' d x
def pI (K : PySem.W.Frag) : Hp → Hp → List Addr → Hp → Src → It → Prop := fun _ F ι _ src J => SrcIt K F ι src J
theorem back_I {K : PySem.W.Frag} : Back (pI K) := fun _ _ _ _ _ _ _ _ h => h
def DI (X : Cx) (W : WX) (tg iter : Expr) (ms : Rho → M Src) : Prop := PI X tg iter (tG X.K W (pI X.K) ms)
theorem PI.weak {X : Cx} {tg e : Expr} {t t' : TI} (h : PI X tg e t) (w : ∀ σ H Q, t' σ H Q → t σ H Q) : PI X tg e t' := ⟨fun pins s σ H Q I q => h.run pins s σ H Q I (w σ H Q q)⟩
/-- a list or a tuple as a source -/
def srcOf (st : Sto) : D → Option Src
  | .tup xs => some ⟨xs, []⟩
  | .lst xs => some ⟨xs, []⟩
  | .scr xs => some ⟨xs, []⟩
  | .ref l => match st[l]? with
    | some (.lst xs) => some ⟨xs, [(l, xs)]⟩
    | _ => none
  | _ => none
/-- .. as it lies there -/
theorem src_sq {K : PySem.W.Frag} {F : Hp} {ι : List Addr} {d : D} {v : V} {st : Sto} {H : Hp} {src : Src} (S : Sim K F ι st H) (r : Rep K F ι d v) (h : srcOf st d = some src) :
    ∃ k a, v = .ref a ∧ (∃ vs, SqX K H k a vs) ∧ ∀ F' ι' st' H', Grow F ι F' ι' → Sim K F' ι' st' H' → heldOk src.held st' → ∃ vs, SqX K H' k a vs ∧ Reps K F' ι' src.items vs := by
  unfold srcOf at h
  split at h
  · cases h
    simp only [Rep] at r
    obtain ⟨a, vs, e, hq, rr⟩ := r
    exact ⟨.t, a, e, ⟨vs, S.sqT hq⟩, fun F' ι' st' H' g S' _ => ⟨vs, S'.sqT (SqP.mono hq g.f), Reps.mono g.f g.i _ _ rr⟩⟩
  · cases h
    simp only [Rep] at r
    obtain ⟨a, vs, e, hq, rr⟩ := r
    exact ⟨.l, a, e, ⟨vs, SqL.of (S.sub _ _ hq)⟩, fun F' ι' st' H' g S' _ => ⟨vs, SqL.of (S'.sub _ _ (g.f _ _ hq)), Reps.mono g.f g.i _ _ rr⟩⟩
  · cases h
    simp only [Rep] at r
    obtain ⟨a, vs, e, hq, rr⟩ := r
    exact ⟨.l, a, e, ⟨vs, S.sqL hq⟩, fun F' ι' st' H' g S' _ => ⟨vs, S'.sqL (SqL.mono hq g.f), Reps.mono g.f g.i _ _ rr⟩⟩
  · rename_i l
    split at h
    · rename_i xs e1
      cases h
      simp only [Rep] at r
      obtain ⟨a, e, hi⟩ := r
      obtain ⟨vs, hv, _⟩ := S.obj l _ a e1 hi
      refine ⟨.l, a, e, ⟨vs, SqL.of hv⟩, fun F' ι' st' H' g S' ho => ?_⟩
      obtain ⟨ws, hw, rw'⟩ := S'.obj l _ a (ho (l, xs) (by simp)) (g.i l a hi)
      exact ⟨ws, SqL.of hw, rw'⟩
    · cases h
  · cases h
def ItX (K : PySem.W.Frag) : SK → Addr → It
  | .l, a => Itl K a
  | .t, a => Itt K a
def iSqX (K : PySem.W.Frag) (tl : TE) : TI := fun σ H R => tl σ H fun x H1 => ∃ k a, x = .ref a ∧ (∃ xs, SqX K H1 k a xs) ∧ R (ItX K k a) H1
theorem pi_sqX {X : Cx} {tg l : Expr} {tl : TE} (hl : PE X l tl) : PI X tg l (iSqX X.K tl) := by
  refine ⟨fun pins s σ H R I h => ?_⟩
  refine thn (hl.run pins s σ H _ I h) fun v s1 ⟨x, H1, I1, r1, q1⟩ => ?_
  obtain ⟨k, a, e, ⟨xs, hq⟩, q⟩ := q1
  subst e
  cases r1
  have fp : ∀ b, b ∈ [s1.heap.objs.size] → FpOk X pins H1 b := fun b hb => by
    have e : b = s1.heap.objs.size := by simpa using hb
    subst e
    exact I1.fpOk (Nat.le_refl _) (I1.hok.fresh (Nat.le_refl _))
  cases k with
  | l =>
    obtain ⟨its, rv, p, hz⟩ := I1.list hq
    refine wpAny_pyIter_list p.isList ?_
    exact ⟨s1.heap.objs.size, [s1.heap.objs.size], _, _, H1, rfl, I1.kept (t' := s1.toks) fun b o e => Heap.get?_push_of_some _ e, turn_list a _, ⟨_, Heap.get?_push_size _ rfl, rfl, rfl⟩, fp, q⟩
  | t =>
    obtain ⟨its, rv, p, hz⟩ := I1.tuple hq
    refine wpAny_pyIter_tuple (show s1.heap.IsTuple a its.toArray from p) ?_
    exact ⟨s1.heap.objs.size, [s1.heap.objs.size], _, _, H1, rfl, I1.kept (t' := s1.toks) fun b o e => Heap.get?_push_of_some _ e, turn_tuple a _, ⟨_, Heap.get?_push_size _ rfl, rfl, rfl⟩, fp, q⟩
def iSeq (m : Rho → M D) : Rho → M Src := fun ρ st => (m ρ st).bind fun d st1 => lift (srcOf st1 d) st1
section
variable {X : Cx} {W : WX} {pos p2 p : Pos} {tg e e2 : Expr} {m1 m2 m3 : Rho → M D} {am : Rho → M (List D)}
theorem di_seq (h : DE X W e m1) : DI X W tg e (iSeq m1) := by
  refine PI.weak (pi_sqX h) fun σ H Q ⟨F, ι, ρ, st, S, R, q⟩ => ?_
  refine tG_seq back_I S R q fun d st1 F1 ι1 H1 v1 x1 S1 R1 r1 q1 => ?_
  cases e1 : srcOf st1 d with
  | none => rw [e1] at q1; exact q1.elim
  | some src =>
    rw [e1] at q1
    obtain ⟨k, a, e, hs, hk⟩ := src_sq S1 r1 e1
    refine ⟨k, a, e, hs, q1 F1 ι1 H1 (ItX X.K k a) Ext.refl S1 ⟨fun i F' ι' st' H' g S' ho hi => ?_, fun F' ι' st' H' g S' ho => ?_, fun i F' ι' st' H' x H2 d g S' ho hd y => ?_⟩⟩
    · obtain ⟨vs, hv, rv⟩ := hk F' ι' st' H' g S' ho
      obtain ⟨v, q, _⟩ := rv.get (List.getElem?_eq_getElem hi)
      cases k with
      | l => exact ⟨vs, v, hv, q⟩
      | t => exact ⟨vs, v, hv, q⟩
    · obtain ⟨vs, hv, rv⟩ := hk F' ι' st' H' g S' ho
      cases k with
      | l => exact ⟨vs, hv, Nat.le_of_eq rv.length.symm⟩
      | t => exact ⟨vs, hv, Nat.le_of_eq rv.length.symm⟩
    · obtain ⟨vs, hv, rv⟩ := hk F' ι' st' H' g S' ho
      cases k with
      | l =>
        obtain ⟨e, y⟩ := y
        subst e
        exact ⟨F', Ext.refl, S', rv.at hd (y vs hv)⟩
      | t =>
        obtain ⟨e, y⟩ := y
        subst e
        exact ⟨F', Ext.refl, S', rv.at hd (y vs hv)⟩
/-- the numbers from lo, n of them -/
def rngD (lo : Int) (n : Nat) : List D := (List.range n).map fun i : Nat => .int (lo + (i : Int))
theorem rngD_length (lo : Int) (n : Nat) : (rngD lo n).length = n := by unfold rngD; simp
theorem rngD_get {lo : Int} {n i : Nat} {d : D} (h : (rngD lo n)[i]? = some d) : d = .int (lo + (i : Int)) := by
  unfold rngD at h
  rw [List.getElem?_map] at h
  cases e : (List.range n)[i]? with
  | none => rw [e] at h; cases h
  | some j =>
    rw [e] at h
    have := List.getElem?_eq_some_iff.mp e
    obtain ⟨h1, h2⟩ := this
    rw [List.getElem_range] at h2
    subst h2
    exact (Option.some.inj h).symm
theorem src_range {K : PySem.W.Frag} {F : Hp} {ι : List Addr} {lo : Int} {n : Nat} : SrcIt K F ι ⟨rngD lo n, []⟩ (Itr lo n) := by
  refine ⟨fun i F' ι' st' H' g S' ho hi => ?_, fun F' ι' st' H' g S' ho => ?_, fun i F' ι' st' H' x H2 d g S' ho hd y => ?_⟩
  · have hi' : i < (rngD lo n).length := hi
    rw [rngD_length] at hi'
    exact hi'
  · show n ≤ (rngD lo n).length
    rw [rngD_length]
    exact Nat.le_refl _
  · obtain ⟨e, y⟩ := y
    subst e y
    have hd' := rngD_get hd
    subst hd'
    exact ⟨F', Ext.refl, S', by simp only [Rep]⟩
noncomputable def rng1 : D → Option Src
  | .int j => @ite _ (-(2 ^ 62) ≤ j ∧ j < 2 ^ 62) (Classical.propDecidable _) (some ⟨rngD 0 j.toNat, []⟩) (none)
  | _ => none
noncomputable def rng2 : D → D → Option Src
  | .int i, .int j => @ite _ (-(2 ^ 62) ≤ i ∧ i < 2 ^ 62 ∧ -(2 ^ 62) ≤ j ∧ j < 2 ^ 62) (Classical.propDecidable _) (some ⟨rngD i (j - i).toNat, []⟩) (none)
  | _, _ => none
noncomputable def iRng1D (m : Rho → M D) : Rho → M Src := fun ρ st => (m ρ st).bind fun d st1 => lift (rng1 d) st1
noncomputable def iRng2D (m1 m2 : Rho → M D) : Rho → M Src := fun ρ st => (m1 ρ st).bind fun d1 st1 => (m2 ρ st1).bind fun d2 st2 => lift (rng2 d1 d2) st2
theorem di_range1 (hg : Gl X "range") (hm : X.mg "range" = none) (h : DE X W e m1) (hs : starEach [e] X.env = [(false, eval e X.env)] := by rfl) : DI X W tg (.Call (.Name "range" p) [e] [] pos) (iRng1D m1) := by
  have ha : PA X [e] (tCons (tV X.K W m1) tNil) := pa_cons h pa_nil hs
  refine PI.weak (pi_range1 hg hm ha hs) fun σ H Q ⟨F, ι, ρ, st, S, R, q⟩ => ?_
  refine tG_seq back_I S R q fun d st1 F1 ι1 H1 v1 x1 S1 R1 r1 q1 => ?_
  unfold rng1 at q1
  split at q1
  · rename_i j
    split at q1
    · rename_i hb
      have rv : Rep X.K F1 ι1 (.int j) v1 := r1
      simp only [Rep] at rv
      exact ⟨j, by rw [rv], hb.1, hb.2, q1 F1 ι1 H1 _ Ext.refl S1 src_range⟩
    · exact q1.elim
  · exact q1.elim
theorem di_range2 (hg : Gl X "range") (hm : X.mg "range" = none) (h : DE X W e m1) (h' : DE X W e2 m2) (hs : starEach [e, e2] X.env = [(false, eval e X.env), (false, eval e2 X.env)] := by rfl) (hs2 : starEach [e2] X.env = [(false, eval e2 X.env)] := by rfl) :
    DI X W tg (.Call (.Name "range" p) [e, e2] [] pos) (iRng2D m1 m2) := by
  have ha : PA X [e, e2] (tCons (tV X.K W m1) (tCons (tV X.K W m2) tNil)) := pa_cons h (pa_cons h' pa_nil hs2) (by rw [hs, hs2])
  refine PI.weak (pi_range2 hg hm ha hs hs2) fun σ H Q ⟨F, ι, ρ, st, S, R, q⟩ => ?_
  refine tG_seq back_I S R q fun d1 st1 F1 ι1 H1 v1 x1 S1 R1 r1 q1 => ?_
  refine tG_seq back_I S1 R1 q1 fun d2 st2 F2 ι2 H2 v2 x2 S2 R2 r2 q2 => ?_
  unfold rng2 at q2
  split at q2
  · rename_i i j
    split at q2
    · rename_i hb
      have rv : Rep X.K F1 ι1 (.int i) v1 := r1
      have rv' : Rep X.K F2 ι2 (.int j) v2 := r2
      simp only [Rep] at rv rv'
      exact ⟨i, j, by rw [rv, rv'], hb, q2 F2 ι2 H2 _ Ext.refl S2 src_range⟩
    · exact q2.elim
  · exact q2.elim
/-- enumerate -/
def enumD (n : Nat) : List D → List D
  | [] => []
  | d :: r => .tup [.int (n : Int), d] :: enumD (n + 1) r
theorem enumD_length : ∀ (xs : List D) (n : Nat), (enumD n xs).length = xs.length
  | [], _ => rfl
  | _ :: r, n => by rw [enumD, List.length_cons, List.length_cons, enumD_length r]
theorem enumD_get : ∀ {xs : List D} {n i : Nat} {d : D}, (enumD n xs)[i]? = some d → ∃ x, xs[i]? = some x ∧ d = .tup [.int ((n + i : Nat) : Int), x]
  | [], _, _, _, h => by simp [enumD] at h
  | x :: r, n, 0, d, h => by
    simp [enumD] at h
    exact ⟨x, rfl, h.symm⟩
  | x :: r, n, i + 1, d, h => by
    rw [enumD, List.getElem?_cons_succ] at h
    obtain ⟨y, h1, h2⟩ := enumD_get h
    exact ⟨y, by simpa using h1, by rw [h2]; congr 4; omega⟩
def iEnumD (m : Rho → M D) : Rho → M Src := fun ρ st => (m ρ st).bind fun d st1 => (lift (srcOf st1 d) st1).bind fun src st2 => .ok ⟨enumD 0 src.items, src.held⟩ st2
/-- a new pair that an iterator makes -/
theorem new_pair {K : PySem.W.Frag} {F : Hp} {ι : List Addr} {st : Sto} {H : Hp} {T : Addr} {d1 d2 : D} {v1 v2 : V} {o : Obj} (S : Sim K F ι st H) (hT : H T = none) (ho : o.dict = none) (r1 : Rep K F ι d1 v1) (r2 : Rep K F ι d2 v2) :
    ∃ F2, Ext F ι H F2 ι (upd H T (.frz o (.tup [v1, v2]))) ∧ Sim K F2 ι st (upd H T (.frz o (.tup [v1, v2]))) ∧ Rep K F2 ι (.tup [d1, d2]) (.ref T) := by
  have x : Ext F ι H (upd F T (.frz o (.tup [v1, v2]))) ι (upd H T (.frz o (.tup [v1, v2]))) := Ext.frozen hT S.sub
  refine ⟨_, x, S.frozen hT trivial, ?_⟩
  simp only [Rep]
  exact ⟨T, [v1, v2], rfl, .inl ⟨o, ho, upd_same⟩, Reps.cons (r1.ext x) (Reps.cons (r2.ext x) Reps.nil)⟩
theorem di_enum {elts : List Expr} {kk : Nat} {tpos : Pos} (hg : Gl X "enumerate") (hm : X.mg "enumerate" = none) (h : DE X W e m1) (hs : starEach [e] X.env = [(false, eval e X.env)] := by rfl) : DI X W (.Tuple elts kk tpos) (.Call (.Name "enumerate" p) [e] [] pos) (iEnumD m1) := by
  have ha : PA X [e] (tCons (tV X.K W m1) tNil) := pa_cons h pa_nil hs
  refine PI.weak (pi_enumX hg hm ha hs) fun σ H Q ⟨F, ι, ρ, st, S, R, q⟩ => ?_
  refine tG_seq back_I S R q fun d st1 F1 ι1 H1 v1 x1 S1 R1 r1 q1 => ?_
  cases e1 : srcOf st1 d with
  | none => rw [e1] at q1; exact q1.elim
  | some src =>
    rw [e1] at q1
    obtain ⟨k, a, e, ⟨vs, hs⟩, hk⟩ := src_sq S1 r1 e1
    refine ⟨a, k, vs, by rw [e], hs, q1 F1 ι1 H1 (IteX X.K k a) Ext.refl S1 ⟨fun i F' ι' st' H' g S' ho hi => ?_, fun F' ι' st' H' g S' ho => ?_, fun i F' ι' st' H' x H2 d g S' ho hd y => ?_⟩⟩
    · obtain ⟨vs, hv, rv⟩ := hk F' ι' st' H' g S' ho
      have hi' : i < src.items.length := by
        have h0 : i < (enumD 0 src.items).length := hi
        rw [enumD_length] at h0
        exact h0
      obtain ⟨v, q, _⟩ := rv.get (List.getElem?_eq_getElem hi')
      exact ⟨vs, v, hv, q⟩
    · obtain ⟨vs, hv, rv⟩ := hk F' ι' st' H' g S' ho
      exact ⟨vs, hv, by rw [← rv.length]; exact (enumD_length _ _).symm⟩
    · obtain ⟨vs, hv, rv⟩ := hk F' ι' st' H' g S' ho
      obtain ⟨T, z, o, ex, hT, hd0, eH, y⟩ := y
      obtain ⟨w, hw, ed⟩ := enumD_get hd
      subst ex eH ed
      have e0 : ((0 + i : Nat) : Int) = (i : Int) := by omega
      rw [e0]
      exact new_pair S' hT hd0 (by simp only [Rep]) (rv.at hw (y vs hv))
/-- zip -/
def zipD : List D → List D → List D
  | x :: xs, y :: ys => .tup [x, y] :: zipD xs ys
  | _, _ => []
theorem zipD_length : ∀ (xs ys : List D), (zipD xs ys).length = min xs.length ys.length
  | x :: xs, y :: ys => by rw [zipD, List.length_cons, List.length_cons, List.length_cons, zipD_length xs ys]; omega
  | [], _ => by simp [zipD]
  | _ :: _, [] => by simp [zipD]
theorem zipD_get : ∀ {xs ys : List D} {i : Nat} {d : D}, (zipD xs ys)[i]? = some d → ∃ x y, xs[i]? = some x ∧ ys[i]? = some y ∧ d = .tup [x, y]
  | [], _, _, _, h => by simp [zipD] at h
  | _ :: _, [], _, _, h => by simp [zipD] at h
  | x :: xs, y :: ys, 0, d, h => by
    simp [zipD] at h
    exact ⟨x, y, rfl, rfl, h.symm⟩
  | x :: xs, y :: ys, i + 1, d, h => by
    rw [zipD, List.getElem?_cons_succ] at h
    obtain ⟨a, b, h1, h2, h3⟩ := zipD_get h
    exact ⟨a, b, by simpa using h1, by simpa using h2, h3⟩
def iZipD (m1 m2 : Rho → M D) : Rho → M Src := fun ρ st => (m1 ρ st).bind fun d1 st1 => (m2 ρ st1).bind fun d2 st2 => (lift (srcOf st2 d1) st2).bind fun s1 st3 => (lift (srcOf st3 d2) st3).bind fun s2 st4 => .ok ⟨zipD s1.items s2.items, s1.held ++ s2.held⟩ st4
theorem di_zip {elts : List Expr} {kk : Nat} {tpos : Pos} (hg : Gl X "zip") (hm : X.mg "zip" = none) (h : DE X W e m1) (h' : DE X W e2 m2) (hs : starEach [e, e2] X.env = (false, eval e X.env) :: starEach [e2] X.env := by rfl) (hs2 : starEach [e2] X.env = (false, eval e2 X.env) :: starEach [] X.env := by rfl) (hpl : (backTo pos (starEach [e2] X.env)).any (·.1) = false := by rfl) :
    DI X W (.Tuple elts kk tpos) (.Call (.Name "zip" p) [e, e2] [] pos) (iZipD m1 m2) := by
  have ha : PA X [e, e2] (tCons (tV X.K W m1) (tCons (tV X.K W m2) tNil)) := pa_cons h (pa_cons h' pa_nil hs2) hs
  refine PI.weak (pi_zipX hg hm ha hs hpl) fun σ H Q ⟨F, ι, ρ, st, S, R, q⟩ => ?_
  refine tG_seq back_I S R q fun d1 st1 F1 ι1 H1 v1 x1 S1 R1 r1 q1 => ?_
  refine tG_seq back_I S1 R1 q1 fun d2 st2 F2 ι2 H2 v2 x2 S2 R2 r2 q2 => ?_
  cases e1 : srcOf st2 d1 with
  | none => rw [e1] at q2; exact q2.elim
  | some s1 =>
    rw [e1] at q2
    have q2 : post X.K W σ F2 ι2 H2 (pI X.K) ((lift (srcOf st2 d2) st2).bind fun s2 st4 => .ok ⟨zipD s1.items s2.items, s1.held ++ s2.held⟩ st4) Q := q2
    cases e3 : srcOf st2 d2 with
    | none => rw [e3] at q2; exact q2.elim
    | some s2 =>
      rw [e3] at q2
      obtain ⟨k1, a1, ea1, ⟨vs1, hv1⟩, hk1⟩ := src_sq S2 (Rep.ext r1 x2) e1
      obtain ⟨k2, a2, ea2, ⟨vs2, hv2⟩, hk2⟩ := src_sq S2 r2 e3
      have sp : ∀ st', heldOk (s1.held ++ s2.held) st' → heldOk s1.held st' ∧ heldOk s2.held st' := fun st' ho => ⟨fun p hp => ho p (List.mem_append_left _ hp), fun p hp => ho p (List.mem_append_right _ hp)⟩
      refine ⟨a1, a2, k1, k2, vs1, vs2, by rw [ea1, ea2], hv1, hv2, q2 F2 ι2 H2 (ItzX X.K k1 k2 a1 a2) Ext.refl S2 ⟨fun i F' ι' st' H' g S' ho hi => ?_, fun F' ι' st' H' g S' ho => ?_, fun i F' ι' st' H' x H3 d g S' ho hd y => ?_⟩⟩
      · obtain ⟨w1, q1, rv1⟩ := hk1 F' ι' st' H' g S' (sp st' ho).1
        obtain ⟨w2, q2, rv2⟩ := hk2 F' ι' st' H' g S' (sp st' ho).2
        have hi' : i < min s1.items.length s2.items.length := by
          have h0 : i < (zipD s1.items s2.items).length := hi
          rw [zipD_length] at h0
          exact h0
        obtain ⟨u1, p1, _⟩ := rv1.get (List.getElem?_eq_getElem (show i < s1.items.length by omega))
        obtain ⟨u2, p2, _⟩ := rv2.get (List.getElem?_eq_getElem (show i < s2.items.length by omega))
        exact ⟨w1, w2, u1, u2, q1, q2, p1, p2⟩
      · obtain ⟨w1, q1, rv1⟩ := hk1 F' ι' st' H' g S' (sp st' ho).1
        obtain ⟨w2, q2, rv2⟩ := hk2 F' ι' st' H' g S' (sp st' ho).2
        exact ⟨w1, w2, q1, q2, by rw [← rv1.length, ← rv2.length]; exact zipD_length _ _⟩
      · obtain ⟨w1, q1, rv1⟩ := hk1 F' ι' st' H' g S' (sp st' ho).1
        obtain ⟨w2, q2, rv2⟩ := hk2 F' ι' st' H' g S' (sp st' ho).2
        obtain ⟨T, z1, z2, o, ex, hT, hd0, eH, y1, y2⟩ := y
        obtain ⟨b1, b2, hb1, hb2, ed⟩ := zipD_get hd
        subst ex eH ed
        exact new_pair S' hT hd0 (rv1.at hb1 (y1 w1 q1)) (rv2.at hb2 (y2 w2 q2))
end
end Dn
/-! DnI: comprehensions; statements; loops. -/
namespace Dn
open PySem PySem.Spec PyProof.Rows L2
/-! ### what lies outside -/
theorem Ext.outF {F : Hp} {ι : List Addr} {H F' : Hp} {ι' : List Addr} {H' : Hp} (x : Ext F ι H F' ι' H') {p : Addr} (hH : H p ≠ none) (hF : F p = none) (hi : p ∉ ι) : F' p = none := by
  cases e : F' p with
  | none => rfl
  | some o =>
    rcases x.newF p o e with q | q | q
    · rw [hF] at q; cases q
    · exact absurd q hH
    · exact absurd q hi
theorem Ext.outI {F : Hp} {ι : List Addr} {H F' : Hp} {ι' : List Addr} {H' : Hp} (x : Ext F ι H F' ι' H') {p : Addr} (hH : H p ≠ none) (hi : p ∉ ι) : p ∉ ι' := fun h => by
  rcases x.newI p h with q | q
  · exact hi q
  · exact hH q
theorem Sim.outside {K : PySem.W.Frag} {F : Hp} {ι : List Addr} {st : Sto} {H : Hp} (S : Sim K F ι st H) {p : Addr} {o : HO} (hF : F p = none) (hi : p ∉ ι) : Sim K F ι st (upd H p o) := by
  have nf : ∀ a u, F a = some u → a ≠ p := fun a u h e => by rw [e, hF] at h; cases h
  have ni : ∀ a, a ∈ ι → a ≠ p := fun a h e => hi (by rw [← e]; exact h)
  refine ⟨fun a u h => by rw [upd_ne (nf a u h)]; exact S.sub a u h, S.kind, S.len, S.nd, S.free, fun a h => by rw [upd_ne (ni a h)]; exact S.there a h, fun l m a h1 h2 => ?_⟩
  exact (S.obj l m a h1 h2).mono (fun _ _ h => h) (fun _ _ h => h) (upd_ne (ni a (List.mem_of_getElem? h2)))
theorem Ext.outside {F : Hp} {ι : List Addr} {H F' : Hp} {ι' : List Addr} {H' : Hp} (x : Ext F ι H F' ι' H') {p : Addr} {o : HO} (h0 : H p = none) (h1 : H' p ≠ none) : Ext F ι H F' ι' (upd H' p o) := by
  refine ⟨x.f, x.i, fun a u h n => ?_, fun a h => ?_, x.newF, x.newI, x.long⟩
  · rw [upd_ne (ne_of_none h h0)]; exact x.keep a u h n
  · by_cases e : a = p
    · subst e; exact h0
    · rw [upd_ne e] at h; exact x.there a h
theorem wipe_idem (σ : L2.St) (vs : List Nat) : wipe (wipe σ vs) vs = wipe σ vs := by
  have key : ∀ (us : List Nat), (∀ u ∈ us, u ∈ vs) → ∀ τ : L2.St, wipe (wipe τ us) vs = wipe τ vs := by
    intro us
    induction us with
    | nil => intro _ τ; rfl
    | cons u us ih =>
      intro h τ
      show wipe ((wipe τ us).set u none) vs = _
      rw [wipe_set (h u (by simp)), ih (fun v hv => h v (List.mem_cons_of_mem _ hv))]
  exact key vs (fun _ h => h) σ

/-! ### comprehensions -/
open Classical in
/-- the items, one after another, while what is held stands -/
noncomputable def lcL (held : List (Nat × List D)) (f : D → Sto → Out (Option D)) : List D → Sto → Out (List D)
  | [], st => if heldOk held st then .ok [] st else .bad
  | d :: ds, st => if heldOk held st then (f d st).bind fun o st1 => (lcL held f ds st1).bind fun ys st2 => .ok (o.toList ++ ys) st2 else .bad
def lcF (gf : D → Rho → M Rho) (mt : Rho → M Bool) (me : Rho → M D) (ρ : Rho) : D → Sto → Out (Option D) := fun d st =>
  (gf d ρ st).bind fun ρ2 s2 => (mt ρ2 s2).bind fun b s3 => if b = true then (me ρ2 s3).bind fun y s4 => .ok (some y) s4 else .ok none s3
noncomputable def lLc (ms : Rho → M Src) (gf : D → Rho → M Rho) (mt : Rho → M Bool) (me : Rho → M D) (vs : List Nat) : Rho → M (List D) := fun ρ st =>
  (ms ρ st).bind fun src st1 => if src.items.length ≤ SZ then nox (lcL src.held (lcF gf mt me (wipeD ρ vs)) src.items st1) else .bad
theorem bind_ok {α β : Type} {r : Out α} {f : α → Sto → Out β} {b : β} {st : Sto} (h : r.bind f = .ok b st) : ∃ a st1, r = .ok a st1 ∧ f a st1 = .ok b st := by
  cases r with
  | ok a st1 => exact ⟨a, st1, rfl, h⟩
  | exc _ _ => cases h
  | bad => cases h
def DTs (X : Cx) (W : WX) (ifs : List Expr) (m : Rho → M Bool) : Prop := PTs X ifs (tT X.K W m)
def bYes : Rho → M Bool := fun _ st => .ok true st
theorem dts_nil {X : Cx} {W : WX} : DTs X W [] bYes := ⟨fun pins s σ H Q I ⟨F, ι, ρ, st, S, R, q⟩ => pts_nil.run pins s σ H Q I (q F ι H true Ext.refl S rfl)⟩
theorem dts_one {X : Cx} {W : WX} {c : Expr} {m : Rho → M Bool} (h : DT X W c m) : DTs X W [c] m := pts_one h
theorem post_ok {α β : Type} {K : PySem.W.Frag} {W : WX} {σ : L2.St} {F : Hp} {ι : List Addr} {H : Hp} {P : Hp → Hp → List Addr → Hp → α → β → Prop} {r : Out α} {a : α} {st : Sto} {Q : β → Hp → Prop} (e : r = .ok a st)
    (h : ∀ F' ι' H' b, Ext F ι H F' ι' H' → Sim K F' ι' st H' → P H F' ι' H' a b → Q b H') : post K W σ F ι H P r Q := by
  subst e
  exact h
theorem lc_of {K : PySem.W.Frag} {W : WX} {ms : Rho → M Src} {js : List Nat} {gf : D → Rho → M Rho} {mt : Rho → M Bool} {me : Rho → M D} {vs : List Nat} (hjs : ∀ j, j ∈ js → j ∈ vs) {σ : L2.St} {H : Hp} {Q : VK} (h : tL K W (lLc ms gf mt me vs) σ H Q) :
    tLc (tG K W (pI K) ms) (tGt K js gf) (tT K wN mt) (tV K wN me) vs σ H Q := by
  obtain ⟨F, ι, ρ, st, S, R, q⟩ := h
  refine tG_seq back_L S R q fun src st1 F1 ι1 H1 J x1 S1 R1 hJ q1 => ?_
  have hJ : SrcIt K F1 ι1 src J := hJ
  split at q1
  rotate_left
  · exact q1.elim
  rename_i hsz
  intro D hD
  cases er : lcL src.held (lcF gf mt me (wipeD ρ vs)) src.items st1 with
  | exc _ _ => rw [er] at q1; exact (q1 : False).elim
  | bad => rw [er] at q1; exact (q1 : False).elim
  | ok tot stf =>
    rw [er] at q1
    have q1 : ∀ F' ι' H' b, Ext F1 ι1 H1 F' ι' H' → Sim K F' ι' stf H' → pL K H1 F' ι' H' tot b → Q b H' := q1
    refine ⟨fun i m H' => m = src.items.length - i ∧ i ≤ src.items.length ∧ ∃ F' ι' st' acc av, Ext F1 ι1 H1 F' ι' H' ∧ Sim K F' ι' st' H' ∧ H' D = some (.lst av) ∧ F' D = none ∧ D ∉ ι' ∧ Reps K F' ι' acc av ∧ acc.length ≤ i ∧
      ∃ ys, lcL src.held (lcF gf mt me (wipeD ρ vs)) (src.items.drop i) st' = .ok ys stf ∧ acc ++ ys = tot, ⟨_, rfl, Nat.zero_le _, F1, ι1, st1, [], [], Ext.laid hD, S1.laid hD, upd_same, ?_, fun h => S1.there D h hD, Reps.nil, Nat.zero_le _, tot, er, rfl⟩, ?_⟩
    · cases e : F1 D with
      | none => rfl
      | some o =>
        have := S1.sub D o e
        rw [hD] at this
        cases this
    rintro i m H' ⟨rfl, hi, F', ι', st', acc, av, x', S', hv, hF', hi', ra, hla, ys, ey, et⟩
    by_cases hlt : i < src.items.length
    · right
      rw [List.drop_eq_getElem_cons hlt] at ey
      unfold lcL at ey
      split at ey
      rotate_left
      · cases ey
      rename_i ho
      obtain ⟨o, st2, e1, ey⟩ := bind_ok ey
      obtain ⟨ys', st3, e2, ey⟩ := bind_ok ey
      cases ey
      have g' : Grow F1 ι1 F' ι' := x'.grow
      refine ⟨hJ.go i F' ι' st' H' g' S' ho hlt, fun H'' => ∃ m', m' < src.items.length - i ∧ _, fun H'' h => h, fun x H2 y => ?_⟩
      obtain ⟨F2, x2, S2, r2⟩ := hJ.yld i F' ι' st' H' x H2 src.items[i] g' S' ho (by simp [hlt]) y
      unfold lcF at e1
      obtain ⟨ρ2, s2, e3, e1⟩ := bind_ok e1
      obtain ⟨b, s3, e4, e1⟩ := bind_ok e1
      have nH' : H' D ≠ none := by rw [hv]; simp
      refine ⟨F2, ι', wipeD ρ vs, st', _, S2, ((R1.ext x').ext x2).wipe vs, r2, post_ok e3 fun F3 ι3 H3 σ2 x3 S3 ⟨R3, hw⟩ => ?_⟩
      refine ⟨(hw vs hjs).trans (wipe_idem σ vs), F3, ι3, ρ2, s2, S3, R3, post_ok e4 fun F4 ι4 H4 b' x4 S4 eb => ?_⟩
      have eb : b = b' := eb
      subst eb
      have xx4 : Ext F' ι' H' F4 ι4 H4 := (x2.trans x3).trans x4
      cases b with
      | false =>
        rw [if_neg (by decide)] at e1 ⊢
        cases e1
        refine ⟨_, ?_, rfl, hlt, F4, ι4, _, acc, av, x'.trans xx4, S4, xx4.keep D _ hv hi', xx4.outF nH' hF' hi', xx4.outI nH' hi', ra.ext xx4, Nat.le_succ_of_le hla, ys', e2, et⟩
        omega
      | true =>
        rw [if_pos rfl] at e1 ⊢
        obtain ⟨yd, s4, e5, e1⟩ := bind_ok e1
        cases e1
        refine ⟨F4, ι4, ρ2, s3, S4, R3.ext x4, post_ok e5 fun F5 ι5 H5 yv x5 S5 r5 => ?_⟩
        have xx5 : Ext F' ι' H' F5 ι5 H5 := xx4.trans x5
        have hv5 := xx5.keep D _ hv hi'
        have hF5 := xx5.outF nH' hF' hi'
        have hi5 := xx5.outI nH' hi'
        refine ⟨av, hv5, by rw [← ra.length]; exact sz_lt (by omega), _, ?_, rfl, hlt, F5, ι5, _, acc ++ [yd], av ++ [yv], (x'.trans xx5).outside hD (by rw [hv5]; simp), S5.outside hF5 hi5, upd_same, hF5, hi5, (ra.ext xx5).snoc r5, ?_, ys', e2, ?_⟩
        · omega
        · rw [List.length_append]; simp; omega
        · rw [← et]; simp
    · left
      have e0 : i = src.items.length := by omega
      subst e0
      rw [List.drop_length] at ey
      unfold lcL at ey
      split at ey
      rotate_left
      · cases ey
      rename_i ho
      cases ey
      rw [List.append_nil] at et
      subst et
      exact ⟨hJ.stop F' ι' _ H' x'.grow S' ho, q1 F' ι' H' (.ref D) x' S' ⟨D, av, rfl, hv, hF', hi', hD, ra⟩⟩
section
variable {X : Cx} {W : WX} {pos spos py : Pos} {tg iter elt : Expr} {ifs : List Expr} {scope : Scope} {own : List (Str × Nat)} {ms : Rho → M Src} {js : List Nat} {gf : D → Rho → M Rho} {mt : Rho → M Bool} {me : Rho → M D}
theorem dl_lc (hc : X.calm = true) (hN : X.N.Nodup) (hi : DI X W tg iter ms) (ok : BlkOk X.N X.env.scope scope own) (hjs : ∀ j, j ∈ js → j ∈ own.map (·.2))
    (hg : ∀ (s : Shared) (H : Hp) (C : Addr) (cl : List (Str × Addr)) (fp : List Addr), DG (X.blk s H scope (compEnvC scope cl C X.env) fp) js tg gf) (ht : ∀ (s : Shared) (H : Hp) (C : Addr) (cl : List (Str × Addr)) (fp : List Addr), DTs (X.blk s H scope (compEnvC scope cl C X.env) fp) wN ifs mt)
    (he : ∀ (s : Shared) (H : Hp) (C : Addr) (cl : List (Str × Addr)) (fp : List Addr), DE (X.blk s H scope (compEnvC scope cl C X.env) fp) wN elt me) (hs : ∀ x, foldedSetIterable iter X.env x = pure x := by intro _; rfl) :
    DL X W (.ListComp elt [⟨tg, iter, ifs, 0⟩] scope pos) (lLc ms gf mt me (own.map (·.2))) :=
  PE.weak (pe_lc (g := tGt X.K js gf) (tt := tT X.K wN mt) (te := tV X.K wN me) hc hN hi ok hg ht he hs) fun _ _ _ h => lc_of hjs h
end

/-! ### statements -/
inductive Fl where
  | next (ρ : Rho) (st : Sto) | ret (d : D) (st : Sto) | brk (ρ : Rho) (st : Sto) | cnt (ρ : Rho) (st : Sto) | exc (x : Xc) (ρ : Rho) (st : Sto) | bad
def Out.fl {α : Type} (r : Out α) (ρ : Rho) (f : α → Sto → Fl) : Fl := match r with
  | .ok a st => f a st
  | .exc x st => .exc x ρ st
  | .bad => .bad
@[simp] theorem Out.fl_ok {α : Type} (a : α) (st : Sto) (ρ : Rho) (f : α → Sto → Fl) : (Out.ok a st).fl ρ f = f a st := rfl
@[simp] theorem Out.fl_exc {α : Type} (x : Xc) (st : Sto) (ρ : Rho) (f : α → Sto → Fl) : (Out.exc x st : Out α).fl ρ f = .exc x ρ st := rfl
@[simp] theorem Out.fl_bad {α : Type} (ρ : Rho) (f : α → Sto → Fl) : (Out.bad : Out α).fl ρ f = .bad := rfl
def sPost (K : PySem.W.Frag) (W : WX) (E : Ends) (F : Hp) (ι : List Addr) (H : Hp) (r : Fl) : Prop := match r with
  | .next ρ' st' => ∀ F' ι' H' σ', Ext F ι H F' ι' H' → Sim K F' ι' st' H' → REnv K F' ι' ρ' σ' → E.nx σ' H'
  | .brk ρ' st' => ∀ F' ι' H' σ', Ext F ι H F' ι' H' → Sim K F' ι' st' H' → REnv K F' ι' ρ' σ' → E.bk σ' H'
  | .cnt ρ' st' => ∀ F' ι' H' σ', Ext F ι H F' ι' H' → Sim K F' ι' st' H' → REnv K F' ι' ρ' σ' → E.ct σ' H'
  | .ret d st' => ∀ F' ι' H' v, Ext F ι H F' ι' H' → Sim K F' ι' st' H' → Rep K F' ι' d v → E.rt v H'
  | .exc x ρ' st' => ∀ F' ι' H' cls dd σ', Ext F ι H F' ι' H' → Sim K F' ι' st' H' → REnv K F' ι' ρ' σ' → XcR K F' ι' H' x cls dd → W cls dd σ' H'
  | .bad => False
theorem sPost_ext {K : PySem.W.Frag} {W : WX} {E : Ends} {F F1 : Hp} {ι ι1 : List Addr} {H H1 : Hp} {r : Fl} (h : sPost K W E F ι H r) (x : Ext F ι H F1 ι1 H1) : sPost K W E F1 ι1 H1 r := by
  cases r with
  | next ρ st => exact fun F' ι' H' σ' y => h F' ι' H' σ' (x.trans y)
  | brk ρ st => exact fun F' ι' H' σ' y => h F' ι' H' σ' (x.trans y)
  | cnt ρ st => exact fun F' ι' H' σ' y => h F' ι' H' σ' (x.trans y)
  | ret d st => exact fun F' ι' H' σ' y => h F' ι' H' σ' (x.trans y)
  | exc e ρ st => exact fun F' ι' H' c d σ' y => h F' ι' H' c d σ' (x.trans y)
  | bad => exact h
def tS (K : PySem.W.Frag) (W : WX) (m : Rho → Sto → Fl) : TS := fun E σ H => ∃ F ι ρ st, Sim K F ι st H ∧ REnv K F ι ρ σ ∧ sPost K W E F ι H (m ρ st)
def DS (X : Cx) (W : WX) (s : Stmt) (m : Rho → Sto → Fl) : Prop := PS X s (tS X.K W m)
def DSs (X : Cx) (W : WX) (s : List Stmt) (m : Rho → Sto → Fl) : Prop := PSs X s (tS X.K W m)
/-- a sub-expression of a statement -/
theorem fl_seq {α β : Type} {K : PySem.W.Frag} {W : WX} {P : Hp → Hp → List Addr → Hp → α → β → Prop} {m : Rho → M α} {E : Ends} {σ : L2.St} {F : Hp} {ι : List Addr} {H : Hp} {ρ : Rho} {st : Sto} {f : α → Sto → Fl} {Q' : β → Hp → Prop}
    (S : Sim K F ι st H) (R : REnv K F ι ρ σ) (h : sPost K W E F ι H ((m ρ st).fl ρ f))
    (k : ∀ a st1 F1 ι1 H1 b, Ext F ι H F1 ι1 H1 → Sim K F1 ι1 st1 H1 → REnv K F1 ι1 ρ σ → P H F1 ι1 H1 a b → sPost K W E F1 ι1 H1 (f a st1) → Q' b H1) : tG K W P m σ H Q' := by
  refine ⟨F, ι, ρ, st, S, R, ?_⟩
  cases e : m ρ st with
  | ok a st1 =>
    rw [e] at h
    exact fun F1 ι1 H1 b x S1 p => k a st1 F1 ι1 H1 b x S1 (R.ext x) p (sPost_ext h x)
  | exc y st1 =>
    rw [e] at h
    exact fun F1 ι1 H1 c d x S1 p => h F1 ι1 H1 c d σ x S1 (R.ext x) p
  | bad =>
    rw [e] at h
    exact h
section
variable {X : Cx} {W : WX} {pos : Pos} {st : Stmt} {rest : List Stmt} {s1 s2 : Rho → Sto → Fl}
def sNext : Rho → Sto → Fl := fun ρ st => .next ρ st
def Fl.seq (r : Fl) (k : Rho → Sto → Fl) : Fl := match r with
  | .next ρ st => k ρ st
  | r => r
def sSeq (s1 s2 : Rho → Sto → Fl) : Rho → Sto → Fl := fun ρ st => (s1 ρ st).seq s2
theorem dss_nil : DSs X W [] sNext := PSs.weak pss_nil fun E σ H ⟨F, ι, ρ, st, S, R, q⟩ => q F ι H σ Ext.refl S R
theorem dss_cons (h1 : DS X W st s1) (h2 : DSs X W rest s2) : DSs X W (st :: rest) (sSeq s1 s2) := by
  refine PSs.weak (pss_cons h1 h2) fun E σ H ⟨F, ι, ρ, st, S, R, q⟩ => ⟨F, ι, ρ, st, S, R, ?_⟩
  unfold sSeq Fl.seq at q
  generalize s1 ρ st = r at q
  cases r with
  | next ρ1 st1 => exact fun F' ι' H' σ' x S' R' => ⟨F', ι', ρ1, st1, S', R', sPost_ext q x⟩
  | ret d st1 => exact q
  | brk ρ1 st1 => exact q
  | cnt ρ1 st1 => exact q
  | exc x ρ1 st1 => exact q
  | bad => exact q
theorem dss_one (h1 : DS X W st s1) : DSs X W [st] s1 := pss_one h1
theorem ds_pass : DS X W (.Pass pos) sNext := PS.weak ps_pass fun E σ H ⟨F, ι, ρ, st, S, R, q⟩ => q F ι H σ Ext.refl S R
def sBrk : Rho → Sto → Fl := fun ρ st => .brk ρ st
def sCnt : Rho → Sto → Fl := fun ρ st => .cnt ρ st
theorem ds_break : DS X W (.Break pos) sBrk := PS.weak ps_break fun E σ H ⟨F, ι, ρ, st, S, R, q⟩ => q F ι H σ Ext.refl S R
theorem ds_cont : DS X W (.Continue pos) sCnt := PS.weak ps_continue fun E σ H ⟨F, ι, ρ, st, S, R, q⟩ => q F ι H σ Ext.refl S R
variable {e c : Expr} {m : Rho → M D} {mt : Rho → M Bool}
def sDrop (m : Rho → M D) : Rho → Sto → Fl := fun ρ st => (m ρ st).fl ρ fun _ st1 => .next ρ st1
theorem ds_expr (he : DE X W e m) (hs : swapsWith e none pos.line X.env = pure false := by rfl) : DS X W (.Expr e pos) (sDrop m) :=
  PS.weak (ps_expr he hs) fun E σ H ⟨F, ι, ρ, st, S, R, q⟩ => fl_seq S R q fun a st1 F1 ι1 H1 b x1 S1 R1 r1 q1 => q1 F1 ι1 H1 σ Ext.refl S1 R1
def sRet (m : Rho → M D) : Rho → Sto → Fl := fun ρ st => (m ρ st).fl ρ fun d st1 => .ret d st1
theorem ds_ret (he : DE X W e m) : DS X W (.Return (some e) pos) (sRet m) :=
  PS.weak (ps_ret he) fun E σ H ⟨F, ι, ρ, st, S, R, q⟩ => fl_seq S R q fun a st1 F1 ι1 H1 b x1 S1 R1 r1 q1 => q1 F1 ι1 H1 b Ext.refl S1 r1
def sRetN : Rho → Sto → Fl := fun _ st => .ret .non st
theorem ds_retN : DS X W (.Return none pos) sRetN := PS.weak ps_retN fun E σ H ⟨F, ι, ρ, st, S, R, q⟩ => q F ι H .non Ext.refl S (by simp only [Rep])
def sIf (t : Rho → M Bool) (s1 s2 : Rho → Sto → Fl) : Rho → Sto → Fl := fun ρ st => (t ρ st).fl ρ fun b st1 => if b = true then s1 ρ st1 else s2 ρ st1
theorem ds_if {p1 p2 : List Stmt} (hc : DT X W c mt) (h1 : DSs X W p1 s1) (h2 : DSs X W p2 s2) : DS X W (.If c p1 p2 pos) (sIf mt s1 s2) := by
  refine PS.weak (ps_if hc h1 h2) fun E σ H ⟨F, ι, ρ, st, S, R, q⟩ => fl_seq S R q fun a st1 F1 ι1 H1 b x1 S1 R1 r1 q1 => ?_
  have r1 : a = b := r1
  subst r1
  cases a with
  | true => exact ⟨F1, ι1, ρ, st1, S1, R1, q1⟩
  | false => exact ⟨F1, ι1, ρ, st1, S1, R1, q1⟩
def sAsg (gf : D → Rho → M Rho) (m : Rho → M D) : Rho → Sto → Fl := fun ρ st => (m ρ st).fl ρ fun d st1 => (nox (gf d ρ st1)).fl ρ fun ρ2 st2 => .next ρ2 st2
theorem ds_asg {tg : Expr} {js : List Nat} {gf : D → Rho → M Rho} (he : DE X W e m) (hg : DG X js tg gf) (hs : swapsWithSole [tg] e pos.line X.env = pure false := by rfl) (hw : swappedStores [tg] e X.env = pure none := by rfl)
    (h1 : (assignEach [tg] X.env).map (·.2) = [assign tg X.env] := by rfl) : DS X W (.Assign [tg] e pos) (sAsg gf m) := by
  refine PS.weak (ps_asg he hg hs hw h1) fun E σ H ⟨F, ι, ρ, st, S, R, q⟩ => fl_seq S R q fun a st1 F1 ι1 H1 b x1 S1 R1 r1 q1 => ?_
  refine ⟨F1, ι1, ρ, st1, a, S1, R1, r1, ?_⟩
  cases e1 : gf a ρ st1 with
  | ok ρ2 st2 =>
    rw [e1] at q1
    exact fun F' ι' H' σ' x S' r => q1 F' ι' H' σ' x S' r.1
  | exc _ _ => rw [e1] at q1; exact (q1 : False).elim
  | bad => rw [e1] at q1; exact (q1 : False).elim
theorem name_of {K : PySem.W.Frag} {i : Nat} {E : Ends} {σ : L2.St} {H : Hp} (h : tS K W (sAsg (gN i) m) E σ H) : tV K W m σ H fun x H1 => gName i x σ H1 E.nx := by
  obtain ⟨F, ι, ρ, st, S, R, q⟩ := h
  exact fl_seq S R q fun a st1 F1 ι1 H1 b x1 S1 R1 r1 q1 => q1 F1 ι1 H1 _ Ext.refl S1 (R1.set r1 i)
theorem ds_set {i : Nat} {x : Str} {pos' : Pos} (hN : X.N.Nodup) (hi : X.N[i]? = some x) (hx : Loc X.env.scope x) (he : DE X W e m) (hs : swapsWith e (some (.Name x pos')) pos.line X.env = pure false := by rfl) (hf : X.fn x = true ∨ X.env.scope.names.lookup x = some .local := by first | exact .inl rfl | exact .inr rfl | assumption) :
    DS X W (.Assign [.Name x pos'] e pos) (sAsg (gN i) m) :=
  PS.weak (ps_set hN hi hx he hs hf) fun E σ H h => name_of h
/-- name = [..] of one line, the name a local: the list frozen, the list kept -/
theorem ds_setLc {spos py : Pos} {tg iter elt : Expr} {ifs : List Expr} {scope : Scope} {own : List (Str × Nat)} {ms : Rho → M Src} {js : List Nat} {gf : D → Rho → M Rho} {mt : Rho → M Bool} {me : Rho → M D} {i : Nat} {y : Str} (fz : Bool) (hc : X.calm = true) (hN : X.N.Nodup) (hy : X.N[i]? = some y) (hyl : X.env.scope.names.lookup y = some .local)
    (hsw : swapsWith (.ListComp elt [⟨tg, iter, ifs, 0⟩] scope pos) (some (.Name y py)) spos.line X.env = pure true) (hi : DI X W tg iter ms) (ok : BlkOk X.N X.env.scope scope own) (hjs : ∀ j, j ∈ js → j ∈ own.map (·.2))
    (hg : ∀ (s : Shared) (H : Hp) (C : Addr) (cl : List (Str × Addr)) (fp : List Addr), DG (X.blk s H scope (compEnvC scope cl C X.env) fp) js tg gf) (ht : ∀ (s : Shared) (H : Hp) (C : Addr) (cl : List (Str × Addr)) (fp : List Addr), DTs (X.blk s H scope (compEnvC scope cl C X.env) fp) wN ifs mt)
    (he : ∀ (s : Shared) (H : Hp) (C : Addr) (cl : List (Str × Addr)) (fp : List Addr), DE (X.blk s H scope (compEnvC scope cl C X.env) fp) wN elt me) (hs : ∀ x, foldedSetIterable iter X.env x = pure x := by intro _; rfl) :
    DS X W (.Assign [.Name y py] (.ListComp elt [⟨tg, iter, ifs, 0⟩] scope pos) spos) (sAsg (gN i) ((if fz = true then mFrz else mNew) (lLc ms gf mt me (own.map (·.2))))) :=
  PS.weak (ps_setLc (g := tGt X.K js gf) (tt := tT X.K wN mt) (te := tV X.K wN me) hc hN hy hyl hsw hi ok hg ht he hs) fun E σ H h => lc_of hjs (by
    have q := name_of h
    cases fz with
    | true => exact frz_of q
    | false => exact new_of q)
/-- a, b = x, y: two different plain names -/
def sPar (i j : Nat) (a : Rho → M (List D)) : Rho → Sto → Fl := fun ρ st => (a ρ st).fl ρ fun ds st1 => match ds with
  | [x, y] => .next ((ρ.set i (some x)).set j (some y)) st1
  | _ => .bad
theorem ds_par {i j : Nat} {x y : Str} {a b : Expr} {am : Rho → M (List D)} {px py pt : Pos} {kt k2 pt2} (hc : X.calm = true) (hN : X.N.Nodup) (hi : X.N[i]? = some x) (hj : X.N[j]? = some y) (hij : i ≠ j)
    (hx : X.env.scope.names.lookup x = some .local) (hy : X.env.scope.names.lookup y = some .local) (ha : DA X W [a, b] am)
    (hw : swappedStores [.Tuple [.Name x px, .Name y py] kt pt] (.Tuple [a, b] k2 pt2) X.env = pure (some [x, y]))
    (hs : swapsWithSole [.Tuple [.Name x px, .Name y py] kt pt] (.Tuple [a, b] k2 pt2) pos.line X.env = pure false := by rfl) :
    DS X W (.Assign [.Tuple [.Name x px, .Name y py] kt pt] (.Tuple [a, b] k2 pt2) pos) (sPar i j am) := by
  refine PS.weak (ps_par hc hN hi hj hij hx hy ha hw hs) fun E σ H ⟨F, ι, ρ, st, S, R, q⟩ => fl_seq S R q fun ds st1 F1 ι1 H1 vs x1 S1 R1 r1 q1 => ?_
  split at q1
  · rename_i d1 d2
    obtain ⟨v1, v2, e, r1, r2⟩ := Reps.two (show Reps X.K F1 ι1 [d1, d2] vs from r1)
    exact ⟨v1, v2, e, q1 F1 ι1 H1 _ Ext.refl S1 ((R1.set r1 i).set r2 j)⟩
  · exact q1.elim

/-! ### loops -/
open Classical in
noncomputable def forL (held : List (Nat × List D)) (body : D → Rho → Sto → Fl) : List D → Rho → Sto → Fl
  | [], ρ, st => if heldOk held st then .next ρ st else .bad
  | d :: ds, ρ, st => if heldOk held st then (match body d ρ st with
    | .next ρ' st' => forL held body ds ρ' st'
    | .cnt ρ' st' => forL held body ds ρ' st'
    | .brk ρ' st' => .next ρ' st'
    | r => r) else .bad
def forB (gf : D → Rho → M Rho) (mb : Rho → Sto → Fl) : D → Rho → Sto → Fl := fun d ρ st => (nox (gf d ρ st)).fl ρ fun ρ' st' => mb ρ' st'
noncomputable def sFor (ms : Rho → M Src) (gf : D → Rho → M Rho) (mb : Rho → Sto → Fl) : Rho → Sto → Fl := fun ρ st => (ms ρ st).fl ρ fun src st1 => forL src.held (forB gf mb) src.items ρ st1
theorem ds_for {tg iter : Expr} {body : List Stmt} {ms : Rho → M Src} {js : List Nat} {gf : D → Rho → M Rho} {mb : Rho → Sto → Fl} (hp : PassesOwn (model X.prog X.w) X.A X.env X.xe) (hc : X.calm = true) (hi : DI X W tg iter ms) (hg : DG X js tg gf) (hb : DSs X W body mb)
    (hs : ∀ x, foldedSetIterable iter X.env x = pure x := by intro _; rfl) : DS X W (.For tg iter body [] pos) (sFor ms gf mb) := by
  refine PS.weak (ps_for hp hc hi hg hb hs) fun E σ H ⟨F, ι, ρ, st, S, R, q⟩ => fl_seq S R q fun src st1 F1 ι1 H1 J x1 S1 R1 hJ q1 => ?_
  have hJ : SrcIt X.K F1 ι1 src J := hJ
  refine ⟨fun i m σ' H' => m = src.items.length - i ∧ i ≤ src.items.length ∧ ∃ F' ι' ρ' st', Ext F1 ι1 H1 F' ι' H' ∧ Sim X.K F' ι' st' H' ∧ REnv X.K F' ι' ρ' σ' ∧ sPost X.K W E F' ι' H' (forL src.held (forB gf mb) (src.items.drop i) ρ' st'),
    ⟨_, rfl, Nat.zero_le _, F1, ι1, ρ, st1, Ext.refl, S1, R1, q1⟩, ?_⟩
  rintro i m σ' H' ⟨rfl, hi, F', ι', ρ', st', x', S', R', q'⟩
  by_cases hlt : i < src.items.length
  · right
    rw [List.drop_eq_getElem_cons hlt] at q'
    unfold forL at q'
    split at q'
    rotate_left
    · exact q'.elim
    rename_i ho
    refine ⟨hJ.go i F' ι' st' H' x'.grow S' ho hlt, fun σ'' H'' => ∃ m', m' < src.items.length - i ∧ _, fun σ'' H'' h => h, fun x H2 y => ?_⟩
    obtain ⟨F2, x2, S2, r2⟩ := hJ.yld i F' ι' st' H' x H2 src.items[i] x'.grow S' ho (by simp [hlt]) y
    refine ⟨F2, ι', ρ', st', _, S2, R'.ext x2, r2, ?_⟩
    unfold forB at q'
    cases e1 : gf src.items[i] ρ' st' with
    | exc _ _ => rw [e1] at q'; exact (q' : False).elim
    | bad => rw [e1] at q'; exact (q' : False).elim
    | ok ρ2 st2 =>
      rw [e1] at q'
      intro F3 ι3 H3 σ3 x3 S3 R3
      refine ⟨F3, ι3, ρ2, st2, S3, R3.1, ?_⟩
      have xx : Ext F' ι' H' F3 ι3 H3 := x2.trans x3
      have q'' := sPost_ext q' xx
      simp only [nox_ok, Out.fl_ok] at q''
      cases e2 : mb ρ2 st2 with
      | next ρ4 st4 =>
        rw [e2] at q''
        intro F4 ι4 H4 σ4 x4 S4 R4
        exact ⟨src.items.length - (i + 1), by omega, rfl, hlt, F4, ι4, ρ4, st4, (x'.trans xx).trans x4, S4, R4, sPost_ext q'' x4⟩
      | cnt ρ4 st4 =>
        rw [e2] at q''
        intro F4 ι4 H4 σ4 x4 S4 R4
        exact ⟨src.items.length - (i + 1), by omega, rfl, hlt, F4, ι4, ρ4, st4, (x'.trans xx).trans x4, S4, R4, sPost_ext q'' x4⟩
      | brk ρ4 st4 => rw [e2] at q''; exact q''
      | ret d st4 => rw [e2] at q''; exact q''
      | exc x ρ4 st4 => rw [e2] at q''; exact q''
      | bad => rw [e2] at q''; exact q''
  · left
    have e0 : i = src.items.length := by omega
    subst e0
    rw [List.drop_length] at q'
    unfold forL at q'
    split at q'
    rotate_left
    · exact q'.elim
    rename_i ho
    exact ⟨hJ.stop F' ι' st' H' x'.grow S' ho, q' F' ι' H' σ' Ext.refl S' R'⟩
/-- while: at most so many turns -/
def whileL (t : Rho → M Bool) (mb : Rho → Sto → Fl) : Nat → Rho → Sto → Fl
  | 0, _, _ => .bad
  | n + 1, ρ, st => (t ρ st).fl ρ fun b st1 => if b = true then (match mb ρ st1 with
    | .next ρ' st' => whileL t mb n ρ' st'
    | .cnt ρ' st' => whileL t mb n ρ' st'
    | .brk ρ' st' => .next ρ' st'
    | r => r) else .next ρ st1
def sWhile (n : Nat) (t : Rho → M Bool) (mb : Rho → Sto → Fl) : Rho → Sto → Fl := fun ρ st => whileL t mb n ρ st
theorem ds_while {n : Nat} {body : List Stmt} {mb : Rho → Sto → Fl} (hp : PassesOwn (model X.prog X.w) X.A X.env X.xe) (hc : DT X W c mt) (hb : DSs X W body mb) : DS X W (.While c body [] pos) (sWhile n mt mb) := by
  refine PS.weak (ps_while hp hc hb) fun E σ H ⟨F, ι, ρ, st, S, R, q⟩ => ?_
  refine ⟨fun m σ' H' => ∃ F' ι' ρ' st', Sim X.K F' ι' st' H' ∧ REnv X.K F' ι' ρ' σ' ∧ sPost X.K W E F' ι' H' (whileL mt mb m ρ' st'), ⟨n, F, ι, ρ, st, S, R, q⟩, ?_⟩
  rintro m σ' H' ⟨F', ι', ρ', st', S', R', q'⟩
  cases m with
  | zero => exact (q' : False).elim
  | succ m =>
    refine fl_seq S' R' q' fun a st1 F1 ι1 H1 b x1 S1 R1 r1 q1 => ?_
    have r1 : a = b := r1
    subst r1
    cases a with
    | false => exact q1 F1 ι1 H1 σ' Ext.refl S1 R1
    | true =>
      rw [if_pos rfl] at q1 ⊢
      refine ⟨fun σ'' H'' => ∃ m', m' < m + 1 ∧ _, fun σ'' H'' h => h, F1, ι1, ρ', st1, S1, R1, ?_⟩
      cases e2 : mb ρ' st1 with
      | next ρ4 st4 =>
        rw [e2] at q1
        exact fun F4 ι4 H4 σ4 x4 S4 R4 => ⟨m, Nat.lt_succ_self m, F4, ι4, ρ4, st4, S4, R4, sPost_ext q1 x4⟩
      | cnt ρ4 st4 =>
        rw [e2] at q1
        exact fun F4 ι4 H4 σ4 x4 S4 R4 => ⟨m, Nat.lt_succ_self m, F4, ι4, ρ4, st4, S4, R4, sPost_ext q1 x4⟩
      | brk ρ4 st4 => rw [e2] at q1; exact q1
      | ret d st4 => rw [e2] at q1; exact q1
      | exc x ρ4 st4 => rw [e2] at q1; exact q1
      | bad => rw [e2] at q1; exact q1
end
end Dn
/-! DnJ: functions: what a def promises, its calls, the end of a law. -/
namespace Dn
open PySem PySem.Spec PyProof.Rows L2
/-! ### what a call leaves behind in the store -/
mutual
def D.low (n : Nat) : D → Bool
  | .tup xs => D.lows n xs
  | .lst xs => D.lows n xs
  | .scr xs => D.lows n xs
  | .ref l => decide (l < n)
  | .non => true
  | .bl _ => true
  | .int _ => true
  | .str _ => true
  | .adr _ => true
  | .fd _ xs => D.lows n xs
  | .exo _ _ _ d => D.low n d
  | .obj _ _ xs => D.lows n xs
def D.lows (n : Nat) : List D → Bool
  | [] => true
  | d :: ds => D.low n d && D.lows n ds
end
def MO.low (n : Nat) : MO → Bool
  | .lst xs => D.lows n xs
  | .dct _ xs => D.lows n xs
  | .gone => true
  | .ins _ fs => fs.all fun p => p.2.low n
section
variable {K : PySem.W.Frag} {F F' : Hp} {ι ι' : List Addr} {H H' : Hp} {st st' : Sto} {n : Nat}
mutual
theorem Rep.cut : ∀ (d : D) (v : V), Rep K F ι d v → d.low n = true → Rep K F (ι.take n) d v
  | .non, _, h, _ => by simpa only [Rep] using h
  | .bl _, _, h, _ => by simpa only [Rep] using h
  | .int _, _, h, _ => by simpa only [Rep] using h
  | .str _, _, h, _ => by simpa only [Rep] using h
  | .adr _, _, h, _ => by simpa only [Rep] using h
  | .tup xs, v, h, l => by
    simp only [Rep] at h ⊢
    simp only [D.low] at l
    obtain ⟨a, vs, e, q, r⟩ := h
    exact ⟨a, vs, e, q, Reps.cut xs vs r l⟩
  | .lst xs, v, h, l => by
    simp only [Rep] at h ⊢
    simp only [D.low] at l
    obtain ⟨a, vs, e, q, r⟩ := h
    exact ⟨a, vs, e, q, Reps.cut xs vs r l⟩
  | .scr xs, v, h, l => by
    simp only [Rep] at h ⊢
    simp only [D.low] at l
    obtain ⟨a, vs, e, q, r⟩ := h
    exact ⟨a, vs, e, q, Reps.cut xs vs r l⟩
  | .ref j, v, h, l => by
    simp only [Rep] at h ⊢
    simp only [D.low, decide_eq_true_eq] at l
    obtain ⟨a, e, q⟩ := h
    exact ⟨a, e, by rw [List.getElem?_take_of_lt l]; exact q⟩
  | .fd ks ds, v, h, l => by
    simp only [Rep] at h ⊢
    simp only [D.low] at l
    obtain ⟨a, xs, ws, e, z, q, kt, vr, r⟩ := h
    exact ⟨a, xs, ws, e, z, q, kt, vr, Reps.cut ds ws r l⟩
  | .exo a dd g d, v, h, l => by
    simp only [Rep] at h ⊢
    simp only [D.low] at l
    obtain ⟨e, u, q, r⟩ := h
    exact ⟨e, u, q, Rep.cut d u r l⟩
  | .obj nm ks ds, v, h, l => by
    simp only [Rep] at h ⊢
    simp only [D.low] at l
    obtain ⟨a, C, dx, gs, e, z, q, kk, r⟩ := h
    exact ⟨a, C, dx, gs, e, z, q, kk, Reps.cut ds _ r l⟩
theorem Reps.cut : ∀ (ds : List D) (vs : List V), Reps K F ι ds vs → D.lows n ds = true → Reps K F (ι.take n) ds vs
  | [], _, h, _ => by simpa only [Reps] using h
  | d :: ds, vs, h, l => by
    simp only [Reps] at h ⊢
    simp only [D.lows, Bool.and_eq_true] at l
    obtain ⟨v, r, e, h1, h2⟩ := h
    exact ⟨v, r, e, Rep.cut d v h1 l.1, Reps.cut ds r h2 l.2⟩
end
mutual
theorem Rep.isLow : ∀ (d : D) (v : V), Rep K F ι d v → d.low ι.length = true
  | .non, _, _ => by simp only [D.low]
  | .bl _, _, _ => by simp only [D.low]
  | .int _, _, _ => by simp only [D.low]
  | .str _, _, _ => by simp only [D.low]
  | .adr _, _, _ => by simp only [D.low]
  | .tup xs, v, h => by
    simp only [Rep] at h
    simp only [D.low]
    obtain ⟨a, vs, e, q, r⟩ := h
    exact Reps.isLow xs vs r
  | .lst xs, v, h => by
    simp only [Rep] at h
    simp only [D.low]
    obtain ⟨a, vs, e, q, r⟩ := h
    exact Reps.isLow xs vs r
  | .scr xs, v, h => by
    simp only [Rep] at h
    simp only [D.low]
    obtain ⟨a, vs, e, q, r⟩ := h
    exact Reps.isLow xs vs r
  | .ref j, v, h => by
    simp only [Rep] at h
    simp only [D.low, decide_eq_true_eq]
    obtain ⟨a, e, q⟩ := h
    exact (List.getElem?_eq_some_iff.mp q).1
  | .fd ks ds, v, h => by
    simp only [Rep] at h
    simp only [D.low]
    obtain ⟨a, xs, ws, e, z, q, kt, vr, r⟩ := h
    exact Reps.isLow ds ws r
  | .exo a dd g d, v, h => by
    simp only [Rep] at h
    simp only [D.low]
    obtain ⟨e, u, q, r⟩ := h
    exact Rep.isLow d u r
  | .obj nm ks ds, v, h => by
    simp only [Rep] at h
    simp only [D.low]
    obtain ⟨a, C, dx, gs, e, z, q, kk, r⟩ := h
    exact Reps.isLow ds _ r
theorem Reps.isLow : ∀ (ds : List D) (vs : List V), Reps K F ι ds vs → D.lows ι.length ds = true
  | [], _, _ => by simp only [D.lows]
  | d :: ds, vs, h => by
    simp only [Reps] at h
    simp only [D.lows, Bool.and_eq_true]
    obtain ⟨v, r, e, h1, h2⟩ := h
    exact ⟨Rep.isLow d v h1, Reps.isLow ds r h2⟩
end
theorem RepF.cut {fs : List (Str × D)} {gs : List (Str × V)} (h : RepF K F ι fs gs) (l : (fs.all fun p => p.2.low n) = true) : RepF K F (ι.take n) fs gs := by
  induction h with
  | nil => exact .nil
  | cons a b ih =>
    simp only [List.all_cons, Bool.and_eq_true] at l
    exact .cons ⟨a.1, Rep.cut _ _ a.2 l.1⟩ (ih l.2)
theorem RepF.isLow {fs : List (Str × D)} {gs : List (Str × V)} (h : RepF K F ι fs gs) : (fs.all fun p => p.2.low ι.length) = true := by
  induction h with
  | nil => rfl
  | cons a b ih =>
    simp only [List.all_cons, Bool.and_eq_true]
    exact ⟨Rep.isLow _ _ a.2, ih⟩
theorem ObjR.cut {a : Addr} {m : MO} (h : ObjR K F ι H a m) (l : m.low n = true) : ObjR K F (ι.take n) H a m := by
  cases m with
  | lst xs =>
    obtain ⟨vs, e, r⟩ := h
    exact ⟨vs, e, Reps.cut _ _ r l⟩
  | dct ks ds =>
    obtain ⟨xs, ws, z, q, kt, vr, r⟩ := h
    exact ⟨xs, ws, z, q, kt, vr, Reps.cut _ _ r l⟩
  | gone => trivial
  | ins C fs =>
    obtain ⟨C, dx, gs, z, e, r⟩ := h
    exact ⟨C, dx, gs, z, e, RepF.cut r l⟩
theorem ObjR.isLow {a : Addr} {m : MO} (h : ObjR K F ι H a m) : m.low ι.length = true := by
  cases m with
  | lst xs =>
    obtain ⟨vs, e, r⟩ := h
    exact Reps.isLow _ _ r
  | dct ks ds =>
    obtain ⟨xs, ws, z, q, kt, vr, r⟩ := h
    exact Reps.isLow _ _ r
  | gone => rfl
  | ins C fs =>
    obtain ⟨C, dx, gs, z, e, r⟩ := h
    exact RepF.isLow r
theorem Sim.isLow (S : Sim K F ι st H) {l : Nat} {m : MO} (e : st[l]? = some m) : m.low st.length = true := by
  have hl : l < ι.length := by rw [S.len]; exact (List.getElem?_eq_some_iff.mp e).1
  rw [← S.len]
  exact (S.obj l m _ e (List.getElem?_eq_getElem hl)).isLow
theorem Sim.take (S : Sim K F ι st H) (h : ∀ (l : Nat) (m : MO), (st.take n)[l]? = some m → m.low n = true) : Sim K F (ι.take n) (st.take n) H := by
  refine ⟨S.sub, S.kind, by rw [List.length_take, List.length_take, S.len], S.nd.sublist (List.take_sublist _ _), fun l a q hg => ?_, fun a q => S.there a (List.mem_of_mem_take q), fun l m a e1 e2 => ?_⟩
  · have hl : l < n := by
      have := (List.getElem?_eq_some_iff.mp q).1
      rw [List.length_take] at this
      omega
    rw [List.getElem?_take_of_lt hl] at q hg
    exact S.free l a q hg
  have hl : l < n := by
    have := (List.getElem?_eq_some_iff.mp e1).1
    rw [List.length_take] at this
    omega
  refine ObjR.cut (S.obj l m a ?_ ?_) (h l m e1)
  · rw [← List.getElem?_take_of_lt hl]; exact e1
  · rw [← List.getElem?_take_of_lt hl]; exact e2
theorem Ext.take (x : Ext F ι H F' ι' H') (h : ι.length ≤ n) : Ext F ι H F' (ι'.take n) H' := by
  refine ⟨x.f, fun l a q => ?_, x.keep, x.there, x.newF, fun a q => x.newI a (List.mem_of_mem_take q), ?_⟩
  · have hl := (List.getElem?_eq_some_iff.mp q).1
    rw [List.getElem?_take_of_lt (by omega)]
    exact x.i l a q
  · rw [List.length_take]
    have := x.long
    omega
end
/-- what the call made is dropped where nothing tells of it -/
def lowS (n : Nat) (st : Sto) : Prop := ∀ (l : Nat) (m : MO), st[l]? = some m → m.low n = true
def Xc.low (n : Nat) (x : Xc) : Bool := match x.fld with
  | none => true
  | some p => p.2.low n
/-- the changed entries tell of nothing new -/
def Tidy (st0 st : Sto) : Prop := st0.length ≤ st.length ∧ ∀ (l : Nat) (m : MO), l < st0.length → st[l]? = some m → st0[l]? = some m ∨ m.low st0.length = true
open Classical in
noncomputable def clean (st0 : Sto) (r : Out D) : Out D := match r with
  | .ok d st => if d.low st0.length = true ∧ Tidy st0 st then .ok d (st.take st0.length) else .ok d st
  | .exc x st => if x.low st0.length = true ∧ Tidy st0 st then .exc x (st.take st0.length) else .exc x st
  | .bad => .bad
section
variable {K : PySem.W.Frag} {W : WX} {σ : L2.St} {F F' : Hp} {ι ι' : List Addr} {H H' : Hp} {st st' : Sto} {Q : VK}
theorem clean_low (S : Sim K F ι st H) (h : Tidy st st') : lowS st.length (st'.take st.length) := fun l m e => by
  have hl : l < st.length := by
    have := (List.getElem?_eq_some_iff.mp e).1
    rw [List.length_take] at this
    omega
  rw [List.getElem?_take_of_lt hl] at e
  rcases h.2 l m hl e with q | q
  · exact S.isLow q
  · exact q
theorem clean_ok {d : D} {v : V} (S : Sim K F ι st H) (x : Ext F ι H F' ι' H') (S' : Sim K F' ι' st' H') (r : Rep K F' ι' d v) (q : post K W σ F ι H (pV K) (clean st (.ok d st')) Q) : Q v H' := by
  unfold clean at q
  dsimp only at q
  split at q
  · rename_i h
    exact q F' (ι'.take st.length) H' v (x.take (by rw [S.len]; exact Nat.le_refl _)) (S'.take (clean_low S h.2)) (Rep.cut _ _ r h.1)
  · exact q F' ι' H' v x S' r
theorem clean_exc {e : Xc} {cls : Value} {dd : Option Addr} (S : Sim K F ι st H) (x : Ext F ι H F' ι' H') (S' : Sim K F' ι' st' H') (r : XcR K F' ι' H' e cls dd) (q : post K W σ F ι H (pV K) (clean st (.exc e st')) Q) : W cls dd σ H' := by
  unfold clean at q
  dsimp only at q
  split at q
  · rename_i h
    refine q F' (ι'.take st.length) H' cls dd (x.take (by rw [S.len]; exact Nat.le_refl _)) (S'.take (clean_low S h.2)) ⟨r.1, ?_⟩
    have h1 := h.1
    have r2 := r.2
    unfold Xc.low at h1
    split
    · rename_i e1
      rw [e1] at r2
      exact r2
    · rename_i f d e1
      rw [e1] at r2 h1
      obtain ⟨a, v, q1, q2, q3⟩ := r2
      exact ⟨a, v, q1, q2, Rep.cut _ _ q3 h1⟩
  · exact q F' ι' H' cls dd x S' r
end
def flOut (r : Fl) : Out D := match r with
  | .next _ st => .ok .non st
  | .ret d st => .ok d st
  | .exc x _ st => .exc x st
  | _ => .bad
/-- the slots at a def's entry -/
def rho0 (n : Nat) (ds : List D) : Rho := ds.map some ++ List.replicate (n - ds.length) none
noncomputable def fnD (np nN : Nat) (body : Rho → Sto → Fl) : List D → M D := fun ds st => if ds.length = np then clean st (flOut (body (rho0 nN ds) st)) else .bad
def wE (E : XK) : WX := fun cls dd _ H => E cls dd H
def spD (K : PySem.W.Frag) (np : Nat) (spec : List D → M D) : Sp := fun vs H Q E => vs.length = np ∧ ∃ F ι st ds, Sim K F ι st H ∧ Reps K F ι ds vs ∧ post K (wE E) [] F ι H (pV K) (spec ds st) Q
/-- a def's promise, where no repr runs -/
structure FnG (P : Program) (w : World) (K : PySem.W.Frag) (mg : Str → Option Value) (base : Heap) (k : Nat) (f : Addr) (fd : FuncData) (ps : List Str) (sp : Sp) : Prop where
  len : ∀ vs H Q E, sp vs H Q E → vs.length = ps.length
  run : ∀ (B : Around) (fr : List Env) (s : Shared) (H : Hp) (ar : Args) (us : List Value) (vs : List V) (Q : VK) (E : XK), Room k B → B.guards = some [] → Env0 P w K mg base B fr s H → BindsTo s fd ar (ps.zip us) → Vals vs us → sp vs H Q E →
    codeAny (model P w) B (.call (.ref f) ar) (CR (L2.CX P w) fr P w H s Q E) s
/-- what a body may lean on -/
structure Bd (X : Cx) (W : WX) (k : Nat) : Prop where
  room : Room k X.A
  gd : X.A.guards = some []
  calm : X.calm = true
  nd : X.N.Nodup
  tk : Takes X W
theorem REnv.start {K : PySem.W.Frag} {F : Hp} {ι : List Addr} {ds : List D} {vs : List V} {N : List Str} (r : Reps K F ι ds vs) (hl : ds.length ≤ N.length) : REnv K F ι (rho0 N.length ds) (start N vs) := by
  have e := r.length
  refine ⟨?_, fun i d h => ?_⟩
  · unfold rho0 L2.start
    simp only [List.length_append, List.length_map, List.length_replicate]
    omega
  · unfold rho0 at h
    have hi : i < ds.length := by
      by_cases hi : i < ds.length
      · exact hi
      · rw [List.getElem?_append_right (by simpa using hi), List.getElem?_replicate] at h
        split at h <;> cases h
    rw [List.getElem?_append_left (by simpa using hi), List.getElem?_map] at h
    cases e1 : ds[i]? with
    | none => rw [e1] at h; cases h
    | some d1 =>
      rw [e1] at h
      cases h
      obtain ⟨v, q1, q2⟩ := r.get e1
      refine ⟨v, ?_, q2⟩
      unfold L2.start
      rw [List.getElem?_append_left (by rw [List.length_map]; omega), List.getElem?_map, q1]
      rfl
theorem body_end {K : PySem.W.Frag} {E : XK} {Q : VK} {F : Hp} {ι : List Addr} {H : Hp} {st : Sto} {r : Fl} (S : Sim K F ι st H) (q : post K (wE E) [] F ι H (pV K) (clean st (flOut r)) Q) :
    sPost K (wE E) { nx := fun _ H' => Q .non H', rt := Q } F ι H r := by
  cases r with
  | next ρ st' => exact fun F' ι' H' σ' x S' R' => clean_ok (v := V.non) S x S' (by simp only [Rep]) q
  | ret d st' => exact fun F' ι' H' v x S' r' => clean_ok S x S' r' q
  | exc e ρ st' => exact fun F' ι' H' cls dd σ' x S' R' r' => clean_exc (σ := []) S x S' r' q
  | brk _ _ => exact (q : False).elim
  | cnt _ _ => exact (q : False).elim
  | bad => exact (q : False).elim
section
variable {P : Program} {w : World} {K : PySem.W.Frag} {mg : Str → Option Value} {base : Heap}
/-- a def keeps its promise, by its body's meaning -/
theorem fnG_of {x qual : Str} {stm : Stmt} {f : Addr} {fd : FuncData} {N ps : List Str} {k : Nat} {m : Rho → Sto → Fl} (Fn : Fun K x qual stm f fd) (SC : FnScope N ps (defScope stm)) (hN : ps.length ≤ N.length)
    (hb : ∀ (cdv : Value) (B : Around) (fr : List Env) (s : Shared) (H : Hp) (E : XK), Bd (cxOf (L2.CX P w) P w K mg base N qual (defScope stm) f cdv B fr s H E) (wE E) k →
      PassesOwn (model P w) (B.deeper (envOfC qual (defScope stm) s.heap.objs.size f cdv)) (envOfC qual (defScope stm) s.heap.objs.size f cdv) (cxOf (L2.CX P w) P w K mg base N qual (defScope stm) f cdv B fr s H E).xe →
      DSs (cxOf (L2.CX P w) P w K mg base N qual (defScope stm) f cdv B fr s H E) (wE E) (defBody stm) m) :
    FnG P w K mg base (k + 1) f fd ps (spD K ps.length (fnD ps.length N.length m)) := by
  obtain ⟨oc, od, kV, doc, pm, an, cdv, ct, osl, rfl, lk, hcd⟩ := Fn.ex
  refine ⟨fun vs H Q E h => h.1, fun B fr s H ar us vs Q E hr hgd e0 hbn rv hsp => ?_⟩
  have hl : vs.length = ps.length := hsp.1
  have hKs : K.In s.heap := e0.mod.kin.keeps fun b o e => (e0.bs b o e).1
  have hlim : s.heap.NoLimit := e0.mod.nolimit.keeps fun b o e => (e0.bs b o e).1
  refine codeAny_call_function hr.depth (hKs _ _ lk) rfl SC.co SC.gen rfl (PySem.W.codeRec_of hKs hcd) (hbn _ _ _ _ ?_)
  refine wpAny_newFunctionEnv_cells SC.kind (fun ⟨y, u⟩ hy => ?_) fun env he s1 ic => ?_
  · rcases SC.par y (List.of_mem_zip hy).1 with q | q
    · exact .inl q
    · exact .inr ⟨q, PySem.W.cellsFrom_some _ _ _ (.inl q)⟩
  subst he
  refine ⟨hlim.keeps ic.toInCall.keep, codeAny_func ?_⟩
  obtain ⟨_, F, ι, st, ds, S, rs, q⟩ := hsp
  have hds : ds.length = ps.length := by rw [rs.length]; exact hl
  have I := inv_start (CX := L2.CX P w) (E := E) (cd := cdv) SC hr.hd e0 hl rv ic
  have bd : Bd (cxOf (L2.CX P w) P w K mg base N qual (defScope stm) f cdv B fr s H E) (wE E) k :=
    ⟨hr.deeper _, hgd, rfl, SC.nd, takes_of (X := cxOf (L2.CX P w) P w K mg base N qual (defScope stm) f cdv B fr s H E) (E := E) (E₁ := fun e' s'' => L2.CX P w fr H s E e' s'') rfl rfl rfl rfl⟩
  have hown := passes_of (X := cxOf (L2.CX P w) P w K mg base N qual (defScope stm) f cdv B fr s H E) (K := fun e s'' => L2.CX P w fr H s E e s'') (E₁ := fun e' s'' => L2.CX P w fr H s E e' s'') rfl
  unfold fnD at q
  rw [if_pos hds] at q
  refine wpAny_mono ((hb cdv B fr s H E bd hown).run [] s1 (start N vs) H { nx := fun _ H' => Q .non H', rt := Q } I ⟨F, ι, rho0 N.length ds, st, S, REnv.start rs (by omega), body_end S q⟩) (fun fl s' hs => ?_) fun e s' hs => hs
  cases fl with
  | ret u =>
    obtain ⟨v, σ', H', J, r', qq⟩ := hs
    exact ⟨v, H', J.os, J.bare, J.base, J.hok, r', qq⟩
  | next =>
    obtain ⟨σ', H', J, qq⟩ := hs
    exact ⟨V.non, H', J.os, J.bare, J.base, J.hok, rfl, qq⟩
  | brk =>
    obtain ⟨_, _, _, qq⟩ := hs
    exact False.elim qq
  | cont =>
    obtain ⟨_, _, _, qq⟩ := hs
    exact False.elim qq
/-- a def that may be called by its name -/
structure FnC (P : Program) (w : World) (K : PySem.W.Frag) (mg : Str → Option Value) (base : Heap) (k : Nat) (x : Str) (np : Nat) (spec : List D → M D) : Prop where
  ex : ∃ (f : Addr) (fd : FuncData) (ps : List Str), FnG P w K mg base k f fd ps (spD K np spec) ∧ mg x = some (.ref f) ∧ PySem.W.keepIn K (.ref f) = true ∧ Binds K fd ps []
end
section
variable {X : Cx} {W : WX} {k j : Nat} {x : Str} {np : Nat} {spec : List D → M D} {p pos : Pos} {e : Expr} {es : List Expr} {am : Rho → M (List D)}
theorem run_fnG {pins : List (Addr × Obj)} {σ : L2.St} {H : Hp} {s : Shared} {Q : VK} {us : List Value} {vs : List V} {f : Addr} {fd : FuncData} {ps : List Str} {sp : Sp} (F : FnG X.prog X.w X.K X.mg X.base k f fd ps sp) (hr : Room k X.A) (hgd : X.A.guards = some []) (hb : Binds X.K fd ps [])
    (tk : Takes X W) (I : Inv X pins σ H s) (r : Vals vs us) (h : sp vs H Q (fun cls dd H' => W cls dd σ H')) : wpAny (model X.prog X.w) X.A (call (.ref f) us) (EP X pins σ Q) X.xe s := by
  have hl : (us ++ []).length = ps.length := by rw [List.append_nil, ← r.length]; exact F.len _ _ _ _ h
  have bn := hb s us I.kIn hl
  rw [List.append_nil] at bn
  refine wpAny_call (codeAny_mono (F.run X.A X.stack s H ⟨us, []⟩ us vs Q _ hr hgd I.env0 bn r h) fun r s' hq => ?_)
  cases r with
  | error y => exact passAt tk σ pins H s y s' I hq
  | ok fl =>
    cases fl with
    | ret u => exact I.after hq
    | next => exact False.elim hq
    | brk => exact False.elim hq
    | cont => exact False.elim hq
def mCall (spec : List D → M D) (am : Rho → M (List D)) : Rho → M D := fun ρ st => (am ρ st).bind fun ds st1 => spec ds st1
theorem post_wE {α β : Type} {K : PySem.W.Frag} {σ : L2.St} {F : Hp} {ι : List Addr} {H : Hp} {R : Hp → Hp → List Addr → Hp → α → β → Prop} {r : Out α} {Q : β → Hp → Prop} (h : post K W σ F ι H R r Q) : post K (wE fun cls dd H' => W cls dd σ H') [] F ι H R r Q := by
  cases r with
  | ok a st => exact h
  | exc y st => exact h
  | bad => exact h
theorem spD_of {σ : L2.St} {F : Hp} {ι : List Addr} {H : Hp} {st : Sto} {ds : List D} {vs : List V} {Q : VK} {K : PySem.W.Frag} (S : Sim K F ι st H) (r : Reps K F ι ds vs) (hn : ds.length = np) (q : post K W σ F ι H (pV K) (spec ds st) Q) : spD K np spec vs H Q (fun cls dd H' => W cls dd σ H') :=
  ⟨by rw [← r.length]; exact hn, F, ι, st, ds, S, r, post_wE q⟩
/-- the length of the arguments, told by the spec -/
def NeedN (np : Nat) (spec : List D → M D) : Prop := ∀ ds st, ds.length ≠ np → spec ds st = .bad
theorem needN_fnD {nN : Nat} {m : Rho → Sto → Fl} : NeedN np (fnD np nN m) := fun ds st h => by unfold fnD; rw [if_neg h]
theorem de_call (B : Bd X W j) (C : FnC X.prog X.w X.K X.mg X.base k x np spec) (hk : k ≤ j) (hg : Gl X x) (nn : NeedN np spec) (ha : DA X W (e :: es) am) (hdb : (x == ("__debug__" : Str)) = false := by decide)
    (he : starEach (e :: es) X.env = (false, eval e X.env) :: starEach es X.env := by rfl) (hpl : (backTo pos (starEach es X.env)).any (·.1) = false := by rfl) : DE X W (.Call (.Name x p) (e :: es) [] pos) (mCall spec am) := by
  obtain ⟨f, fd, ps, F, hm, kp, hb⟩ := C.ex
  refine ⟨fun pins s σ H Q I ⟨F0, ι, ρ, st, S, R, q⟩ => ?_⟩
  refine wpAny_Call_Name_kw (ld_glob I hg hm ?_ hdb)
  refine PySem.W.callWith_K (h₀ := X.base) I.ok.mod.kin kp (thn (ha.run pos pins s σ H (fun vs H1 => spD X.K np spec vs H1 Q (fun cls dd H' => W cls dd σ H')) I ?_) fun us s1 ⟨vs, H1, I1, r, qq⟩ => ⟨I1.kIn, ?_⟩) he hpl
  · refine tG_seq back_V S R q fun ds st1 F1 ι1 H1 vs x1 S1 R1 r1 q1 => ?_
    by_cases hn : ds.length = np
    · exact spD_of S1 r1 hn q1
    · rw [nn ds st1 hn] at q1
      exact (q1 : False).elim
  · exact run_fnG F (B.room.mono hk) B.gd hb B.tk I1 r qq
theorem de_call0 (B : Bd X W j) (C : FnC X.prog X.w X.K X.mg X.base k x 0 spec) (hk : k ≤ j) (hg : Gl X x) (hdb : (x == ("__debug__" : Str)) = false := by decide) : DE X W (.Call (.Name x p) [] [] pos) (mCall spec mNil) := by
  obtain ⟨f, fd, ps, F, hm, kp, hb⟩ := C.ex
  refine ⟨fun pins s σ H Q I ⟨F0, ι, ρ, st, S, R, q⟩ => ?_⟩
  refine wpAny_Call_Name_kw (ld_glob I hg hm ?_ hdb)
  exact PySem.W.callWith_K0 I.kIn kp (run_fnG (us := []) F (B.room.mono hk) B.gd hb B.tk I .nil (spD_of (ds := []) S Reps.nil rfl q))
end
end Dn
/-! DnK: the end of a law. -/
namespace Dn
open PySem PySem.Spec PyProof.Rows L2
section
variable {P : Program} {w : World} {K : PySem.W.Frag} {mg mb : Str → Option Value} {k : Nat} {fa p : Addr} {fd : FuncData} {x : Str} {sp : Sp} {t : Shared} {us : List Value} {ns : List Int}
/-- from one abstract heap -/
theorem end_at (KX : K.In t.heap) (hns : t.heap.Ns mainGlobals mg) (hb : t.heap.Ns builtinsNs mb) (hbb : ∀ y : Str, y ≠ "__name__" → mb y = bootBuiltins y) (hlim : t.heap.NoLimit) (hg : t.gens = #[])
    (hp : t.heap.get? p = some { cls := .type "list", data := .seq us.toArray }) (hr : Room k callerA) (G : ∀ base : Heap, K.In base → base.Ns mainGlobals mg → FnG P w K mg base k fa fd [x] sp)
    (hbind : ∀ (s : Shared) (u : Value), BindsTo s fd ⟨[u], []⟩ [(x, u)]) {H : Hp} (hO : Only H) (hsp : sp [.ref p] H (fun v _ => v = .bl true) fun _ _ _ => False) (hok : HOk P w H t.heap) (one : ∀ c, H c ≠ none → c = p) (out : H p ≠ none → K.lookup p = none) :
    codeAny (model P w) callerA (.call (.ref fa) ⟨[.ref p], []⟩) (fun r t' => r = .ok (.ret (.bool true)) ∧ OldK t.heap t'.heap ∧ t'.os = t.os ∧ AllBare t'.gens) t := by
  have alone : ∀ {c : Addr} {o : Obj}, t.heap.get? c = some o → (∀ xs : Array Value, o.data ≠ .seq xs) → H c = none := fun {c o} e d => by
    cases q : H c with
    | none => rfl
    | some u =>
      obtain rfl : c = p := one c (by rw [q]; simp)
      rw [e] at hp
      cases hp
      exact absurd rfl (d us.toArray)
  have shown : ∀ {c : Addr} {f : Str → Option Value}, t.heap.Ns c f → (hidT t.heap H).Ns c f := fun {c f} ⟨o, es, n, e, d, r⟩ =>
    ⟨o, es, n, hidT_get e (alone e fun xs z => by rw [d] at z; cases z), d, r⟩
  have inB : K.In (hidT t.heap H) := fun c o e => hidT_get (KX c o e) (by
    cases q : H c with
    | none => rfl
    | some u =>
      obtain rfl : c = p := one c (by rw [q]; simp)
      have := out (by rw [q]; simp)
      rw [e] at this
      cases this)
  have M : Mod K mg (hidT t.heap H) := by
    refine ⟨inB, shown hns, ⟨mb, shown hb, hbb⟩, ?_⟩
    obtain ⟨f, h1, h2⟩ := hlim
    exact ⟨f, shown h1, h2⟩
  have E : Env0 P w K mg (hidT t.heap H) callerA [] t H := by
    refine ⟨rfl, M, fun c o e => of_hidT e, Nat.le_of_eq (hidT_size _ _), trivial, fun c hc => ?_, hok, .of_eq hg⟩
    cases (show c ∈ ([] : List Addr) from hc)
  refine codeAny_mono ((G _ inB (shown hns)).run callerA [] t H ⟨[.ref p], []⟩ [.ref p] [.ref p] _ _ hr rfl E (hbind t (.ref p)) (.cons rfl .nil) hsp) fun r t' h => ?_
  cases r with
  | error e =>
    obtain ⟨_, _, _, _, _, _, _, _, _, _, _, _, z⟩ := h
    exact z.elim
  | ok fl =>
    cases fl with
    | next => exact False.elim h
    | brk => exact False.elim h
    | cont => exact False.elim h
    | ret u =>
      obtain ⟨v, H', os, bare, un, hok', rv, hv⟩ := h
      obtain rfl : v = .bl true := hv
      obtain rfl : u = Value.bool true := rv
      refine ⟨rfl, OldK.of_keep fun c o e => ?_, os, bare⟩
      rcases hO c with z | ⟨o2, xs, z⟩
      · refine un.keep c o e z (fun y => ?_) (by simp)
        cases (show c ∈ ([] : List Addr) from y)
      · have y1 := (hok c _ z).1
        have y2 := (hok' c _ (un.frzs c o2 _ z)).1
        rw [e] at y1
        cases y1
        exact y2
theorem end_law (KX : K.In t.heap) (hns : t.heap.Ns mainGlobals mg) (hb : t.heap.Ns builtinsNs mb) (hbb : ∀ y : Str, y ≠ "__name__" → mb y = bootBuiltins y) (hlim : t.heap.NoLimit) (hg : t.gens = #[])
    (hp : t.heap.get? p = some { cls := .type "list", data := .seq us.toArray }) (hi : IntsAre us ns) (hl : ns.length ≤ sizeLine) (hr : Room k callerA) (G : ∀ base : Heap, K.In base → base.Ns mainGlobals mg → FnG P w K mg base k fa fd [x] sp)
    (hbind : ∀ (s : Shared) (u : Value), BindsTo s fd ⟨[u], []⟩ [(x, u)]) (hsp : ∀ H : Hp, Only H → SqL K H p (ns.map V.int) → sp [.ref p] H (fun v _ => v = .bl true) fun _ _ _ => False) :
    codeAny (model P w) callerA (.call (.ref fa) ⟨[.ref p], []⟩) (fun r t' => r = .ok (.ret (.bool true)) ∧ OldK t.heap t'.heap ∧ t'.os = t.os ∧ AllBare t'.gens) t := by
  have rv := vals_ints hi
  have ln := hi.length
  cases hk : K.lookup p with
  | some o =>
    have e := KX p o hk
    rw [hp] at e
    cases e
    let H : Hp := fun _ => none
    have nH : ∀ c, H c = none := fun _ => rfl
    have hS : SqL K H p (ns.map V.int) := .inr ⟨_, us.toArray, _, hk, rfl, rfl, rfl, by rw [List.size_toArray, ln]; exact hl, by simpa using rv⟩
    have hk0 : HOk P w H t.heap := fun c u z => by
      rw [nH c] at z
      cases z
    exact end_at KX hns hb hbb hlim hg hp hr G hbind (H := H) (fun c => .inl rfl) (hsp H (fun c => .inl rfl) hS) hk0 (fun c z => absurd (nH c) z) fun z => absurd (nH p) z
  | none =>
    let o : Obj := { cls := .type "list", data := .seq us.toArray }
    let H : Hp := fun c => if c = p then some (.frz o (.lst (ns.map V.int))) else none
    have atP : H p = some (.frz o (.lst (ns.map V.int))) := if_pos rfl
    have offP : ∀ c, c ≠ p → H c = none := fun c h => if_neg h
    have only : Only H := fun c => by
      by_cases h : c = p
      · exact .inr ⟨o, ns.map V.int, by rw [h]; exact atP⟩
      · exact .inl (offP c h)
    refine end_at KX hns hb hbb hlim hg hp hr G hbind (H := H) only (hsp H only (.inl (.inr ⟨o, atP⟩))) (fun c u z => ?_) (fun c z => ?_) fun _ => hk
    · by_cases h : c = p
      · subst h
        rw [atP] at z
        cases z
        exact ⟨hp, by rw [List.length_map]; exact hl, us, _, rv, hp⟩
      · rw [offP c h] at z
        cases z
    · by_cases h : c = p
      · exact h
      · exact absurd (offP c h) z
end
theorem reps_ints {K : PySem.W.Frag} {F : Hp} {ι : List Addr} : ∀ ns : List Int, Reps K F ι (ns.map D.int) (ns.map V.int)
  | [] => Reps.nil
  | n :: ns => Reps.cons (by simp only [Rep]) (reps_ints ns)
theorem sp_start {K : PySem.W.Frag} {spec : List D → M D} {H : Hp} {a : Addr} {ns : List Int} {st' : Sto} (e : spec [.scr (ns.map D.int)] [] = .ok (.bl true) st') (hO : Only H) (hS : SqL K H a (ns.map V.int)) :
    spD K 1 spec [.ref a] H (fun v _ => v = .bl true) fun _ _ _ => False := by
  refine ⟨rfl, H, [], [], [.scr (ns.map D.int)], ?_, ?_, ?_⟩
  · refine ⟨fun _ _ h => h, fun b o h => ?_, rfl, List.nodup_nil, (fun l b h _ => nomatch h), (fun b h => nomatch h), (fun l m b h => nomatch h)⟩
    rcases hO b with q | ⟨o2, xs, q⟩
    · rw [q] at h; cases h
    · rw [q] at h; cases h; trivial
  · refine Reps.cons ?_ Reps.nil
    simp only [Rep]
    exact ⟨a, _, rfl, hS, reps_ints ns⟩
  · rw [e]
    intro F' ι' H' v x S r
    have r' : Rep K F' ι' (.bl true) v := r
    simpa only [Rep] using r'
theorem walkG {l : PySem.W.OpenLaw} {k : Nat} {q : Program} {loose : List Str} {XP : (Str → Option Value) → Heap → Prop} {YP : World → Heap → Prop} {d : DefRec} {K : Params → PySem.W.Frag} {spec : List D → M D} {x : Str}
    (hn : l.most = some 63) (hdf : d.params.defaults = []) (hr : Room k callerA)
    (hspec : ∀ ns : List Int, ns.length ≤ 63 → (∀ z ∈ ns, Builtin.Int.intBits z ≤ 1048576) → ∃ st', spec [.scr (ns.map D.int)] [] = .ok (.bl true) st')
    (hY : ∀ (w : World) (h : Heap), YP w h → (K w.params).In h)
    (G : ∀ (w : World) (mg : Str → Option Value) (fa : Addr) (h : Heap), (K w.params).In h → h.Ns mainGlobals mg → mg d.name = some (.ref fa) →
      ∃ fd : FuncData, (∀ (s : Shared) (u : Value), BindsTo s fd ⟨[u], []⟩ [(x, u)]) ∧ ∀ base : Heap, (K w.params).In base → base.Ns mainGlobals mg → FnG l.prog w (K w.params) mg base k fa fd [x] (spD (K w.params) 1 spec)) :
    PySem.W.WalkO q loose XP YP l.row.toRowW d [] (fun f vs => PySem.call f vs) := by
  refine Att.attach_callB hn hdf fun w s0 t mg mb fa o pm cd doc a vs ns Gr Y ho hd hcd hmg hobj hints hlen hbits hg => ?_
  have KX := hY w _ Y
  obtain ⟨fd, hb, hF⟩ := G w mg fa _ KX Gr.T.g hmg
  obtain ⟨st', e⟩ := hspec ns hlen hbits
  exact end_law KX Gr.T.g Gr.T.b Gr.T.builtins Gr.T.nolimit hg hobj hints (Nat.le_trans hlen (by decide)) hr hF hb fun H hO hS => sp_start e hO hS
end Dn
/-! DnL: methods of lists and texts, stores by place, starred items, sorting. -/
namespace Dn
open PySem PySem.Spec PyProof.Rows L2
/-! ### starred items -/
def mStar (m : Rho → M D) (r : Rho → M (List D)) : Rho → M (List D) := fun ρ st => (m ρ st).bind fun d st1 => match seqOf st1 d with
  | some xs => (r ρ st1).bind fun ds st2 => .ok (xs ++ ds) st2
  | none => .bad
section
variable {X : Cx} {W : WX} {p : Pos} {e : Expr} {es : List Expr} {m : Rho → M D} {r : Rho → M (List D)}
theorem da_star (he : DE X W e m) (hr : DA X W es r) (hs : starEach (.Starred e p :: es) X.env = (true, eval e X.env) :: starEach es X.env := by rfl) : DA X W (.Starred e p :: es) (mStar m r) := by
  refine PA.weak (StX.pa_star he hr hs) fun σ H Q ⟨F, ι, ρ, st, S, R, q⟩ => ?_
  refine tG_seq back_A S R q fun d st1 F1 ι1 H1 v x1 S1 R1 r1 q1 => ?_
  cases e1 : seqOf st1 d with
  | none => rw [e1] at q1; exact (q1 : False).elim
  | some xs =>
    rw [e1] at q1
    obtain ⟨a, vs, ev, hq, rr⟩ := S1.seq r1 e1
    refine ⟨a, vs, ev, hq.symm, ?_⟩
    exact tG_seq back_A S1 R1 q1 fun ds st2 F2 ι2 H2 ws x2 S2 R2 r2 q2 => q2 F2 ι2 H2 _ Ext.refl S2 ((rr.ext x2).append r2)
end
/-! ### methods -/
def D.isTy (st : Sto) (T : String) : D → Prop
  | .str _ => T = "str"
  | .int _ => T = "int"
  | .lst _ => T = "list"
  | .scr _ => T = "list"
  | .ref l => T = "list" ∧ ∃ xs, st[l]? = some (.lst xs)
  | _ => False
open Classical in
noncomputable def mMeth (T : String) (p : D → List D → M D) (mo : Rho → M D) (am : Rho → M (List D)) : Rho → M D := fun ρ st =>
  (mo ρ st).bind fun o st1 => if o.isTy st1 T then (am ρ st1).bind fun ds st2 => nox (p o ds st2) else .bad
def rM (K : PySem.W.Frag) (p : D → List D → M D) : V → List V → Hp → VK → Prop := fun x xs H Q => ∃ F ι st d ds d' st', Sim K F ι st H ∧ Rep K F ι d x ∧ Reps K F ι ds xs ∧ p d ds st = .ok d' st' ∧
  ∀ F' ι' H' v, Ext F ι H F' ι' H' → Sim K F' ι' st' H' → Rep K F' ι' d' v → Q v H'
theorem Sim.tyV {K : PySem.W.Frag} {F : Hp} {ι : List Addr} {st : Sto} {H : Hp} {d : D} {v : V} {T : String} (S : Sim K F ι st H) (r : Rep K F ι d v) (h : d.isTy st T) : L2.tyV K T v H := by
  cases d with
  | str z => simp only [Rep] at r; subst r; exact h
  | int i => simp only [Rep] at r; subst r; exact h
  | lst xs =>
    simp only [Rep] at r
    obtain ⟨a, vs, rfl, q, rr⟩ := r
    exact .inl ⟨h, vs, .inl (.inl (S.sub _ _ q))⟩
  | scr xs =>
    simp only [Rep] at r
    obtain ⟨a, vs, rfl, q, rr⟩ := r
    exact .inl ⟨h, vs, S.sqL q⟩
  | ref l =>
    simp only [Rep] at r
    obtain ⟨a, rfl, q⟩ := r
    obtain ⟨hT, xs, e⟩ := h
    obtain ⟨vs, e2, _⟩ := S.obj l _ a e q
    exact .inl ⟨hT, vs, .inl (.inl e2)⟩
  | non => exact h.elim
  | bl _ => exact h.elim
  | tup _ => exact h.elim
  | adr _ => exact h.elim
  | fd _ _ => exact h.elim
  | exo _ _ _ _ => exact h.elim
  | obj _ _ _ => exact h.elim
section
variable {X : Cx} {W : WX} {apos cpos : Pos} {o e : Expr} {es : List Expr} {mo : Rho → M D} {am : Rho → M (List D)} {T id : String} {name : Str} {p : D → List D → M D}
theorem nox_eq {α : Type} {r : Out α} {d : α} {st : Sto} (h : nox r = .ok d st) : r = .ok d st := by
  cases r with
  | ok a s => exact h
  | exc _ _ => cases h
  | bad => cases h
theorem de_m (pa : PlainAttrs T) (slot : Slot T name id) (hty : typeOf (.builtin id) = pure (.type "method_descriptor")) (hm : MtR X id (rM X.K p)) (ho : DE X W o mo) (ha : DA X W (e :: es) am)
    (hbase : attributeBase o name X.env (eval o X.env) = eval o X.env := by rfl)
    (hfew : ((backTo cpos (starEach (e :: es) X.env)).all (fun x => !x.1) && (backToKw cpos (keywordEach [] X.env)).all (fun x => x.1.isSome)
      && decide ((e :: es).length + ([] : List Keyword).length + (if ([] : List Keyword).isEmpty then 0 else 1) < 30)) = true := by rfl)
    (hline : (apos.endLine == cpos.line) = true := by rfl) (hs : starEach (e :: es) X.env = (false, eval e X.env) :: starEach es X.env := by rfl) (hpl : (backTo cpos (starEach es X.env)).any (·.1) = false := by rfl) :
    DE X W (.Call (.Attribute o name apos) (e :: es) [] cpos) (mMeth T p mo am) := by
  refine PE.weak (pe_bm pa slot hty hm ho ha hbase hfew hline hs hpl) fun σ H Q ⟨F, ι, ρ, st, S, R, q⟩ => ?_
  refine tG_seq back_V S R q fun d st1 F1 ι1 H1 v x1 S1 R1 r1 q1 => ?_
  split at q1
  rotate_left
  · exact (q1 : False).elim
  rename_i hT
  refine ⟨S1.tyV r1 hT, ?_⟩
  refine tG_seq back_V S1 R1 q1 fun ds st2 F2 ι2 H2 vs x2 S2 R2 r2 q2 => ?_
  cases e1 : p d ds st2 with
  | ok d' st' =>
    rw [e1] at q2
    exact ⟨F2, ι2, st2, d, ds, d', st', S2, r1.ext x2, r2, e1, q2⟩
  | exc _ _ => rw [e1] at q2; exact (q2 : False).elim
  | bad => rw [e1] at q2; exact (q2 : False).elim
theorem de_m0 (pa : PlainAttrs T) (slot : Slot T name id) (hty : typeOf (.builtin id) = pure (.type "method_descriptor")) (hm : MtR X id (rM X.K p)) (ho : DE X W o mo)
    (hbase : attributeBase o name X.env (eval o X.env) = eval o X.env := by rfl) (hline : (apos.endLine == cpos.line) = true := by rfl) : DE X W (.Call (.Attribute o name apos) [] [] cpos) (mMeth T p mo mNil) := by
  refine PE.weak (pe_bm0 pa slot hty hm ho hbase hline) fun σ H Q ⟨F, ι, ρ, st, S, R, q⟩ => ?_
  refine tG_seq back_V S R q fun d st1 F1 ι1 H1 v x1 S1 R1 r1 q1 => ?_
  split at q1
  rotate_left
  · exact (q1 : False).elim
  rename_i hT
  refine ⟨S1.tyV r1 hT, ?_⟩
  change post _ _ _ _ _ _ _ (nox (p d [] st1)) Q at q1
  cases e1 : p d [] st1 with
  | ok d' st' =>
    rw [e1] at q1
    exact ⟨F1, ι1, st1, d, [], d', st', S1, r1, Reps.nil, e1, q1⟩
  | exc _ _ => rw [e1] at q1; exact (q1 : False).elim
  | bad => rw [e1] at q1; exact (q1 : False).elim
end
/-- the list in the store -/
theorem Sim.mut {K : PySem.W.Frag} {F : Hp} {ι : List Addr} {st : Sto} {H : Hp} {l : Nat} {v : V} {xs : List D} (S : Sim K F ι st H) (r : Rep K F ι (.ref l) v) (h : st[l]? = some (.lst xs)) : ∃ a vs, v = .ref a ∧ ι[l]? = some a ∧ H a = some (.lst vs) ∧ Reps K F ι xs vs := by
  simp only [Rep] at r
  obtain ⟨a, rfl, q⟩ := r
  obtain ⟨vs, e2, rr⟩ := S.obj l _ a h q
  exact ⟨a, vs, rfl, q, e2, rr⟩
theorem write_lst {K : PySem.W.Frag} {F : Hp} {ι : List Addr} {st : Sto} {H : Hp} {l : Nat} {a : Addr} {vs ws : List V} {ys : List D} {xs : List D} (S : Sim K F ι st H) (hg : st[l]? = some (.lst xs)) (q : ι[l]? = some a) (h : H a = some (.lst vs)) (r : Reps K F ι ys ws) :
    Ext F ι H F ι (upd H a (.lst ws)) ∧ Sim K F ι (st.set l (.lst ys)) (upd H a (.lst ws)) :=
  ⟨Ext.write q (by rw [h]; simp), S.write q (by rw [hg]; simp) ⟨ws, upd_same, r⟩⟩
def onL (st : Sto) (d : D) (f : Nat → List D → Out D) : Out D := match d with
  | .ref l => match st[l]? with
    | some (.lst xs) => f l xs
    | _ => .bad
  | _ => .bad
theorem onL_ok {st st' : Sto} {d d' : D} {f : Nat → List D → Out D} (h : onL st d f = .ok d' st') : ∃ l xs, d = .ref l ∧ st[l]? = some (.lst xs) ∧ f l xs = .ok d' st' := by
  unfold onL at h
  split at h
  · split at h
    · rename_i l _ xs e
      exact ⟨l, xs, rfl, e, h⟩
    · cases h
  · cases h
theorem rep_non {K : PySem.W.Frag} {F : Hp} {ι : List Addr} : Rep K F ι .non .non := by simp only [Rep]
def pAppend : D → List D → M D := fun d ds st => onL st d fun l xs => match ds with
  | [y] => if xs.length < SZ then .ok .non (st.set l (.lst (xs ++ [y]))) else .bad
  | _ => .bad
def pExtend : D → List D → M D := fun d ds st => onL st d fun l xs => match ds with
  | [y] => match lstOf st y with
    | some ys => if xs.length + ys.length ≤ SZ then .ok .non (st.set l (.lst (xs ++ ys))) else .bad
    | none => .bad
  | _ => .bad
def pPop : D → List D → M D := fun d ds st => onL st d fun l xs => match ds with
  | [] => match xs[xs.length - 1]? with
    | some y => .ok y (st.set l (.lst xs.dropLast))
    | none => .bad
  | _ => .bad
noncomputable def pPopAt : D → List D → M D := fun d ds st => onL st d fun l xs => match ds with
  | [.int i] => @ite _ (-(2 ^ 63) ≤ i ∧ i < 2 ^ 63) (Classical.propDecidable _) (match seqIndex? i xs.length with
    | some k => match xs[k]? with
      | some y => .ok y (st.set l (.lst (xs.eraseIdx k)))
      | none => .bad
    | none => .bad) .bad
  | _ => .bad
noncomputable def pInsert : D → List D → M D := fun d ds st => onL st d fun l xs => match ds with
  | [.int i, y] => @ite _ (xs.length < SZ ∧ 0 ≤ i ∧ i < 2 ^ 63) (Classical.propDecidable _) (.ok .non (st.set l (.lst (xs.take i.toNat ++ [y] ++ xs.drop i.toNat)))) (.bad)
  | _ => .bad
theorem Reps.take' {K : PySem.W.Frag} {F : Hp} {ι : List Addr} : ∀ {ds : List D} {vs : List V} (n : Nat), Reps K F ι ds vs → Reps K F ι (ds.take n) (vs.take n)
  | [], _, n, h => by simp only [Reps] at h; subst h; simp only [List.take_nil]; exact Reps.nil
  | d :: ds, _, 0, h => by simp only [List.take_zero]; exact Reps.nil
  | d :: ds, _, n + 1, h => by
    simp only [Reps] at h
    obtain ⟨v, r, rfl, h1, h2⟩ := h
    exact Reps.cons h1 (Reps.take' n h2)
theorem Reps.drop' {K : PySem.W.Frag} {F : Hp} {ι : List Addr} : ∀ {ds : List D} {vs : List V} (n : Nat), Reps K F ι ds vs → Reps K F ι (ds.drop n) (vs.drop n)
  | [], _, n, h => by simp only [Reps] at h; subst h; simp only [List.drop_nil]; exact Reps.nil
  | d :: ds, _, 0, h => h
  | d :: ds, _, n + 1, h => by
    simp only [Reps] at h
    obtain ⟨v, r, rfl, h1, h2⟩ := h
    exact Reps.drop' n h2
theorem Reps.erase {K : PySem.W.Frag} {F : Hp} {ι : List Addr} : ∀ {ds : List D} {vs : List V} (n : Nat), Reps K F ι ds vs → Reps K F ι (ds.eraseIdx n) (vs.eraseIdx n)
  | [], _, n, h => by simp only [Reps] at h; subst h; exact Reps.nil
  | d :: ds, _, 0, h => by
    simp only [Reps] at h
    obtain ⟨v, r, rfl, h1, h2⟩ := h
    exact h2
  | d :: ds, _, n + 1, h => by
    simp only [Reps] at h
    obtain ⟨v, r, rfl, h1, h2⟩ := h
    exact Reps.cons h1 (Reps.erase n h2)
theorem Reps.setAt {K : PySem.W.Frag} {F : Hp} {ι : List Addr} {d : D} {v : V} (hd : Rep K F ι d v) : ∀ {ds : List D} {vs : List V} (n : Nat), Reps K F ι ds vs → Reps K F ι (ds.set n d) (vs.set n v)
  | [], _, n, h => by simp only [Reps] at h; subst h; exact Reps.nil
  | e :: ds, _, 0, h => by
    simp only [Reps] at h
    obtain ⟨v, r, rfl, h1, h2⟩ := h
    exact Reps.cons hd h2
  | e :: ds, _, n + 1, h => by
    simp only [Reps] at h
    obtain ⟨v, r, rfl, h1, h2⟩ := h
    exact Reps.cons h1 (Reps.setAt hd n h2)
theorem Reps.dropL {K : PySem.W.Frag} {F : Hp} {ι : List Addr} {ds : List D} {vs : List V} (h : Reps K F ι ds vs) : Reps K F ι ds.dropLast vs.dropLast := by
  rw [List.dropLast_eq_take, List.dropLast_eq_take, h.length]
  exact Reps.take' _ h
theorem Reps.two' {K : PySem.W.Frag} {F : Hp} {ι : List Addr} {d e : D} {vs : List V} (h : Reps K F ι [d, e] vs) : ∃ v w, vs = [v, w] ∧ Rep K F ι d v ∧ Rep K F ι e w := by
  simp only [Reps] at h
  obtain ⟨v, r, rfl, h1, w, r', rfl, h2, rfl⟩ := h
  exact ⟨v, w, rfl, h1, h2⟩
theorem Reps.one' {K : PySem.W.Frag} {F : Hp} {ι : List Addr} {d : D} {vs : List V} (h : Reps K F ι [d] vs) : ∃ v, vs = [v] ∧ Rep K F ι d v := by
  simp only [Reps] at h
  obtain ⟨v, r, rfl, h1, rfl⟩ := h
  exact ⟨v, rfl, h1⟩
theorem mtM {X : Cx} {id : String} {r : V → List V → Hp → VK → Prop} {p : D → List D → M D} (h : MtR X id r) (w : ∀ x xs H Q, rM X.K p x xs H Q → r x xs H Q) : MtR X id (rM X.K p) := fun pins s σ H x xs v us Q I rx rxs q => h pins s σ H x xs v us Q I rx rxs (w _ _ _ _ q)
section
variable {X : Cx}
theorem mt_pAppend : MtR X "list.append" (rM X.K pAppend) := mtM mt_append fun x xs H Q ⟨F, ι, st, d, ds, d', st', S, rd, rds, e, q⟩ => by
  obtain ⟨l, ys, rfl, hl, e⟩ := onL_ok e
  split at e
  · split at e
    · rename_i y hz
      cases e
      obtain ⟨a, vs, rfl, q1, q2, q3⟩ := S.mut rd hl
      obtain ⟨v, rfl, rv⟩ := rds.one'
      obtain ⟨x1, S1⟩ := write_lst S hl q1 q2 (q3.snoc rv)
      exact ⟨a, vs, v, rfl, rfl, q2, by rw [← q3.length]; exact sz_lt (Nat.le_of_lt hz), q _ _ _ _ x1 S1 rep_non⟩
    · cases e
  · cases e
theorem mt_pExtend : MtR X "list.extend" (rM X.K pExtend) := mtM mt_extend fun x xs H Q ⟨F, ι, st, d, ds, d', st', S, rd, rds, e, q⟩ => by
  obtain ⟨l, ys, rfl, hl, e⟩ := onL_ok e
  split at e
  · split at e
    · split at e
      · rename_i y zs hy hz
        cases e
        obtain ⟨a, vs, rfl, q1, q2, q3⟩ := S.mut rd hl
        obtain ⟨v, rfl, rv⟩ := rds.one'
        obtain ⟨b, ws, rfl, hb, rb⟩ := S.lst rv hy
        obtain ⟨x1, S1⟩ := write_lst S hl q1 q2 (q3.append rb)
        exact ⟨a, b, vs, ws, rfl, rfl, q2, hb, by rw [← q3.length, ← rb.length]; exact sz_le hz, q _ _ _ _ x1 S1 rep_non⟩
      · cases e
    · cases e
  · cases e
theorem mt_pPop : MtR X "list.pop" (rM X.K pPop) := mtM mt_pop fun x xs H Q ⟨F, ι, st, d, ds, d', st', S, rd, rds, e, q⟩ => by
  obtain ⟨l, ys, rfl, hl, e⟩ := onL_ok e
  split at e
  · split at e
    · rename_i y hy
      cases e
      obtain ⟨a, vs, rfl, q1, q2, q3⟩ := S.mut rd hl
      obtain ⟨v, hv, rv⟩ := q3.get hy
      obtain ⟨x1, S1⟩ := write_lst S hl q1 q2 q3.dropL
      simp only [Reps] at rds
      exact ⟨a, vs, v, rfl, rds, q2, by rw [← q3.length]; exact hv, q _ _ _ _ x1 S1 rv⟩
    · cases e
  · cases e
theorem mt_pPopAt : MtR X "list.pop" (rM X.K pPopAt) := mtM mt_popAt fun x xs H Q ⟨F, ι, st, d, ds, d', st', S, rd, rds, e, q⟩ => by
  obtain ⟨l, ys, rfl, hl, e⟩ := onL_ok e
  split at e
  · split at e
    · split at e
      · split at e
        · rename_i hi _ k hk _ y hy
          cases e
          obtain ⟨a, vs, rfl, q1, q2, q3⟩ := S.mut rd hl
          obtain ⟨v, hv, rv⟩ := q3.get hy
          obtain ⟨x1, S1⟩ := write_lst S hl q1 q2 (q3.erase k)
          obtain ⟨u, rfl, ru⟩ := rds.one'
          simp only [Rep] at ru
          subst ru
          exact ⟨a, vs, _, k, v, rfl, rfl, q2, hi.1, hi.2, by rw [← q3.length]; exact hk, hv, q _ _ _ _ x1 S1 rv⟩
        · cases e
      · cases e
    · cases e
  · cases e
theorem mt_pInsert : MtR X "list.insert" (rM X.K pInsert) := mtM mt_insert fun x xs H Q ⟨F, ι, st, d, ds, d', st', S, rd, rds, e, q⟩ => by
  obtain ⟨l, ys, rfl, hl, e⟩ := onL_ok e
  split at e
  · split at e
    · rename_i i y _ hi
      cases e
      obtain ⟨a, vs, rfl, q1, q2, q3⟩ := S.mut rd hl
      obtain ⟨u, v, rfl, ru, rv⟩ := rds.two'
      simp only [Rep] at ru
      subst ru
      obtain ⟨x1, S1⟩ := write_lst S hl q1 q2 (((q3.take' i.toNat).append (Reps.cons rv Reps.nil)).append (q3.drop' i.toNat))
      exact ⟨a, vs, i, v, rfl, rfl, q2, by rw [← q3.length]; exact sz_lt (Nat.le_of_lt hi.1), hi.2.1, hi.2.2, q _ _ _ _ x1 S1 rep_non⟩
    · cases e
  · cases e
end
/-! ### o[i] = v -/
def gSubD (mo mi : Rho → M D) : D → Rho → M Rho := fun d ρ st => (mo ρ st).bind fun o st1 => (mi ρ st1).bind fun i st2 => match o, i with
  | .ref l, .int k => match st2[l]? with
    | some (.lst xs) => match ixN xs.length k with
      | some j => .ok ρ (st2.set l (.lst (xs.set j d)))
      | none => .bad
    | _ => .bad
  | _, _ => .bad
section
variable {X : Cx} {pos : Pos} {o i : Expr} {mo mi : Rho → M D}
theorem dg_sub (ho : DE X wN o mo) (hi : DE X wN i mi)
    (ha : ∀ v, assign (.Subscript o i pos) X.env v = (do
      let ov ← holding [v] (eval o X.env)
      let iv ← holding [v, ov] (eval i X.env)
      standAt pos
      holding [v, ov, iv] (setItem ov iv v)
      release [v, ov, iv] []) := by intro _; rfl) : DG X [] (.Subscript o i pos) (gSubD mo mi) := by
  refine PG.weak (pg_sub ho hi set_list ha) fun v σ H Q ⟨F, ι, ρ, st, d, S, R, r, q⟩ => ?_
  have bk : Back (pR X.K [] σ) := fun _ _ _ _ _ _ _ _ h => h
  refine tG_seq bk S R q fun od st1 F1 ι1 H1 ov x1 S1 R1 r1 q1 => ?_
  refine tG_seq bk S1 R1 q1 fun id st2 F2 ι2 H2 iv x2 S2 R2 r2 q2 => ?_
  split at q2
  · split at q2
    · split at q2
      · rename_i l k _ xs hl _ j hj
        obtain ⟨a, vs, rfl, e1, e2, e3⟩ := S2.mut (r1.ext x2) hl
        have r2 : iv = V.int k := by simpa only [pV, Rep] using r2
        subst r2
        obtain ⟨x3, S3⟩ := write_lst S2 hl e1 e2 (e3.setAt ((r.ext x1).ext x2) j)
        exact ⟨a, vs, k, j, rfl, rfl, e2, by rw [← e3.length]; exact hj, q2 _ _ _ _ x3 S3 ⟨R2.ext x3, fun vs _ => rfl⟩⟩
      · exact (q2 : False).elim
    · exact (q2 : False).elim
  · exact (q2 : False).elim
end
end Dn
/-! DnM: sorted(..), tuple(range(..)), list(range(..)). -/
namespace Dn
open PySem PySem.Spec PyProof.Rows L2
mutual
theorem reads_lt {h : Heap} : ∀ (d : PyData) (v : Value) (as : List Addr), PySem.W.alike d d = true → Reads h v d as → ∀ a ∈ as, a < h.objs.size
  | .none, _, _, _, r, a, ha => by cases r; cases ha
  | .bool _, _, _, _, r, a, ha => by cases r; cases ha
  | .int _, _, _, _, r, a, ha => by cases r; cases ha
  | .str _, _, _, _, r, a, ha => by cases r; cases ha
  | .list xs, _, _, hal, r, a, ha => by
    cases r with
    | list h1 h2 h3 h4 =>
      rcases List.mem_cons.mp ha with e | e
      · rw [e]; exact Heap.lt_size h1
      · exact readsAll_lt xs _ _ (by simpa [PySem.W.alike] using hal) h4 a e
  | .tuple xs, _, _, hal, r, a, ha => by
    cases r with
    | tuple h1 h2 h3 h4 => exact readsAll_lt xs _ _ (by simpa [PySem.W.alike] using hal) h4 a ha
  | .dict _, _, _, hal, _, _, _ => absurd hal (by simp [PySem.W.alike])
theorem readsAll_lt {h : Heap} : ∀ (ds : List PyData) (vs : List Value) (as : List Addr), PySem.W.alikeAll ds ds = true → ReadsAll h vs ds as → ∀ a ∈ as, a < h.objs.size
  | [], _, _, _, r, a, ha => by cases r; cases ha
  | d :: ds, _, _, hal, r, a, ha => by
    cases r with
    | cons h1 h2 =>
      rcases List.mem_append.mp ha with e | e
      · exact reads_lt d _ _ (PySem.W.alike_all_cons hal).1 h1 a e
      · exact readsAll_lt ds _ _ (PySem.W.alike_all_cons hal).2 h2 a e
end
/-- pairs of a value by value and its value in the heap -/
theorem each_pairs {K : PySem.W.Frag} {F : Hp} {ι : List Addr} : ∀ {ds : List D} {vs : List V} {us : List Value}, Reps K F ι ds vs → Vals vs us → PySem.W.EachIs (fun u (p : D × V) => RelV p.2 u ∧ Rep K F ι p.1 p.2) us (ds.zip vs)
  | [], _, _, h, r => by
    simp only [Reps] at h
    subst h
    cases r
    exact .nil
  | d :: ds, _, _, h, r => by
    simp only [Reps] at h
    obtain ⟨v, ws, rfl, h1, h2⟩ := h
    cases r with
    | cons r1 r2 => exact .cons ⟨r1, h1⟩ (each_pairs h2 r2)
theorem pairs_each {K : PySem.W.Frag} {F : Hp} {ι : List Addr} : ∀ {bs : List (D × V)} {us : List Value}, PySem.W.EachIs (fun u (p : D × V) => RelV p.2 u ∧ Rep K F ι p.1 p.2) us bs → Reps K F ι (bs.map (·.1)) (bs.map (·.2)) ∧ Vals (bs.map (·.2)) us
  | [], _, h => by cases h; exact ⟨Reps.nil, .nil⟩
  | b :: bs, _, h => by
    cases h with
    | cons h1 h2 =>
      obtain ⟨a, c⟩ := pairs_each h2
      exact ⟨Reps.cons h1.2 a, .cons h1.1 c⟩
theorem zip_fst {K : PySem.W.Frag} {F : Hp} {ι : List Addr} {ds : List D} {vs : List V} (h : Reps K F ι ds vs) : (ds.zip vs).map (·.1) = ds := List.map_fst_zip (Nat.le_of_eq h.length)
theorem each_mem2 {α β : Type} {R : α → β → Prop} : ∀ {as : List α} {bs : List β}, PySem.W.EachIs R as bs → PySem.W.EachIs (fun a b => R a b ∧ b ∈ bs) as bs
  | _, _, .nil => .nil
  | _, _, .cons h t => .cons ⟨h, List.mem_cons_self⟩ ((each_mem2 t).mono fun _ _ q => ⟨q.1, List.mem_cons_of_mem _ q.2⟩)
/-! ### sorting tuples, also the empty one -/
section
open PySem.W PySem.Calls
variable {prog : Program} {w : World} {A : Around} {E : Value → Shared → Prop} {s : Shared}
theorem call_tuple_lt {Q : Value → Shared → Prop} {l b : Addr} {items items2 : Array Value} {e r : Nat → Bool} (hl : s.heap.IsTuple l items) (hb : s.heap.IsTuple b items2)
    (he : ∀ j (h1 : j < items.size) (h2 : j < items2.size), SeqAt.EqAt A.in1 s items[j] items2[j] (e j)) (hr : ∀ j (h1 : j < items.size) (h2 : j < items2.size), e j = false → SeqAt.RcLt A.in1 s items[j] items2[j] (r j))
    (h : Q (.bool (SeqAt.firstLt e r (decide (items.size < items2.size)) (List.range (min items.size items2.size)))) s) : wpAny (model prog w) A (call (.builtin "tuple.__lt__") [.ref l, .ref b]) Q E s := by
  obtain ⟨⟨cls, dd, data, sl⟩, ho, hc, n, hd⟩ := id hl
  obtain ⟨⟨cls2, dd2, data2, sl2⟩, ho2, hc2, n2, hd2⟩ := id hb
  simp only at hc hd hc2 hd2
  subst hc hd hc2 hd2
  exact call_meets F.slot_tuple_lt ⟨_, ho, rfl⟩ F.entry_tuple_lt (F.args_tuple_lt_2 _ _) (SeqAt.tuple_ltAt l b items items2 n n2 dd dd2 sl sl2 e r) ⟨ho, ho2, he, hr, h⟩
theorem oneLt_tuples {f : Bool} {xs ys : List PyData} {a b : Value} {as bs : List Addr} {Q : Bool → Shared → Prop} (ra : Reads s.heap a (.tuple xs) as) (rb : Reads s.heap b (.tuple ys) bs) (h : alike (.tuple xs) (.tuple ys) = true)
    (hu : A.units + min (PyData.depth (.tuple xs)) (PyData.depth (.tuple ys)) < cLine) (hq : Q (dataLt (.tuple xs) (.tuple ys)) s) : wpAny (model prog w) A (oneLt' f a b) Q E s := by
  cases f with
  | false => exact oneLt_alike (fun q => nomatch q) ra rb h (by simp) hu hq
  | true =>
    have hal : alikeAll xs ys = true := by simpa [alike] using h
    cases ra with
    | @tuple l o vs n _ as₁ h1 h2 h3 h4 =>
      cases rb with
      | @tuple l' o' vs' n' _ bs₁ k1 k2 k3 k4 =>
        have n1 : vs.size = xs.length := by simpa using SeqAt.ReadsAll.length _ _ _ h4
        have n2 : vs'.size = ys.length := by simpa using SeqAt.ReadsAll.length _ _ _ k4
        rw [dataLt_tuple, ← firstLt_toks xs ys hal, ← n1, ← n2] at hq
        rw [oneLt'_eq]
        simp only [if_true]
        refine wpAny_bind (wpAny_cRoomFor (SeqAt.room_here hu) ?_)
        refine wpAny_bind (wpAny_callSpecialIfBound?_slot (T := "tuple") ⟨_, h1, h2⟩ F.slot_tuple_lt (call_tuple_lt (e := SeqAt.pairEq xs ys) (r := fun j => dataLt (xs.getD j .none) (ys.getD j .none)) ⟨_, h1, h2, _, h3⟩ ⟨_, k1, k2, _, k3⟩ (fun j j1 j2 => ?_) (fun j j1 j2 hj => ?_) ?_))
        · have := eqAt_alikeAll xs ys A.in1 s vs.toList vs'.toList _ _ h4 k4 hal (SeqAt.room_in hu) j (by simpa using j1) (by simpa using j2)
          simpa using this
        · have := rcLt_alikeAll xs ys A.in1 s vs.toList vs'.toList _ _ h4 k4 hal (SeqAt.room_in hu) j (by simpa using j1) (by simpa using j2) hj
          simpa using this
        · exact wpAny_truthy_bool hq
def firstV (h : Heap) (v : Value) : Option Value := match v with
  | .ref a => match h.get? a with
    | some o => match o.data with
      | .seq xs _ => xs[0]?
      | _ => none
    | none => none
  | _ => none
theorem firsts_tuples : ∀ (vs : List Value) {Q : List (Option Value) → Shared → Prop}, (∀ v ∈ vs, ∃ a o xs n, v = .ref a ∧ s.heap.get? a = some o ∧ o.cls = .type "tuple" ∧ o.data = .seq xs n) → Q (vs.map (firstV s.heap)) s → wpAny (model prog w) A (vs.mapM firstOfTuple') Q E s
  | [], _, _, h => by rw [List.mapM_nil]; exact wpAny_pure h
  | v :: vs, Q, t, h => by
    obtain ⟨a, o, xs, n, rfl, ho, hc, hd⟩ := t v (by simp)
    have e : firstV s.heap (.ref a) = xs[0]? := by
      unfold firstV
      simp only [ho, hd]
    rw [List.mapM_cons]
    refine wpAny_bind ?_
    rw [kas_first_eq]
    refine wpAny_bind (Looks.here (show Looks (model prog w) s.heap (typeOf (.ref a)) o.cls from (Looks.ld ho).andThen .now) ?_)
    rw [hc, if_neg (by first | decide | simp)]
    refine wpAny_bind (listItems_at ho hd (wpAny_pure ?_))
    rw [← e]
    exact wpAny_bind (firsts_tuples vs (Q := fun bs s' => wpAny (model prog w) A (pure (firstV s.heap (.ref a) :: bs)) Q E s') (fun v hv => t v (by simp [hv])) (wpAny_pure h))
theorem kind_tuples {vs : List Value} {Q : SortKind → Shared → Prop} (h2 : 2 ≤ vs.length) (t : ∀ v ∈ vs, ∃ a o xs n, v = .ref a ∧ s.heap.get? a = some o ∧ o.cls = .type "tuple" ∧ o.data = .seq xs n) (hne : ((vs.map (firstV s.heap)).toArray.all (·.isSome)) = false)
    (h : Q (if ((vs.map (firstV s.heap))[0]?.bind id).isSome = true then general' else oneType') s) : wpAny (model prog w) A (keyKind' vs.toArray) Q E s := by
  obtain ⟨v₁, v₂, rest, rfl⟩ : ∃ v₁ v₂ rest, vs = v₁ :: v₂ :: rest := by
    match vs, h2 with
    | [], h2 => simp at h2
    | [_], h2 => simp at h2
    | v₁ :: v₂ :: rest, _ => exact ⟨v₁, v₂, rest, rfl⟩
  rw [keyKind'_eq, List.mapM_toArray, map_eq_pure_bind]
  refine wpAny_bind (wpAny_bind (firsts_tuples _ t (wpAny_pure ?_)))
  rw [if_neg (by rw [hne]; simp)]
  have hg : (((v₁ :: v₂ :: rest).map (firstV s.heap)).toArray[0]?.bind id) = (((v₁ :: v₂ :: rest).map (firstV s.heap))[0]?.bind id) := by simp
  rw [hg]
  by_cases hf : ((((v₁ :: v₂ :: rest).map (firstV s.heap))[0]?.bind id).isSome) = true
  · rw [if_pos hf] at h ⊢
    exact wpAny_pure h
  · rw [if_neg hf] at h ⊢
    rw [oneTypeOnly'_eq, List.mapM_toArray, map_eq_pure_bind]
    refine wpAny_bind (wpAny_bind (wpAny_bind (kas_mapM (r := Value.type "tuple") _ (fun v hv Q' hq => ?_) (wpAny_pure ?_))))
    · obtain ⟨a, o, xs, n, rfl, ho, hc, hd⟩ := t v hv
      exact Looks.here (show Looks (model prog w) s.heap (typeOf (.ref a)) (Value.type "tuple") from hc ▸ (Looks.ld ho).andThen .now) hq
    · have hall : ((List.map (fun _ => Value.type "tuple") (v₁ :: v₂ :: rest)).toArray.all fun x => x == Value.type "tuple") = true := by
        simp only [List.all_toArray, List.all_map, List.all_eq_true]
        intro _ _
        rfl
      have h0 : (List.map (fun _ => Value.type "tuple") (v₁ :: v₂ :: rest)).toArray[0]? = some (Value.type "tuple") := by simp
      rw [h0]
      simp only [hall, if_true]
      exact wpAny_pure (wpAny_pure h)
/-- all are tuples, or none is a tuple or None -/
def SortableX (ds : List PyData) : Prop := (∀ d, d ∈ ds → ∃ xs, d = .tuple xs) ∨ ∀ d, d ∈ ds → d ≠ .none ∧ ∀ xs, d ≠ .tuple xs
theorem first_each {h : Heap} : ∀ {vs : List Value} {ds : List PyData}, EachIs (fun v d => ∃ as, Reads h v d as) vs ds → (∀ d, d ∈ ds → ∃ xs, d = .tuple xs) → ((vs.map (firstV h)).toArray.all (·.isSome)) = true → ∀ d, d ∈ ds → ∃ x r, d = .tuple (x :: r)
  | _, _, .nil, _, _, d, hd => nomatch hd
  | _, _, .cons (b := d0) ⟨as, r⟩ t, ht, ha, d, hd => by
    obtain ⟨xs, rfl⟩ := ht d0 (List.mem_cons_self ..)
    rw [List.map_cons] at ha
    simp only [List.all_toArray, List.all_cons, Bool.and_eq_true] at ha
    have ha' := ha
    rcases List.mem_cons.mp hd with rfl | hd
    · cases r with
      | @tuple a o ys n _ _ ho hc hdt hr =>
        have e : firstV h (.ref a) = ys[0]? := by
          unfold firstV
          simp only [ho, hdt]
        cases xs with
        | nil =>
          have hl : ys.toList.length = 0 := by simpa using SeqAt.ReadsAll.length _ _ _ hr
          have h1 := ha'.1
          rw [e] at h1
          have : ys[0]? = none := by
            rw [Array.getElem?_eq_none]
            simp at hl
            simp [hl]
          rw [this] at h1
          cases h1
        | cons x r => exact ⟨x, r, rfl⟩
    · exact first_each t (fun d hd => ht d (List.mem_cons_of_mem _ hd)) (by simp only [List.all_toArray]; exact ha'.2) d hd
theorem sortsAtX {vs : List Value} {ds : List PyData} (e : EachIs (fun v d => ∃ as, Reads s.heap v d as) vs ds) (hal : AllAlike ds) (hk : SortableX ds) (hu : ∀ d, d ∈ ds → A.units + d.depth < cLine) : SortsAt prog w A s (dataKind s.heap ds) vs := by
  rcases hk with ht | hn
  · by_cases ha : ((vs.map (firstV s.heap)).toArray.all (·.isSome)) = true
    · exact SortsAt.data e hal (.inl (first_each e ht ha)) hu
    · have room : ∀ {d d' : PyData}, d ∈ ds → A.units + min d.depth d'.depth < cLine := fun {d d'} hd => Nat.lt_of_le_of_lt (Nat.add_le_add_left (Nat.min_le_left _ _) _) (hu d hd)
      refine ⟨fun v hv => ?_, if ((vs.map (firstV s.heap))[0]?.bind id).isSome = true then general' else oneType', ?_, fun h2 E Q hq => ?_⟩
      · obtain ⟨d, hd, as, r⟩ := e.left v hv
        exact ⟨_, dataKind_some hal hd r⟩
      · intro E x y a b Q ha hb hq
        obtain ⟨d, as, hd, ra, rfl⟩ := dataKind_inv ha
        obtain ⟨d', as', hd', rb, rfl⟩ := dataKind_inv hb
        have hdd := hal d hd d' hd'
        have hroom := room (d' := d') hd
        obtain ⟨xs, rfl⟩ := ht d hd
        obtain ⟨ys, rfl⟩ := ht d' hd'
        have hq' : Q (dataLt (.tuple xs) (.tuple ys)) s := hq
        split
        · exact oneLt_tuples (f := false) ra rb hdd hroom hq'
        · rw [keyLt'_oneType]
          exact oneLt_tuples (f := true) ra rb hdd hroom hq'
      · refine kind_tuples (by simpa using h2) (fun v hv => ?_) (by simpa using ha) hq
        obtain ⟨d, hd, as, r⟩ := e.left v hv
        obtain ⟨xs, rfl⟩ := ht d hd
        cases r with
        | @tuple a o ys n _ _ ho hc hdt hr => exact ⟨a, o, ys, n, rfl, ho, hc, hdt⟩
  · exact SortsAt.data e hal (.inr hn) hu
theorem list_sort_dataX {β : Type} {R : Value → β → Prop} {enc : β → PyData} {vs : List Value} {bs : List β} {a : Addr} {n : Nat} {Q : Value → Shared → Prop} (ho : s.heap.get? a = some (seqObj "list" vs.toArray n)) (e : EachIs R vs bs) (er : EachIs (fun v b => ∃ as, Reads s.heap v (enc b) as ∧ a ∉ as) vs bs) (hal : AllAlike (bs.map enc)) (hk : SortableX (bs.map enc)) (hL : bs.length ≤ sizeLine)
    (hu : ∀ b, b ∈ bs → A.units + 1 + (enc b).depth < cLine) (h : ∀ out, out.length = bs.length → EachIs R out (bs.mergeSort (dataLe false enc)) → Q .none { s with heap := sortedHeap s.heap a vs (List.toArray out) }) :
    wpAny (model prog w) A (call (.builtin "list.sort") [.ref a]) Q E s := by
  have er' : EachIs (fun v b => ∃ as, Reads (sortingHeap s.heap a vs) v (enc b) as) vs bs := each_keepBut (h' := sortingHeap s.heap a vs) (fun _ _ hb q => sortingHeap_old hb q) (fun o q => by rw [ho] at q; rw [← Option.some.inj q]) hal er
  refine wpAny_call_entry slot_list_sort ⟨_, ho, rfl⟩ entry_list_sort (list_sort_vals (κ := dataKind (sortingHeap s.heap a vs) (bs.map enc)) ho (sortsAtX (s := { s with heap := sortingHeap s.heap a vs }) (each_map (R := fun v d => ∃ as, Reads (sortingHeap s.heap a vs) v d as) enc er') hal hk (bound_map hu)) (by rw [e.length]; exact hL) ⟨.none, rfl, ?_⟩) (args_list_sort _)
  exact h _ (by rw [sortVals_length false rfl]; exact e.length) (sortVals_data false e er' hal)
end
/-- the sorted list of a list or tuple of alike data -/
def sortD (ds : List D) : List D := ds.mergeSort (PySem.W.dataLe false toP)
open Classical in
noncomputable def pSorted : Sto → List D → Option (List D) := fun st ds => match ds with
  | [d] => match seqOf st d with
    | some xs => if xs.length ≤ SZ ∧ (∀ x ∈ xs, isP x = true ∧ (toP x).depth ≤ 50) ∧ PySem.W.AllAlike (xs.map toP) ∧ SortableX (xs.map toP) then some (sortD xs) else none
    | none => none
  | _ => none
section
variable {X : Cx} {K : PySem.W.Frag} {F : Hp} {ι : List Addr} {st : Sto} {H : Hp}
theorem rep_dp (S : Sim K F ι st H) {d : D} {v : V} (r : Rep K F ι d v) (h : isP d = true) : Dp K H v (toP d) := by
  refine S.dp r ?_
  unfold dat
  split
  · simp [isP] at h
  · rw [if_pos h]
theorem call_pSorted (hc : X.calm = true) (hu : X.A.units + 70 < cLine) : CallR X (.builtin "sorted") (rBL X.K pSorted) := by
  intro pins s σ H vs us Q I rv ⟨F, ι, st, ds, d, S, ra, e, q⟩
  unfold pSorted at e
  split at e
  rotate_left
  · cases e
  rename_i d1
  cases e1 : seqOf st d1 with
  | none => rw [e1] at e; cases e
  | some xs =>
    rw [e1] at e
    dsimp only at e
    split at e
    rotate_left
    · cases e
    rename_i hok
    obtain ⟨hsz, hp, hal, hso⟩ := hok
    obtain rfl : sortD xs = d := Option.some.inj e
    obtain ⟨v, rfl, rd⟩ := ra.one'
    obtain ⟨u, rfl, ru⟩ := rv.one
    obtain ⟨a, ws, rfl, hq, rr⟩ := S.seq rd e1
    cases ru
    -- the object
    obtain ⟨T, o, its, n, hT, ho, hcl, hd, rits, hz⟩ : ∃ (T : String) (o : Obj) (its : List Value) (n : Nat), (T = "list" ∨ T = "tuple") ∧ s.heap.get? a = some o ∧ o.cls = .type T ∧ o.data = .seq its.toArray n ∧ Vals ws its ∧ ws.length ≤ sizeLine := by
      rcases hq with hq | hq
      · obtain ⟨its, r, pl, hz⟩ := I.list hq
        obtain ⟨o, ho, hc, n, hd⟩ := pl.isList
        exact ⟨"list", o, its, n, .inl rfl, ho, hc, hd, r, hz⟩
      · obtain ⟨its, r, pl, hz⟩ := I.tuple hq
        obtain ⟨o, ho, hc, n, hd⟩ := pl
        exact ⟨"tuple", o, its, n, .inr rfl, ho, hc, hd, r, hz⟩
    have hl := rits.length
    refine Calls.call_function_entry PyProof.Rows.kind_sorted PyProof.Rows.plain_sorted PyProof.Rows.entry_sorted (PyProof.Rows.args_sorted1 _) ?_
    unfold Builtin.«sorted»
    refine wpAny_bind (m := checkCount "sorted" 1 1 _) (wpAny_pure ?_)
    refine wpAny_bind (wpAny_collect_seq a hT ho hcl hd (fun h' hk => ?_) (by rw [List.size_toArray]; omega))
    have I1 : Inv X pins σ H { s with heap := h' } := I.kept (t' := s.toks) hk
    have ei : its.toArray.toList = its := by simp
    rw [ei]
    refine wpAny_bind (wpAny_newList ?_ (by omega))
    have hoL : (h'.push (seqObj "list" its.toArray 0)).get? h'.objs.size = some (seqObj "list" its.toArray 0) := Heap.get?_push_size _ rfl
    have ee := each_pairs rr rits
    have er : PySem.W.EachIs (fun u (b : D × V) => ∃ as, Reads (h'.push (seqObj "list" its.toArray 0)) u (toP b.1) as ∧ h'.objs.size ∉ as) its (xs.zip ws) := by
      refine (each_mem2 ee).mono fun u b ⟨⟨h1, h2⟩, hb⟩ => ?_
      have hb1 : b.1 ∈ xs := (List.of_mem_zip (show (b.1, b.2) ∈ xs.zip ws from hb)).1
      obtain ⟨as, r⟩ := Dp.reads I1 _ _ _ (rep_dp S h2 (hp b.1 hb1).1) h1
      refine ⟨as, PyProof.Rows.Reads.keeps (fun _ _ => Heap.get?_push_of_some _) r, fun hm => ?_⟩
      have hal1 : PySem.W.alike (toP b.1) (toP b.1) = true := hal _ (List.mem_map.mpr ⟨b.1, hb1, rfl⟩) _ (List.mem_map.mpr ⟨b.1, hb1, rfl⟩)
      exact absurd (reads_lt _ _ _ hal1 r _ hm) (Nat.lt_irrefl _)
    have em : (xs.zip ws).map (fun b : D × V => toP b.1) = xs.map toP := by
      have e2 : (xs.zip ws).map (fun b : D × V => toP b.1) = ((xs.zip ws).map Prod.fst).map toP := by rw [List.map_map] <;> rfl
      rw [e2, zip_fst rr]
    show wpAny _ _ _ _ _ { s with heap := h'.push (seqObj "list" its.toArray 0) }
    refine wpAny_bind (wpAny_holding (list_sort_dataX (enc := fun b : D × V => toP b.1) (bs := xs.zip ws) hoL ee er (by rw [em]; exact hal) (by rw [em]; exact hso) ?_ ?_ fun out hout eout => ?_))
    · rw [List.length_zip]; omega
    · intro b hb
      have hb1 : b.1 ∈ xs := (List.of_mem_zip (show (b.1, b.2) ∈ xs.zip ws from hb)).1
      have := (hp b.1 hb1).2
      show X.A.units + 1 + 1 + (toP b.1).depth < cLine
      omega
    obtain ⟨rs, rvs⟩ := pairs_each eout
    have es : ((xs.zip ws).mergeSort (PySem.W.dataLe false fun b : D × V => toP b.1)).map (·.1) = sortD xs := by
      unfold sortD
      have e2 := List.map_mergeSort (r := PySem.W.dataLe false fun b : D × V => toP b.1) (s := PySem.W.dataLe false toP) (f := Prod.fst) (l := xs.zip ws) (fun a _ b _ => rfl)
      rw [zip_fst rr] at e2
      exact e2
    rw [es] at rs
    obtain ⟨e', he'⟩ := PyProof.Rows.sortedHeap_at (vs := its) (out := out.toArray) hoL
    have hlen2 : (((xs.zip ws).mergeSort (PySem.W.dataLe false fun b : D × V => toP b.1)).map (·.2)).length ≤ sizeLine := by
      rw [List.length_map, List.length_mergeSort, List.length_zip]; omega
    have hnew : H h'.objs.size = none := I1.hok.fresh (Nat.le_refl _)
    refine wpAny_pure ⟨_, rfl, .ref h'.objs.size, upd H h'.objs.size (.lst (((xs.zip ws).mergeSort (PySem.W.dataLe false fun b : D × V => toP b.1)).map (·.2))), I1.laid (t' := s.toks) (fun b u e => ?_) (Nat.le_refl _)
      (show ObjOk X.prog X.w _ _ _ (.lst _) from ⟨hlen2, out, e', rvs, he'⟩), rfl, q _ _ (Ext.laid hnew) (S.laid hnew) (pL_new S hnew rs)⟩
    have hb : b < h'.objs.size := Heap.lt_size e
    rw [PyProof.Rows.sortedHeap_old (Nat.ne_of_lt hb) (by rw [size_push']; exact Nat.lt_succ_of_lt hb)]
    exact Heap.get?_push_of_some _ e
end
end Dn
/-! DnN: short words for the printer. -/
namespace Dn
open PySem PySem.Spec PyProof.Rows L2
section
variable {X : Cx} {W : WX} {k : Nat}
theorem takes_wN : Takes X wN := fun _ _ ⟨_, _, _, _, _, _, _, _, _, _, _, _, _, _, _, _, w⟩ => w.elim
theorem Bd.blk (b : Bd X W k) {s : Shared} {H : Hp} {scope : Scope} {cenv : Env} {fp : List Addr} : Bd (X.blk s H scope cenv fp) wN k := ⟨b.room, b.gd, b.calm, b.nd, takes_wN⟩
theorem Bd.u64 (b : Bd X W k) : X.A.units + 64 < cLine := by have := b.room.un; omega
theorem Bd.u65 (b : Bd X W k) : X.A.units + 65 < cLine := by have := b.room.un; omega
theorem Bd.u70 (b : Bd X W k) : X.A.units + 70 < cLine := by have := b.room.un; omega
/-- the name in slot i -/
theorem vr (i : Nat) {x : Str} {pos : Pos} (hN : X.N[i]? = some x := by rfl) (hv : Vis X.env.scope x := by first | exact Or.inl rfl | exact Or.inr (Or.inl rfl) | exact Or.inr (Or.inr rfl)) (hd : (x == ("__debug__" : Str)) = false := by decide)
    (hcd : (x == ("__classdict__" : Str)) = false := by decide) : DE X W (.Name x pos) (mVar i) := de_var hN hv hd hcd
theorem gn (i : Nat) {x : Str} {pos : Pos} (b : Bd X W k) (hi : X.N[i]? = some x := by rfl) (hx : Loc X.env.scope x := by first | exact Or.inl rfl | exact Or.inr rfl) (hf : X.fn x = true ∨ X.env.scope.names.lookup x = some .local := by first | exact .inl rfl | exact .inr rfl) : DG X [i] (.Name x pos) (gN i) :=
  dg_name b.nd hi hx hf
theorem st (i : Nat) {x : Str} {pos' pos : Pos} {e : Expr} {m : Rho → M D} (b : Bd X W k) (he : DE X W e m) (hi : X.N[i]? = some x := by rfl) (hx : Loc X.env.scope x := by first | exact Or.inl rfl | exact Or.inr rfl)
    (hs : swapsWith e (some (.Name x pos')) pos.line X.env = pure false := by rfl) (hf : X.fn x = true ∨ X.env.scope.names.lookup x = some .local := by first | exact .inl rfl | exact .inr rfl) : DS X W (.Assign [.Name x pos'] e pos) (sAsg (gN i) m) :=
  ds_set b.nd hi hx he hs hf
theorem dts1 {c : Expr} {m : Rho → M Bool} (h : DT X W c m) : DTs X W [c] m := dts_one h
/-- a, b, c = x, y, z -/
def sPar3 (i j l : Nat) (a : Rho → M (List D)) : Rho → Sto → Fl := fun ρ st => (a ρ st).fl ρ fun ds st1 => match ds with
  | [x, y, z] => .next (((ρ.set i (some x)).set j (some y)).set l (some z)) st1
  | _ => .bad
theorem ds_par3 {i j l : Nat} {x y z : Str} {a b c : Expr} {am : Rho → M (List D)} {px py pz pt pos : Pos} {kt k2 pt2} (hc : X.calm = true) (hN : X.N.Nodup) (hi : X.N[i]? = some x) (hj : X.N[j]? = some y) (hl : X.N[l]? = some z) (hij : i ≠ j) (hil : i ≠ l) (hjl : j ≠ l)
    (hx : X.env.scope.names.lookup x = some .local) (hy : X.env.scope.names.lookup y = some .local) (hz : X.env.scope.names.lookup z = some .local) (ha : DA X W [a, b, c] am)
    (hw : swappedStores [.Tuple [.Name x px, .Name y py, .Name z pz] kt pt] (.Tuple [a, b, c] k2 pt2) X.env = pure (some [x, y, z]))
    (hs : swapsWithSole [.Tuple [.Name x px, .Name y py, .Name z pz] kt pt] (.Tuple [a, b, c] k2 pt2) pos.line X.env = pure false := by rfl) :
    DS X W (.Assign [.Tuple [.Name x px, .Name y py, .Name z pz] kt pt] (.Tuple [a, b, c] k2 pt2) pos) (sPar3 i j l am) := by
  refine PS.weak (ps_par3 hc hN hi hj hl hij hil hjl hx hy hz ha hw hs) fun E σ H ⟨F, ι, ρ, st, S, R, q⟩ => fl_seq S R q fun ds st1 F1 ι1 H1 vs x1 S1 R1 r1 q1 => ?_
  split at q1
  · rename_i d1 d2 d3
    have r1 : Reps X.K F1 ι1 [d1, d2, d3] vs := r1
    simp only [Reps] at r1
    obtain ⟨v1, w1, rfl, h1, v2, w2, rfl, h2, v3, w3, rfl, h3, rfl⟩ := r1
    exact ⟨v1, v2, v3, rfl, q1 F1 ι1 H1 _ Ext.refl S1 (((R1.set h1 i).set h2 j).set h3 l)⟩
  · exact q1.elim
end
end Dn
/-! DnO: tuple(range(..)), list(range(..)), list.remove. -/
namespace Dn
open PySem PySem.Spec PyProof.Rows L2
theorem reps_rg {K : PySem.W.Frag} {F : Hp} {ι : List Addr} (lo hi : Int) : Reps K F ι (rngD lo (hi - lo).toNat) (rgV lo hi) := by
  unfold rngD rgV
  generalize (hi - lo).toNat = n
  generalize List.range n = l
  induction l with
  | nil => exact Reps.nil
  | cons x l ih =>
    rw [List.map_cons, List.map_cons]
    exact Reps.cons (by simp only [Rep]) ih
def rgOk (lo hi : Int) : Prop := -(2 ^ 62) ≤ lo ∧ lo < 2 ^ 62 ∧ -(2 ^ 62) ≤ hi ∧ hi < 2 ^ 62 ∧ (hi - lo).toNat ≤ SZ
theorem rgOk.ok {lo hi : Int} (h : rgOk lo hi) : RgOk lo hi := ⟨h.1, h.2.1, h.2.2.1, h.2.2.2.1, Nat.le_trans h.2.2.2.2 (by decide)⟩
noncomputable def lRange (lo hi : D) : Option (List D) := match lo, hi with
  | .int i, .int j => @ite _ (rgOk i j) (Classical.propDecidable _) (some (rngD i (j - i).toNat)) (none)
  | _, _ => none
noncomputable def mTupRg (m : Rho → M D) : Rho → M D := fun ρ st => (m ρ st).bind fun d st1 => lift ((lRange (.int 0) d).map .tup) st1
noncomputable def lLstRg (m : Rho → M D) : Rho → M (List D) := fun ρ st => (m ρ st).bind fun d st1 => lift (lRange (.int 0) d) st1
noncomputable def mTupRg2 (m1 m2 : Rho → M D) : Rho → M D := fun ρ st => (m1 ρ st).bind fun d1 st1 => (m2 ρ st1).bind fun d2 st2 => lift ((lRange d1 d2).map .tup) st2
noncomputable def lLstRg2 (m1 m2 : Rho → M D) : Rho → M (List D) := fun ρ st => (m1 ρ st).bind fun d1 st1 => (m2 ρ st1).bind fun d2 st2 => lift (lRange d1 d2) st2
theorem lRange_some {d1 d2 : D} {xs : List D} (h : lRange d1 d2 = some xs) : ∃ i j, d1 = .int i ∧ d2 = .int j ∧ rgOk i j ∧ xs = rngD i (j - i).toNat := by
  unfold lRange at h
  split at h
  · split at h
    · rename_i i j hr
      cases h
      exact ⟨i, j, rfl, rfl, hr, rfl⟩
    · cases h
  · cases h
section
variable {X : Cx} {W : WX} {p p2 pos pos2 : Pos} {a b : Expr} {m1 m2 : Rho → M D}
theorem rg_lst {σ : L2.St} {F : Hp} {ι : List Addr} {H : Hp} {st : Sto} {Q : VK} {lo hi : Int} (S : Sim X.K F ι st H) (q : post X.K W σ F ι H (pL X.K) (.ok (rngD lo (hi - lo).toNat) st) Q) : ∀ c, H c = none → Q (.ref c) (upd H c (.lst (rgV lo hi))) :=
  fun c hc => q F ι _ _ (Ext.laid hc) (S.laid hc) (pL_new S hc (reps_rg lo hi))
theorem rg_tup {σ : L2.St} {F : Hp} {ι : List Addr} {H : Hp} {st : Sto} {Q : VK} {lo hi : Int} (S : Sim X.K F ι st H) (q : post X.K W σ F ι H (pV X.K) (.ok (.tup (rngD lo (hi - lo).toNat)) st) Q) : ∀ (c : Addr) (o : Obj), o.dict = none → H c = none → Q (.ref c) (upd H c (.frz o (.tup (rgV lo hi)))) :=
  new_tup S (reps_rg lo hi) fun F' H' v x S' r => q F' ι H' v x S' r
def tTupRgP (te : L2.St → Hp → (Int → Int → Hp → Prop) → Prop) : TE := fun σ H Q => te σ H fun a b H1 => RgOk a b ∧ ∀ (c : Addr) (o : Obj), o.dict = none → H1 c = none → Q (.ref c) (upd H1 c (.frz o (.tup (rgV a b))))
theorem pe_tupRgP {e : Expr} {te : L2.St → Hp → (Int → Int → Hp → Prop) → Prop} (hc : X.calm = true) (hg : Gl X "tuple") (hm : X.mg "tuple" = none) (he : PRg X e te) (na : starEach [e] X.env = (false, eval e X.env) :: starEach [] X.env := by rfl) : PE X (.Call (.Name "tuple" p) [e] [] pos) (tTupRgP te) := by
  refine ⟨fun pins s σ H Q I h => Call_ (ld_blt I hg hm boot_tuple (PyProof.Rows.callWith_type1 (args_cons (thn (he pins s σ H _ I h) fun x s1 ⟨r, a, b, t, u, v, H1, ex, hr, I1, ok, q⟩ => args_nil ?_) na) na))⟩
  subst ex
  obtain ⟨b1, b2, b3, b4, b5⟩ := ok
  refine call_tuple_range (n := (b - a).toNat) (I1.ok.hd hc) hr (small_one b1 b2 b3 b4) (rangeSize_nat a b) b5 fun h' tk acc hk hi => ?_
  have I2 : Inv X pins σ H1 { s1 with heap := h', toks := tk } := I1.kept hk
  have z := fin_tup (t' := tk) (its := acc.toList) I2 (vals_rg hi) (by rw [rgV_length, sizeLine_eq]; omega) q
  rw [Array.toArray_toList] at z
  exact z
theorem de_tupRg (hc : X.calm = true) (hg : Gl X "tuple") (hm : X.mg "tuple" = none) (hg2 : Gl X "range") (hm2 : X.mg "range" = none) (ha : DE X W a m1) (na : starEach [a] X.env = (false, eval a X.env) :: starEach [] X.env := by rfl)
    (nr : starEach [.Call (.Name "range" p2) [a] [] pos2] X.env = (false, eval (.Call (.Name "range" p2) [a] [] pos2) X.env) :: starEach [] X.env := by rfl) : DE X W (.Call (.Name "tuple" p) [.Call (.Name "range" p2) [a] [] pos2] [] pos) (mTupRg m1) := by
  refine PE.weak (pe_tupRgP hc hg hm (prg_1 hg2 hm2 ha na) nr) fun σ H Q ⟨F, ι, ρ, st, S, R, q⟩ => ?_
  refine tG_seq back_V S R q fun d st1 F1 ι1 H1 v x1 S1 R1 r1 q1 => ?_
  cases e : lRange (.int 0) d with
  | none => rw [e] at q1; exact (q1 : False).elim
  | some xs =>
    rw [e] at q1
    obtain ⟨i, j, ei, rfl, hr, rfl⟩ := lRange_some e
    cases ei
    have r1 : v = V.int j := by simpa only [pV, Rep] using r1
    exact ⟨j, r1, hr.ok, rg_tup S1 q1⟩
theorem dl_lstRg (hc : X.calm = true) (hg : Gl X "list") (hm : X.mg "list" = none) (hg2 : Gl X "range") (hm2 : X.mg "range" = none) (ha : DE X W a m1) (na : starEach [a] X.env = (false, eval a X.env) :: starEach [] X.env := by rfl)
    (nr : starEach [.Call (.Name "range" p2) [a] [] pos2] X.env = (false, eval (.Call (.Name "range" p2) [a] [] pos2) X.env) :: starEach [] X.env := by rfl) : DL X W (.Call (.Name "list" p) [.Call (.Name "range" p2) [a] [] pos2] [] pos) (lLstRg m1) := by
  refine PE.weak (pe_listRg hc hg hm (prg_1 hg2 hm2 ha na) nr) fun σ H Q ⟨F, ι, ρ, st, S, R, q⟩ => ?_
  refine tG_seq back_L S R q fun d st1 F1 ι1 H1 v x1 S1 R1 r1 q1 => ?_
  cases e : lRange (.int 0) d with
  | none => rw [e] at q1; exact (q1 : False).elim
  | some xs =>
    rw [e] at q1
    obtain ⟨i, j, ei, rfl, hr, rfl⟩ := lRange_some e
    cases ei
    have r1 : v = V.int j := by simpa only [pV, Rep] using r1
    exact ⟨j, r1, hr.ok, rg_lst S1 q1⟩
theorem de_tupRg2 (hc : X.calm = true) (hg : Gl X "tuple") (hm : X.mg "tuple" = none) (hg2 : Gl X "range") (hm2 : X.mg "range" = none) (ha : DE X W a m1) (hb : DE X W b m2) (na : starEach [a, b] X.env = (false, eval a X.env) :: starEach [b] X.env := by rfl)
    (nb : starEach [b] X.env = (false, eval b X.env) :: starEach [] X.env := by rfl) (hp : (backTo pos2 (starEach [b] X.env)).any (·.1) = false := by rfl)
    (nr : starEach [.Call (.Name "range" p2) [a, b] [] pos2] X.env = (false, eval (.Call (.Name "range" p2) [a, b] [] pos2) X.env) :: starEach [] X.env := by rfl) : DE X W (.Call (.Name "tuple" p) [.Call (.Name "range" p2) [a, b] [] pos2] [] pos) (mTupRg2 m1 m2) := by
  refine PE.weak (pe_tupRgP hc hg hm (prg_2 hg2 hm2 ha hb na nb hp) nr) fun σ H Q ⟨F, ι, ρ, st, S, R, q⟩ => ?_
  refine tG_seq back_V S R q fun d st1 F1 ι1 H1 v x1 S1 R1 r1 q1 => ?_
  refine tG_seq back_V S1 R1 q1 fun d2 st2 F2 ι2 H2 v2 x2 S2 R2 r2 q2 => ?_
  cases e : lRange d d2 with
  | none => rw [e] at q2; exact (q2 : False).elim
  | some xs =>
    rw [e] at q2
    obtain ⟨i, j, rfl, rfl, hr, rfl⟩ := lRange_some e
    have r1 : v = V.int i := by simpa only [pV, Rep] using r1
    have r2 : v2 = V.int j := by simpa only [pV, Rep] using r2
    exact ⟨i, j, r1, r2, hr.ok, rg_tup S2 q2⟩
theorem dl_lstRg2 (hc : X.calm = true) (hg : Gl X "list") (hm : X.mg "list" = none) (hg2 : Gl X "range") (hm2 : X.mg "range" = none) (ha : DE X W a m1) (hb : DE X W b m2) (na : starEach [a, b] X.env = (false, eval a X.env) :: starEach [b] X.env := by rfl)
    (nb : starEach [b] X.env = (false, eval b X.env) :: starEach [] X.env := by rfl) (hp : (backTo pos2 (starEach [b] X.env)).any (·.1) = false := by rfl)
    (nr : starEach [.Call (.Name "range" p2) [a, b] [] pos2] X.env = (false, eval (.Call (.Name "range" p2) [a, b] [] pos2) X.env) :: starEach [] X.env := by rfl) : DL X W (.Call (.Name "list" p) [.Call (.Name "range" p2) [a, b] [] pos2] [] pos) (lLstRg2 m1 m2) := by
  refine PE.weak (pe_listRg hc hg hm (prg_2 hg2 hm2 ha hb na nb hp) nr) fun σ H Q ⟨F, ι, ρ, st, S, R, q⟩ => ?_
  refine tG_seq back_L S R q fun d st1 F1 ι1 H1 v x1 S1 R1 r1 q1 => ?_
  refine tG_seq back_L S1 R1 q1 fun d2 st2 F2 ι2 H2 v2 x2 S2 R2 r2 q2 => ?_
  cases e : lRange d d2 with
  | none => rw [e] at q2; exact (q2 : False).elim
  | some xs =>
    rw [e] at q2
    obtain ⟨i, j, rfl, rfl, hr, rfl⟩ := lRange_some e
    have r1 : v = V.int i := by simpa only [pV, Rep] using r1
    have r2 : v2 = V.int j := by simpa only [pV, Rep] using r2
    exact ⟨i, j, r1, r2, hr.ok, rg_lst S2 q2⟩
end
/-- all whole numbers -/
def intsOf : List D → Option (List Int)
  | [] => some []
  | .int i :: ds => (intsOf ds).map (i :: ·)
  | _ => none
theorem intsOf_some : ∀ {ds : List D} {ns : List Int}, intsOf ds = some ns → ds = ns.map D.int
  | [], _, h => by cases h; rfl
  | .int i :: ds, ns, h => by
    unfold intsOf at h
    cases e : intsOf ds with
    | none => rw [e] at h; cases h
    | some ms =>
      rw [e] at h
      cases h
      rw [intsOf_some e] <;> rfl
  | .non :: _, _, h => by cases h
  | .bl _ :: _, _, h => by cases h
  | .str _ :: _, _, h => by cases h
  | .tup _ :: _, _, h => by cases h
  | .lst _ :: _, _, h => by cases h
  | .scr _ :: _, _, h => by cases h
  | .ref _ :: _, _, h => by cases h
  | .adr _ :: _, _, h => by cases h
  | .fd _ _ :: _, _, h => by cases h
  | .exo _ _ _ _ :: _, _, h => by cases h
  | .obj _ _ _ :: _, _, h => by cases h
theorem intsOf_map : ∀ ns : List Int, intsOf (ns.map D.int) = some ns
  | [] => rfl
  | n :: ns => by
    show (intsOf (ns.map D.int)).map (n :: ·) = _
    rw [intsOf_map ns] <;> rfl
theorem reps_ints_vs {K : PySem.W.Frag} {F : Hp} {ι : List Addr} : ∀ {ns : List Int} {vs : List V}, Reps K F ι (ns.map D.int) vs → vs = ns.map V.int
  | [], _, h => by simpa only [List.map_nil, Reps] using h
  | n :: ns, _, h => by
    simp only [List.map_cons, Reps] at h
    obtain ⟨v, r, rfl, h1, h2⟩ := h
    simp only [Rep] at h1
    rw [h1, reps_ints_vs h2] <;> rfl
def pRemove : D → List D → M D := fun d ds st => onL st d fun l xs => match ds with
  | [.int i] => match intsOf xs with
    | some ns => if i ∈ ns then .ok .non (st.set l (.lst ((ns.eraseIdx (ns.idxOf i)).map .int))) else .bad
    | none => .bad
  | _ => .bad
theorem idxOf_first {i : Int} : ∀ (ns : List Int) (m : Nat), m < ns.idxOf i → ns[m]? ≠ some i
  | [], m, h => by simp
  | n :: ns, m, h => by
    rw [List.idxOf_cons] at h
    by_cases e : n = i
    · subst e
      simp at h
    · have hb : (n == i) = false := by simpa using e
      rw [hb] at h
      cases m with
      | zero => simpa using e
      | succ m =>
        have h' : m < ns.idxOf i := by simpa using h
        simpa using idxOf_first ns m h'
theorem mt_pRemove {X : Cx} : MtR X "list.remove" (rM X.K pRemove) := mtM mt_remove fun x xs H Q ⟨F, ι, st, d, ds, d', st', S, rd, rds, e, q⟩ => by
  obtain ⟨l, ys, rfl, hl, e⟩ := onL_ok e
  split at e
  · split at e
    · split at e
      · rename_i ns hns hi
        cases e
        obtain ⟨a, vs, rfl, q1, q2, q3⟩ := S.mut rd hl
        obtain ⟨u, rfl, ru⟩ := rds.one'
        simp only [Rep] at ru
        subst ru
        obtain rfl := intsOf_some hns
        obtain rfl := reps_ints_vs q3
        obtain ⟨x1, S1⟩ := write_lst S hl q1 q2 (reps_ints (ns.eraseIdx (ns.idxOf _)))
        refine ⟨a, ns, _, _, rfl, rfl, q2, ?_, idxOf_first ns, q _ _ _ _ x1 S1 rep_non⟩
        have hlt := List.idxOf_lt_length_of_mem hi
        rw [List.getElem?_eq_getElem hlt, List.getElem_idxOf hlt]
      · cases e
    · cases e
  · cases e
end Dn
/-! DnP: how the meanings are worked out: the words applied, loops, values. -/
namespace Dn
open PySem PySem.Spec PyProof.Rows L2
section
variable (ρ : Rho) (s : Sto)
@[simp] theorem mLit_ap (d : D) : mLit d ρ s = .ok d s := rfl
theorem mVar_ap (i : Nat) : mVar i ρ s = match ρ[i]? with | some (some d) => .ok d s | _ => .bad := rfl
@[simp] theorem mNil_ap : mNil ρ s = .ok [] s := rfl
@[simp] theorem mCons_ap (m : Rho → M D) (r : Rho → M (List D)) : mCons m r ρ s = (m ρ s).bind fun d s1 => (r ρ s1).bind fun ds s2 => .ok (d :: ds) s2 := rfl
@[simp] theorem mTup_ap (a : Rho → M (List D)) : mTup a ρ s = (a ρ s).bind fun xs s1 => if xs.length ≤ 100000 then .ok (.tup xs) s1 else .bad := rfl
@[simp] theorem lDisp_ap (a : Rho → M (List D)) : lDisp a ρ s = (a ρ s).bind fun xs s1 => if xs.length ≤ 100000 then .ok xs s1 else .bad := rfl
@[simp] theorem mFrz_ap (a : Rho → M (List D)) : mFrz a ρ s = (a ρ s).bind fun xs s1 => .ok (.lst xs) s1 := rfl
@[simp] theorem mNew_ap (a : Rho → M (List D)) : mNew a ρ s = (a ρ s).bind fun xs s1 => .ok (.ref s1.length) (s1 ++ [.lst xs]) := rfl
@[simp] theorem mOp_ap (p : Sto → D → D → Option D) (a b : Rho → M D) : mOp p a b ρ s = (a ρ s).bind fun x s1 => (b ρ s1).bind fun y s2 => lift (p s2 x y) s2 := rfl
@[simp] theorem lOp_ap (p : Sto → D → D → Option (List D)) (a b : Rho → M D) : lOp p a b ρ s = (a ρ s).bind fun x s1 => (b ρ s1).bind fun y s2 => lift (p s2 x y) s2 := rfl
@[simp] theorem mB_ap (p : Sto → List D → Option D) (a : Rho → M (List D)) : mB p a ρ s = (a ρ s).bind fun ds s1 => lift (p s1 ds) s1 := rfl
@[simp] theorem lB_ap (p : Sto → List D → Option (List D)) (a : Rho → M (List D)) : lB p a ρ s = (a ρ s).bind fun ds s1 => lift (p s1 ds) s1 := rfl
@[simp] theorem mCall_ap (f : List D → M D) (a : Rho → M (List D)) : mCall f a ρ s = (a ρ s).bind fun ds s1 => f ds s1 := rfl
@[simp] theorem mUn_ap (p : Sto → D → Option D) (a : Rho → M D) : mUn p a ρ s = (a ρ s).bind fun d s1 => lift (p s1 d) s1 := rfl
@[simp] theorem mStar_ap (m : Rho → M D) (r : Rho → M (List D)) : mStar m r ρ s = (m ρ s).bind fun d s1 => match seqOf s1 d with | some xs => (r ρ s1).bind fun ds s2 => .ok (xs ++ ds) s2 | none => .bad := rfl
@[simp] theorem isB_ap (m : Rho → M D) : isB m ρ s = (m ρ s).bind fun d s1 => match d with | .bl k => .ok k s1 | _ => .bad := rfl
@[simp] theorem mTru_ap (m : Rho → M D) : mTru m ρ s = (m ρ s).bind fun d s1 => lift (d.truth s1) s1 := rfl
@[simp] theorem bAnd_ap (a b : Rho → M Bool) : bAnd a b ρ s = (a ρ s).bind fun k s1 => if k = true then b ρ s1 else .ok false s1 := rfl
@[simp] theorem bOr_ap (a b : Rho → M Bool) : bOr a b ρ s = (a ρ s).bind fun k s1 => if k = true then .ok true s1 else b ρ s1 := rfl
@[simp] theorem bNot_ap (a : Rho → M Bool) : bNot a ρ s = (a ρ s).bind fun k s1 => .ok (!k) s1 := rfl
@[simp] theorem bYes_ap : bYes ρ s = .ok true s := rfl
@[simp] theorem mIf_ap (t : Rho → M Bool) (a b : Rho → M D) : mIf t a b ρ s = (t ρ s).bind fun k s1 => if k = true then a ρ s1 else b ρ s1 := rfl
@[simp] theorem oNone_ap : oNone ρ s = .ok none s := rfl
@[simp] theorem sSeq_ap (a b : Rho → Sto → Fl) : sSeq a b ρ s = (a ρ s).seq b := rfl
@[simp] theorem sAsg_ap (g : D → Rho → M Rho) (m : Rho → M D) : sAsg g m ρ s = (m ρ s).fl ρ fun d s1 => (nox (g d ρ s1)).fl ρ fun r s2 => .next r s2 := rfl
@[simp] theorem sRet_ap (m : Rho → M D) : sRet m ρ s = (m ρ s).fl ρ fun d s1 => .ret d s1 := rfl
@[simp] theorem sDrop_ap (m : Rho → M D) : sDrop m ρ s = (m ρ s).fl ρ fun _ s1 => .next ρ s1 := rfl
@[simp] theorem sIf_ap (t : Rho → M Bool) (a b : Rho → Sto → Fl) : sIf t a b ρ s = (t ρ s).fl ρ fun k s1 => if k = true then a ρ s1 else b ρ s1 := rfl
@[simp] theorem sNext_ap : sNext ρ s = .next ρ s := rfl
@[simp] theorem sBrk_ap : sBrk ρ s = .brk ρ s := rfl
@[simp] theorem sCnt_ap : sCnt ρ s = .cnt ρ s := rfl
@[simp] theorem gN_ap (i : Nat) (d : D) : gN i d ρ s = .ok (ρ.set i (some d)) s := rfl
@[simp] theorem gT_ap (n : Nat) (gs : List D → Rho → M Rho) (xs : List D) (h : xs.length = n) : gT n gs (.tup xs) ρ s = gs xs ρ s := by
  unfold gT
  simp [h]
@[simp] theorem gsCons_ap (g : D → Rho → M Rho) (gs : List D → Rho → M Rho) (d : D) (ds : List D) : gsCons g gs (d :: ds) ρ s = (g d ρ s).bind fun r s1 => gs ds r s1 := rfl
@[simp] theorem gsNil_ap : gsNil [] ρ s = .ok ρ s := rfl
@[simp] theorem seq_next (k : Rho → Sto → Fl) : (Fl.next ρ s).seq k = k ρ s := rfl
@[simp] theorem seq_ret (d : D) (k : Rho → Sto → Fl) : (Fl.ret d s).seq k = .ret d s := rfl
@[simp] theorem seq_brk (k : Rho → Sto → Fl) : (Fl.brk ρ s).seq k = .brk ρ s := rfl
@[simp] theorem seq_cnt (k : Rho → Sto → Fl) : (Fl.cnt ρ s).seq k = .cnt ρ s := rfl
@[simp] theorem flOut_ret (d : D) : flOut (.ret d s) = .ok d s := rfl
@[simp] theorem flOut_next : flOut (.next ρ s) = .ok .non s := rfl
@[simp] theorem sFor_ap (ms : Rho → M Src) (g : D → Rho → M Rho) (mb : Rho → Sto → Fl) : sFor ms g mb ρ s = (ms ρ s).fl ρ fun src s1 => forL src.held (forB g mb) src.items ρ s1 := rfl
@[simp] theorem sPar_ap (i j : Nat) (a : Rho → M (List D)) : sPar i j a ρ s = (a ρ s).fl ρ fun ds s1 => match ds with | [x, y] => .next ((ρ.set i (some x)).set j (some y)) s1 | _ => .bad := rfl
@[simp] theorem sPar3_ap (i j l : Nat) (a : Rho → M (List D)) : sPar3 i j l a ρ s = (a ρ s).fl ρ fun ds s1 => match ds with | [x, y, z] => .next (((ρ.set i (some x)).set j (some y)).set l (some z)) s1 | _ => .bad := rfl
@[simp] theorem iRng1D_ap (m : Rho → M D) : iRng1D m ρ s = (m ρ s).bind fun d s1 => lift (rng1 d) s1 := rfl
@[simp] theorem iSeq_ap (m : Rho → M D) : iSeq m ρ s = (m ρ s).bind fun d s1 => lift (srcOf s1 d) s1 := rfl
@[simp] theorem lLc_ap (ms : Rho → M Src) (gf : D → Rho → M Rho) (mt : Rho → M Bool) (me : Rho → M D) (vs : List Nat) : lLc ms gf mt me vs ρ s = (ms ρ s).bind fun src s1 => if src.items.length ≤ 100000 then nox (lcL src.held (lcF gf mt me (wipeD ρ vs)) src.items s1) else .bad := rfl
@[simp] theorem forB_ap (g : D → Rho → M Rho) (mb : Rho → Sto → Fl) (d : D) : forB g mb d ρ s = (nox (g d ρ s)).fl ρ fun r s1 => mb r s1 := rfl
end
/-! ### calls -/
theorem clean_same {s s' : Sto} {d : D} (h : s'.length = s.length) : clean s (.ok d s') = .ok d s' := by
  unfold clean
  dsimp only
  split
  · rw [← h, List.take_length]
  · rfl
theorem clean_drop {s s' : Sto} {d : D} (hd : d.low s.length = true) (h : Tidy s s') : clean s (.ok d s') = .ok d (s'.take s.length) := by
  unfold clean
  dsimp only
  rw [if_pos ⟨hd, h⟩]
theorem clean_pure {s ex : Sto} {d : D} (hd : d.low s.length = true) : clean s (.ok d (s ++ ex)) = .ok d s := by
  rw [clean_drop hd ⟨by simp, fun l m hl e => .inl ?_⟩]
  · simp
  · rw [List.getElem?_append_left hl] at e
    exact e
mutual
theorem low_of_isP (n : Nat) : ∀ d : D, isP d = true → d.low n = true
  | .non, _ => by simp only [D.low]
  | .bl _, _ => by simp only [D.low]
  | .int _, _ => by simp only [D.low]
  | .str _, _ => by simp only [D.low]
  | .tup xs, h => by
    simp only [D.low]
    exact lows_of_isPs n xs (by simpa only [isP] using h)
  | .lst xs, h => by
    simp only [D.low]
    exact lows_of_isPs n xs (by simpa only [isP] using h)
  | .scr _, h => by simp [isP] at h
  | .ref _, h => by simp [isP] at h
  | .adr _, h => by simp [isP] at h
  | .fd _ _, h => by simp [isP] at h
  | .exo _ _ _ _, h => by simp [isP] at h
  | .obj _ _ _, h => by simp [isP] at h
theorem lows_of_isPs (n : Nat) : ∀ ds : List D, isPs ds = true → D.lows n ds = true
  | [], _ => by simp only [D.lows]
  | d :: ds, h => by
    simp only [isPs, Bool.and_eq_true] at h
    simp only [D.lows, Bool.and_eq_true]
    exact ⟨low_of_isP n d h.1, lows_of_isPs n ds h.2⟩
end
/-! ### loops -/
theorem forL_inv {held : List (Nat × List D)} {body : D → Rho → Sto → Fl} (I : Nat → Rho → Sto → Prop) (hh : ∀ i ρ s, I i ρ s → heldOk held s) :
    ∀ (items : List D) (k : Nat) (ρ : Rho) (s : Sto), I k ρ s → (∀ i ρ s d, items[i]? = some d → I (k + i) ρ s → ∃ ρ' s', (body d ρ s = .next ρ' s' ∨ body d ρ s = .cnt ρ' s') ∧ I (k + i + 1) ρ' s') →
    ∃ ρ' s', forL held body items ρ s = .next ρ' s' ∧ I (k + items.length) ρ' s'
  | [], k, ρ, s, h0, _ => ⟨ρ, s, by unfold forL; rw [if_pos (hh _ _ _ h0)], by simpa using h0⟩
  | d :: ds, k, ρ, s, h0, st => by
    obtain ⟨ρ1, s1, e1, h1⟩ := st 0 ρ s d (by simp) (by simpa using h0)
    obtain ⟨ρ2, s2, e2, h2⟩ := forL_inv I hh ds (k + 1) ρ1 s1 (by simpa using h1) fun i ρ s d hd hi => by
      have := st (i + 1) ρ s d (by simpa using hd) (by rw [← Nat.add_assoc, Nat.add_right_comm]; exact hi)
      obtain ⟨ρ', s', a, b⟩ := this
      exact ⟨ρ', s', a, by rw [Nat.add_right_comm k 1 i]; exact b⟩
    refine ⟨ρ2, s2, ?_, by rw [List.length_cons, Nat.add_comm ds.length, ← Nat.add_assoc]; exact h2⟩
    unfold forL
    rw [if_pos (hh _ _ _ h0)]
    rcases e1 with e1 | e1 <;> rw [e1] <;> exact e2
theorem lcL_pure {held : List (Nat × List D)} {f : D → Sto → Out (Option D)} {g : D → Option D} {s : Sto} (hh : heldOk held s) : ∀ items : List D, (∀ d ∈ items, f d s = .ok (g d) s) → lcL held f items s = .ok (items.filterMap g) s
  | [], _ => by unfold lcL; rw [if_pos hh] <;> rfl
  | d :: ds, h => by
    unfold lcL
    rw [if_pos hh, h d (by simp)]
    simp only [Out.bind_ok]
    rw [lcL_pure hh ds fun d hd => h d (by simp [hd])]
    simp only [Out.bind_ok]
    congr 1
    rw [List.filterMap_cons]
    cases g d <;> rfl
/-- some of the items, each changed by g, with a state that runs along -/
theorem lcL_sub {held : List (Nat × List D)} {f : D → Sto → Out (Option D)} (g : D → D) (I : Nat → Sto → Prop) (hh : ∀ i s, I i s → heldOk held s) :
    ∀ (items : List D) (k : Nat) (s : Sto), I k s → (∀ i s d, items[i]? = some d → I (k + i) s → ∃ (b : Bool) (s' : Sto), f d s = .ok (if b = true then some (g d) else none) s' ∧ I (k + i + 1) s') →
    ∃ (ys : List D) (s' : Sto), lcL held f items s = .ok (ys.map g) s' ∧ ys.Sublist items ∧ I (k + items.length) s'
  | [], k, s, h0, _ => ⟨[], s, by unfold lcL; rw [if_pos (hh _ _ h0)] <;> rfl, List.Sublist.refl _, by simpa using h0⟩
  | d :: ds, k, s, h0, st => by
    obtain ⟨b, s1, e1, h1⟩ := st 0 s d (by simp) (by simpa using h0)
    obtain ⟨ys, s2, e2, hs, h2⟩ := lcL_sub g I hh ds (k + 1) s1 (by simpa using h1) fun i s d hd hi => by
      obtain ⟨b, s', a, c⟩ := st (i + 1) s d (by simpa using hd) (by rw [← Nat.add_assoc, Nat.add_right_comm]; exact hi)
      exact ⟨b, s', a, by rw [Nat.add_right_comm k 1 i]; exact c⟩
    refine ⟨if b = true then d :: ys else ys, s2, ?_, ?_, by rw [List.length_cons, Nat.add_comm ds.length, ← Nat.add_assoc]; exact h2⟩
    · unfold lcL
      rw [if_pos (hh _ _ h0), e1]
      simp only [Out.bind_ok]
      rw [e2]
      cases b <;> rfl
    · cases b
      · exact hs.cons d
      · exact hs.cons₂ d
/-- one item for each, each with P, with a state that runs along -/
theorem lcL_all {held : List (Nat × List D)} {f : D → Sto → Out (Option D)} (P : Nat → D → Prop) (I : Nat → Sto → Prop) (hh : ∀ i s, I i s → heldOk held s) :
    ∀ (items : List D) (k : Nat) (s : Sto), I k s → (∀ i s d, items[i]? = some d → I (k + i) s → ∃ (y : D) (s' : Sto), f d s = .ok (some y) s' ∧ P (k + i) y ∧ I (k + i + 1) s') →
    ∃ (ys : List D) (s' : Sto), lcL held f items s = .ok ys s' ∧ ys.length = items.length ∧ (∀ i y, ys[i]? = some y → P (k + i) y) ∧ I (k + items.length) s'
  | [], k, s, h0, _ => ⟨[], s, by unfold lcL; rw [if_pos (hh _ _ h0)] <;> rfl, rfl, by simp, by simpa using h0⟩
  | d :: ds, k, s, h0, st => by
    obtain ⟨y, s1, e1, p1, h1⟩ := st 0 s d (by simp) (by simpa using h0)
    obtain ⟨ys, s2, e2, hl, hp, h2⟩ := lcL_all P I hh ds (k + 1) s1 (by simpa using h1) fun i s d hd hi => by
      obtain ⟨y, s', a, c, e⟩ := st (i + 1) s d (by simpa using hd) (by rw [← Nat.add_assoc, Nat.add_right_comm]; exact hi)
      exact ⟨y, s', a, by rw [Nat.add_right_comm k 1 i]; exact c, by rw [Nat.add_right_comm k 1 i]; exact e⟩
    refine ⟨y :: ys, s2, ?_, by simp [hl], ?_, by rw [List.length_cons, Nat.add_comm ds.length, ← Nat.add_assoc]; exact h2⟩
    · unfold lcL
      rw [if_pos (hh _ _ h0), e1]
      simp only [Out.bind_ok]
      rw [e2]
      rfl
    · intro i z hz
      cases i with
      | zero =>
        have : y = z := by simpa using hz
        subst this
        simpa using p1
      | succ i =>
        have := hp i z (by simpa using hz)
        rw [Nat.add_right_comm k 1 i] at this
        exact this
/-! ### values -/
def nI (n : Nat) : D := .int (n : Int)
def nT (r : List Nat) : D := .tup (r.map nI)
def nP (p : List (List Nat)) : D := .tup (p.map nT)
theorem rngD_zero (n : Nat) : rngD 0 n = (List.range n).map nI := by
  unfold rngD nI
  simp
theorem rng1_nI {n : Nat} (h : n ≤ SZ) : rng1 (nI n) = some ⟨(List.range n).map nI, []⟩ := by
  have h1 : n ≤ 100000 := h
  have h2 : (n : Int) ≤ 100000 := by omega
  unfold rng1 nI
  dsimp only
  rw [if_pos ⟨by omega, by omega⟩, Int.toNat_natCast, rngD_zero]
  rfl
theorem atI_cast {α : Type} (xs : List α) (n : Nat) : atI xs (n : Int) = xs[n]? := by
  unfold atI ixN
  rw [if_pos (Int.natCast_nonneg n)]
  by_cases h : n < xs.length
  · rw [if_pos (by omega), Option.bind_some, Int.toNat_natCast]
  · rw [if_neg (by omega), List.getElem?_eq_none (by omega)]
    rfl
@[simp] theorem pIdx_tup (s : Sto) (xs : List D) (n : Nat) : pIdx s (.tup xs) (nI n) = xs[n]? := by
  show (seqOf s (.tup xs)).bind (fun xs => atI xs (n : Int)) = _
  rw [seqOf_tup, Option.bind_some, atI_cast]
@[simp] theorem pIdx_lst (s : Sto) (xs : List D) (n : Nat) : pIdx s (.lst xs) (nI n) = xs[n]? := by
  show (seqOf s (.lst xs)).bind (fun xs => atI xs (n : Int)) = _
  rw [seqOf_lst, Option.bind_some, atI_cast]
theorem dat_P {s : Sto} {d : D} (h : isP d = true) : dat s d = some (toP d) := by
  unfold dat
  split
  · simp [isP] at h
  · rw [if_pos h]
@[simp] theorem isP_nI (n : Nat) : isP (nI n) = true := rfl
theorem isPs_map {α : Type} (f : α → D) (h : ∀ a, isP (f a) = true) : ∀ l : List α, isPs (l.map f) = true
  | [] => rfl
  | a :: l => by rw [List.map_cons, isPs, h a, isPs_map f h l] <;> rfl
@[simp] theorem isP_nT (r : List Nat) : isP (nT r) = true := by unfold nT; rw [isP]; exact isPs_map _ isP_nI r
@[simp] theorem isP_nP (p : List (List Nat)) : isP (nP p) = true := by unfold nP; rw [isP]; exact isPs_map _ isP_nT p
@[simp] theorem pEq_int (s : Sto) (i j : Int) : pEq s (.int i) (.int j) = some (.bl (decide (i = j))) := by
  show (if min (PyData.depth (.int i)) (PyData.depth (.int j)) ≤ 64 then some (D.bl (PyData.eqv (.int i) (.int j))) else none) = _
  rw [if_pos (by simp [PyData.depth])]
  congr 2
@[simp] theorem pNe_int (s : Sto) (i j : Int) : pNe s (.int i) (.int j) = some (.bl (!decide (i = j))) := by
  show (if min (PyData.depth (.int i)) (PyData.depth (.int j)) ≤ 64 then some (D.bl (!PyData.eqv (.int i) (.int j))) else none) = _
  rw [if_pos (by simp [PyData.depth])]
  congr 3
@[simp] theorem pEq_nI (s : Sto) (i j : Nat) : pEq s (nI i) (nI j) = some (.bl (decide (i = j))) := by
  unfold nI
  rw [pEq_int]
  congr 2
  rw [Bool.eq_iff_iff]; simp; omega
@[simp] theorem pNe_nI (s : Sto) (i j : Nat) : pNe s (nI i) (nI j) = some (.bl (!decide (i = j))) := by
  unfold nI
  rw [pNe_int]
  congr 3
  rw [Bool.eq_iff_iff]; simp; omega
@[simp] theorem pEq_str (s : Sto) (x y : Str) : pEq s (.str x) (.str y) = some (.bl (x == y)) := rfl
@[simp] theorem pNe_str (s : Sto) (x y : Str) : pNe s (.str x) (.str y) = some (.bl (!(x == y))) := rfl
theorem shaped_of {d : PyData} (h1 : d.canLay0 = true) (h2 : d.depth ≤ 64) : SeqAt.shaped d = true := by
  unfold SeqAt.shaped
  rw [h1, decide_eq_true h2] <;> rfl
theorem lay_ints : ∀ r : List Nat, PyData.canLayAll0 ((r.map nI).map toP) = true
  | [] => rfl
  | n :: r => by
    rw [List.map_cons, List.map_cons, PyData.canLayAll0, lay_ints r] <;> rfl
theorem dep_ints : ∀ r : List Nat, PyData.depthAll ((r.map nI).map toP) = 0
  | [] => rfl
  | n :: r => by
    rw [List.map_cons, List.map_cons, PyData.depthAll, dep_ints r] <;> rfl
theorem toP_nT (r : List Nat) : toP (nT r) = .tuple ((r.map nI).map toP) := by unfold nT; rw [toP, toPs_map]
theorem shaped_nT (r : List Nat) : SeqAt.shaped (toP (nT r)) = true := by
  rw [toP_nT]
  refine shaped_of (by rw [PyData.canLay0]; exact lay_ints r) ?_
  rw [PyData.depth, dep_ints]
  decide
theorem any_ints (a : Nat) : ∀ r : List Nat, (((r.map nI).map toP).any fun z => PyData.eqv z (.int (a : Int))) = decide (a ∈ r)
  | [] => by simp
  | n :: r => by
    rw [List.map_cons, List.map_cons, List.any_cons, any_ints a r]
    show (PyData.eqv (.int (n : Int)) (.int (a : Int)) || decide (a ∈ r)) = _
    have e : PyData.eqv (.int (n : Int)) (.int (a : Int)) = decide (a = n) := by
      show ((n : Int) == (a : Int)) = _
      rw [Bool.eq_iff_iff]
      simp
      omega
    rw [e, Bool.eq_iff_iff]
    simp
theorem inD_nT (s : Sto) (a : Nat) (r : List Nat) : inD s (nI a) (nT r) = some (decide (a ∈ r)) := by
  unfold inD
  show (match dat s (nI a), dat s (nT r) with
    | some p, some (.list ds) => if p.depth ≤ 64 then some (ds.any fun z => PyData.eqv z p) else none
    | some p, some (.tuple ds) => if p.depth ≤ 64 then some (ds.any fun z => PyData.eqv z p) else none
    | _, _ => none) = _
  rw [dat_P (isP_nI a), dat_P (isP_nT r)]
  rw [toP_nT]
  have h2 : (toP (nI a)).depth ≤ 64 := by show PyData.depth (.int _) ≤ 64; simp [PyData.depth]
  simp only [h2, if_true]
  congr 1
  exact any_ints a r
@[simp] theorem pIn_nT (s : Sto) (a : Nat) (r : List Nat) : pIn s (nI a) (nT r) = some (.bl (decide (a ∈ r))) := by unfold pIn; rw [inD_nT] <;> rfl
@[simp] theorem pNotIn_nT (s : Sto) (a : Nat) (r : List Nat) : pNotIn s (nI a) (nT r) = some (.bl (!decide (a ∈ r))) := by unfold pNotIn; rw [inD_nT] <;> rfl
@[simp] theorem srcOf_tup (s : Sto) (xs : List D) : srcOf s (.tup xs) = some ⟨xs, []⟩ := rfl
@[simp] theorem srcOf_lst (s : Sto) (xs : List D) : srcOf s (.lst xs) = some ⟨xs, []⟩ := rfl
@[simp] theorem pLen_tup (s : Sto) (xs : List D) : pLen s [.tup xs] = some (nI xs.length) := rfl
@[simp] theorem pTuple_lst (s : Sto) (xs : List D) : pTuple s [.lst xs] = some (.tup xs) := rfl
@[simp] theorem truth_bl (s : Sto) (b : Bool) : (D.bl b).truth s = some b := rfl
/-! ### words on whole numbers -/
section
variable (s : Sto) (i j : Int)
@[simp] theorem pAdd_int : pAdd s (.int i) (.int j) = some (.int (i + j)) := rfl
@[simp] theorem pSub_int : pSub s (.int i) (.int j) = some (.int (i - j)) := rfl
@[simp] theorem pNeg_int : pNeg s (.int i) = some (.int (-i)) := rfl
theorem pMod_int (h : 0 < j) : pMod s (.int i) (.int j) = some (.int (i % j)) := by unfold pMod; dsimp only; rw [if_pos h]
theorem pDiv_int (h : 0 < j ∧ j < 1073741824) : pDiv s (.int i) (.int j) = some (.int (i / j)) := by unfold pDiv; dsimp only; rw [if_pos h]
theorem pPow_int (h : 0 ≤ j ∧ j ≤ 1000000 ∧ i.natAbs < 2 ^ 64) : pPow s (.int i) (.int j) = some (.int (i ^ j.toNat)) := by unfold pPow; dsimp only; rw [if_pos h]
theorem pMul_int (h : i.natAbs < 2 ^ 64 ∨ j.natAbs < 2 ^ 64) : pMul s (.int i) (.int j) = some (.int (i * j)) := by unfold pMul; dsimp only; rw [if_pos h]
@[simp] theorem pLt_int : pLt s (.int i) (.int j) = some (.bl (decide (i < j))) := rfl
@[simp] theorem pLe_int : pLe s (.int i) (.int j) = some (.bl (decide (i ≤ j))) := rfl
@[simp] theorem pGt_int : pGt s (.int i) (.int j) = some (.bl (decide (j < i))) := rfl
@[simp] theorem pGe_int : pGe s (.int i) (.int j) = some (.bl (decide (j ≤ i))) := rfl
@[simp] theorem pAdd_nI (a b : Nat) : pAdd s (nI a) (nI b) = some (nI (a + b)) := by unfold nI; rw [pAdd_int]; congr 2
theorem pMod_nI (a b : Nat) (h : 0 < b) : pMod s (nI a) (nI b) = some (nI (a % b)) := by unfold nI; rw [pMod_int _ _ _ (by omega)]; congr 2
theorem lit_nI (n : Nat) : D.int (OfNat.ofNat n) = nI n := rfl
end
theorem pIdx_ref {s : Sto} {l : Nat} {xs : List D} (h : s[l]? = some (.lst xs)) (i : Int) : pIdx s (.ref l) (.int i) = atI xs i := by
  show (seqOf s (.ref l)).bind _ = _
  have e : seqOf s (.ref l) = some xs := by
    show lstOf s (.ref l) = _
    unfold lstOf
    dsimp only
    rw [h]
  rw [e] <;> rfl
theorem gSubD_ref {mo mi : Rho → M D} {d : D} {ρ : Rho} {s s1 s2 : Sto} {l j : Nat} {k : Int} {xs : List D} (ho : mo ρ s = .ok (.ref l) s1) (hi : mi ρ s1 = .ok (.int k) s2) (h : s2[l]? = some (.lst xs)) (hj : ixN xs.length k = some j) : gSubD mo mi d ρ s = .ok ρ (s2.set l (.lst (xs.set j d))) := by
  unfold gSubD
  rw [ho, Out.bind_ok, hi, Out.bind_ok]
  simp only [h, hj]
theorem pLen_ref {s : Sto} {l : Nat} {xs : List D} (h : s[l]? = some (.lst xs)) : pLen s [.ref l] = some (.int xs.length) := by
  show (seqOf s (.ref l)).map _ = _
  have e : seqOf s (.ref l) = some xs := by
    show lstOf s (.ref l) = _
    unfold lstOf
    dsimp only
    rw [h]
  rw [e] <;> rfl
/-! ### comprehensions over numbers -/
theorem lc_nat {f : D → Sto → Out (Option D)} {s : Sto} (p : Nat → Bool) (g : Nat → D) (l : List Nat) (h : ∀ a ∈ l, f (nI a) s = .ok (if p a = true then some (g a) else none) s) : lcL [] f (l.map nI) s = .ok ((l.filter p).map g) s := by
  induction l with
  | nil => unfold lcL; rw [List.map_nil]; simp
  | cons a l ih =>
    rw [List.map_cons]
    unfold lcL
    rw [if_pos (by simp), h a (by simp)]
    simp only [Out.bind_ok]
    rw [ih fun b hb => h b (by simp [hb])]
    cases e : p a <;> simp [e]
/-- a part of the numbers, drawn -/
theorem lc_drawn {f : D → Sto → Out (Option D)} (I : Nat → Sto → Prop) (l : List Nat) (s : Sto) (h0 : I 0 s) (h : ∀ i s a, a ∈ l → i < l.length → I i s → ∃ (b : Bool) (s' : Sto), f (nI a) s = .ok (if b = true then some (nI a) else none) s' ∧ I (i + 1) s') :
    ∃ (r : List Nat) (s' : Sto), lcL [] f (l.map nI) s = .ok (r.map nI) s' ∧ r.Sublist l ∧ I l.length s' := by
  obtain ⟨ys, s', e, hs, hI⟩ := lcL_sub (held := []) (f := f) (fun d => d) I (fun _ _ _ => by simp) (l.map nI) 0 s h0 fun i s d hd hi => by
    rw [List.getElem?_map] at hd
    cases e : l[i]? with
    | none => rw [e] at hd; cases hd
    | some a =>
      rw [e] at hd
      cases hd
      obtain ⟨b, s', q, hi'⟩ := h i s a (List.mem_of_getElem? e) (List.getElem?_eq_some_iff.mp e).1 (by simpa using hi)
      exact ⟨b, s', q, by simpa using hi'⟩
  obtain ⟨r, hr, er⟩ := List.sublist_map_iff.mp hs
  subst er
  exact ⟨r, s', by rw [e]; simp, hr, by simpa using hI⟩
/-! ### repr -/
structure ROk (dp bk : Nat) (d : D) : Prop where
  p : isP d = true
  lay : (toP d).canLay0 = true
  dep : (toP d).depth ≤ dp
  show_ : (toP d).showable = true
  leaf : (toP d).leavesShort 60 = true
  blk : (toP d).bulk ≤ bk
theorem ROk.repr {dp bk : Nat} {d : D} (h : ROk dp bk d) (h1 : dp ≤ 64) (h2 : bk ≤ 200000) (s : Sto) : pRepr s [d] = some (.str (toP d).shown) := by
  have hl := PyData.shown_le_bulk 60 (by decide) (toP d) h.leaf
  have hb := h.blk
  have hs : (toP d).shown.length ≤ sizeLine := by rw [sizeLine_eq]; omega
  show (dat s d).bind _ = _
  rw [dat_P h.p]
  show (if SeqAt.shaped (toP d) = true ∧ (toP d).showable = true ∧ (toP d).shown.length ≤ sizeLine then some (D.str (toP d).shown) else none) = _
  rw [if_pos ⟨shaped_of h.lay (Nat.le_trans h.dep h1), h.show_, hs⟩]
theorem ROk.mono {dp bk dp' bk' : Nat} {d : D} (h : ROk dp bk d) (h1 : dp ≤ dp') (h2 : bk ≤ bk') : ROk dp' bk' d := ⟨h.p, h.lay, Nat.le_trans h.dep h1, h.show_, h.leaf, Nat.le_trans h.blk h2⟩
theorem rok_all {dp bk : Nat} : ∀ {xs : List D}, (∀ x ∈ xs, ROk dp bk x) → isPs xs = true ∧ PyData.canLayAll0 (toPs xs) = true ∧ PyData.depthAll (toPs xs) ≤ dp ∧ PyData.showableAll (toPs xs) = true ∧ PyData.leavesShortAll 60 (toPs xs) = true ∧ PyData.bulkAll (toPs xs) ≤ xs.length * (bk + 1)
  | [], _ => ⟨rfl, rfl, Nat.zero_le _, rfl, rfl, by simp [toPs, PyData.bulkAll]⟩
  | x :: xs, h => by
    obtain ⟨a1, a2, a3, a4, a5, a6⟩ := h x (by simp)
    obtain ⟨b1, b2, b3, b4, b5, b6⟩ := rok_all (xs := xs) fun y hy => h y (List.mem_cons_of_mem _ hy)
    refine ⟨by rw [isPs, a1, b1] <;> rfl, by rw [toPs, PyData.canLayAll0, a2, b2] <;> rfl, by rw [toPs, PyData.depthAll]; exact Nat.max_le.mpr ⟨a3, b3⟩, by rw [toPs, PyData.showableAll, a4, b4] <;> rfl, by rw [toPs, PyData.leavesShortAll, a5, b5] <;> rfl, ?_⟩
    rw [toPs, PyData.bulkAll, List.length_cons, Nat.add_mul]
    omega
theorem rok_tup {dp bk n : Nat} {xs : List D} (h : ∀ x ∈ xs, ROk dp bk x) (hn : xs.length ≤ n) : ROk (dp + 1) (n * (bk + 1)) (.tup xs) := by
  obtain ⟨b1, b2, b3, b4, b5, b6⟩ := rok_all h
  refine ⟨by rw [isP]; exact b1, by rw [toP, PyData.canLay0]; exact b2, by rw [toP, PyData.depth]; omega, by rw [toP, PyData.showable]; exact b4, by rw [toP, PyData.leavesShort]; exact b5, ?_⟩
  rw [toP, PyData.bulk]
  exact Nat.le_trans b6 (Nat.mul_le_mul_right _ hn)
theorem rok_lst {dp bk n : Nat} {xs : List D} (h : ∀ x ∈ xs, ROk dp bk x) (hn : xs.length ≤ n) : ROk (dp + 1) (n * (bk + 1)) (.lst xs) := by
  obtain ⟨b1, b2, b3, b4, b5, b6⟩ := rok_all h
  refine ⟨by rw [isP]; exact b1, by rw [toP, PyData.canLay0]; exact b2, by rw [toP, PyData.depth]; omega, by rw [toP, PyData.showable]; exact b4, by rw [toP, PyData.leavesShort]; exact b5, ?_⟩
  rw [toP, PyData.bulk]
  exact Nat.le_trans b6 (Nat.mul_le_mul_right _ hn)
end Dn
/-! DnQ: numbers sorted; rows and panels shown. -/
namespace Dn
open PySem PySem.Spec PyProof.Rows L2
theorem dataLe_nI (a b : Nat) : PySem.W.dataLe false toP (nI a) (nI b) = decide (a ≤ b) := by
  have e := congrFun (congrFun (PySem.W.dataLe_int (fun n : Nat => (n : Int))) a) b
  have e2 : PySem.W.dataLe false toP (nI a) (nI b) = PySem.W.dataLe false (fun n : Nat => PyData.int (n : Int)) a b := rfl
  rw [e2, e, Bool.eq_iff_iff]
  simp
theorem sort_nats {r q : List Nat} (hp : r.Perm q) (hq : q.Pairwise (· < ·)) : r.mergeSort (fun a b => decide (a ≤ b)) = q := by
  refine List.Perm.eq_of_pairwise (le := (· ≤ ·)) (fun a b _ _ h1 h2 => Nat.le_antisymm h1 h2) ?_ (hq.imp fun h => Nat.le_of_lt h) ((List.mergeSort_perm r _).trans hp)
  have := List.pairwise_mergeSort (le := fun a b : Nat => decide (a ≤ b)) (fun a b c h1 h2 => by simp at h1 h2 ⊢; omega) (fun a b => by simp; omega) r
  exact this.imp fun h => by simpa using h
theorem sortD_nI {r q : List Nat} (hp : r.Perm q) (hq : q.Pairwise (· < ·)) : sortD (r.map nI) = q.map nI := by
  unfold sortD
  rw [← List.map_mergeSort (r := fun a b : Nat => decide (a ≤ b)) (fun a _ b _ => (dataLe_nI a b).symm), sort_nats hp hq]
theorem pSorted_nI {s : Sto} {d : D} {r q : List Nat} (hs : seqOf s d = some (r.map nI)) (hl : r.length ≤ 100000) (hp : r.Perm q) (hq : q.Pairwise (· < ·)) : pSorted s [d] = some (q.map nI) := by
  unfold pSorted
  simp only [hs]
  rw [if_pos, sortD_nI hp hq]
  refine ⟨by rw [List.length_map]; exact hl, fun x hx => ?_, fun x hx y hy => ?_, .inr fun x hx => ?_⟩
  · obtain ⟨a, _, rfl⟩ := List.mem_map.mp hx
    exact ⟨rfl, Nat.zero_le _⟩
  · rw [List.map_map] at hx hy
    obtain ⟨a, _, rfl⟩ := List.mem_map.mp hx
    obtain ⟨b, _, rfl⟩ := List.mem_map.mp hy
    rfl
  · rw [List.map_map] at hx
    obtain ⟨a, _, rfl⟩ := List.mem_map.mp hx
    exact ⟨(fun h => nomatch h), (fun xs h => nomatch h)⟩
theorem sorted_sub {n : Nat} {r : List Nat} (h : r.Sublist (List.range n)) : r.Pairwise (· < ·) := (List.pairwise_lt_range (n := n)).sublist h
theorem mem_sub {n : Nat} {r : List Nat} (h : r.Sublist (List.range n)) {a : Nat} (ha : a ∈ r) : a < n := List.mem_range.mp (h.subset ha)
theorem len_sub {n : Nat} {r : List Nat} (h : r.Sublist (List.range n)) : r.length ≤ n := by have := h.length_le; rwa [List.length_range] at this
/-- the rows with the same members are the same -/
theorem sub_ext {n : Nat} {r q : List Nat} (h1 : r.Pairwise (· < ·)) (h2 : q.Pairwise (· < ·)) (h : ∀ a, a ∈ r ↔ a ∈ q) : r = q := by
  have nd : ∀ {l : List Nat}, l.Pairwise (· < ·) → l.Nodup := fun h => h.imp fun h => Nat.ne_of_lt h
  have hp : r.Perm q := (List.perm_ext_iff_of_nodup (nd h1) (nd h2)).mpr h
  exact hp.eq_of_pairwise (le := (· < ·)) (fun a b _ _ h1 h2 => absurd h1 (Nat.lt_asymm h2)) h1 h2
theorem perm_ext {r q : List Nat} (h1 : r.Nodup) (h2 : q.Nodup) (h : ∀ a, a ∈ r ↔ a ∈ q) : r.Perm q := (List.perm_ext_iff_of_nodup h1 h2).mpr h
theorem lc_each {f : D → Sto → Out (Option D)} {s : Sto} (g : Nat → D) (l : List Nat) (h : ∀ a ∈ l, f (nI a) s = .ok (some (g a)) s) : lcL [] f (l.map nI) s = .ok (l.map g) s := by
  rw [lc_nat (fun _ => true) g l (fun a ha => by rw [h a ha, if_pos rfl]), List.filter_eq_self.mpr (fun _ _ => rfl)]
theorem clean_some (s : Sto) (d : D) (s' : Sto) : ∃ st', clean s (.ok d s') = .ok d st' := by
  unfold clean
  dsimp only
  split
  · exact ⟨_, rfl⟩
  · exact ⟨_, rfl⟩
/-- by place -/
theorem lc_ix {held : List (Nat × List D)} {f : D → Sto → Out (Option D)} {s : Sto} (h : Nat → D) (hh : heldOk held s) (items : List D) (hf : ∀ i d, items[i]? = some d → f d s = .ok (some (h i)) s) : lcL held f items s = .ok ((List.range items.length).map h) s := by
  induction items generalizing h with
  | nil => unfold lcL; rw [if_pos hh]; rfl
  | cons d ds ih =>
    unfold lcL
    rw [if_pos hh, hf 0 d rfl]
    simp only [Out.bind_ok]
    rw [ih (fun i => h (i + 1)) fun i d hd => hf (i + 1) d (by simpa using hd)]
    simp only [Out.bind_ok]
    rw [List.length_cons, List.range_succ_eq_map, List.map_cons, List.map_map]
    rfl
theorem cutD_take {α : Type} (xs : List α) (n : Nat) : Dn.cutD xs none (some (n : Int)) = xs.take n := by
  unfold Dn.cutD
  rw [HT.sIx_none, HT.sIx_nat, Nat.sub_zero, List.drop_zero]
  by_cases h : n ≤ xs.length
  · rw [Nat.min_eq_left h]
  · rw [Nat.min_eq_right (by omega), List.take_length, List.take_of_length_le (by omega)]
theorem cutD_drop {α : Type} (xs : List α) (n : Nat) : Dn.cutD xs (some (n : Int)) none = xs.drop n := by
  unfold Dn.cutD
  rw [HT.sIx_none, HT.sIx_nat]
  by_cases h : n ≤ xs.length
  · rw [Nat.min_eq_left h, List.take_of_length_le (by rw [List.length_drop]; omega)]
  · rw [Nat.min_eq_right (by omega), Nat.sub_self, List.take_zero, List.drop_of_length_le (by omega)]
/-- in a list of the store -/
theorem inD_ref {s : Sto} {l a : Nat} {r : List Nat} (h : s[l]? = some (.lst (r.map nI))) : inD s (nI a) (.ref l) = some (decide (a ∈ r)) := by
  unfold inD
  have e : dat s (.ref l) = some (.list ((r.map nI).map toP)) := by
    unfold dat
    simp only [h]
    rw [if_pos (isPs_map _ isP_nI r), toPs_map]
  show (match dat s (nI a), dat s (.ref l) with
    | some p, some (.list ds) => if p.depth ≤ 64 then some (ds.any fun z => PyData.eqv z p) else none
    | some p, some (.tuple ds) => if p.depth ≤ 64 then some (ds.any fun z => PyData.eqv z p) else none
    | _, _ => none) = _
  have h2 : (toP (nI a)).depth ≤ 64 := by show PyData.depth (.int _) ≤ 64; simp [PyData.depth]
  rw [dat_P (isP_nI a), e]
  simp only [h2, if_true]
  congr 1
  exact any_ints a r
theorem pIn_ref {s : Sto} {l a : Nat} {r : List Nat} (h : s[l]? = some (.lst (r.map nI))) : pIn s (nI a) (.ref l) = some (.bl (decide (a ∈ r))) := by unfold pIn; rw [inD_ref h] <;> rfl
theorem pNotIn_ref {s : Sto} {l a : Nat} {r : List Nat} (h : s[l]? = some (.lst (r.map nI))) : pNotIn s (nI a) (.ref l) = some (.bl (!decide (a ∈ r))) := by unfold pNotIn; rw [inD_ref h] <;> rfl
theorem lst_of_ref {s : Sto} {l : Nat} {xs : List D} (h : s[l]? = some (.lst xs)) : lstOf s (.ref l) = some xs := by
  unfold lstOf
  simp only [h]
/-! shown -/
theorem shown_small (n : Nat) (h : n < 1000) : ((PyData.int (n : Int)).shown).length ≤ 60 ∧ (n : Int).natAbs.log2 < 1920 := by
  revert n
  decide +kernel
theorem rok_nI {n : Nat} (h : n < 1000) : ROk 0 0 (nI n) := by
  obtain ⟨h1, h2⟩ := shown_small n h
  refine ⟨rfl, rfl, Nat.le_refl _, ?_, ?_, Nat.le_refl _⟩
  · show decide ((n : Int).natAbs.log2 < 1920) = true
    exact decide_eq_true h2
  · show decide (((PyData.int (n : Int)).shown).length ≤ 60) = true
    exact decide_eq_true h1
theorem rok_nT {r : List Nat} {k : Nat} (h : ∀ a ∈ r, a < 1000) (hl : r.length ≤ k) : ROk 1 k (nT r) := by
  have := rok_tup (dp := 0) (bk := 0) (n := k) (xs := r.map nI) (fun x hx => by
    obtain ⟨a, ha, rfl⟩ := List.mem_map.mp hx
    exact rok_nI (h a ha)) (by rw [List.length_map]; exact hl)
  simpa [nT] using this
theorem rok_nP {p : List (List Nat)} {k m : Nat} (h : ∀ r ∈ p, ∀ a ∈ r, a < 1000) (hl : ∀ r ∈ p, r.length ≤ k) (hm : p.length ≤ m) : ROk 2 (m * (k + 1)) (nP p) := by
  exact rok_tup (dp := 1) (bk := k) (n := m) (xs := p.map nT) (fun x hx => by
    obtain ⟨r, hr, rfl⟩ := List.mem_map.mp hx
    exact rok_nT (h r hr) (hl r hr)) (by rw [List.length_map]; exact hm)
end Dn
/-! DnR: methods of tuples; count and index. -/
namespace Dn
open PySem PySem.Spec PyProof.Rows L2
def mMethT (p : D → List D → M D) (mo : Rho → M D) (am : Rho → M (List D)) : Rho → M D := fun ρ st =>
  (mo ρ st).bind fun o st1 => match o with
    | .tup xs => (am ρ st1).bind fun ds st2 => nox (p (.tup xs) ds st2)
    | _ => .bad
section
variable {X : Cx} {W : WX} {apos cpos : Pos} {o e : Expr} {es : List Expr} {mo : Rho → M D} {am : Rho → M (List D)} {id : String} {name : Str} {p : D → List D → M D} {pins : List (Addr × Obj)} {σ : L2.St} {H : Hp} {s : Shared}
/-- such a tuple in the heap -/
theorem _root_.L2.Inv.plainT {K : PySem.W.Frag} {a : Addr} {xs : List V} (hK : K = X.K) (I : Inv X pins σ H s) (h : SqP K H a xs) : s.TypeIs (.ref a) "tuple" ∧ ∀ b, Value.ref a = .ref b → ∃ ob, s.heap.get? b = some ob ∧ ob.dict = none := by
  subst hK
  rcases h with ⟨ob, hd, hF⟩ | ⟨ob, its, n, hk, hc, hd, _⟩
  · obtain ⟨hg, hz, us, r, ob2, hg2, hc2, _⟩ := I.hok a _ hF
    rw [hg] at hg2
    cases hg2
    exact ⟨⟨ob, hg, hc2⟩, fun b e => by cases e; exact ⟨ob, hg, hd⟩⟩
  · exact ⟨⟨ob, I.kIn a ob hk, hc⟩, fun b e => by cases e; exact ⟨ob, I.kIn a ob hk, hd⟩⟩
theorem de_mT (slot : Slot "tuple" name id) (hty : typeOf (.builtin id) = pure (.type "method_descriptor")) (hm : MtR X id (rM X.K p)) (ho : DE X W o mo) (ha : DA X W (e :: es) am)
    (hbase : attributeBase o name X.env (eval o X.env) = eval o X.env := by rfl)
    (hfew : ((backTo cpos (starEach (e :: es) X.env)).all (fun x => !x.1) && (backToKw cpos (keywordEach [] X.env)).all (fun x => x.1.isSome)
      && decide ((e :: es).length + ([] : List Keyword).length + (if ([] : List Keyword).isEmpty then 0 else 1) < 30)) = true := by rfl)
    (hline : (apos.endLine == cpos.line) = true := by rfl) (hs : starEach (e :: es) X.env = (false, eval e X.env) :: starEach es X.env := by rfl) (hpl : (backTo cpos (starEach es X.env)).any (·.1) = false := by rfl) :
    DE X W (.Call (.Attribute o name apos) (e :: es) [] cpos) (mMethT p mo am) := by
  refine ⟨fun pins s σ H Q I ⟨F, ι, ρ, st, S, R, q⟩ => ?_⟩
  refine wpAny_Call_method_late hbase hfew hline rfl (thn (ho.run pins s σ H (fun x H1 => ∃ F1 ι1 st1 xs, Sim X.K F1 ι1 st1 H1 ∧ REnv X.K F1 ι1 ρ σ ∧ Rep X.K F1 ι1 (.tup xs) x ∧ post X.K W σ F1 ι1 H1 (pV X.K) ((am ρ st1).bind fun ds st2 => nox (p (.tup xs) ds st2)) Q) I ?_) fun v s1 ⟨x, H1, I1, r1, F1, ι1, st1, xs, S1, R1, rx, q1⟩ => ?_)
  · refine tG_seq back_V S R q fun d st1 F1 ι1 H1 x x1 S1 R1 r1 q1 => ?_
    split at q1
    · exact ⟨F1, ι1, st1, _, S1, R1, r1, q1⟩
    · exact (q1 : False).elim
  have rx' := rx
  simp only [Rep] at rx
  obtain ⟨a, vs, rfl, hq, rr⟩ := rx
  obtain rfl : v = Value.ref a := r1
  obtain ⟨ht, hd⟩ := I1.plainT rfl (hq.mono S1.sub)
  refine ⟨"tuple", id, PySem.F.plainAttrs_tuple, slot, hty, ht, hd, ?_⟩
  have hA := ha.run cpos pins s1 σ H1 (fun ws H2 => rM X.K p (.ref a) ws H2 Q) I1 (by
    refine tG_seq back_V S1 R1 q1 fun ds st2 F2 ι2 H2 ws x2 S2 R2 r2 q2 => ?_
    cases e1 : p (.tup xs) ds st2 with
    | ok d' st' =>
      rw [e1] at q2
      exact ⟨F2, ι2, st2, .tup xs, ds, d', st', S2, rx'.ext x2, r2, e1, q2⟩
    | exc _ _ => rw [e1] at q2; exact (q2 : False).elim
    | bad => rw [e1] at q2; exact (q2 : False).elim)
  rw [hs] at hA ⊢
  refine Calls.callWith_builtin (by show (false || (backTo cpos (starEach es X.env)).any (·.1)) = false; rw [hpl] <;> rfl) (Calls.evalArgs_plain ?_)
  exact thn hA fun us s2 ⟨ws, H2, I2, r2, q2⟩ => hm pins s2 σ H2 (.ref a) ws (.ref a) us Q I2 rfl r2 q2
/-! ### count, index -/
open Classical in
noncomputable def countD (xs : List D) (y : D) : Option D := if isPs xs = true ∧ isP y = true ∧ SeqAt.shaped (.list (toPs xs)) = true ∧ SeqAt.shaped (toP y) = true then some (.int ((toPs xs).countP fun z => PyData.eqv z (toP y) : Nat)) else none
open Classical in
noncomputable def indexD (xs : List D) (y : D) : Option D := if isPs xs = true ∧ isP y = true ∧ SeqAt.shaped (.list (toPs xs)) = true ∧ SeqAt.shaped (toP y) = true then (SeqAt.dataPlace (toPs xs) (toP y)).map fun j => .int (j : Nat) else none
noncomputable def pCountT : D → List D → M D := fun d ds st => match d, ds with
  | .tup xs, [y] => lift (countD xs y) st
  | _, _ => .bad
noncomputable def pIndexT : D → List D → M D := fun d ds st => match d, ds with
  | .tup xs, [y] => lift (indexD xs y) st
  | _, _ => .bad
noncomputable def pCountL : D → List D → M D := fun d ds st => match lstOf st d, ds with
  | some xs, [y] => lift (countD xs y) st
  | _, _ => .bad
noncomputable def pIndexL : D → List D → M D := fun d ds st => match lstOf st d, ds with
  | some xs, [y] => lift (indexD xs y) st
  | _, _ => .bad
theorem lift_ok {α : Type} {o : Option α} {st st' : Sto} {d : α} (h : lift o st = .ok d st') : o = some d ∧ st' = st := by
  cases o with
  | none => cases h
  | some a => cases h; exact ⟨rfl, rfl⟩
theorem reads_all {K : PySem.W.Frag} (hK : K = X.K) (I : Inv X pins σ H s) {F : Hp} {ι : List Addr} {st : Sto} (S : Sim K F ι st H) {xs : List D} {vs : List V} {its : List Value} (h : isPs xs = true) (r : Reps K F ι xs vs) (rv : Vals vs its) : ∃ as, ReadsAll s.heap its (toPs xs) as := by
  subst hK
  exact Dp.readsAll I _ _ _ (dps_of S.sub xs vs h r) rv
theorem shaped_parts {xs : List PyData} (h : SeqAt.shaped (.list xs) = true) : PyData.plainAll xs = true ∧ PyData.depthAll xs ≤ 63 := by
  have h1 := SeqAt.canLay_of_shaped h
  have h2 := SeqAt.depth_of_shaped h
  rw [PyData.depth] at h2
  have h3 := PyData.plain_of_canLay0 (.list xs) h1
  rw [PyData.plain] at h3
  exact ⟨h3, by omega⟩
theorem room_data {xs : List PyData} {d : PyData} (hu : X.A.units + 70 < cLine) (h : PyData.depthAll xs ≤ 63) : X.A.units + 1 + min (PyData.depthAll xs) d.depth < cLine := by
  have := Nat.min_le_left (PyData.depthAll xs) d.depth
  omega
theorem countD_some {xs : List D} {y d : D} (h : countD xs y = some d) : isPs xs = true ∧ isP y = true ∧ SeqAt.shaped (.list (toPs xs)) = true ∧ SeqAt.shaped (toP y) = true ∧ d = .int ((toPs xs).countP fun z => PyData.eqv z (toP y) : Nat) := by
  unfold countD at h
  split at h
  · rename_i c
    cases h
    exact ⟨c.1, c.2.1, c.2.2.1, c.2.2.2, rfl⟩
  · cases h
theorem indexD_some {xs : List D} {y d : D} (h : indexD xs y = some d) : isPs xs = true ∧ isP y = true ∧ SeqAt.shaped (.list (toPs xs)) = true ∧ SeqAt.shaped (toP y) = true ∧ ∃ j, SeqAt.dataPlace (toPs xs) (toP y) = some j ∧ d = .int (j : Nat) := by
  unfold indexD at h
  split at h
  · rename_i c
    obtain ⟨j, e, rfl⟩ := Option.map_eq_some_iff.mp h
    exact ⟨c.1, c.2.1, c.2.2.1, c.2.2.2, j, e, rfl⟩
  · cases h
theorem rep_int {K : PySem.W.Frag} {F : Hp} {ι : List Addr} {i : Int} : Rep K F ι (.int i) (.int i) := by simp only [Rep]
theorem mt_pCountT (hu : X.A.units + 70 < cLine) : MtR X "tuple.count" (rM X.K pCountT) := by
  intro pins s σ H x xs v us Q I rx rxs ⟨F, ι, st, d, ds, d', st', S, rd, rds, e, q⟩
  unfold pCountT at e
  split at e
  rotate_left
  · cases e
  rename_i ys y
  obtain ⟨e2, rfl⟩ := lift_ok e
  obtain ⟨p1, p2, p3, p4, rfl⟩ := countD_some e2
  obtain ⟨w, rfl, ry⟩ := rds.one'
  obtain ⟨u, rfl, ru⟩ := rxs.one
  simp only [Rep] at rd
  obtain ⟨a, vs, rfl, hq, rr⟩ := rd
  cases rx
  obtain ⟨its, rv, ht, hz⟩ := I.tuple (S.sqT hq)
  obtain ⟨as, ra⟩ := reads_all rfl I S p1 rr rv
  obtain ⟨bs, rb⟩ := Dp.reads I _ _ _ (rep_dp S ry p2) ru
  obtain ⟨h1, h2⟩ := shaped_parts p3
  exact SeqAt.count_tuple_data (vs := its.toArray) ht (by simpa using ra) rb h1 (PyData.plain_of_canLay0 _ (SeqAt.canLay_of_shaped p4)) (room_data hu h2) ⟨.int _, H, I.tok _, ⟨_, rfl⟩, q F ι H _ Ext.refl S rep_int⟩
theorem mt_pCountL (hu : X.A.units + 70 < cLine) : MtR X "list.count" (rM X.K pCountL) := by
  intro pins s σ H x xs v us Q I rx rxs ⟨F, ι, st, d, ds, d', st', S, rd, rds, e, q⟩
  unfold pCountL at e
  split at e
  rotate_left
  · cases e
  rename_i ys y e1
  obtain ⟨e2, rfl⟩ := lift_ok e
  obtain ⟨p1, p2, p3, p4, rfl⟩ := countD_some e2
  obtain ⟨w, rfl, ry⟩ := rds.one'
  obtain ⟨u, rfl, ru⟩ := rxs.one
  obtain ⟨a, vs, rfl, hq, rr⟩ := S.lst rd e1
  cases rx
  obtain ⟨its, rv, pl, hz⟩ := I.list (SqL.of hq)
  obtain ⟨as, ra⟩ := reads_all rfl I S p1 rr rv
  obtain ⟨bs, rb⟩ := Dp.reads I _ _ _ (rep_dp S ry p2) ru
  obtain ⟨h1, h2⟩ := shaped_parts p3
  exact SeqAt.count_list_data (vs := its.toArray) pl.isList (by simpa using ra) rb h1 (PyData.plain_of_canLay0 _ (SeqAt.canLay_of_shaped p4)) (room_data hu h2) ⟨.int _, H, I.tok _, ⟨_, rfl⟩, q F ι H _ Ext.refl S rep_int⟩
theorem mt_pIndexT (hu : X.A.units + 70 < cLine) : MtR X "tuple.index" (rM X.K pIndexT) := by
  intro pins s σ H x xs v us Q I rx rxs ⟨F, ι, st, d, ds, d', st', S, rd, rds, e, q⟩
  unfold pIndexT at e
  split at e
  rotate_left
  · cases e
  rename_i ys y
  obtain ⟨e2, rfl⟩ := lift_ok e
  obtain ⟨p1, p2, p3, p4, j, hj, rfl⟩ := indexD_some e2
  obtain ⟨w, rfl, ry⟩ := rds.one'
  obtain ⟨u, rfl, ru⟩ := rxs.one
  simp only [Rep] at rd
  obtain ⟨a, vs, rfl, hq, rr⟩ := rd
  cases rx
  obtain ⟨its, rv, ⟨⟨C, dd, dt, sl⟩, ho, hc, n, hd⟩, hz⟩ := I.tuple (S.sqT hq)
  simp only at hc hd
  subst hc hd
  obtain ⟨as, ra⟩ := reads_all rfl I S p1 rr rv
  obtain ⟨bs, rb⟩ := Dp.reads I _ _ _ (rep_dp S ry p2) ru
  obtain ⟨h1, h2⟩ := shaped_parts p3
  have ra' : ReadsAll s.heap its.toArray.toList (toPs ys) as := by simpa using ra
  obtain ⟨hjs, hit, hno⟩ := SeqAt.hit_at (vs := its.toArray) ra' h1 hj
  exact call_meets PySem.F.slot_tuple_index ⟨_, ho, rfl⟩ PySem.F.entry_tuple_index (PySem.F.args_tuple_index_2 _ _) (_root_.TI.tuple_indexAt a its.toArray n dd sl u (fun z => PyData.eqv (SeqAt.readOf s.heap z) (toP y)) j hjs hit hno)
    ⟨ho, SeqAt.items_plain ra' rb h1 (PyData.plain_of_canLay0 _ (SeqAt.canLay_of_shaped p4)) (room_data hu h2), ⟨.int _, H, I.tok _, ⟨_, rfl⟩, q F ι H _ Ext.refl S rep_int⟩⟩
theorem mt_pIndexL (hu : X.A.units + 70 < cLine) : MtR X "list.index" (rM X.K pIndexL) := by
  intro pins s σ H x xs v us Q I rx rxs ⟨F, ι, st, d, ds, d', st', S, rd, rds, e, q⟩
  unfold pIndexL at e
  split at e
  rotate_left
  · cases e
  rename_i ys y e1
  obtain ⟨e2, rfl⟩ := lift_ok e
  obtain ⟨p1, p2, p3, p4, j, hj, rfl⟩ := indexD_some e2
  obtain ⟨w, rfl, ry⟩ := rds.one'
  obtain ⟨u, rfl, ru⟩ := rxs.one
  obtain ⟨a, vs, rfl, hq, rr⟩ := S.lst rd e1
  cases rx
  obtain ⟨its, rv, ⟨⟨C, dd, dt, sl⟩, n, ho, hc, hdn, hd⟩, hz⟩ := I.list (SqL.of hq)
  simp only at hc hd
  subst hc hd
  obtain ⟨as, ra⟩ := reads_all rfl I S p1 rr rv
  obtain ⟨bs, rb⟩ := Dp.reads I _ _ _ (rep_dp S ry p2) ru
  obtain ⟨h1, h2⟩ := shaped_parts p3
  have ra' : ReadsAll s.heap its.toArray.toList (toPs ys) as := by simpa using ra
  obtain ⟨hjs, hit, hno⟩ := SeqAt.hit_at (vs := its.toArray) ra' h1 hj
  have hz' := sizeLine_eq
  exact call_meets PySem.F.slot_list_index ⟨_, ho, rfl⟩ PySem.F.entry_list_index (PySem.F.args_list_index_2 _ _) (SeqAt.list_indexAt a its.toArray n dd sl u (fun z => PyData.eqv (SeqAt.readOf s.heap z) (toP y)) j hjs (by have h8 := rv.length; have h9 := hjs; rw [List.size_toArray] at h9; omega) hit hno)
    ⟨ho, SeqAt.items_plain ra' rb h1 (PyData.plain_of_canLay0 _ (SeqAt.canLay_of_shaped p4)) (room_data hu h2), ⟨.int _, H, I.tok _, ⟨_, rfl⟩, q F ι H _ Ext.refl S rep_int⟩⟩
end
/-! in use -/
@[simp] theorem mMethT_ap (p : D → List D → M D) (mo : Rho → M D) (am : Rho → M (List D)) (ρ : Rho) (s : Sto) : mMethT p mo am ρ s = (mo ρ s).bind fun o s1 => match o with | .tup xs => (am ρ s1).bind fun ds s2 => nox (p (.tup xs) ds s2) | _ => .bad := rfl
theorem toPs_nI (r : List Nat) : toPs (r.map nI) = (r.map nI).map toP := toPs_map _
theorem shaped_lnI (r : List Nat) : SeqAt.shaped (.list (toPs (r.map nI))) = true := by
  rw [toPs_nI]
  refine shaped_of (by rw [PyData.canLay0]; exact lay_ints r) ?_
  rw [PyData.depth, dep_ints]
  decide
theorem eqv_nI (a b : Nat) : PyData.eqv (toP (nI a)) (toP (nI b)) = decide (a = b) := by
  show ((a : Int) == (b : Int)) = _
  rw [Bool.eq_iff_iff]
  simp
  omega
theorem countD_nI (r : List Nat) (a : Nat) : countD (r.map nI) (nI a) = some (nI (r.count a)) := by
  unfold countD
  rw [if_pos ⟨isPs_map _ isP_nI r, rfl, shaped_lnI r, rfl⟩, toPs_nI, List.countP_map, List.countP_map]
  have : (((fun z => PyData.eqv z (toP (nI a))) ∘ toP) ∘ nI) = fun b => decide (b = a) := by
    funext b
    exact eqv_nI b a
  rw [this]
  congr 2
theorem pCountT_nT (r : List Nat) (a : Nat) (s : Sto) : pCountT (nT r) [nI a] s = .ok (nI (r.count a)) s := by
  show lift (countD (r.map nI) (nI a)) s = _
  rw [countD_nI] <;> rfl
theorem indexD_nI {r : List Nat} {a : Nat} (h : a ∈ r) : indexD (r.map nI) (nI a) = some (nI (r.idxOf a)) := by
  unfold indexD
  rw [if_pos ⟨isPs_map _ isP_nI r, rfl, shaped_lnI r, rfl⟩, toPs_nI]
  have key : SeqAt.dataPlace ((r.map nI).map toP) (toP (nI a)) = some (r.idxOf a) := by
    unfold SeqAt.dataPlace
    induction r with
    | nil => cases h
    | cons b r ih =>
      rw [List.map_cons, List.map_cons, List.findIdx?_cons, eqv_nI, List.idxOf_cons]
      by_cases e : b = a
      · subst e
        simp
      · have hb : (b == a) = false := by simpa using e
        rw [decide_eq_false e, hb]
        have hm : a ∈ r := by
          rcases List.mem_cons.mp h with q | q
          · exact absurd q.symm e
          · exact q
        rw [ih hm]
        rfl
  rw [key] <;> rfl
theorem pIndexT_nT {r : List Nat} {a : Nat} (h : a ∈ r) (s : Sto) : pIndexT (nT r) [nI a] s = .ok (nI (r.idxOf a)) s := by
  show lift (indexD (r.map nI) (nI a)) s = _
  rw [indexD_nI h] <;> rfl
end Dn
/-! DnS: a list taken apart; names of the module. -/
namespace Dn
open PySem PySem.Spec PyProof.Rows L2
/-- a tuple target, for a list -/
def gL (n : Nat) (gs : List D → Rho → M Rho) : D → Rho → M Rho := fun d ρ st => match lstOf st d with
  | some xs => if xs.length = n then gs xs ρ st else .bad
  | none => .bad
theorem dg_lst {X : Cx} {pos : Pos} {es : List Expr} {k n : Nat} {js : List Nat} {gs : List D → Rho → M Rho} (hc : X.calm = true) (h : DGs X js es gs)
    (hn : (assignEach es X.env).length = n := by rfl) (hst : (assignEach es X.env).findIdx? (·.1) = none := by rfl) : DG X js (.Tuple es k pos) (gL n gs) := by
  refine PG.weak (pg_lst hc h hn hst) fun v σ H Q ⟨F, ι, ρ, st, d, S, R, r, q⟩ => ?_
  unfold gL at q
  split at q
  · split at q
    · rename_i xs e hl
      obtain ⟨a, vs, rfl, h, rr⟩ := S.lst r e
      exact ⟨a, vs, rfl, SqL.of h, by rw [← rr.length]; exact hl, F, ι, ρ, st, xs, S, R, rr, q⟩
    · exact q.elim
  · exact q.elim
section
variable {X : Cx} {W : WX} {pos : Pos}
theorem de_gi {x : Str} {i : Int} (hg : Gl X x) (hm : ∃ t, X.mg x = some (.int i t)) (hd : (x == ("__debug__" : Str)) = false := by decide) : DE X W (.Name x pos) (mLit (.int i)) := by
  obtain ⟨t, hm⟩ := hm
  exact de_gint hg hm hd
theorem de_gs {x : Str} {i : Str} (hg : Gl X x) (hm : ∃ t, X.mg x = some (.str i t)) (hd : (x == ("__debug__" : Str)) = false := by decide) : DE X W (.Name x pos) (mLit (.str i)) := by
  obtain ⟨t, hm⟩ := hm
  exact de_gstr hg hm hd
end
@[simp] theorem gL_ref {n : Nat} {gs : List D → Rho → M Rho} {ρ : Rho} {s : Sto} {l : Nat} {xs : List D} (h : s[l]? = some (.lst xs)) (hl : xs.length = n) : gL n gs (.ref l) ρ s = gs xs ρ s := by
  unfold gL
  rw [lst_of_ref h]
  simp [hl]
end Dn
/-! DnSa: sets of numbers that live for one expression: sorted(set(..)), len(set(..)). -/
namespace Dn
open PySem PySem.Spec PyProof.Rows L2
def bareSet (w : World) : Obj := { cls := .type "set", dict := none, data := .set #[] 0 (.fresh 0 0 (!w.params.followText "set-order")) }
section
variable {P : Program} {w : World} {A : Around} {E : Value → Shared → Prop} {s : Shared}
/-- set(xs), xs a list of numbers -/
theorem set_list {l : Addr} {items : Array Value} (ns : List Int) {Q : Value → Shared → Prop} (hh : A.handled = none) (hl : s.heap.IsList l items) (hit : IntsAre items.toList ns) (hb : ns.length + 1 < scanBound)
    (h : ∀ (h' : Heap) (tk c : Nat), SetR w h' s.heap.objs.size (fun j => decide (j ∈ ns)) c → c ≤ ns.length → (∀ b o, s.heap.get? b = some o → h'.get? b = some o) → Q (.ref s.heap.objs.size) { s with heap := h', toks := tk }) :
    wpAny (model P w) A (call (.type "set") [.ref l]) Q E s := by
  have sz : items.size = ns.length := by rw [← Array.length_toList]; exact hit.length
  obtain ⟨c, tl, mro⟩ := F.called_set.mro
  have made := F.called_set.made
  have sub := F.called_set.sub
  refine wpAny_call (codeAny_of_tree ?_)
  show wpAny _ _ (callAny (.type "set") _) _ _ _
  refine wpAny_pure ⟨Code.quiet_builtin _ (by decide +kernel), codeAny_builtin F.entry_type_call ?_⟩
  rw [Around.under_plain (weight_type_call_type "set" [.ref l] []) rfl]
  have n1 := F.called_set.notType
  have n2 := F.called_set.canCreate
  have n3 := F.typeCall_set_1 (.ref l)
  repeat (any_goals (first | assumption | wp_step))
  -- the empty set is laid
  refine codeAny_mono (code_set_led1 (.ref l) (E := E) (Q₁ := fun u t => u = .ref s.heap.objs.size ∧ t = { s with heap := s.heap.push (bareSet w) }) ⟨rfl, rfl⟩) fun r t hr => ?_
  cases r with
  | error e => exact hr
  | ok fl =>
    cases fl with
    | next => exact hr.elim
    | brk => exact hr.elim
    | cont => exact hr.elim
    | ret u =>
      obtain ⟨rfl, rfl⟩ := hr
      have gS : (s.heap.push (bareSet w)).get? s.heap.objs.size = some (bareSet w) := Heap.get?_push_size _ rfl
      have tS : Shared.TypeIs { s with heap := s.heap.push (bareSet w) } (.ref s.heap.objs.size) "set" := ⟨_, gS, rfl⟩
      have i1 := F.called_set.init.lookup
      have i2 := F.called_set.init.bind (.ref s.heap.objs.size)
      repeat (any_goals (first | assumption | wp_step))
      -- its items are put in
      refine codeAny_mono (codeAny_call_builtin (R := wants (fun r t => r = .none ∧ ∃ h' tk c, t = { s with heap := h', toks := tk } ∧ SetR w h' s.heap.objs.size (fun j => decide (j ∈ ns)) c ∧ c ≤ ns.length ∧
          (∀ b o, s.heap.get? b = some o → h'.get? b = some o)) E) F.called_set.init.plain F.entry_set_init (check_set_init_1 tS ?_)) fun r t hr => ?_
      · obtain ⟨⟨oc, od, odt, osl⟩, go, hc, n, hd⟩ := hl
        simp only at hc hd
        subst hc hd
        have gl : (s.heap.push (bareSet w)).get? l = some { cls := .type "list", dict := od, data := .seq items n, slots := osl } := Heap.get?_push_of_some _ go
        have j1 := F.sub_list_set
        have j2 := F.sub_list_frozenset
        have j3 : (Value.type "list" == Value.type "dict") = false := by decide
        have il : (s.heap.push (bareSet w)).IsList l items := ⟨_, gl, rfl, n, rfl⟩
        unfold Builtin.«set.__init__» noKeywords Builtin.Frozenset.updateFrom
        generalize hPI : pyIter = PI
        wp_walk
        subst hPI
        refine wpAny_pyIter_list il (wpAny_bind (wpAny_runValue ?_))
        have lS : l < s.heap.objs.size := Heap.lt_size go
        have z1 : (s.heap.push (bareSet w)).objs.size = s.heap.objs.size + 1 := Heap.size_push ..
        have nI : l ≠ (s.heap.push (bareSet w)).objs.size := fun q => Nat.ne_of_lt (Nat.lt_succ_of_lt lS) (q.trans z1)
        have nS : s.heap.objs.size ∉ [(s.heap.push (bareSet w)).objs.size, l] := by
          intro q
          rcases List.mem_cons.mp q with q | q
          · exact Nat.ne_of_lt (Nat.lt_succ_self _) (q.trans z1)
          · exact Nat.ne_of_gt lS (List.mem_singleton.mp q)
        refine set_update_ints ((Walks.list (by simp [hh]) _ l nI items).toS) s.heap.objs.size nS ns sz hb (fun i v hv => ?_) (items.size - 0) 0 _ (by omega) (Nat.zero_le _) ⟨⟨_, Heap.get?_push_size _ rfl, rfl, rfl⟩, il.push _⟩ ⟨0, Nat.le_refl 0, setR_new_at (Heap.get?_push_of_some _ gS)⟩ fun t c2 mv hc2 R2 => ?_
        · have hi : i < ns.length := by rw [← sz]; exact (Array.getElem?_eq_some_iff.mp hv).1
          obtain ⟨tt, e⟩ := IntsAre.int_at hit i v (by rw [Array.getElem?_toList]; exact hv)
          refine ⟨ns[i], tt, List.getElem?_eq_getElem hi, ?_⟩
          rw [e, List.getD_eq_getElem?_getD, List.getElem?_eq_getElem hi] <;> rfl
        · obtain ⟨h', g2, d', tk', os'⟩ := t
          obtain rfl : g2 = s.gens := mv.gens
          obtain rfl : d' = s.drawn := mv.drawn
          obtain rfl : os' = s.os := mv.os
          show wpAny _ _ _ _ _ _
          refine wpAny_pure ?_
          show wpAny _ _ (ret Value.none) _ _ _
          refine wpAny_pure ⟨rfl, h', tk', c2, rfl, R2, by rw [← sz]; exact hc2, fun b o e => ?_⟩
          have b0 : b < s.heap.objs.size := Heap.lt_size e
          refine mv.heap b o (fun q => ?_) (Heap.get?_push_of_some _ (Heap.get?_push_of_some _ e))
          rcases List.mem_cons.mp q with q | q
          · exact Nat.ne_of_lt b0 q
          · exact Nat.ne_of_lt (Nat.lt_succ_of_lt b0) ((List.mem_singleton.mp q).trans z1)
      · cases r with
        | error e => exact hr
        | ok fl =>
          cases fl with
          | ret r =>
            obtain ⟨rfl, h', tk, c2, rfl, R2, hc2, k⟩ := hr
            repeat (any_goals (first | assumption | wp_step))
            exact h _ _ _ R2 hc2 k
          | next => exact hr.elim
          | brk => exact hr.elim
          | cont => exact hr.elim
end
/-- the numbers of a list or a tuple, once each, rising -/
def setI (ns : List Int) : List Int := ns.foldr (fun n acc => if n ∈ acc then acc else n :: acc) []
theorem mem_setI {a : Int} : ∀ {ns : List Int}, a ∈ setI ns ↔ a ∈ ns
  | [] => Iff.rfl
  | n :: ns => by
    show a ∈ (if n ∈ setI ns then setI ns else n :: setI ns) ↔ _
    have ih := mem_setI (a := a) (ns := ns)
    by_cases h : n ∈ setI ns
    · rw [if_pos h, ih, List.mem_cons]
      refine ⟨.inr, fun q => ?_⟩
      rcases q with e | q
      · rw [e]; exact mem_setI.mp h
      · exact q
    · rw [if_neg h, List.mem_cons, ih, List.mem_cons]
theorem nodup_setI (ns : List Int) : (setI ns).Nodup := by
  induction ns with
  | nil => exact List.nodup_nil
  | cons n ns ih =>
    show (if n ∈ setI ns then setI ns else n :: setI ns).Nodup
    split
    · exact ih
    · rename_i h
      exact List.nodup_cons.mpr ⟨h, ih⟩
theorem setI_count {ns l : List Int} (hn : l.Nodup) (h : ∀ k, k ∈ l ↔ k ∈ ns) : l.length = (setI ns).length :=
  ((List.perm_ext_iff_of_nodup hn (nodup_setI ns)).mpr fun k => by rw [h, mem_setI]).length_eq
theorem setI_le : ∀ ns : List Int, (setI ns).length ≤ ns.length
  | [] => Nat.le_refl _
  | n :: ns => by
    show (if n ∈ setI ns then setI ns else n :: setI ns).length ≤ _
    split
    · exact Nat.le_succ_of_le (setI_le ns)
    · exact Nat.succ_le_succ (setI_le ns)
def sortI (ns : List Int) : List Int := (setI ns).mergeSort fun a b => decide (a ≤ b)
theorem sortI_eq {ns l : List Int} (hs : l.Pairwise (· < ·)) (h : ∀ k, k ∈ l ↔ k ∈ ns) : l = sortI ns := by
  have hn : l.Nodup := hs.imp fun h => Int.ne_of_lt h
  have hp : (sortI ns).Perm l := (List.mergeSort_perm _ _).trans ((List.perm_ext_iff_of_nodup (nodup_setI ns) hn).mpr fun k => by rw [h, mem_setI])
  refine List.Perm.eq_of_pairwise (le := fun a b => a ≤ b) (fun a b _ _ h1 h2 => Int.le_antisymm h1 h2) (hs.imp fun h => Int.le_of_lt h) ?_ hp.symm
  have := List.pairwise_mergeSort (le := fun a b : Int => decide (a ≤ b)) (by intro a b c; simp; omega) (by intro a b; simp; omega) (setI ns)
  exact this.imp fun h => by simpa using h
/-- sorted(set(m)), len(set(m)) -/
def intsAt (st : Sto) (d : D) : Option (List Int) := (seqOf st d).bind intsOf
def lSortSet (m : Rho → M D) : Rho → M (List D) := fun ρ st => (m ρ st).bind fun d st1 => match intsAt st1 d with
  | some ns => if ns.length ≤ 1000 ∧ (setI ns).length < 64 then .ok ((sortI ns).map .int) st1 else .bad
  | none => .bad
def mLenSet (m : Rho → M D) : Rho → M D := fun ρ st => (m ρ st).bind fun d st1 => match intsAt st1 d with
  | some ns => if ns.length ≤ 1000 then .ok (.int (setI ns).length) st1 else .bad
  | none => .bad
section
variable {X : Cx} {W : WX} {a : Expr} {m : Rho → M D} {p p2 q pos : Pos}
/-- set(x), whatever comes then -/
theorem set_any {pins : List (Addr × Obj)} {σ : L2.St} {H : Hp} {s : Shared} {F : Hp} {ι : List Addr} {st : Sto} {d : D} {x : V} {v : Value} {ns : List Int} {Q : Value → Shared → Prop} {E : Value → Shared → Prop} (hc : X.calm = true) (I : Inv X pins σ H s) (S : Sim X.K F ι st H) (r : Rep X.K F ι d x) (rv : RelV x v) (e : intsAt st d = some ns) (hl : ns.length ≤ 1000)
    (h : ∀ (h' : Heap) (tk : Nat), SetR X.w h' s.heap.objs.size (fun j => decide (j ∈ ns)) (setI ns).length → (∀ b o, s.heap.get? b = some o → h'.get? b = some o) → Q (.ref s.heap.objs.size) { s with heap := h', toks := tk }) :
    wpAny (model X.prog X.w) X.A (call (.type "set") [v]) Q E s := by
  unfold intsAt at e
  cases e1 : seqOf st d with
  | none => rw [e1] at e; cases e
  | some xs =>
    rw [e1] at e
    have e : intsOf xs = some ns := e
    obtain ⟨l, vs, rfl, hq, rr⟩ := S.seq r e1
    obtain rfl := intsOf_some e
    obtain rfl : v = .ref l := rv
    have hv : vs = ns.map V.int := reps_ints_vs rr
    have fin : ∀ (h' : Heap) (tk c : Nat), SetR X.w h' s.heap.objs.size (fun j => decide (j ∈ ns)) c → c ≤ ns.length → (∀ b o, s.heap.get? b = some o → h'.get? b = some o) → Q (.ref s.heap.objs.size) { s with heap := h', toks := tk } := fun h' tk c R _ k => by
      have R0 := R
      obtain ⟨o, es, ep, t, ho, hex, hd, g, nd, hm2, hb, hf, hn, hr, hl2⟩ := R0
      have hcn : c = (setI ns).length := by
        rw [← setI_count nd fun k => by rw [← hm2 k, decide_eq_true_eq], List.length_map, Array.length_toList, hn]
      subst hcn
      exact h h' tk R k
    have hsb : ns.length + 1 < scanBound := by unfold scanBound; omega
    rcases hq with hq | hq
    · obtain ⟨its, ri, pl, hz⟩ := I.list hq
      subst hv
      exact set_list ns (I.ok.hd hc) pl.isList (ints_of_vals ri) hsb fin
    · obtain ⟨its, ri, pt, hz⟩ := I.tuple hq
      subst hv
      exact call_set_tupI ns (I.ok.hd hc) (show s.heap.IsTuple l its.toArray from pt) (ints_of_vals ri) hsb fin
theorem dl_sortSet (hc : X.calm = true) (hg : Gl X "sorted") (hm : X.mg "sorted" = none) (hg2 : Gl X "set") (hm2 : X.mg "set" = none) (ha : DE X W a m)
    (na : starEach [a] X.env = (false, eval a X.env) :: starEach [] X.env := by rfl) : DL X W (.Call (.Name "sorted" p) [.Call (.Name "set" p2) [a] [] q] [] pos) (lSortSet m) := by
  refine ⟨fun pins s σ H Q I ⟨F, ι, ρ, st, S, R, qq⟩ => ?_⟩
  refine Call_ (ld_blt I hg hm PyProof.Rows.boot_sorted ?_)
  refine PyProof.Rows.callWith_builtin1 (PyProof.Rows.args_cons ?_ rfl) rfl rfl
  refine Call_ (ld_blt I hg2 hm2 PyProof.Rows.boot_set ?_)
  refine PyProof.Rows.callWith_type1 (PyProof.Rows.args_cons (thn (ha.run pins s σ H (fun x H1 => ∃ F1 ι1 st1 d ns, Sim X.K F1 ι1 st1 H1 ∧ Rep X.K F1 ι1 d x ∧ intsAt st1 d = some ns ∧ ns.length ≤ 1000 ∧ (setI ns).length < 64 ∧ post X.K W σ F1 ι1 H1 (pL X.K) (.ok ((sortI ns).map .int) st1) Q) I ?_) fun v s1 ⟨x, H1, I1, r1, q1⟩ => PyProof.Rows.args_nil ?_) na) na rfl
  · refine tG_seq back_L S R qq fun d st1 F1 ι1 H1 x x1 S1 R1 r1 q1 => ?_
    split at q1
    · rename_i ns e
      split at q1
      · rename_i hl
        exact ⟨F1, ι1, st1, d, ns, S1, r1, e, hl.1, hl.2, q1⟩
      · exact (q1 : False).elim
    · exact (q1 : False).elim
  · obtain ⟨F1, ι1, st1, d, ns, S1, rd, e, hl, h64, q1⟩ := q1
    refine set_any hc I1 S1 rd r1 e hl fun h' tk R2 k2 => PyProof.Rows.args_nil ?_
    have I2 : Inv X pins σ H1 { s1 with heap := h', toks := tk } := I1.kept k2
    refine sorted_set R2 (I2.ok.hd hc) h64 fun s' p' out c ns' k g o hp hgp hi hs hmem hlen => ?_
    have hlen2 : (ns'.map V.int).length ≤ sizeLine := by rw [List.length_map, hlen]; exact Nat.le_trans (Nat.le_of_lt h64) (by decide)
    have hn : H1 p' = none := I2.hok.fresh hp
    have J : Inv X pins σ (upd H1 p' (.lst (ns'.map V.int))) { ({ s1 with heap := h', toks := tk } : Shared) with heap := s'.heap, gens := s'.gens, drawn := s'.drawn, toks := s'.toks } :=
      I2.call (ch := []) (Un.laid k hp hn) (I2.hok.laid k hp ⟨hlen2, out.toList, c, vals_of_ints hi, hgp⟩) (by rw [g]; exact I2.bare) (fun _ z => nomatch z)
    have es : s' = { ({ s1 with heap := h', toks := tk } : Shared) with heap := s'.heap, gens := s'.gens, drawn := s'.drawn, toks := s'.toks } := by
      cases s'
      cases s1
      cases o
      rfl
    rw [es]
    have e2 : ns' = sortI ns := sortI_eq hs fun k => by rw [hmem k, decide_eq_true_eq]
    subst e2
    exact ⟨.ref p', _, J, rfl, q1 F1 ι1 _ _ (Ext.laid hn) (S1.laid hn) (pL_new S1 hn (reps_ints _))⟩
theorem de_lenSet (hc : X.calm = true) (hg : Gl X "len") (hm : X.mg "len" = none) (hg2 : Gl X "set") (hm2 : X.mg "set" = none) (ha : DE X W a m)
    (na : starEach [a] X.env = (false, eval a X.env) :: starEach [] X.env := by rfl) : DE X W (.Call (.Name "len" p) [.Call (.Name "set" p2) [a] [] q] [] pos) (mLenSet m) := by
  refine ⟨fun pins s σ H Q I ⟨F, ι, ρ, st, S, R, qq⟩ => ?_⟩
  refine Call_ (ld_blt I hg hm PySem.boot_len ?_)
  refine PyProof.Rows.callWith_builtin1 (PyProof.Rows.args_cons ?_ rfl) rfl rfl
  refine Call_ (ld_blt I hg2 hm2 PyProof.Rows.boot_set ?_)
  refine PyProof.Rows.callWith_type1 (PyProof.Rows.args_cons (thn (ha.run pins s σ H (fun x H1 => ∃ F1 ι1 st1 d ns, Sim X.K F1 ι1 st1 H1 ∧ Rep X.K F1 ι1 d x ∧ intsAt st1 d = some ns ∧ ns.length ≤ 1000 ∧ post X.K W σ F1 ι1 H1 (pV X.K) (.ok (.int (setI ns).length) st1) Q) I ?_) fun v s1 ⟨x, H1, I1, r1, q1⟩ => PyProof.Rows.args_nil ?_) na) na rfl
  · refine tG_seq back_V S R qq fun d st1 F1 ι1 H1 x x1 S1 R1 r1 q1 => ?_
    split at q1
    · rename_i ns e
      split at q1
      · rename_i hl
        exact ⟨F1, ι1, st1, d, ns, S1, r1, e, hl, q1⟩
      · exact (q1 : False).elim
    · exact (q1 : False).elim
  · obtain ⟨F1, ι1, st1, d, ns, S1, rd, e, hl, q1⟩ := q1
    refine set_any hc I1 S1 rd r1 e hl fun h' tk R2 k2 => PyProof.Rows.args_nil ?_
    have I2 : Inv X pins σ H1 { s1 with heap := h', toks := tk } := I1.kept k2
    obtain ⟨o, es, ep, t, ho, hex, hd, _, _, _, _, hf, hn, _⟩ := R2
    have hle := setI_le ns
    refine call_len_set ho hex hd hf (by
      have h9 : (1000 : Int) < 2 ^ 63 := by decide
      omega) ⟨.int (setI ns).length, H1, I2.tok _, ⟨_, by rw [hn]⟩, q1 F1 ι1 H1 _ Ext.refl S1 (by show Rep _ _ _ _ _; simp only [Rep])⟩
end
end Dn
/-! DnSb: isinstance of a value and a built-in type. -/
namespace Dn
open PySem PySem.Spec PyProof.Rows L2
def tyD (st : Sto) : D → Option String
  | .non => some "NoneType"
  | .bl _ => some "bool"
  | .int _ => some "int"
  | .str _ => some "str"
  | .tup _ => some "tuple"
  | .lst _ => some "list"
  | .scr _ => some "list"
  | .ref l => match st[l]? with
    | some (.lst _) => some "list"
    | _ => none
  | .adr _ => none
  | .fd _ _ => none
  | .exo _ _ _ _ => none
  | .obj _ _ _ => none
def mIsi (T : String) (m : Rho → M D) : Rho → M D := fun ρ st => (m ρ st).bind fun d st1 => lift ((tyD st1 d).bind fun t => (kitB t T).map D.bl) st1
section
variable {K : PySem.W.Frag} {F H : Hp} {ι : List Addr} {st : Sto}
theorem ty_tup {a : Addr} {vs : List V} (h : SqT K H a vs) : TyX K H (.ref a) (.type "tuple") := by
  rcases h with h | ⟨o, its, n, e, hc, _⟩
  · rcases h with h | ⟨o, h⟩
    · exact .base (.tup h)
    · exact .fTuple h
  · exact .kTuple e hc
theorem ty_lst {a : Addr} {vs : List V} (h : SqL K H a vs) : TyX K H (.ref a) (.type "list") := by
  rcases h with h | ⟨o, its, n, e, hc, _⟩
  · rcases h with h | ⟨o, h⟩
    · exact .base (.lst h)
    · exact .base (.frz h)
  · exact .kList e hc
theorem Sim.ty (S : Sim K F ι st H) {d : D} {v : V} {t : String} (r : Rep K F ι d v) (h : tyD st d = some t) : TyX K H v (.type t) := by
  cases d with
  | non => simp only [Rep] at r; subst r; cases h; exact .base .non
  | bl b => simp only [Rep] at r; subst r; cases h; exact .base (.bl b)
  | int i => simp only [Rep] at r; subst r; cases h; exact .base (.int i)
  | str s => simp only [Rep] at r; subst r; cases h; exact .base (.str s)
  | tup xs =>
    cases h
    simp only [Rep] at r
    obtain ⟨a, vs, e, q, _⟩ := r
    subst e
    exact ty_tup (S.sqT q)
  | lst xs =>
    cases h
    obtain ⟨a, vs, e, q, _⟩ := S.seq r (xs := xs) rfl
    subst e
    rcases q with q | q
    · exact ty_lst q
    · simp only [Rep] at r
      obtain ⟨a', vs', e', q', _⟩ := r
      cases e'
      exact ty_lst (S.sqL (SqL.of q'))
  | scr xs =>
    cases h
    simp only [Rep] at r
    obtain ⟨a, vs, e, q, _⟩ := r
    subst e
    exact ty_lst (S.sqL q)
  | ref l =>
    unfold tyD at h
    dsimp only at h
    split at h
    · rename_i xs e
      cases h
      simp only [Rep] at r
      obtain ⟨a, e2, q⟩ := r
      subst e2
      obtain ⟨vs, h1, h2⟩ := S.obj l _ a e q
      exact .base (.lst h1)
    · cases h
  | adr a => cases h
  | fd _ _ => cases h
  | exo _ _ _ _ => cases h
  | obj _ _ _ => cases h
end
section
variable {X : Cx} {W : WX} {pos p p2 : Pos} {e : Expr} {m : Rho → M D}
theorem de_isi {x : Str} {T : String} (hg : Gl X "isinstance") (hm : X.mg "isinstance" = none) (hgT : Gl X x) (hmT : X.mg x = none) (hvT : bootBuiltins x = some (.type T)) (h : DE X W e m) (hnT : x ≠ "__name__" := by decide) (hdT : (x == ("__debug__" : Str)) = false := by decide)
    (hs : starEach [e, .Name x p2] X.env = (false, eval e X.env) :: starEach [.Name x p2] X.env := by rfl) (hs2 : starEach [.Name x p2] X.env = (false, eval (.Name x p2) X.env) :: starEach [] X.env := by rfl) (hpl : (backTo pos (starEach [.Name x p2] X.env)).any (·.1) = false := by rfl) :
    DE X W (.Call (.Name "isinstance" p) [e, .Name x p2] [] pos) (mIsi T m) := by
  refine PE.weak (pe_callB call_isi hg hm rfl (pa_cons h (pa_cons (pe_bltn hgT hmT hvT (v := .ty T) rfl hnT hdT) pa_nil hs2) hs) (by decide) (by decide) hs hpl) fun σ H Q ⟨F, ι, ρ, st, S, R, q⟩ => ?_
  refine tG_seq back_V S R q fun d st1 F1 ι1 H1 v x1 S1 R1 r1 q1 => ?_
  cases ht : tyD st1 d with
  | none => rw [ht] at q1; exact q1.elim
  | some t =>
    cases hk : kitB t T with
    | none => rw [ht] at q1; dsimp only [Option.bind] at q1; rw [hk] at q1; exact q1.elim
    | some b =>
      rw [ht] at q1
      dsimp only [Option.bind] at q1
      rw [hk] at q1
      exact ⟨v, .ty T, .type t, .type T, b, rfl, .ty T, S1.ty r1 ht, kit_ty hk, q1 F1 ι1 H1 _ Ext.refl S1 (by show Rep _ _ _ _ _; simp only [Rep])⟩
end
/-! ### min of ints -/
def pMin : Sto → List D → Option D := fun st ds => match ds with
  | [d] => match intsAt st d with
    | some (n :: ns) => if ns.length ≤ 10000 then some (.int (ns.foldl min n)) else none
    | _ => none
  | _ => none
theorem readsAll_ints {h : Heap} : ∀ {us : List Value} {ns : List Int}, Vals (ns.map V.int) us → ∃ as, PySem.ReadsAll h us (ns.map PyData.int) as
  | _, [], .nil => ⟨[], .nil⟩
  | _, n :: ns, .cons r rs => by
    obtain ⟨t, rfl⟩ := (show ∃ t, _ = Value.int n t from r)
    obtain ⟨as, q⟩ := readsAll_ints rs
    exact ⟨_, .cons (.int _ _) q⟩
theorem alike_ints (ns : List Int) : PySem.W.AlikeAll (ns.map PyData.int) := ⟨fun x hx y hy => by
  obtain ⟨a, _, rfl⟩ := List.mem_map.mp hx
  obtain ⟨b, _, rfl⟩ := List.mem_map.mp hy
  rfl, fun x hx => by
  obtain ⟨a, _, rfl⟩ := List.mem_map.mp hx
  exact fun z => nomatch z⟩
theorem depth_ints : ∀ ns : List Int, PyData.depthAll (ns.map PyData.int) = 0
  | [] => rfl
  | n :: ns => by
    rw [List.map_cons, PyData.depthAll, depth_ints ns] <;> rfl
section
variable {X : Cx}
theorem call_pMin (hc : X.calm = true) (hu : X.A.units + 70 < cLine) : CallR X (.builtin "min") (rB X.K pMin) := by
  intro pins s σ H vs us Q I rv ⟨F, ι, st, ds, d, S, ra, e, q⟩
  unfold pMin at e
  split at e
  · rename_i d'
    split at e
    · rename_i n ns e1
      split at e
      · cases e
        obtain ⟨v, rfl, rd⟩ := ra.one
        obtain ⟨u, rfl, ru⟩ := rv.one
        unfold intsAt at e1
        cases e2 : seqOf st d' with
        | none => rw [e2] at e1; cases e1
        | some xs =>
          rw [e2] at e1
          have e1 : intsOf xs = some (n :: ns) := e1
          obtain ⟨l, vs, rfl, hq, rr⟩ := S.seq rd e2
          obtain rfl := intsOf_some e1
          obtain rfl : u = .ref l := ru
          obtain rfl : vs = (n :: ns).map V.int := reps_ints_vs rr
          have fin : ∀ v h' tk bs, PySem.Reads h' v (PySem.W.minD (.int n) (ns.map PyData.int)) bs → (∀ b o, s.heap.get? b = some o → h'.get? b = some o) → EP X pins σ Q v { s with heap := h', toks := tk } := fun v h' tk bs r k => by
            rw [PySem.W.minD_ints] at r
            cases r
            exact ⟨.int _, H, I.kept k, ⟨_, rfl⟩, q F H _ Ext.refl S (by simp only [Rep])⟩
          have hd : X.A.units + 1 + PyData.depthAll (PyData.int n :: ns.map PyData.int) < cLine := by
            have := depth_ints (n :: ns)
            rw [List.map_cons] at this
            rw [this]
            omega
          rcases hq with hq | hq
          · obtain ⟨its, ri, pl, hz⟩ := I.list hq
            obtain ⟨as, ra⟩ := readsAll_ints (h := s.heap) (ns := n :: ns) ri
            exact PySem.W.min_list_data (I.ok.hd hc) pl.isList (by simpa using ra) (alike_ints (n :: ns)) hd fun i v h' tk bs _ r k => fin v h' tk bs r k
          · obtain ⟨its, ri, pt, hz⟩ := I.tuple hq
            obtain ⟨as, ra⟩ := readsAll_ints (h := s.heap) (ns := n :: ns) ri
            exact PySem.W.min_tuple_data (I.ok.hd hc) (show s.heap.IsTuple l its.toArray from pt) (by simpa using ra) (alike_ints (n :: ns)) hd fun i v h' tk bs _ r k => fin v h' tk bs r k
      · cases e
    · cases e
  · cases e
end
end Dn
/-! DnSc: texts: f-strings, join. -/
namespace Dn
open PySem PySem.Spec PyProof.Rows L2
def fmtD : D → Option Str
  | .str y => if y.length ≤ SZ then some y else none
  | .int i => if i.natAbs.log2 < 1920 then some (toString i : Str) else none
  | _ => none
def mFmt (m : Rho → M D) : Rho → M D := fun ρ st => (m ρ st).bind fun d st1 => lift ((fmtD d).map D.str) st1
/-- the parts one behind the other -/
def fsD : List (Rho → M D) → Str → Rho → M D
  | [], acc => fun _ st => .ok (.str acc) st
  | m :: ms, acc => fun ρ st => (m ρ st).bind fun d st1 => match d with
    | .str y => if (acc ++ y).length ≤ SZ then fsD ms (acc ++ y) ρ st1 else .bad
    | _ => .bad
def mFstr (ms : List (Rho → M D)) : Rho → M D := fsD ms Str.empty
def strsOf : List D → Option (List Str)
  | [] => some []
  | .str y :: r => (strsOf r).map (y :: ·)
  | _ => none
def mJoin (mo m : Rho → M D) : Rho → M D := fun ρ st => (mo ρ st).bind fun d1 st1 => match d1 with
  | .str a => (m ρ st1).bind fun d2 st2 => match (seqOf st2 d2).bind strsOf with
    | some ys => if (ys.map (·.length)).sum + ys.length * a.length ≤ 1000000 then .ok (.str (Txt.join a ys)) st2 else .bad
    | none => .bad
  | _ => .bad
theorem reps_strs {K : PySem.W.Frag} {F : Hp} {ι : List Addr} : ∀ {xs : List D} {vs : List V} {ys : List Str}, Reps K F ι xs vs → strsOf xs = some ys → vs = ys.map V.str
  | [], _, _, r, h => by
    cases h
    simp only [Reps] at r
    rw [r] <;> rfl
  | .str y :: xs, vs, ys, r, h => by
    simp only [Reps] at r
    obtain ⟨v, rs, e, e1, r2⟩ := r
    simp only [Rep] at e1
    unfold strsOf at h
    cases e2 : strsOf xs with
    | none => rw [e2] at h; cases h
    | some bs =>
      rw [e2] at h
      cases h
      rw [e, e1, reps_strs r2 e2]
      rfl
  | .non :: _, _, _, _, h => by simp [strsOf] at h
  | .int _ :: _, _, _, _, h => by simp [strsOf] at h
  | .bl _ :: _, _, _, _, h => by simp [strsOf] at h
  | .tup _ :: _, _, _, _, h => by simp [strsOf] at h
  | .lst _ :: _, _, _, _, h => by simp [strsOf] at h
  | .scr _ :: _, _, _, _, h => by simp [strsOf] at h
  | .ref _ :: _, _, _, _, h => by simp [strsOf] at h
  | .adr _ :: _, _, _, _, h => by simp [strsOf] at h
  | .fd _ _ :: _, _, _, _, h => by simp [strsOf] at h
  | .exo _ _ _ _ :: _, _, _, _, h => by simp [strsOf] at h
  | .obj _ _ _ :: _, _, _, _, h => by simp [strsOf] at h
section
variable {X : Cx} {W : WX} {pos apos : Pos} {e o : Expr} {m mo : Rho → M D}
theorem de_fmt (h : DE X W e m) : DE X W (.FormattedValue e (-1) none pos) (mFmt m) := by
  refine PE.weak (pe_fmt h) fun σ H Q ⟨F, ι, ρ, st, S, R, q⟩ => ?_
  refine tG_seq back_V S R q fun d st1 F1 ι1 H1 v x1 S1 R1 r1 q1 => ?_
  cases d with
  | str y =>
    unfold fmtD at q1
    dsimp only at q1
    split at q1
    · rename_i hy
      have r1 : Rep _ _ _ _ _ := r1
      simp only [Rep] at r1
      exact .inl ⟨y, r1, sz_le hy, q1 F1 ι1 H1 _ Ext.refl S1 (by show Rep _ _ _ _ _; simp only [Rep])⟩
    · exact (q1 : False).elim
  | int i =>
    unfold fmtD at q1
    dsimp only at q1
    split at q1
    · rename_i hy
      have r1 : Rep _ _ _ _ _ := r1
      simp only [Rep] at r1
      exact .inr ⟨i, r1, hy, q1 F1 ι1 H1 _ Ext.refl S1 (by show Rep _ _ _ _ _; simp only [Rep])⟩
    · exact (q1 : False).elim
  | _ => exact (q1 : False).elim
/-- the parts' judgements -/
inductive DJ (X : Cx) (W : WX) : List Expr → List (Rho → M D) → Prop where
  | nil : DJ X W [] []
  | cons {e : Expr} {m : Rho → M D} {es : List Expr} {ms : List (Rho → M D)} (h : DE X W e m) (r : DJ X W es ms) : DJ X W (e :: es) (m :: ms)
theorem DJ.pj {es : List Expr} {ms : List (Rho → M D)} (h : DJ X W es ms) : PJ X es (ms.map (tV X.K W)) := by
  induction h with
  | nil => exact .nil
  | cons h _ ih => exact .cons h ih
theorem tJs_of {K : PySem.W.Frag} {σ : L2.St} {Q : VK} : ∀ (ms : List (Rho → M D)) (acc : Str) (F : Hp) (ι : List Addr) (H : Hp) (ρ : Rho) (st : Sto), Sim K F ι st H → REnv K F ι ρ σ → post K W σ F ι H (pV K) (fsD ms acc ρ st) Q → tJs (ms.map (tV K W)) acc σ H fun out H1 => Q (.str out) H1
  | [], acc, F, ι, H, ρ, st, S, R, q => q F ι H _ Ext.refl S (by show Rep _ _ _ _ _; simp only [Rep])
  | m :: ms, acc, F, ι, H, ρ, st, S, R, q => by
    refine tG_seq back_V S R q fun d st1 F1 ι1 H1 v x1 S1 R1 r1 q1 => ?_
    cases d with
    | str y =>
      dsimp only at q1
      split at q1
      · rename_i hy
        have r1 : Rep _ _ _ _ _ := r1
        simp only [Rep] at r1
        exact ⟨y, r1, sz_le hy, tJs_of ms (acc ++ y) F1 ι1 H1 ρ st1 S1 R1 q1⟩
      · exact (q1 : False).elim
    | _ => exact (q1 : False).elim
theorem de_fstr {v1 v2 : Expr} {rest : List Expr} {ms : List (Rho → M D)} (h : DJ X W (v1 :: v2 :: rest) ms) : DE X W (.JoinedStr (v1 :: v2 :: rest) pos) (mFstr ms) :=
  PE.weak (pe_joined h.pj) fun σ H Q ⟨F, ι, ρ, st, S, R, q⟩ => tJs_of ms Str.empty F ι H ρ st S R q
theorem de_fstr1 (h : DE X W e m) : DE X W (.JoinedStr [e] pos) m := PE.weak (pe_joined1 h) fun _ _ _ h => h
theorem de_join (ho : DE X W o mo) (he : DE X W e m) (hs : starEach [e] X.env = [(false, eval e X.env)] := by rfl) (hbase : attributeBase o "join" X.env (eval o X.env) = eval o X.env := by rfl) (hline : (apos.endLine == pos.line) = true := by rfl) :
    DE X W (.Call (.Attribute o "join" apos) [e] [] pos) (mJoin mo m) := by
  refine PE.weak (pe_join ho he hs hbase hline) fun σ H Q ⟨F, ι, ρ, st, S, R, q⟩ => ?_
  refine tG_seq back_V S R q fun d1 st1 F1 ι1 H1 v1 x1 S1 R1 r1 q1 => ?_
  cases d1 with
  | str a =>
    have r1 : Rep _ _ _ _ _ := r1
    simp only [Rep] at r1
    refine ⟨⟨a, r1⟩, ?_⟩
    refine tG_seq back_V S1 R1 q1 fun d2 st2 F2 ι2 H2 v2 x2 S2 R2 r2 q2 => ?_
    split at q2
    · rename_i ys e2
      split at q2
      · rename_i hz
        cases e3 : seqOf st2 d2 with
        | none => rw [e3] at e2; cases e2
        | some xs =>
          rw [e3] at e2
          have e2 : strsOf xs = some ys := e2
          obtain ⟨p, vs, e4, hq, rr⟩ := S2.seq r2 e3
          have e5 := reps_strs rr e2
          subst e5
          subst e4
          exact ⟨a, p, ys, r1, rfl, hq, by omega, q2 F2 ι2 H2 _ Ext.refl S2 (by show Rep _ _ _ _ _; simp only [Rep])⟩
      · exact (q2 : False).elim
    · exact (q2 : False).elim
  | _ => exact (q1 : False).elim
end
end Dn
/-! DnSd: dicts whose keys are tuples of whole numbers. -/
namespace Dn
open PySem PySem.Spec PyProof.Rows L2
def dctOf (st : Sto) : D → Option (List (List Int) × List D)
  | .fd ks xs => some (ks, xs)
  | .ref l => match st[l]? with
    | some (.dct ks xs) => some (ks, xs)
    | _ => none
  | _ => none
def keyOf : D → Option (List Int)
  | .tup xs => intsOf xs
  | _ => none
def getK : List (List Int) → List D → List Int → Option D
  | k :: ks, d :: ds, j => if k = j then some d else getK ks ds j
  | _, _, _ => none
def setK : List (List Int) → List D → List Int → D → List D
  | k :: ks, d :: ds, j, e => (if k = j then e else d) :: setK ks ds j e
  | _, _, _, _ => []
def putKs (ks : List (List Int)) (j : List Int) : List (List Int) := if j ∈ ks then ks else ks ++ [j]
def putVs (ks : List (List Int)) (ds : List D) (j : List Int) (e : D) : List D := if j ∈ ks then setK ks ds j e else ds ++ [e]
section
variable {K : PySem.W.Frag} {F H : Hp} {ι : List Addr} {st : Sto} {a b : Addr} {xs : List (List Int × Addr × Value)}
theorem atKey_cons (x : List Int × Addr × Value) (xs : List (List Int × Addr × Value)) (j : List Int) : atKey (x :: xs) j = if x.1 = j then some x.2 else atKey xs j := by
  unfold atKey
  rw [List.find?_cons]
  by_cases h : x.1 = j
  · simp [h]
  · simp [h]
theorem at_mem (j : List Int) : ∀ xs : List (List Int × Addr × Value), (atKey xs j).isSome = decide (j ∈ xs.map (·.1))
  | [] => rfl
  | x :: xs => by
    rw [atKey_cons, List.map_cons]
    by_cases h : x.1 = j
    · rw [if_pos h]; simp [h]
    · rw [if_neg h, at_mem j xs]
      simp [Ne.symm h]
theorem at_some : ∀ {xs : List (List Int × Addr × Value)} {ds : List D} {ws : List V}, Vals ws (xs.map (·.2.2)) → Reps K F ι ds ws → ∀ {j : List Int} {d : D}, getK (xs.map (·.1)) ds j = some d → ∃ p v, atKey xs j = some p ∧ Rep K F ι d v ∧ RelV v p.2
  | [], ds, ws, _, _, j, d, h => by simp [getK] at h
  | x :: xs, ds, ws, vr, r, j, d, h => by
    rw [List.map_cons] at vr
    cases vr with
    | @cons w u ws us hw ht =>
      cases ds with
      | nil => simp [getK] at h
      | cons e ds =>
        simp only [Reps] at r
        obtain ⟨v, rs, he, r1, r2⟩ := r
        cases he
        rw [List.map_cons] at h
        unfold getK at h
        rw [atKey_cons]
        by_cases hx : x.1 = j
        · rw [if_pos hx] at h ⊢
          cases h
          exact ⟨_, w, rfl, r1, hw⟩
        · rw [if_neg hx] at h ⊢
          exact at_some ht r2 h
theorem at_none : ∀ {xs : List (List Int × Addr × Value)} {ds : List D}, ds.length = xs.length → ∀ {j : List Int}, getK (xs.map (·.1)) ds j = none → atKey xs j = none
  | [], ds, _, j, h => rfl
  | x :: xs, ds, hl, j, h => by
    cases ds with
    | nil => simp at hl
    | cons e ds =>
      rw [List.map_cons] at h
      unfold getK at h
      rw [atKey_cons]
      by_cases hx : x.1 = j
      · rw [if_pos hx] at h; cases h
      · rw [if_neg hx] at h ⊢
        exact at_none (by simpa using hl) h
theorem put_keys (j : List Int) (b : Addr) (u : Value) (xs : List (List Int × Addr × Value)) : (storedH xs j b u).map (·.1) = putKs (xs.map (·.1)) j := by
  unfold storedH putKs
  rw [at_mem]
  by_cases h : j ∈ xs.map (·.1)
  · rw [decide_eq_true h, if_pos rfl, if_pos h, List.map_map]
    apply List.map_congr_left
    intro x _
    show (putAt j u x).1 = x.1
    unfold putAt
    split <;> rfl
  · rw [decide_eq_false h, if_neg (by decide), if_neg h, List.map_append] <;> rfl
theorem put_sq {k : List Int} {v : Value} {P : List Int → Addr → Prop} (h : ∀ x ∈ xs, P x.1 x.2.1) (hb : P k b) : ∀ x ∈ storedH xs k b v, P x.1 x.2.1 := fun x hx => by
  unfold storedH at hx
  split at hx
  · obtain ⟨y, hy, rfl⟩ := List.mem_map.mp hx
    unfold putAt
    split
    · exact h y hy
    · exact h y hy
  · rcases List.mem_append.mp hx with hx | hx
    · exact h x hx
    · rw [List.mem_singleton.mp hx]
      exact hb
theorem set_vals {j : List Int} {e : D} {v : V} {u : Value} (re : Rep K F ι e v) (ru : RelV v u) : ∀ {xs : List (List Int × Addr × Value)} {ds : List D} {ws : List V}, Vals ws (xs.map (·.2.2)) → Reps K F ι ds ws → ∃ ws', Vals ws' ((xs.map (putAt j u)).map (·.2.2)) ∧ Reps K F ι (setK (xs.map (·.1)) ds j e) ws'
  | [], ds, ws, _, _ => ⟨[], .nil, by unfold setK; exact Reps.nil⟩
  | x :: xs, ds, ws, vr, r => by
    rw [List.map_cons] at vr
    cases vr with
    | @cons w u' ws us hw ht =>
      cases ds with
      | nil => have := r.length; simp at this
      | cons e' ds =>
        simp only [Reps] at r
        obtain ⟨v', rs, he, r1, r2⟩ := r
        cases he
        obtain ⟨ws', q1, q2⟩ := set_vals re ru ht r2
        rw [List.map_cons, List.map_cons, List.map_cons]
        unfold setK
        by_cases hx : x.1 = j
        · refine ⟨v :: ws', .cons ?_ q1, ?_⟩
          · unfold putAt; rw [if_pos hx]; exact ru
          · rw [if_pos hx]; exact Reps.cons re q2
        · refine ⟨w :: ws', .cons ?_ q1, ?_⟩
          · unfold putAt; rw [if_neg hx]; exact hw
          · rw [if_neg hx]; exact Reps.cons r1 q2
theorem put_vals {j : List Int} {b : Addr} {e : D} {v : V} {u : Value} (re : Rep K F ι e v) (ru : RelV v u) {ds : List D} {ws : List V} (vr : Vals ws (xs.map (·.2.2))) (r : Reps K F ι ds ws) : ∃ ws', Vals ws' ((storedH xs j b u).map (·.2.2)) ∧ Reps K F ι (putVs (xs.map (·.1)) ds j e) ws' := by
  unfold storedH putVs
  rw [at_mem]
  by_cases h : j ∈ xs.map (·.1)
  · rw [decide_eq_true h, if_pos rfl, if_pos h]
    exact set_vals re ru vr r
  · rw [decide_eq_false h, if_neg (by decide), if_neg h, List.map_append]
    exact ⟨ws ++ [v], Paired.snoc vr ru, r.snoc re⟩
/-- a dict that is known or stands in the store -/
theorem Sim.dct (S : Sim K F ι st H) {d : D} {v : V} {ks : List (List Int)} {ds : List D} (r : Rep K F ι d v) (h : dctOf st d = some (ks, ds)) : ∃ a xs ws, v = .ref a ∧ (a == sysModules) = false ∧ H a = some (DctO a xs) ∧ KeysT K F ks xs ∧ Vals ws (xs.map (·.2.2)) ∧ Reps K F ι ds ws := by
  unfold dctOf at h
  split at h
  · cases h
    simp only [Rep] at r
    obtain ⟨a, xs, ws, e, z, q, kt, vr, r⟩ := r
    exact ⟨a, xs, ws, e, z, S.sub _ _ q, kt, vr, r⟩
  · rename_i l
    split at h
    · rename_i ks' xs' e
      cases h
      simp only [Rep] at r
      obtain ⟨a, e2, q⟩ := r
      obtain ⟨xs, ws, z, q2, kt, vr, r⟩ := S.obj l _ a e q
      exact ⟨a, xs, ws, e2, z, q2, kt, vr, r⟩
    · cases h
  · cases h
theorem key_at {d : D} {v : V} {k : List Int} (r : Rep K F ι d v) (h : keyOf d = some k) : ∃ b, v = .ref b ∧ SqP K F b (k.map V.int) := by
  unfold keyOf at h
  split at h
  · simp only [Rep] at r
    obtain ⟨b, vs, e, q, rs⟩ := r
    have := intsOf_some h
    subst this
    rw [reps_ints_vs rs] at q
    exact ⟨b, e, q⟩
  · cases h
end
/-! ### what the machine does -/
abbrev KI (X : Cx) := tupleKind (PySem.intKind X.prog X.w)
section
variable {X : Cx} {pins : List (Addr × Obj)} {σ : L2.St} {H : Hp} {s : Shared} {a b : Addr} {xs : List (List Int × Addr × Value)} {k : List Int} {A : Around} {E : Value → Shared → Prop}
/-- the dict at a, with known keys -/
def DAt (K : PySem.W.Frag) (H : Hp) (a : Addr) (xs : List (List Int × Addr × Value)) : Prop := (a == sysModules) = false ∧ H a = some (DctO a xs) ∧ ∀ x ∈ xs, SqT K H x.2.1 (x.1.map V.int)
theorem items_ints : ∀ {k : List Int} {its : List Value}, Vals (k.map V.int) its → ItemsAre (PySem.intKind X.prog X.w) k its
  | [], _, r => by rw [List.map_nil] at r; cases r; exact .nil
  | i :: k, _, r => by
    rw [List.map_cons] at r
    cases r with
    | @cons v u vs us h t =>
      obtain ⟨t', rfl⟩ := h
      exact .cons (by show Value.isInt i (.int i t') = true; simp [Value.isInt]) (items_ints t)
theorem isKeyI (I : Inv X pins σ H s) (h : SqT X.K H b (k.map V.int)) : (KI X).is s.heap k b := by
  obtain ⟨its, r, ⟨o, h1, h2, n, h3⟩, _⟩ := I.tuple h
  exact ⟨o, its.toArray, n, h1, h2, h3, by simpa using items_ints r⟩
theorem dctH_of (I : Inv X pins σ H s) (h : DAt X.K H a xs) : s.heap.DictOfH (KI X) a xs := by
  obtain ⟨_, e, kt⟩ := h
  obtain ⟨⟨o, es, ep, h1, h2, h3, h4, h5⟩, _, _⟩ := (show ObjOk X.prog X.w H s.heap a (DctO a xs) from I.hok a _ e)
  exact ⟨o, es, ep, h1, h2, h3, h4, fun x hx => isKeyI I (kt x hx), h5⟩
theorem dct_len (I : Inv X pins σ H s) (h : DAt X.K H a xs) : ∃ ob, s.heap.get? a = some ob ∧ ob.dict = none := by
  obtain ⟨o, es, ep, h1, h2, _⟩ := dctH_of I h
  exact ⟨o, h1, h2.2.1⟩
theorem dctO_ok {P : Program} {w : World} {H' : Hp} {h' : Heap} (h : DctH a xs h') : ObjOk P w H' h' a (DctO a xs) := by
  refine ⟨h, let ⟨o, _, _, e, _⟩ := h; ⟨o, e⟩, fun h1 h2 q k => ?_⟩
  obtain ⟨o, es, ep, e, r⟩ := q
  exact ⟨o, es, ep, k o e, r⟩
theorem dctI_in {Q : Value → Shared → Prop} (hu : A.units + 1 < cLine) (I : Inv X pins σ H s) (g : DAt X.K H a xs) (hk : SqT X.K H b (k.map V.int)) (h : ∀ s', Inv X pins σ H s' → Q (.bool (decide (k ∈ xs.map (·.1)))) s') :
    wpAny (model X.prog X.w) A (compareOp .In (.ref b) (.ref a)) Q E s := by
  refine wpAny_in_heap (tupleKind_room_in1 hu) (isKeyI I hk) g.1 (dctH_of I g) ?_
  rw [at_mem]
  exact h _ (I.tok _)
theorem dctI_notIn {Q : Value → Shared → Prop} (hu : A.units + 1 < cLine) (I : Inv X pins σ H s) (g : DAt X.K H a xs) (hk : SqT X.K H b (k.map V.int)) (h : ∀ s', Inv X pins σ H s' → Q (.bool (!decide (k ∈ xs.map (·.1)))) s') :
    wpAny (model X.prog X.w) A (compareOp .NotIn (.ref b) (.ref a)) Q E s := by
  refine wpAny_notIn_heap (tupleKind_room_in1 hu) (isKeyI I hk) g.1 (dctH_of I g) ?_
  rw [at_mem]
  exact h _ (I.tok _)
theorem dctI_get {Q : Value → Shared → Prop} {p : Addr × Value} (hu : A.units + 1 < cLine) (I : Inv X pins σ H s) (g : DAt X.K H a xs) (hk : SqT X.K H b (k.map V.int)) (hp : atKey xs k = some p) (h : ∀ s', Inv X pins σ H s' → Q p.2 s') :
    wpAny (model X.prog X.w) A (getItem (.ref a) (.ref b)) Q E s :=
  wpAny_getItem_heap (tupleKind_room_in1 hu) (isKeyI I hk) (dctH_of I g) hp (h _ (I.tok _))
theorem dct_put_ok (I : Inv X pins σ H s) {ys : List (List Int × Addr × Value)} {h' : Heap} {t' : Nat} (e : H a = some (DctO a xs)) (hm : h'.DictOfH (KI X) a ys) (hs : Heap.SameBut a s.heap h') : Inv X pins σ (upd H a (DctO a ys)) { s with heap := h', toks := t' } := by
  obtain ⟨o, es, ep, h1, h2, h3, h4, _, h5⟩ := hm
  exact d_write I (by rw [e]; exact True.intro) hs ⟨o, h1⟩ (dctO_ok ⟨o, es, ep, h1, h2, h3, h4, h5⟩)
theorem dctI_set {Q : Unit → Shared → Prop} {u : Value} (hu : A.units + 1 < cLine) (I : Inv X pins σ H s) (g : DAt X.K H a xs) (hk : SqT X.K H b (k.map V.int)) (hl : xs.length ≤ sizeLine) (h : ∀ s', Inv X pins σ (upd H a (DctO a (storedH xs k b u))) s' → Q () s') :
    wpAny (model X.prog X.w) A (setItem (.ref a) (.ref b) u) Q E s :=
  wpAny_setItem_heap (hsz := hl) (tupleKind_room_in1 hu) (isKeyI I hk) (dctH_of I g) fun h' hm hs => h _ (dct_put_ok I g.2.1 hm hs)
end

/-! ### in, d[k], d.get(k), d.get(k, x) -/
section
variable {X : Cx} {W : WX} {o i e f value : Expr} {pos pos' apos cpos : Pos} {mo mi me : Rho → M D} {td ty tv tx : TE}
def pInD : Sto → D → D → Option D := fun st a b => (keyOf a).bind fun k => (dctOf st b).map fun p => .bl (decide (k ∈ p.1))
def pNotInD : Sto → D → D → Option D := fun st a b => (keyOf a).bind fun k => (dctOf st b).map fun p => .bl (!decide (k ∈ p.1))
theorem op_pInD (hu : X.A.units + 65 < cLine) : OpR X (compareOp .In) (rP X.K pInD) := by
  intro pins s σ H x y v u Q I rx ry ⟨F, ι, st, a, b, d, S, ra, rb, e, q⟩
  unfold pInD at e
  cases ek : keyOf a with
  | none => rw [ek] at e; cases e
  | some k =>
    cases ed : dctOf st b with
    | none => rw [ek, ed] at e; cases e
    | some p =>
      rw [ek, ed] at e
      cases e
      obtain ⟨b', rfl, hb⟩ := key_at ra ek
      obtain ⟨a', xs, ws, rfl, z, q2, kt, vr, r⟩ := S.dct rb (ks := p.1) (ds := p.2) ed
      obtain rfl : v = Value.ref b' := rx
      obtain rfl : u = Value.ref a' := ry
      refine dctI_in (by omega) I ⟨z, q2, fun x hx => S.sqT (kt.2 x hx)⟩ (S.sqT hb) fun s' I' => ⟨.bl _, H, I', rfl, ?_⟩
      rw [kt.1]
      exact q F H _ Ext.refl S (by simp only [Rep])
theorem op_pNotInD (hu : X.A.units + 65 < cLine) : OpR X (compareOp .NotIn) (rP X.K pNotInD) := by
  intro pins s σ H x y v u Q I rx ry ⟨F, ι, st, a, b, d, S, ra, rb, e, q⟩
  unfold pNotInD at e
  cases ek : keyOf a with
  | none => rw [ek] at e; cases e
  | some k =>
    cases ed : dctOf st b with
    | none => rw [ek, ed] at e; cases e
    | some p =>
      rw [ek, ed] at e
      cases e
      obtain ⟨b', rfl, hb⟩ := key_at ra ek
      obtain ⟨a', xs, ws, rfl, z, q2, kt, vr, r⟩ := S.dct rb (ks := p.1) (ds := p.2) ed
      obtain rfl : v = Value.ref b' := rx
      obtain rfl : u = Value.ref a' := ry
      refine dctI_notIn (by omega) I ⟨z, q2, fun x hx => S.sqT (kt.2 x hx)⟩ (S.sqT hb) fun s' I' => ⟨.bl _, H, I', rfl, ?_⟩
      rw [kt.1]
      exact q F H _ Ext.refl S (by simp only [Rep])
def tDGetI (K : PySem.W.Frag) (td ty : TE) : TE := fun σ H Q => td σ H fun x H1 => ty σ H1 fun y H2 => ∃ (a b : Addr) (xs : List (List Int × Addr × Value)) (k : List Int) (p : Addr × Value) (w : V), x = .ref a ∧ y = .ref b ∧ DAt K H2 a xs ∧ SqT K H2 b (k.map V.int) ∧ atKey xs k = some p ∧ RelV w p.2 ∧ Q w H2
theorem pe_dgetI (hu : X.A.units + 65 < cLine) (ho : PE X o td) (hi : PE X i ty) (hs : NoSl i) : PE X (.Subscript o i pos) (tDGetI X.K td ty) := by
  refine ⟨fun pins s σ H Q I h => ?_⟩
  refine subD_of PySem.F.slot_dict_getitem.lookup hs (thn (ho.run pins s σ H _ I h) fun u s1 ⟨x, H1, I1, rx, q1⟩ => thn (hi.run pins s1 σ H1 _ I1 q1) fun iv s2 ⟨y, H2, I2, ry, a, b, xs, k, p, w, ex, ey, g, hk, hp, rw', q2⟩ => ?_)
  subst ex ey
  obtain rfl : u = Value.ref a := rx
  obtain rfl : iv = Value.ref b := ry
  exact ⟨(dctH_of I2 g).typeIs, dctI_get (by omega) I2 g hk hp fun s3 I3 => ⟨w, H2, I3, rw', q2⟩⟩
def pGetD : Sto → D → D → Option D := fun st d k => (dctOf st d).bind fun p => (keyOf k).bind fun j => getK p.1 p.2 j
theorem getD_inv {st : Sto} {d k r : D} (h : pGetD st d k = some r) : ∃ ks ds j, dctOf st d = some (ks, ds) ∧ keyOf k = some j ∧ getK ks ds j = some r := by
  unfold pGetD at h
  cases ed : dctOf st d with
  | none => rw [ed] at h; cases h
  | some p =>
    cases ek : keyOf k with
    | none => rw [ed, ek] at h; cases h
    | some j => rw [ed, ek] at h; exact ⟨p.1, p.2, j, rfl, rfl, h⟩
theorem de_dget (hu : X.A.units + 65 < cLine) (ho : DE X W o mo) (hi : DE X W i mi) (hs : NoSl i := by intro _ _; rfl) : DE X W (.Subscript o i pos) (mOp pGetD mo mi) := by
  refine PE.weak (pe_dgetI hu ho hi hs) fun σ H Q ⟨F, ι, ρ, st, S, R, q⟩ => ?_
  refine tG_seq back_V S R q fun d st1 F1 ι1 H1 v x1 S1 R1 r1 q1 => ?_
  refine tG_seq back_V S1 R1 q1 fun k st2 F2 ι2 H2 w x2 S2 R2 r2 q2 => ?_
  cases e : pGetD st2 d k with
  | none => rw [e] at q2; exact (q2 : False).elim
  | some r =>
    rw [e] at q2
    obtain ⟨ks, ds, j, ed, ek, eg⟩ := getD_inv e
    obtain ⟨a, xs, ws, rfl, z, qa, kt, vr, rr⟩ := S2.dct (r1.ext x2) ed
    obtain ⟨b, rfl, hb⟩ := key_at r2 ek
    rw [← kt.1] at eg
    obtain ⟨p, u, hp, ru, rv⟩ := at_some vr rr eg
    exact ⟨a, b, xs, j, p, u, rfl, rfl, ⟨z, qa, fun x hx => S2.sqT (kt.2 x hx)⟩, S2.sqT hb, hp, rv, q2 F2 ι2 H2 u Ext.refl S2 ru⟩
theorem typeI {pins : List (Addr × Obj)} {σ : L2.St} {H : Hp} {s : Shared} {a : Addr} {xs : List (List Int × Addr × Value)} (I : Inv X pins σ H s) (g : DAt X.K H a xs) : s.TypeIs (.ref a) "dict" ∧ ∀ b, Value.ref a = .ref b → ∃ ob, s.heap.get? b = some ob ∧ ob.dict = none := by
  refine ⟨(dctH_of I g).typeIs, fun b q => ?_⟩
  cases q
  exact dct_len I g
def tDGet1I (K : PySem.W.Frag) (td ty : TE) : TE := fun σ H Q => td σ H fun x H1 => ∃ (a : Addr) (xs0 : List (List Int × Addr × Value)), x = .ref a ∧ DAt K H1 a xs0 ∧ ty σ H1 fun y H2 => ∃ (b : Addr) (xs : List (List Int × Addr × Value)) (k : List Int) (w : V), y = .ref b ∧ DAt K H2 a xs ∧ SqT K H2 b (k.map V.int) ∧ RelV w (((atKey xs k).map (·.2)).getD .none) ∧ Q w H2
theorem pe_dget1I (hu : X.A.units + 65 < cLine) (ho : PE X o td) (he : PE X e ty) (m : M1 X o "get" apos e cpos) : PE X (.Call (.Attribute o "get" apos) [e] [] cpos) (tDGet1I X.K td ty) := by
  refine ⟨fun pins s σ H Q I h => ?_⟩
  refine wpAny_Call_method m.base m.few m.line PySem.F.plainAttrs_dict PySem.F.slot_dict_get PySem.F.type_dict_get (thn (ho.run pins s σ H _ I h) fun u s1 ⟨x, H1, I1, rx, a, xs0, ex, d, q1⟩ => ?_)
  subst ex
  obtain rfl : u = Value.ref a := rx
  obtain ⟨t1, t2⟩ := typeI I1 d
  refine ⟨t1, t2, ?_⟩
  rw [m.trees]
  refine Calls.callWith_builtin rfl (Calls.evalArgs_plain (Calls.spliced_cons (thn (he.run pins s1 σ H1 _ I1 q1) fun iv s2 ⟨y, H2, I2, ry, b, xs, k, w, ey, g, hk, rw', q2⟩ => Calls.spliced_nil ?_)))
  subst ey
  obtain rfl : iv = Value.ref b := ry
  exact call_meetsIn PySem.F.slot_dict_get (dctH_of I2 g).typeIs PySem.F.entry_dict_get (PySem.F.args_dict_get_2 _ _) (meetsH_dict_get (KI X) a b g.1) ⟨tupleKind_room_in1 (by omega), k, xs, isKeyI I2 hk, dctH_of I2 g, w, H2, I2.tok _, rw', q2⟩
def tDGet2I (K : PySem.W.Frag) (td ty tx : TE) : TE := fun σ H Q => td σ H fun x H1 => ∃ (a : Addr) (xs0 : List (List Int × Addr × Value)), x = .ref a ∧ DAt K H1 a xs0 ∧ ty σ H1 fun y H2 => tx σ H2 fun zz H3 => ∃ (b : Addr) (xs : List (List Int × Addr × Value)) (k : List Int) (w : V), y = .ref b ∧ DAt K H3 a xs ∧ SqT K H3 b (k.map V.int) ∧ (∀ r, RelV zz r → RelV w (((atKey xs k).map (·.2)).getD r)) ∧ Q w H3
theorem pe_dget2I (hu : X.A.units + 65 < cLine) (ho : PE X o td) (he : PE X e ty) (hf : PE X f tx) (m : M2 X o "get" apos e f cpos) : PE X (.Call (.Attribute o "get" apos) [e, f] [] cpos) (tDGet2I X.K td ty tx) := by
  refine ⟨fun pins s σ H Q I h => ?_⟩
  refine wpAny_Call_method m.base m.few m.line PySem.F.plainAttrs_dict PySem.F.slot_dict_get PySem.F.type_dict_get (thn (ho.run pins s σ H _ I h) fun u s1 ⟨x, H1, I1, rx, a, xs0, ex, d, q1⟩ => ?_)
  subst ex
  obtain rfl : u = Value.ref a := rx
  obtain ⟨t1, t2⟩ := typeI I1 d
  refine ⟨t1, t2, ?_⟩
  rw [m.trees]
  refine Calls.callWith_builtin rfl (Calls.evalArgs_plain (Calls.spliced_cons (thn (he.run pins s1 σ H1 _ I1 q1) fun iv s2 ⟨y, H2, I2, ry, q2⟩ =>
    Calls.spliced_cons (thn (hf.run pins s2 σ H2 _ I2 q2) fun fv s3 ⟨zz, H3, I3, rz, b, xs, k, w, ey, g, hk, rw', q3⟩ => Calls.spliced_nil ?_))))
  subst ey
  obtain rfl : iv = Value.ref b := ry
  exact call_meetsIn PySem.F.slot_dict_get (dctH_of I3 g).typeIs PySem.F.entry_dict_get (PySem.F.args_dict_get_3 _ _ _) (meetsH_dict_get_default (KI X) a b g.1 fv) ⟨tupleKind_room_in1 (by omega), k, xs, isKeyI I3 hk, dctH_of I3 g, w, H3, I3.tok _, rw' _ rz, q3⟩
def mGet1 (mo mi : Rho → M D) : Rho → M D := fun ρ st => (mo ρ st).bind fun d st1 => if (dctOf st1 d).isSome = true then (mi ρ st1).bind fun k st2 => lift ((dctOf st2 d).bind fun p => (keyOf k).bind fun j => if p.1.length = p.2.length then some ((getK p.1 p.2 j).getD .non) else none) st2 else .bad
def mGet2 (mo mi me : Rho → M D) : Rho → M D := fun ρ st => (mo ρ st).bind fun d st1 => if (dctOf st1 d).isSome = true then (mi ρ st1).bind fun k st2 => (me ρ st2).bind fun x st3 => lift ((dctOf st3 d).bind fun p => (keyOf k).bind fun j => if p.1.length = p.2.length then some ((getK p.1 p.2 j).getD x) else none) st3 else .bad
theorem get_res {K : PySem.W.Frag} {F : Hp} {ι : List Addr} {xs : List (List Int × Addr × Value)} {ws : List V} {ks : List (List Int)} {ds : List D} {j : List Int} {x : D} {v : V} {r : Value} (kt : KeysT K F ks xs) (vr : Vals ws (xs.map (·.2.2))) (rr : Reps K F ι ds ws) (hl : ks.length = ds.length) (rx : Rep K F ι x v) (rv : RelV v r) :
    ∃ w, Rep K F ι ((getK ks ds j).getD x) w ∧ (∀ r', RelV v r' → RelV w (((atKey xs j).map (·.2)).getD r')) := by
  cases e : getK ks ds j with
  | some d =>
    rw [← kt.1] at e
    obtain ⟨p, u, hp, ru, rp⟩ := at_some vr rr e
    exact ⟨u, ru, fun r' _ => by rw [hp]; exact rp⟩
  | none =>
    rw [← kt.1] at e hl
    have := at_none (by rw [← hl, List.length_map]) e
    exact ⟨v, rx, fun r' h => by rw [this]; exact h⟩
theorem de_dget1 (hu : X.A.units + 65 < cLine) (ho : DE X W o mo) (he : DE X W e mi) (m : M1 X o "get" apos e cpos := by exact ⟨rfl, rfl, rfl, rfl⟩) : DE X W (.Call (.Attribute o "get" apos) [e] [] cpos) (mGet1 mo mi) := by
  refine PE.weak (pe_dget1I hu ho he m) fun σ H Q ⟨F, ι, ρ, st, S, R, q⟩ => ?_
  refine tG_seq back_V S R q fun d st1 F1 ι1 H1 v x1 S1 R1 r1 q1 => ?_
  split at q1
  rotate_left
  · exact (q1 : False).elim
  rename_i h1
  obtain ⟨p1, e1⟩ := Option.isSome_iff_exists.mp h1
  obtain ⟨a, xs0, ws0, rfl, z, qa, kt0, _, _⟩ := S1.dct r1 (ks := p1.1) (ds := p1.2) e1
  refine ⟨a, xs0, rfl, ⟨z, qa, fun x hx => S1.sqT (kt0.2 x hx)⟩, ?_⟩
  refine tG_seq back_V S1 R1 q1 fun k st2 F2 ι2 H2 w x2 S2 R2 r2 q2 => ?_
  cases ed : dctOf st2 d with
  | none => rw [ed] at q2; exact (q2 : False).elim
  | some p =>
    cases ek : keyOf k with
    | none => rw [ed, ek] at q2; exact (q2 : False).elim
    | some j =>
      rw [ed, ek] at q2
      by_cases hl : p.1.length = p.2.length
      · obtain ⟨a', xs, ws, ea, z', qa', kt, vr, rr⟩ := S2.dct (r1.ext x2) (ks := p.1) (ds := p.2) ed
        cases ea
        obtain ⟨b, rfl, hb⟩ := key_at r2 ek
        obtain ⟨u, hu1, hu2⟩ := get_res (j := j) (x := D.non) (v := V.non) (r := Value.none) kt vr rr hl (by simp only [Rep]) rfl
        have q3 : post X.K W σ F2 ι2 H2 (pV X.K) (lift (if p.1.length = p.2.length then some ((getK p.1 p.2 j).getD .non) else none) st2) Q := q2
        rw [if_pos hl] at q3
        exact ⟨b, xs, j, u, rfl, ⟨z', qa', fun x hx => S2.sqT (kt.2 x hx)⟩, S2.sqT hb, hu2 _ rfl, q3 F2 ι2 H2 u Ext.refl S2 hu1⟩
      · have q3 : post X.K W σ F2 ι2 H2 (pV X.K) (lift (if p.1.length = p.2.length then some ((getK p.1 p.2 j).getD .non) else none) st2) Q := q2
        rw [if_neg hl] at q3
        exact (q3 : False).elim
theorem de_dget2 (hu : X.A.units + 65 < cLine) (ho : DE X W o mo) (he : DE X W e mi) (hf : DE X W f me) (m : M2 X o "get" apos e f cpos := by exact ⟨rfl, rfl, rfl, rfl⟩) : DE X W (.Call (.Attribute o "get" apos) [e, f] [] cpos) (mGet2 mo mi me) := by
  refine PE.weak (pe_dget2I hu ho he hf m) fun σ H Q ⟨F, ι, ρ, st, S, R, q⟩ => ?_
  refine tG_seq back_V S R q fun d st1 F1 ι1 H1 v x1 S1 R1 r1 q1 => ?_
  split at q1
  rotate_left
  · exact (q1 : False).elim
  rename_i h1
  obtain ⟨p1, e1⟩ := Option.isSome_iff_exists.mp h1
  obtain ⟨a, xs0, ws0, rfl, z, qa, kt0, _, _⟩ := S1.dct r1 (ks := p1.1) (ds := p1.2) e1
  refine ⟨a, xs0, rfl, ⟨z, qa, fun x hx => S1.sqT (kt0.2 x hx)⟩, ?_⟩
  refine tG_seq back_V S1 R1 q1 fun k st2 F2 ι2 H2 w x2 S2 R2 r2 q2 => ?_
  refine tG_seq back_V S2 R2 q2 fun x st3 F3 ι3 H3 v3 x3 S3 R3 r3 q3 => ?_
  cases ed : dctOf st3 d with
  | none => rw [ed] at q3; exact (q3 : False).elim
  | some p =>
    cases ek : keyOf k with
    | none => rw [ed, ek] at q3; exact (q3 : False).elim
    | some j =>
      rw [ed, ek] at q3
      have q4 : post X.K W σ F3 ι3 H3 (pV X.K) (lift (if p.1.length = p.2.length then some ((getK p.1 p.2 j).getD x) else none) st3) Q := q3
      by_cases hl : p.1.length = p.2.length
      · obtain ⟨a', xs, ws, ea, z', qa', kt, vr, rr⟩ := S3.dct (r1.ext (x2.trans x3)) (ks := p.1) (ds := p.2) ed
        cases ea
        obtain ⟨b, rfl, hb⟩ := key_at (r2.ext x3) ek
        rw [if_pos hl] at q4
        have : ∃ u, Rep X.K F3 ι3 ((getK p.1 p.2 j).getD x) u ∧ (∀ r', RelV v3 r' → RelV u (((atKey xs j).map (·.2)).getD r')) := by
          cases e : getK p.1 p.2 j with
          | some d =>
            rw [← kt.1] at e
            obtain ⟨p, u, hp, ru, rp⟩ := at_some vr rr e
            exact ⟨u, ru, fun r' _ => by rw [hp]; exact rp⟩
          | none =>
            rw [← kt.1] at e hl
            have := at_none (by rw [← hl, List.length_map]) e
            exact ⟨v3, r3, fun r' h => by rw [this]; exact h⟩
        obtain ⟨u, hu1, hu2⟩ := this
        exact ⟨b, xs, j, u, rfl, ⟨z', qa', fun x hx => S3.sqT (kt.2 x hx)⟩, S3.sqT hb, hu2, q4 F3 ι3 H3 u Ext.refl S3 hu1⟩
      · rw [if_neg hl] at q4
        exact (q4 : False).elim
end

/-! ### d[k] = v, {k: v}, {} -/
section
variable {X : Cx} {W : WX} {o i e f value : Expr} {pos pos' apos cpos : Pos} {mo mi me mv : Rho → M D} {td ty tv tx : TE}
def sDPutI (K : PySem.W.Frag) (td ty tv : TE) : TS := fun D σ H => tv σ H fun v H1 => td σ H1 fun x H2 => ty σ H2 fun y H3 => ∃ (a b : Addr) (xs : List (List Int × Addr × Value)) (k : List Int), x = .ref a ∧ y = .ref b ∧ DAt K H3 a xs ∧ SqT K H3 b (k.map V.int) ∧ xs.length ≤ sizeLine ∧ ∀ u, RelV v u → D.nx σ (upd H3 a (DctO a (storedH xs k b u)))
theorem ps_dputI (hu : X.A.units + 65 < cLine) (ho : PE X o td) (hi : PE X i ty) (hv : PE X value tv) (hs : swapsWith value (some (.Subscript o i pos')) pos.line X.env = pure false) :
    PS X (.Assign [.Subscript o i pos'] value pos) (sDPutI X.K td ty tv) := by
  refine ⟨fun pins s σ H D I h => ?_⟩
  refine wpAny_Assign_Subscript (thn (hv.run pins s σ H _ I h) fun r s1 ⟨v, H1, I1, rv, q1⟩ => thn (ho.run pins s1 σ H1 _ I1 q1) fun u s2 ⟨x, H2, I2, rx, q2⟩ => thn (hi.run pins s2 σ H2 _ I2 q2) fun iv s3 ⟨y, H3, I3, ry, a, b, xs, k, ex, ey, g, hk, hl, q3⟩ => ?_) hs
  subst ex ey
  obtain rfl : u = Value.ref a := rx
  obtain rfl : iv = Value.ref b := ry
  exact dctI_set (by omega) I3 g hk hl fun s4 I4 => ⟨σ, _, I4, q3 r rv⟩
def sDPut (mo mi mv : Rho → M D) : Rho → Sto → Fl := fun ρ st => (mv ρ st).fl ρ fun v st1 => (mo ρ st1).fl ρ fun d st2 => (mi ρ st2).fl ρ fun k st3 => match d with
  | .ref l => match st3[l]? with
    | some (.dct ks ds) => match keyOf k with
      | some j => if ks.length ≤ SZ then .next ρ (st3.set l (.dct (putKs ks j) (putVs ks ds j v))) else .bad
      | none => .bad
    | _ => .bad
  | _ => .bad
theorem ds_dput (hu : X.A.units + 65 < cLine) (ho : DE X W o mo) (hi : DE X W i mi) (hv : DE X W value mv) (hs : swapsWith value (some (.Subscript o i pos')) pos.line X.env = pure false := by rfl) :
    DS X W (.Assign [.Subscript o i pos'] value pos) (sDPut mo mi mv) := by
  refine PS.weak (ps_dputI hu ho hi hv hs) fun E σ H ⟨F, ι, ρ, st, S, R, q⟩ => ?_
  refine fl_seq S R q fun v st1 F1 ι1 H1 vv x1 S1 R1 r1 q1 => ?_
  refine fl_seq S1 R1 q1 fun d st2 F2 ι2 H2 dv x2 S2 R2 r2 q2 => ?_
  refine fl_seq S2 R2 q2 fun k st3 F3 ι3 H3 kv x3 S3 R3 r3 q3 => ?_
  split at q3
  rotate_left
  · exact (q3 : False).elim
  rename_i l
  split at q3
  rotate_left
  · exact (q3 : False).elim
  rename_i ks ds el
  split at q3
  rotate_left
  · exact (q3 : False).elim
  rename_i j ej
  split at q3
  rotate_left
  · exact (q3 : False).elim
  rename_i hz
  have r2' : Rep X.K F3 ι3 (.ref l) dv := Rep.ext r2 x3
  simp only [Rep] at r2'
  obtain ⟨a, rfl, hl⟩ := r2'
  obtain ⟨xs, ws, z, qa, kt, vr, rr⟩ := S3.obj l _ a el hl
  obtain ⟨b, rfl, hb⟩ := key_at r3 ej
  refine ⟨a, b, xs, j, rfl, rfl, ⟨z, qa, fun x hx => S3.sqT (kt.2 x hx)⟩, S3.sqT hb, ?_, fun u ru => ?_⟩
  · have e1 := congrArg List.length kt.1
    rw [List.length_map] at e1
    rw [e1]
    exact sz_le hz
  · obtain ⟨ws', hv1, hv2⟩ := put_vals (j := j) (b := b) (Rep.ext r1 (x2.trans x3)) ru vr rr
    rw [kt.1] at hv2
    refine q3 F3 ι3 _ σ (Ext.write hl (by rw [qa]; simp)) (S3.write hl (by rw [el]; simp) ⟨_, ws', z, upd_same, ⟨?_, ?_⟩, hv1, hv2⟩) R3
    · rw [put_keys, kt.1]
    · exact put_sq (P := fun k b => SqP X.K F3 b (k.map V.int)) kt.2 hb
theorem dct_new {X : Cx} {pins : List (Addr × Obj)} {σ : L2.St} {H : Hp} {s : Shared} (I : Inv X pins σ H s) : Inv X pins σ (upd H s.heap.objs.size (DctO s.heap.objs.size [])) { s with heap := s.heap.push { cls := .type "dict", data := .dict #[] } } :=
  I.laid (t' := s.toks) (fun _ _ q => Heap.get?_push_of_some _ q) (Nat.le_refl _) (dctO_ok ⟨_, #[], 0, Heap.get?_push_size _ rfl, ⟨rfl, rfl, rfl⟩, rfl, rfl, List.nodup_nil⟩)
theorem dct_sys {X : Cx} {pins : List (Addr × Obj)} {σ : L2.St} {H : Hp} {s : Shared} (I : Inv X pins σ H s) : (s.heap.objs.size == sysModules) = false := beq_eq_false_iff_ne.mpr (Ne.symm (Nat.ne_of_lt I.big))
def tDisp1I (K : PySem.W.Frag) (tk tv : TE) : TE := fun σ H Q => ∀ p, H p = none → (p == sysModules) = false → tk σ (upd H p (DctO p [])) fun x H1 => tv σ H1 fun y H2 => ∃ (b : Addr) (k : List Int), x = .ref b ∧ SqT K H2 b (k.map V.int) ∧ H2 p = some (DctO p []) ∧ ∀ u, RelV y u → Q (.ref p) (upd H2 p (DctO p [(k, b, u)]))
theorem pe_disp1I (hu : X.A.units + 65 < cLine) (hk : PE X i ty) (hv : PE X value tv) : PE X (.Dict [some i] [value] pos) (tDisp1I X.K ty tv) := by
  refine ⟨fun pins s σ H Q I q => ?_⟩
  have hn := I.hok.fresh (Nat.le_refl s.heap.objs.size)
  refine wpAny_Dict_any rfl rfl (by simp) (by simp) (pairTrees_cons_walk (thn (hk.run pins _ σ _ _ (dct_new I) (q _ hn (dct_sys I))) fun u s1 ⟨x, H1, I1, rx, q1⟩ => thn (hv.run pins s1 σ H1 _ I1 q1) fun w2 s2 ⟨y, H2, I2, ry, b, k, ex, hk, he, q2⟩ => pairTrees_nil_walk ?_))
  subst ex
  obtain rfl : u = Value.ref b := rx
  have g : DAt X.K H2 s.heap.objs.size [] := ⟨dct_sys I, he, fun _ h => nomatch h⟩
  unfold storeAll
  rw [List.forIn_cons]
  refine wpAny_bind (wpAny_bind (wpAny_dictSet_heap (knd := KI X) (hsz := Nat.zero_le _) (by show X.A.units < cLine; omega) (isKeyI I2 hk) (dctH_of I2 g) fun h' hm hs => wpAny_pure ?_))
  dsimp only
  rw [List.forIn_nil]
  exact wpAny_pure ⟨.ref s.heap.objs.size, _, dct_put_ok I2 he hm hs, rfl, q2 w2 ry⟩
def mNewD1 (mk mv : Rho → M D) : Rho → M D := fun ρ st => (mk ρ st).bind fun k st1 => (mv ρ st1).bind fun v st2 => match keyOf k with
  | some j => .ok (.ref st2.length) (st2 ++ [.dct [j] [v]])
  | none => .bad
theorem de_newD1 (hu : X.A.units + 65 < cLine) (hk : DE X W i mi) (hv : DE X W value mv) : DE X W (.Dict [some i] [value] pos) (mNewD1 mi mv) := by
  refine PE.weak (pe_disp1I hu hk hv) fun σ H Q ⟨F, ι, ρ, st, S, R, q⟩ p hp hz => ?_
  have x0 : Ext F ι H F ι (upd H p (DctO p [])) := Ext.laid hp
  have S0 : Sim X.K F ι st (upd H p (DctO p [])) := S.laid hp
  have h0 : upd H p (DctO p []) p ≠ none := by rw [upd_same]; simp
  have hF : F p = none := by
    cases e : F p with
    | none => rfl
    | some o => have := S.sub p o e; rw [hp] at this; cases this
  have hi : p ∉ ι := fun h => S.there p h hp
  have q0 := post_ext (F1 := F) (ι1 := ι) back_V q x0
  refine ⟨F, ι, ρ, st, S0, R.ext x0, post_seq back_V q0 fun k st1 F1 ι1 H1 kv e1 x1 S1 r1 q1 => ?_⟩
  refine ⟨F1, ι1, ρ, st1, S1, (R.ext x0).ext x1, post_seq back_V q1 fun v st2 F2 ι2 H2 vv e2 x2 S2 r2 q2 => ?_⟩
  unfold mNewD1 at q
  rw [e1, Out.bind_ok, e2, Out.bind_ok] at q
  split at q
  rotate_left
  · exact (q : False).elim
  rename_i j ej
  obtain ⟨b, rfl, hb⟩ := key_at (Rep.ext r1 x2) ej
  have x3 := x1.trans x2
  have e3 : H2 p = some (DctO p []) := x3.keep p _ upd_same hi
  have hF2 : F2 p = none := x3.outF h0 hF hi
  have hi2 : p ∉ ι2 := x3.outI h0 hi
  refine ⟨b, j, rfl, S2.sqT hb, e3, fun u ru => ?_⟩
  have S4 : Sim X.K F2 ι2 st2 (upd H2 p (DctO p [(j, b, u)])) := S2.outside hF2 hi2
  have mo' : ∀ (l : Nat) (c : Addr), ι2[l]? = some c → (ι2 ++ [p])[l]? = some c := fun l c h => by
    rw [List.getElem?_append_left (List.getElem?_eq_some_iff.mp h).1]; exact h
  have x4 : Ext F ι H F2 (ι2 ++ [p]) (upd H2 p (DctO p [(j, b, u)])) := ((x0.trans x3).outside hp (by rw [e3]; simp)).locate hp
  refine q F2 (ι2 ++ [p]) _ (.ref p) x4 (S4.locate (m := .dct [j] [v]) (by rw [upd_same]; simp) hF2 hi2 ⟨[(j, b, u)], [vv], hz, upd_same, ⟨rfl, ?_⟩, .cons ru .nil, Reps.cons (Rep.mono (fun _ _ h => h) mo' _ _ r2) Reps.nil⟩) ?_
  · intro x hx
    rw [List.mem_singleton.mp hx]
    exact hb
  · show Rep _ _ _ _ _
    simp only [Rep]
    exact ⟨p, rfl, by rw [← S2.len, List.getElem?_append_right (Nat.le_refl _)]; simp⟩
/-- {} -/
def mNewD0 : Rho → M D := fun _ st => .ok (.ref st.length) (st ++ [.dct [] []])
theorem pe_dnewI : PE X (.Dict [] [] pos) (fun _ H Q => ∀ p, H p = none → (p == sysModules) = false → Q (.ref p) (upd H p (DctO p []))) := ⟨fun pins s σ H Q I h =>
  wpAny_Dict_empty ⟨.ref s.heap.objs.size, _, dct_new I, rfl, h _ (I.hok.fresh (Nat.le_refl _)) (dct_sys I)⟩⟩
theorem de_newD0 : DE X W (.Dict [] [] pos) mNewD0 := by
  refine PE.weak pe_dnewI fun σ H Q ⟨F, ι, ρ, st, S, R, q⟩ p hp hz => ?_
  have hF : F p = none := by
    cases e : F p with
    | none => rfl
    | some o => have := S.sub p o e; rw [hp] at this; cases this
  have hi : p ∉ ι := fun h => S.there p h hp
  refine q F (ι ++ [p]) _ (.ref p) ((Ext.laid (F := F) (ι := ι) hp).locate hp) ((S.laid (o := DctO p []) hp).locate (m := .dct [] []) (by rw [upd_same]; simp) hF hi ⟨[], [], hz, upd_same, ⟨rfl, fun _ h => nomatch h⟩, .nil, Reps.nil⟩) ?_
  show Rep _ _ _ _ _
  simp only [Rep]
  exact ⟨p, rfl, by rw [← S.len, List.getElem?_append_right (Nat.le_refl _)]; simp⟩
/-- a dict of the store that is changed no more -/
def mFrzD (i : Nat) : Rho → M D := fun ρ st => match ρ[i]? with
  | some (some (.ref l)) => match st[l]? with
    | some (.dct ks xs) => .ok (.fd ks xs) (st.set l .gone)
    | _ => .bad
  | _ => .bad
theorem de_frd {i : Nat} {x : Str} (hN : X.N[i]? = some x) (hv : Vis X.env.scope x) (hd : (x == ("__debug__" : Str)) = false := by decide) (hcd : (x == ("__classdict__" : Str)) = false := by decide) : DE X W (.Name x pos) (mFrzD i) := by
  refine PE.weak (pe_var hN hv hd hcd) fun σ H Q ⟨F, ι, ρ, st, S, R, h⟩ => ?_
  unfold mFrzD at h
  split at h
  · rename_i l e
    split at h
    · rename_i ks xs e2
      obtain ⟨v, q, r⟩ := R.at_ i _ e
      simp only [Rep] at r
      obtain ⟨a, rfl, hl⟩ := r
      obtain ⟨ys, ws, z, qa, kt, vr, rr⟩ := S.obj l _ a e2 hl
      have xx := Ext.retireO S hl qa
      refine ⟨_, q, h _ ι H (.ref a) xx (S.retireO hl qa trivial) ?_⟩
      show Rep _ _ _ _ _
      simp only [Rep]
      exact ⟨a, ys, ws, rfl, z, upd_same, kt.mono xx.f, vr, Reps.ext rr xx⟩
    · exact h.elim
  · exact h.elim
end
/-! ### sorted(d), list(d) -/
def keysD (ks : List (List Int)) : List D := ks.map fun k => .tup (k.map .int)
theorem reps_keys {K : PySem.W.Frag} {F : Hp} {ι : List Addr} : ∀ {xs : List (List Int × Addr × Value)}, (∀ x ∈ xs, SqP K F x.2.1 (x.1.map V.int)) → Reps K F ι (keysD (xs.map (·.1))) (xs.map fun x => V.ref x.2.1)
  | [], _ => Reps.nil
  | x :: xs, h => by
    rw [List.map_cons, List.map_cons]
    refine Reps.cons ?_ (reps_keys fun y hy => h y (by simp [hy]))
    simp only [Rep]
    exact ⟨x.2.1, x.1.map V.int, rfl, h x (by simp), reps_ints x.1⟩
theorem keys_acc {es : Array DictEntry} {xs : List (List Int × Addr × Value)} {acc : Array Value} (he : es.toList = xs.map entI) (it : ItemsOf (fun i v => ∃ en : DictEntry, es[i]? = some en ∧ v = en.key) acc es.size) : acc.toList = xs.map fun x => Value.ref x.2.1 := by
  have l1 : es.size = xs.length := by rw [← Array.length_toList, he, List.length_map]
  have hl : acc.toList.length = xs.length := by rw [Array.length_toList, it.1]; exact l1
  apply List.ext_getElem?
  intro j
  rw [List.getElem?_map]
  cases hj : acc.toList[j]? with
  | none =>
    have h1 := List.getElem?_eq_none_iff.mp hj
    rw [List.getElem?_eq_none (by omega)]
    rfl
  | some v =>
    obtain ⟨en, hen, hv⟩ := it.2 j v (by rw [← Array.getElem?_toList]; exact hj)
    have qe : es[j]? = (xs[j]?).map entI := by rw [← Array.getElem?_toList, he, List.getElem?_map]
    rw [hen] at qe
    cases hb : xs[j]? with
    | none =>
      rw [hb] at qe
      exact nomatch (show some en = none from qe)
    | some b =>
      rw [hb] at qe
      have e2 : en = entI b := Option.some.inj qe
      rw [hv, e2]
      rfl
theorem vals_refsI : ∀ xs : List (List Int × Addr × Value), Vals (xs.map fun x => V.ref x.2.1) (xs.map fun x => Value.ref x.2.1)
  | [] => .nil
  | x :: xs => by
    rw [List.map_cons, List.map_cons]
    exact .cons rfl (vals_refsI xs)
open Classical in
noncomputable def pSortedD : Sto → List D → Option (List D) := fun st ds => match ds with
  | [d] => match dctOf st d with
    | some (ks, _) => if ks.length ≤ SZ ∧ (∀ x ∈ keysD ks, isP x = true ∧ (toP x).depth ≤ 50) ∧ PySem.W.AllAlike ((keysD ks).map toP) ∧ SortableX ((keysD ks).map toP) then some (sortD (keysD ks)) else none
    | none => none
  | _ => none
def pListD : Sto → List D → Option (List D) := fun st ds => match ds with
  | [d] => match dctOf st d with
    | some (ks, _) => if ks.length ≤ SZ then some (keysD ks) else none
    | none => none
  | _ => none
section
variable {X : Cx}
theorem call_pListD (hc : X.calm = true) : CallR X (.type "list") (rBL X.K pListD) := by
  intro pins s σ H vs us Q I rv ⟨F, ι, st, ds, d, S, ra, e, q⟩
  unfold pListD at e
  split at e
  rotate_left
  · cases e
  rename_i d1
  split at e
  rotate_left
  · cases e
  rename_i ks dvs e1
  split at e
  rotate_left
  · cases e
  rename_i hz
  cases e
  obtain ⟨v, rfl, rd⟩ := ra.one'
  obtain ⟨u, rfl, ru⟩ := rv.one
  obtain ⟨a, xs, ws, rfl, z, qa, kt, vr, rr⟩ := S.dct rd e1
  cases ru
  obtain ⟨⟨o, es, ep, ho, hx, hdt, he, hn⟩, _, _⟩ := (show ObjOk X.prog X.w H s.heap a (DctO a xs) from I.hok a _ qa)
  have l1 : es.size = xs.length := by rw [← Array.length_toList, he, List.length_map]
  have l2 : xs.length = ks.length := by rw [← kt.1, List.length_map]
  have l3 := sz_le hz
  refine PySem.W.kdl_call (kdl_raw z hx hdt) (I.ok.hd hc) ho (by omega) fun h' tk acc' c' kp e it => ?_
  have ea := keys_acc he it
  have hnew := I.hok.fresh (Nat.le_refl s.heap.objs.size)
  refine ⟨.ref s.heap.objs.size, _, I.laid (t' := tk) (o := .lst (xs.map fun x => V.ref x.2.1)) kp (Nat.le_refl _) ?_, rfl, q _ _ (Ext.laid hnew) (S.laid hnew) (pL_new S hnew ?_)⟩
  · exact ⟨by rw [List.length_map]; omega, acc'.toList, c', by rw [ea]; exact vals_refsI xs, by rw [Array.toArray_toList]; exact e⟩
  · rw [← kt.1]
    exact reps_keys kt.2
theorem call_pSortedD (hc : X.calm = true) (hu : X.A.units + 70 < cLine) : CallR X (.builtin "sorted") (rBL X.K pSortedD) := by
  intro pins s σ H vs us Q I rv ⟨F, ι, st, ds, d, S, ra, e, q⟩
  unfold pSortedD at e
  split at e
  rotate_left
  · cases e
  rename_i d1
  split at e
  rotate_left
  · cases e
  rename_i ks dvs e1
  split at e
  rotate_left
  · cases e
  rename_i hok
  obtain ⟨hsz, hp, hal, hso⟩ := hok
  cases e
  obtain ⟨v, rfl, rd⟩ := ra.one'
  obtain ⟨u, rfl, ru⟩ := rv.one
  obtain ⟨a, ys, ws0, rfl, z, qa, kt, vr, _⟩ := S.dct rd e1
  cases ru
  obtain ⟨⟨o, es, ep, ho, hx, hdt, he, hn⟩, _, _⟩ := (show ObjOk X.prog X.w H s.heap a (DctO a ys) from I.hok a _ qa)
  have l1 : es.size = ys.length := by rw [← Array.length_toList, he, List.length_map]
  have l2 : ys.length = ks.length := by rw [← kt.1, List.length_map]
  have l3 := sz_le hsz
  obtain ⟨xs, exs⟩ : ∃ xs, keysD ks = xs := ⟨_, rfl⟩
  obtain ⟨ws, ews⟩ : ∃ ws, (ys.map fun x => V.ref x.2.1) = ws := ⟨_, rfl⟩
  obtain ⟨its, eits⟩ : ∃ its, (ys.map fun x => Value.ref x.2.1) = its := ⟨_, rfl⟩
  have rr : Reps X.K F ι xs ws := by rw [← exs, ← ews, ← kt.1]; exact reps_keys kt.2
  have rits : Vals ws its := by rw [← ews, ← eits]; exact vals_refsI ys
  have hits : its.length = ks.length := by rw [← eits, List.length_map]; exact l2
  rw [exs] at hp hal hso q
  have hl := rits.length
  have hxl := rr.length
  refine Calls.call_function_entry PyProof.Rows.kind_sorted PyProof.Rows.plain_sorted PyProof.Rows.entry_sorted (PyProof.Rows.args_sorted1 _) ?_
  unfold Builtin.«sorted»
  refine wpAny_bind (m := checkCount "sorted" 1 1 _) (wpAny_pure ?_)
  refine wpAny_bind (PySem.W.kdu_collect (A := X.A.in1) (kdl_raw z hx hdt) (I.ok.hd hc) ho (by omega) fun h' tk acc hk it => ?_)
  have I1 : Inv X pins σ H { s with heap := h', toks := tk } := I.kept hk
  have ei : acc.toList = its := by rw [keys_acc he it]; exact eits
  rw [ei]
  refine wpAny_bind (wpAny_newList ?_ (by omega))
  have hoL : (h'.push (seqObj "list" its.toArray 0)).get? h'.objs.size = some (seqObj "list" its.toArray 0) := Heap.get?_push_size _ rfl
  have ee := each_pairs rr rits
  have er : PySem.W.EachIs (fun u (b : D × V) => ∃ as, Reads (h'.push (seqObj "list" its.toArray 0)) u (toP b.1) as ∧ h'.objs.size ∉ as) its (xs.zip ws) := by
    refine (each_mem2 ee).mono fun u b ⟨⟨h1, h2⟩, hb⟩ => ?_
    have hb1 : b.1 ∈ xs := (List.of_mem_zip (show (b.1, b.2) ∈ xs.zip ws from hb)).1
    obtain ⟨as, r⟩ := Dp.reads I1 _ _ _ (rep_dp S h2 (hp b.1 hb1).1) h1
    refine ⟨as, PyProof.Rows.Reads.keeps (fun _ _ => Heap.get?_push_of_some _) r, fun hm => ?_⟩
    have hal1 : PySem.W.alike (toP b.1) (toP b.1) = true := hal _ (List.mem_map.mpr ⟨b.1, hb1, rfl⟩) _ (List.mem_map.mpr ⟨b.1, hb1, rfl⟩)
    exact absurd (reads_lt _ _ _ hal1 r _ hm) (Nat.lt_irrefl _)
  have em : (xs.zip ws).map (fun b : D × V => toP b.1) = xs.map toP := by
    have e2 : (xs.zip ws).map (fun b : D × V => toP b.1) = ((xs.zip ws).map Prod.fst).map toP := by rw [List.map_map] <;> rfl
    rw [e2, zip_fst rr]
  show wpAny _ _ _ _ _ { s with heap := h'.push (seqObj "list" its.toArray 0), toks := tk }
  refine wpAny_bind (wpAny_holding (list_sort_dataX (enc := fun b : D × V => toP b.1) (bs := xs.zip ws) hoL ee er (by rw [em]; exact hal) (by rw [em]; exact hso) ?_ ?_ fun out hout eout => ?_))
  · rw [List.length_zip]; omega
  · intro b hb
    have hb1 : b.1 ∈ xs := (List.of_mem_zip (show (b.1, b.2) ∈ xs.zip ws from hb)).1
    have := (hp b.1 hb1).2
    show X.A.units + 1 + 1 + (toP b.1).depth < cLine
    omega
  obtain ⟨rs, rvs⟩ := pairs_each eout
  have es' : ((xs.zip ws).mergeSort (PySem.W.dataLe false fun b : D × V => toP b.1)).map (·.1) = sortD xs := by
    unfold sortD
    have e2 := List.map_mergeSort (r := PySem.W.dataLe false fun b : D × V => toP b.1) (s := PySem.W.dataLe false toP) (f := Prod.fst) (l := xs.zip ws) (fun a _ b _ => rfl)
    rw [zip_fst rr] at e2
    exact e2
  rw [es'] at rs
  obtain ⟨e', he'⟩ := PyProof.Rows.sortedHeap_at (vs := its) (out := out.toArray) hoL
  have hlen2 : (((xs.zip ws).mergeSort (PySem.W.dataLe false fun b : D × V => toP b.1)).map (·.2)).length ≤ sizeLine := by
    rw [List.length_map, List.length_mergeSort, List.length_zip]; omega
  have hnew : H h'.objs.size = none := I1.hok.fresh (Nat.le_refl _)
  refine wpAny_pure ⟨_, rfl, .ref h'.objs.size, upd H h'.objs.size (.lst (((xs.zip ws).mergeSort (PySem.W.dataLe false fun b : D × V => toP b.1)).map (·.2))), I1.laid (t' := tk) (fun b u e => ?_) (Nat.le_refl _)
    (show ObjOk X.prog X.w _ _ _ (.lst _) from ⟨hlen2, out, e', rvs, he'⟩), rfl, q _ _ (Ext.laid hnew) (S.laid hnew) (pL_new S hnew rs)⟩
  have hb : b < h'.objs.size := Heap.lt_size e
  rw [PyProof.Rows.sortedHeap_old (Nat.ne_of_lt hb) (by rw [size_push']; exact Nat.lt_succ_of_lt hb)]
  exact Heap.get?_push_of_some _ e
end
end Dn
/-! DnSe: own errors: raise, try .. except X as e, isinstance(e, ..). -/
namespace Dn
open PySem PySem.Spec PyProof.Rows L2
/-! ### isinstance of a caught error, its own dict or none -/
section
open PySem.W
variable {prog : Program} {w : World} {A : Around} {E : Value → Shared → Prop} {s : Shared} {K : Frag} {x D : Addr} {ox : Obj} {od : Option Obj}
theorem findObj_any {C : Addr} {name : Str} {a g : Value} (hc : (clsIn K C).isSome = true) (ha : findIn K (.ref C) name = some (some a)) (hg : specialIn K a "__get__" = some (some g)) (ht : takesIn K a = some true) : findObj K C od name = some (.bind g a) := by
  cases od with
  | none => exact findObj_dataN hc ha hg ht
  | some o => exact findObj_data hc ha hg ht
theorem kin_classO {Q : Option Value → Shared → Prop} (hga : findIn K (.ref D) "__getattribute__" = some (some (.builtin "BaseException.__getattribute__"))) (hgt : findIn K (.ref D) "__getattr__" = some none) (hsub : subIn K (.ref D) (.type "BaseException") = some true)
    (hdct : hasDictIn K D = true) (ha : findIn K (.ref D) "__class__" = some (some (.builtin "object.__class__")))
    (hn : specialIn K (.builtin "object.__class__") "__get__" = some (some (.builtin "getset_descriptor.__get__"))) (htk : takesIn K (.builtin "object.__class__") = some true) (hm : mroIn K D (.type "object") = some true)
    (X : K.In s.heap) (I : InstAt s.heap x ox D od) (h : Q (some (.ref D)) { s with toks := s.toks + 1 }) : wpAny (model prog w) A (getAttr? (.ref x) "__class__") Q E s := by
  have hf : findObj K D od "__class__" = some (.bind (.builtin "getset_descriptor.__get__") (.builtin "object.__class__")) := findObj_any (by obtain ⟨cd, hc, _⟩ := any_some hdct; rw [hc]; rfl) ha hn htk
  obtain ⟨hp, g, d, t, os⟩ := s
  have L0 := I.type (M := model prog w)
  have L1 := looks_findIn (M := model prog w) X hga
  have L2 := looks_findIn (M := model prog w) X hgt
  have L3 := looks_find (M := model prog w) X I hf
  have sub : Looks (model prog w) hp (isInstance (.ref x) (.type "BaseException")) true := L0.andThen (looks_subIn X hsub)
  have hx0 : (false && onTheHeap (Value.builtin "BaseException.__getattribute__")) = false := rfl
  have hx2 : (Value.builtin "BaseException.__getattribute__" == Value.builtin "object.__getattribute__") = false := by decide +kernel
  have hx1 : (onTheHeap (Value.ref D) && Value.builtin "BaseException.__getattribute__" == Value.builtin "object.__getattribute__") = false := by rw [hx2]; rfl
  unfold getAttr? getAttrBy? getAttrBy
  refine wpAny_bind (wpAny_mkText (wpAny_bind (wpAny_attempt (wpAny_holding (wpAny_bind (L0.at (wpAny_bind (L1.at ?_))))))))
  show wpAny _ _ (if (onTheHeap (Value.ref D) && Value.builtin "BaseException.__getattribute__" == Value.builtin "object.__getattribute__") = true then _ else _) _ _ _
  rw [hx1, if_neg Bool.false_ne_true]
  unfold getAttrByItsOwn hookBefore
  refine wpAny_bind ?_
  rw [if_pos (show onTheHeap (Value.ref D) = true from rfl)]
  refine L2.at ?_
  refine wpAny_bind (wpAny_attempt (wpAny_holding ?_))
  unfold callGetattribute
  rw [hx0, if_neg Bool.false_ne_true]
  unfold boundAndCalled
  rw [PySem.F.excAttr_ValueError.ga.bind (.ref x)]
  refine wpAny_bind (wpAny_pure ?_)
  show wpAny _ _ (call (.builtin "BaseException.__getattribute__") [.ref x, .str "__class__" t]) _ _ _
  refine wpAny_call (codeAny_call_builtin PySem.F.excAttr_ValueError.ga.plain PySem.F.entry_bexc_ga ?_)
  refine @check_slot (model prog w) _ _ ⟨hp, g, d, t + 1, os⟩ "BaseException.__getattribute__" "BaseException" "__getattribute__" (.ref x) [.str "__class__" t] [] _ (by decide +kernel) (by decide +kernel) sub (PySem.F.args_bexc_ga (.ref x) (.str "__class__" t)) ?_
  unfold Builtin.«object.__getattribute__»
  refine wpAny_bind (wpAny_of_eq (a := ((Value.ref x : Value), [Value.str "__class__" t])) (by first | rfl | (simp only [slotArgs]; rfl)) ?_)
  refine wpAny_bind (wpAny_pure (wpAny_bind (L0.at (wpAny_bind (L3.at ?_)))))
  show wpAny _ _ (holding [Value.builtin "object.__class__"] (call (.builtin "getset_descriptor.__get__") [.builtin "object.__class__", .ref x, .ref D]) >>= ret) _ _ _
  refine wpAny_bind (wpAny_holding (wpAny_call (class_get (s := ⟨hp, g, d, t + 1, os⟩) (ox := ox) (od := od) X I hm ?_)))
  refine wpAny_pure ?_
  show wpAny _ _ (handedOut (.ref D)) _ _ _
  rw [handedOut_of (v := .ref D) rfl]
  first
    | exact wpAny_pure (wpAny_pure h)
    | exact wpAny_pure h
    | exact wpAny_pure (wpAny_bind (wpAny_pure (wpAny_pure h)))
theorem kitx_excO (C : ExcC K D) : KitX K (.ref x) (.ref D) (fun h => InstAt h x ox D od) where
  ty := fun _ _ _ I => I.type
  it := fun _ _ X _ => by
    obtain ⟨cdD, hcD, _⟩ := any_some C.hd
    unfold clsIn at hcD
    split at hcD
    · rename_i c' d' cd' sl' ho
      intro A' Q' E' s' k q
      unfold isType loadHead
      exact wpAny_bind (wpAny_loadPart (k _ _ (X _ _ ho)) (wpAny_pure q))
    · cases hcD
  ne := fun h tp dd its n sl X htp => by
    obtain ⟨cdD, hcD, _⟩ := any_some C.hd
    refine Bool.eq_false_iff.mpr fun q => ?_
    have e : D = tp := Value.ref.inj (beq_iff_eq.mp q)
    subst e
    unfold clsIn at hcD
    split at hcD
    · rename_i c' d' cd' sl' ho
      have z := (X _ _ ho).symm.trans htp
      cases z
    · cases hcD
  ca := fun X I k => kin_classO C.hg C.hk C.hs C.hd C.ha C.hn C.ht C.hm X I k
end
/-! ### classes by name -/
/-- an own error class -/
structure ErrN (K : PySem.W.Frag) (mg : Str → Option Value) (x : Str) (C : Addr) : Prop where
  ns : PySem.W.nsIn K mainGlobals x = some (some (.ref C))
  gC : mg x = some (.ref C)
  kC : PySem.W.keepIn K (.ref C) = true
  ty : PySem.W.typeIn K (.ref C) = some (.type "type")
  ex : ExcC K C
/-- isinstance(error of class n, class y) -/
def KitB (K : PySem.W.Frag) (n y : Str) (b : Bool) : Prop := ∀ C D, PySem.W.nsIn K mainGlobals n = some (some (.ref C)) → PySem.W.nsIn K mainGlobals y = some (some (.ref D)) → PySem.W.kitOne K (.ref C) (.ref D) = some b
/-- except y takes an error of class n -/
def ExmB (K : PySem.W.Frag) (n y : Str) (b : Bool) : Prop := ∀ C D, PySem.W.nsIn K mainGlobals n = some (some (.ref C)) → PySem.W.nsIn K mainGlobals y = some (some (.ref D)) → PySem.W.exmOne K (.ref C) (.ref D) = some b
theorem kitB_of {K : PySem.W.Frag} {n y : Str} {b : Bool} {C D : Addr} (hn : PySem.W.nsIn K mainGlobals n = some (some (.ref C))) (hy : PySem.W.nsIn K mainGlobals y = some (some (.ref D))) (h : PySem.W.kitOne K (.ref C) (.ref D) = some b) : KitB K n y b := fun C' D' e1 e2 => by
  rw [hn] at e1
  rw [hy] at e2
  cases e1
  cases e2
  exact h
theorem exmB_of {K : PySem.W.Frag} {n y : Str} {b : Bool} {C D : Addr} (hn : PySem.W.nsIn K mainGlobals n = some (some (.ref C))) (hy : PySem.W.nsIn K mainGlobals y = some (some (.ref D))) (h : PySem.W.exmOne K (.ref C) (.ref D) = some b) : ExmB K n y b := fun C' D' e1 e2 => by
  rw [hn] at e1
  rw [hy] at e2
  cases e1
  cases e2
  exact h
/-! ### raise X() -/
section
variable {X : Cx} {W : WX} {C : Addr} {bmB : List Value} {B newId initId : String} {x : Str} {p pos pos' : Pos}
theorem pmk_own0 (F : ExcBaseFacts B newId initId bmB) (q : PySem.W.excIn X.K C bmB newId = true) (gC : X.mg x = some (.ref C)) (kC : PySem.W.keepIn X.K (.ref C) = true) (r : Raises X (.ref C)) (hg : Gl X x)
    (hdb : (x == ("__debug__" : Str)) = false := by decide) : PMk X (.Call (.Name x p) [] [] pos) (fun _ H Q => Q (.ref C) none H) := by
  intro pins s σ H Q I h
  refine wpAny_Call_Name_kw (ld_glob I hg gC ?_ hdb)
  refine PySem.W.callWith_K0 I.kIn kC ?_
  show wpAny _ _ (call (.ref C) []) _ _ _
  obtain ⟨bm, N, nm, qn, bs, hdct, sn, sub, ab, col, dd, k0, k1, k2, k3, k5, mN, hC, hN, hni, T⟩ := exc_obj I.kIn q
  exact wpAny_call_exc_subT F T hC hN hni (fun h' e hm => mk_of I hm r h (I.hok.gone hm.new)) (Nat.zero_le _)
def sRaise (x : Str) : Rho → Sto → Fl := fun ρ st => .exc ⟨x, none⟩ ρ st
theorem ds_raise0 (hc : X.calm = true) (tk : Takes X W) (T : ErrN X.K X.mg x C) (q : PySem.W.excIn X.K C [.type "ValueError", .type "Exception", .type "BaseException", .type "object"] "ValueError.__new__" = true) (hg : Gl X x) (hdb : (x == ("__debug__" : Str)) = false := by decide) :
    DS X W (.Raise (some (.Call (.Name x p) [] [] pos)) none pos') (sRaise x) := by
  refine PS.weak (ps_raise hc tk (pmk_own0 PySem.F.excBase_ValueError q T.gC T.kC (raises_own T.ex.hs T.ty) hg hdb)) fun E σ H ⟨F, ι, ρ, st, S, R, q⟩ => ?_
  exact q F ι H (.ref C) none σ Ext.refl S R ⟨T.ns, rfl⟩
/-- a raise that nothing reaches -/
def sNever : Rho → Sto → Fl := fun _ _ => .bad
theorem ds_never {s : Stmt} : DS X W s sNever := ⟨fun pins s σ H D I ⟨F, ι, ρ, st, S, R, q⟩ => (q : False).elim⟩
end
/-! ### try: body, except y as e: suite -/
/-- the value that a caught error is told by -/
def EV (x : Xc) (a : Addr) (d : Option Addr) (e : D) : Prop := match x.fld with
  | none => d = none ∧ e = .adr a
  | some (f, v) => ∃ dd, d = some dd ∧ e = .exo a dd f v
def EvX (x : Xc) (e : D) : Prop := ∃ a d, EV x a d e
def tidyF (i : Nat) : Fl → Fl
  | .next ρ st => .next (ρ.set i none) st
  | .brk ρ st => .brk (ρ.set i none) st
  | .cnt ρ st => .cnt (ρ.set i none) st
  | .ret d st => .ret d st
  | _ => .bad
/-- the suite's slots: the error alone is known -/
def envH (n i : Nat) (e : D) : Rho := (List.replicate n none).set i (some e)
/-- an error value for x -/
def e0 (x : Xc) : D := match x.fld with
  | none => .adr 0
  | some (f, v) => .exo 0 0 f v
theorem evx_e0 (x : Xc) : EvX x (e0 x) := by
  unfold EvX EV e0
  cases x.fld with
  | none => exact ⟨0, none, rfl, rfl⟩
  | some p => exact ⟨0, some 0, 0, rfl, rfl⟩
def sTry (i : Nat) (yes no : List Str) (mb : Rho → Sto → Fl) (mh : Xc → D → Rho → Sto → Fl) : Rho → Sto → Fl := fun ρ st => match mb ρ st with
  | .exc x ρ' st' => if x.nm ∈ yes then tidyF i (mh x (e0 x) (envH ρ.length i (e0 x)) st') else if x.nm ∈ no then .exc x ρ' st' else .bad
  | r => r
/-- the context of an except suite, as its rules want it -/
structure HC (X : Cx) (x : Xc) (e : D) (a : Addr) (oe : Obj) : Prop where
  ex : ∃ C d, PySem.W.nsIn X.K mainGlobals x.nm = some (some (.ref C)) ∧ ExcC X.K C ∧ Zc (.ref C) d oe ∧ EV x a d e
  fl : ∃ vs, oe.data = .fields vs
theorem REnv.unset1 {K : PySem.W.Frag} {F : Hp} {ι : List Addr} {ρ : Rho} {σ : L2.St} (h : REnv K F ι ρ σ) (i : Nat) : REnv K F ι (ρ.set i none) (σ.set i none) := by
  refine ⟨by simp [h.len], fun j d q => ?_⟩
  by_cases hj : i = j
  · subst hj
    by_cases hl : i < ρ.length
    · rw [List.getElem?_set_self hl] at q
      cases q
    · rw [List.getElem?_eq_none (by simpa using hl)] at q
      cases q
  · rw [List.getElem?_set_ne hj] at q ⊢
    exact h.at_ j d q
/-- what a suite wants -/
def tHs (K : PySem.W.Frag) (n i : Nat) (yes : List Str) (mh : Xc → D → Rho → Sto → Fl) (a : Addr) (cls : Value) (d : Option Addr) : TS := fun D σ H => ∃ (F : Hp) (ι : List Addr) (st : Sto) (x : Xc) (e : Dn.D) (σ0 : L2.St), Sim K F ι st H ∧ σ = σ0.set i (some (.ref a)) ∧ Rep K F ι e (.ref a) ∧ x.nm ∈ yes ∧ PySem.W.nsIn K mainGlobals x.nm = some (some cls) ∧ EV x a d e ∧ sPost K wN D F ι H (mh x e (envH n i e) st)
section
variable {X : Cx} {W : WX} {y n : Str} {i : Nat} {body suite : List Stmt} {b₀ : Stmt} {np pos pos' : Pos} {mb : Rho → Sto → Fl} {mh : Xc → D → Rho → Sto → Fl} {yes no : List Str} {Cy : Addr}
theorem ds_try (hs : X.stack = X.env :: X.outer) (hf : X.env.frame = some X.env.locals) (hN : X.N.Nodup) (hi : X.N[i]? = some n) (hln : X.env.kindOf n = some .local) (hg : Gl X y) (T : ErrN X.K X.mg y Cy) (tk : Takes X W)
    (hE : ∀ z ∈ yes ++ no, ∃ C, ErrN X.K X.mg z C) (hyes : ∀ z ∈ yes, ExmB X.K z y true) (hno : ∀ z ∈ no, ExmB X.K z y false)
    (hb : ∀ (W' : WX) (pn : List (Addr × Obj)) (xe : Value → Shared → Prop), Takes (X.tr pn xe) W' → PassesOwn (model X.prog X.w) X.A X.env xe → DSs (X.tr pn xe) W' body mb)
    (hh : ∀ (x : Xc) (e : D) (a : Addr) (oe : Obj) (pn : List (Addr × Obj)), x.nm ∈ yes → HC X x e a oe → DSs (X.suite a ((a, oe) :: pn)) wN (b₀ :: suite) (mh x e))
    (hu : ∀ (x : Xc) (e e' : D) (st : Sto), x.nm ∈ yes → EvX x e → EvX x e' → tidyF i (mh x e (envH X.N.length i e) st) = tidyF i (mh x e' (envH X.N.length i e') st))
    (hdb : (y == ("__debug__" : Str)) = false := by decide) :
    DS X W (.Try body [.ExceptHandler (some (.Name y np)) (some n) (b₀ :: suite) pos'] [] [] pos) (sTry i yes no mb mh) := by
  refine ⟨fun pins s σ H D I ⟨F, ι, ρ, st, S, R, q⟩ => (ps_try_as (i := i) (tb := fun W' => tS X.K W' mb) (ts := tHs X.K X.N.length i yes mh) hs hf hN hi hln ⟨hg, hdb, .inl T.gC⟩ tk hb ?_).run pins s σ H D I ?_⟩
  · intro a oe cls d pn hz hfl
    refine ⟨fun pins s σ H D I ⟨F, ι, st, x, e, σ0, S, eσ, re, hx, hns, he, q⟩ => ?_⟩
    obtain ⟨C, hC⟩ := hE x.nm (List.mem_append.mpr (.inl hx))
    have ec : cls = .ref C := by
      have := hC.ns
      rw [hns] at this
      cases this
      rfl
    subst ec
    have hl : σ.length = X.N.length := I.len
    have hin : i < X.N.length := (List.getElem?_eq_some_iff.mp hi).1
    refine (hh x e a oe pn hx ⟨⟨C, d, hC.ns, hC.ex, hz, he⟩, hfl⟩).run pins s σ H D I ⟨F, ι, _, st, S, ⟨?_, fun j d' ej => ?_⟩, q⟩
    · unfold envH
      rw [List.length_set, List.length_replicate, hl]
    · unfold envH at ej
      by_cases hj : i = j
      · subst hj
        rw [List.getElem?_set_self (by rw [List.length_replicate]; exact hin)] at ej
        cases ej
        refine ⟨.ref a, ?_, re⟩
        rw [eσ, List.getElem?_set_self (by rw [eσ, List.length_set] at hl; omega)]
      · rw [List.getElem?_set_ne hj, List.getElem?_replicate] at ej
        split at ej <;> cases ej
  · refine ⟨F, ι, ρ, st, S, R, ?_⟩
    have hρ : ρ.length = X.N.length := R.len.trans I.len
    unfold sTry at q
    revert q
    cases mb ρ st with
    | next _ _ => exact fun q => q
    | ret _ _ => exact fun q => q
    | brk _ _ => exact fun q => q
    | cnt _ _ => exact fun q => q
    | bad => exact fun q => q
    | exc x ρ' st' =>
      intro q F1 ι1 H1 cls dd σ1 x1 S1 R1 r1
      dsimp only at q
      by_cases h1 : x.nm ∈ yes
      · rw [if_pos h1, hρ] at q
        obtain ⟨C, hC⟩ := hE x.nm (List.mem_append.mpr (.inl h1))
        have ec : cls = .ref C := by
          have := hC.ns
          rw [r1.1] at this
          cases this
          rfl
        subst ec
        refine ⟨true, hyes _ h1 _ _ hC.ns T.ns, fun _ a ha => ?_, fun z => nomatch z⟩
        have hev : ∃ e, EV x a dd e ∧ Rep X.K F1 ι1 e (.ref a) := by
          have r2 := r1.2
          unfold EV
          split
          · rename_i e1
            rw [e1] at r2
            exact ⟨.adr a, ⟨r2, rfl⟩, by simp only [Rep]⟩
          · rename_i f v e1
            rw [e1] at r2
            obtain ⟨d', u, rfl, q1, q2⟩ := r2
            exact ⟨.exo a d' f v, ⟨d', rfl, rfl⟩, by simp only [Rep]; exact ⟨trivial, u, q1, q2⟩⟩
        obtain ⟨e, he, re⟩ := hev
        have q1 := sPost_ext q x1
        rw [hu x (e0 x) e st' h1 (evx_e0 x) ⟨a, dd, he⟩] at q1
        refine ⟨F1, ι1, st', x, e, σ1, S1, rfl, re, h1, hC.ns, he, ?_⟩
        revert q1
        cases mh x e (envH X.N.length i e) st' with
        | next ρ2 st2 => exact fun q1 F2 ι2 H2 σ2 x2 S2 R2 => q1 F2 ι2 H2 _ x2 S2 (R2.unset1 i)
        | brk ρ2 st2 => exact fun q1 F2 ι2 H2 σ2 x2 S2 R2 => q1 F2 ι2 H2 _ x2 S2 (R2.unset1 i)
        | cnt ρ2 st2 => exact fun q1 F2 ι2 H2 σ2 x2 S2 R2 => q1 F2 ι2 H2 _ x2 S2 (R2.unset1 i)
        | ret d st2 => exact fun q1 => q1
        | exc _ _ _ => exact fun q1 => (q1 : False).elim
        | bad => exact fun q1 => q1
      · rw [if_neg h1] at q
        by_cases h2 : x.nm ∈ no
        · rw [if_pos h2] at q
          obtain ⟨C, hC⟩ := hE x.nm (List.mem_append.mpr (.inr h2))
          have ec : cls = .ref C := by
            have := hC.ns
            rw [r1.1] at this
            cases this
            rfl
          subst ec
          exact ⟨false, hno _ h2 _ _ hC.ns T.ns, (fun z => Bool.noConfusion z), fun _ => q F1 ι1 H1 _ dd σ1 x1 S1 R1 r1⟩
        · rw [if_neg h2] at q
          exact q.elim
end
/-! ### in the suite: isinstance(e, y), isinstance(e, (y, z)), e.f -/
open Classical in
noncomputable def mXis (i : Nat) (x : Xc) (e : D) (yes no : List Str) : Rho → M D := fun ρ st => (mVar i ρ st).bind fun e' st1 => if e' = e then (if x.nm ∈ yes then .ok (.bl true) st1 else if x.nm ∈ no then .ok (.bl false) st1 else .bad) else .bad
open Classical in
noncomputable def mXfl (i : Nat) (x : Xc) (e : D) (f : Str) : Rho → M D := fun ρ st => (mVar i ρ st).bind fun e' st1 => if e' = e then (match x.fld with
  | some (g, d) => if g = f then .ok d st1 else .bad
  | none => .bad) else .bad
section
variable {X : Cx} {x : Xc} {e : D} {a : Addr} {oe : Obj} {pn : List (Addr × Obj)} {i : Nat} {p p2 pos : Pos} {yes no : List Str}
/-- a class or a tuple of classes -/
def KitV (K : PySem.W.Frag) (C : Addr) (dc : D) (b : Bool) : Prop := match dc with
  | .adr c => PySem.W.kitOne K (.ref C) (.ref c) = some b
  | .tup ds => ∃ cs : List Addr, ds = cs.map .adr ∧ PySem.W.kitAny K (.ref C) (cs.map .ref) = some b
  | _ => False
theorem kitV_ne {K : PySem.W.Frag} {C : Addr} {b : Bool} {d : D} (h : KitV K C d b) : (∃ c, d = .adr c ∧ PySem.W.kitOne K (.ref C) (.ref c) = some b) ∨ ∃ cs : List Addr, d = .tup (cs.map .adr) ∧ PySem.W.kitAny K (.ref C) (cs.map .ref) = some b := by
  unfold KitV at h
  split at h
  · exact .inl ⟨_, rfl, h⟩
  · obtain ⟨cs, rfl, h⟩ := h
    exact .inr ⟨cs, rfl, h⟩
  · exact h.elim
theorem reps_adrs {K : PySem.W.Frag} {F : Hp} {ι : List Addr} : ∀ {cs : List Addr} {vs : List V}, Reps K F ι (cs.map .adr) vs → vs = cs.map .ref
  | [], vs, h => by simpa only [List.map_nil, Reps] using h
  | c :: cs, vs, h => by
    simp only [List.map_cons, Reps] at h
    obtain ⟨v, r, rfl, h1, h2⟩ := h
    simp only [Rep] at h1
    subst h1
    rw [reps_adrs h2] <;> rfl
theorem vals_adrs : ∀ {cs : List Addr} {us : List Value}, Vals (cs.map V.ref) us → us = cs.map Value.ref
  | [], us, h => by cases h; rfl
  | c :: cs, us, h => by
    cases h with
    | cons h1 h2 =>
      rw [vals_adrs h2, show _ = Value.ref c from h1] <;> rfl
def rIsD (K : PySem.W.Frag) (C a : Addr) (d : Option Addr) : List V → Hp → VK → Prop := fun xs H Q => ∃ (F : Hp) (ι : List Addr) (st : Sto) (v : V) (dc : D) (b : Bool), xs = [.ref a, v] ∧ Sim K F ι st H ∧ Rep K F ι dc v ∧ KitV K C dc b ∧ (∀ dd, d = some dd → ∃ fs, H dd = some (.xd fs)) ∧ Q (.bl b) H
theorem call_isD {C : Addr} {d : Option Addr} (hC : ExcC X.K C) (hz : Zc (.ref C) d oe) (hf : ∃ vs, oe.data = .fields vs) : CallR (X.suite a ((a, oe) :: pn)) (.builtin "isinstance") (rIsD X.K C a d) := by
  intro pins s σ H xs us Q I r h
  obtain ⟨F, ι, st, v, dc, b, rfl, S, rd, hk, hd, q⟩ := h
  cases r with
  | cons rx rr =>
    cases rr with
    | cons rt rr =>
      cases rr
      cases rx
      obtain ⟨hget, _⟩ := I.pin (a, oe) (List.mem_append.mpr (.inl List.mem_cons_self))
      obtain ⟨vs, hv⟩ := hf
      have J : ∃ od, PySem.W.InstAt s.heap a oe C od := by
        cases d with
        | none =>
          refine ⟨none, ?_⟩
          obtain ⟨oc, od, oda, osl⟩ := oe
          obtain ⟨h1, h2⟩ := hz
          dsimp only at h1 h2 hv
          subst h1 h2 hv
          exact ⟨hget, rfl, rfl, trivial⟩
        | some dd =>
          obtain ⟨fs, ea⟩ := hd dd rfl
          have hx : ObjOk X.prog X.w H s.heap dd (.xd fs) := I.hok dd _ ea
          obtain ⟨mA, hns, hr⟩ := hx
          obtain ⟨od, ho, hl⟩ := lookIn_ns hns
          exact ⟨some od, hget, hz.1, by unfold PySem.W.notCls; rw [hv] <;> rfl, by rw [hz.2]; exact ho⟩
      obtain ⟨od, J⟩ := J
      rcases kitV_ne hk with ⟨c, rfl, e⟩ | ⟨cs, rfl, e⟩
      · simp only [Rep] at rd
        subst rd
        obtain rfl := (show _ = Value.ref c from rt)
        exact PySem.W.kia_one (kitx_excO hC) I.kIn J e (fun z => nomatch z) fun tk => ⟨.bl b, H, I.kept (t' := tk) fun _ _ z => z, rfl, q⟩
      · simp only [Rep] at rd
        obtain ⟨t, ws, rfl, hq, rs⟩ := rd
        obtain rfl := (show _ = Value.ref t from rt)
        rw [reps_adrs rs] at hq
        obtain ⟨its, rv, ⟨o, h1, h2, nn, h3⟩, _⟩ := I.tuple (S.sqT hq)
        obtain ⟨oc, odd, odt, osl⟩ := o
        dsimp only at h2 h3
        subst h2 h3
        rw [vals_adrs rv] at h1
        exact PySem.W.kia_tup (kitx_excO hC) I.kIn J h1 e (fun z => nomatch z) fun tk => ⟨.bl b, H, I.kept (t' := tk) fun _ _ z => z, rfl, q⟩
theorem de_isG {ec : Expr} {mc : Rho → M D} {dc : D} {ev : Str} (c : HC X x e a oe) (hg : Gl (X.suite a ((a, oe) :: pn)) "isinstance") (hm : X.mg "isinstance" = none) (hv : DE (X.suite a ((a, oe) :: pn)) wN (.Name ev p2) (mVar i)) (hc : DE (X.suite a ((a, oe) :: pn)) wN ec mc)
    (hmc : ∀ ρ st, mc ρ st = .ok dc st) (hk : ∀ b C, PySem.W.nsIn X.K mainGlobals x.nm = some (some (.ref C)) → (if x.nm ∈ yes then some true else if x.nm ∈ no then some false else none) = some b → KitV X.K C dc b)
    (hs : starEach [.Name ev p2, ec] X.env = (false, eval (.Name ev p2) X.env) :: starEach [ec] X.env := by rfl) (hs2 : starEach [ec] X.env = (false, eval ec X.env) :: starEach [] X.env := by rfl) (hpl : (backTo pos (starEach [ec] X.env)).any (·.1) = false := by rfl) :
    DE (X.suite a ((a, oe) :: pn)) wN (.Call (.Name "isinstance" p) [.Name ev p2, ec] [] pos) (mXis i x e yes no) := by
  obtain ⟨C, d, hns, hC, hz, he⟩ := c.ex
  refine PE.weak (pe_callB (call_isD hC hz c.fl) hg hm rfl (pa_cons hv (pa_cons hc pa_nil hs2) hs) (by decide) (by decide) hs hpl) fun σ H Q ⟨F, ι, ρ, st, S, R, q⟩ => ?_
  have q0 : post X.K wN σ F ι H (pV X.K) ((mVar i ρ st).bind fun e' st1 => (mc ρ st1).bind fun d2 st2 => @ite _ (d2 = dc) (Classical.propDecidable _) (@ite _ (e' = e) (Classical.propDecidable _) (if x.nm ∈ yes then .ok (.bl true) st2 else if x.nm ∈ no then .ok (.bl false) st2 else .bad) .bad) .bad) Q := by
    have : (fun (e' : D) st1 => (mc ρ st1).bind fun d2 st2 => @ite _ (d2 = dc) (Classical.propDecidable _) (@ite _ (e' = e) (Classical.propDecidable _) (if x.nm ∈ yes then Out.ok (D.bl true) st2 else if x.nm ∈ no then .ok (.bl false) st2 else .bad) .bad) .bad) = fun (e' : D) st1 => @ite _ (e' = e) (Classical.propDecidable _) (if x.nm ∈ yes then .ok (.bl true) st1 else if x.nm ∈ no then .ok (.bl false) st1 else .bad) .bad := by
      funext e' st1
      rw [hmc, Out.bind_ok, if_pos rfl]
    rw [this]
    exact q
  refine tG_seq back_V S R q0 fun e' st1 F1 ι1 H1 v x1 S1 R1 r1 q1 => ?_
  refine tG_seq back_V S1 R1 q1 fun d2 st2 F2 ι2 H2 w2 x2 S2 R2 r2 q2 => ?_
  by_cases hd2 : d2 = dc
  · rw [if_pos hd2] at q2
    subst hd2
    by_cases he' : e' = e
    · rw [if_pos he'] at q2
      subst he'
      have hv2 : v = .ref a ∧ ∀ dd, d = some dd → ∃ fs, H2 dd = some (.xd fs) := by
        unfold EV at he
        split at he
        · obtain ⟨rfl, rfl⟩ := he
          simp only [Rep] at r1
          exact ⟨r1, fun _ z => nomatch z⟩
        · rename_i f w
          obtain ⟨dd, rfl, rfl⟩ := he
          simp only [Rep] at r1
          obtain ⟨e1, u, q1', _⟩ := r1
          refine ⟨e1, fun dd' z => ?_⟩
          cases z
          exact ⟨_, S2.sub _ _ (x2.f _ _ q1')⟩
      obtain ⟨rfl, hdd⟩ := hv2
      by_cases h1 : x.nm ∈ yes
      · rw [if_pos h1] at q2
        exact ⟨F2, ι2, st2, w2, d2, true, rfl, S2, r2, hk true C hns (by rw [if_pos h1]), hdd, q2 F2 ι2 H2 _ Ext.refl S2 (by show Rep _ _ _ _ _; simp only [Rep])⟩
      · rw [if_neg h1] at q2
        by_cases h2 : x.nm ∈ no
        · rw [if_pos h2] at q2
          exact ⟨F2, ι2, st2, w2, d2, false, rfl, S2, r2, hk false C hns (by rw [if_neg h1, if_pos h2]), hdd, q2 F2 ι2 H2 _ Ext.refl S2 (by show Rep _ _ _ _ _; simp only [Rep])⟩
        · rw [if_neg h2] at q2
          exact (q2 : False).elim
    · rw [if_neg he'] at q2
      exact (q2 : False).elim
  · rw [if_neg hd2] at q2
    exact (q2 : False).elim
theorem de_cls {y : Str} {C : Addr} {X : Cx} {W : WX} (T : ErrN X.K X.mg y C) (hg : Gl X y) (hdb : (y == ("__debug__" : Str)) = false := by decide) : DE X W (.Name y pos) (mLit (.adr C)) := by
  refine PE.weak (pe_glob hg T.gC (v := .ref C) rfl hdb) fun σ H Q ⟨F, ι, ρ, st, S, R, q⟩ => ?_
  exact q F ι H _ Ext.refl S (by show Rep _ _ _ _ _; simp only [Rep])
/-- isinstance(e, y) -/
theorem de_isE {y ev : Str} {C : Addr} (c : HC X x e a oe) (hg : Gl (X.suite a ((a, oe) :: pn)) "isinstance") (hm : X.mg "isinstance" = none) (hv : DE (X.suite a ((a, oe) :: pn)) wN (.Name ev p2) (mVar i)) (T : ErrN X.K X.mg y C) (hgy : Gl (X.suite a ((a, oe) :: pn)) y)
    (hy : ∀ z ∈ yes, KitB X.K z y true) (hn : ∀ z ∈ no, KitB X.K z y false) {p3 : Pos} (hdb : (y == ("__debug__" : Str)) = false := by decide)
    (hs : starEach [.Name ev p2, .Name y p3] X.env = (false, eval (.Name ev p2) X.env) :: starEach [.Name y p3] X.env := by rfl) (hs2 : starEach [.Name y p3] X.env = (false, eval (.Name y p3) X.env) :: starEach [] X.env := by rfl) (hpl : (backTo pos (starEach [.Name y p3] X.env)).any (·.1) = false := by rfl) :
    DE (X.suite a ((a, oe) :: pn)) wN (.Call (.Name "isinstance" p) [.Name ev p2, .Name y p3] [] pos) (mXis i x e yes no) := by
  refine de_isG (dc := .adr C) c hg hm hv (de_cls (X := X.suite a ((a, oe) :: pn)) ⟨T.ns, T.gC, T.kC, T.ty, T.ex⟩ hgy hdb) (fun _ _ => rfl) (fun b D hD hb => ?_) hs hs2 hpl
  by_cases h1 : x.nm ∈ yes
  · rw [if_pos h1] at hb
    cases hb
    exact hy _ h1 _ _ hD T.ns
  · rw [if_neg h1] at hb
    by_cases h2 : x.nm ∈ no
    · rw [if_pos h2] at hb
      cases hb
      exact hn _ h2 _ _ hD T.ns
    · rw [if_neg h2] at hb
      cases hb
/-- isinstance(e, (y, z)) -/
theorem de_isE2 {y z ev : Str} {Cy Cz : Addr} (c : HC X x e a oe) (hg : Gl (X.suite a ((a, oe) :: pn)) "isinstance") (hm : X.mg "isinstance" = none) (hv : DE (X.suite a ((a, oe) :: pn)) wN (.Name ev p2) (mVar i)) (Ty : ErrN X.K X.mg y Cy) (hgy : Gl (X.suite a ((a, oe) :: pn)) y) (Tz : ErrN X.K X.mg z Cz) (hgz : Gl (X.suite a ((a, oe) :: pn)) z)
    (hy : ∀ n ∈ yes, KitB X.K n y true ∨ (KitB X.K n y false ∧ KitB X.K n z true)) (hn : ∀ n ∈ no, KitB X.K n y false ∧ KitB X.K n z false) {p3 p4 p5 : Pos} {kk : Nat} (hdb : (y == ("__debug__" : Str)) = false := by decide) (hdb2 : (z == ("__debug__" : Str)) = false := by decide)
    (hs : starEach [.Name ev p2, .Tuple [.Name y p3, .Name z p4] kk p5] X.env = (false, eval (.Name ev p2) X.env) :: starEach [.Tuple [.Name y p3, .Name z p4] kk p5] X.env := by rfl) (hs2 : starEach [.Tuple [.Name y p3, .Name z p4] kk p5] X.env = (false, eval (.Tuple [.Name y p3, .Name z p4] kk p5) X.env) :: starEach [] X.env := by rfl) (hpl : (backTo pos (starEach [.Tuple [.Name y p3, .Name z p4] kk p5] X.env)).any (·.1) = false := by rfl)
    (hs3 : starEach [.Name y p3, .Name z p4] X.env = (false, eval (.Name y p3) X.env) :: starEach [.Name z p4] X.env := by rfl) (hs4 : starEach [.Name z p4] X.env = (false, eval (.Name z p4) X.env) :: starEach [] X.env := by rfl) :
    DE (X.suite a ((a, oe) :: pn)) wN (.Call (.Name "isinstance" p) [.Name ev p2, .Tuple [.Name y p3, .Name z p4] kk p5] [] pos) (mXis i x e yes no) := by
  refine de_isG (dc := .tup ([Cy, Cz].map .adr)) c hg hm hv (de_tup (da_cons (de_cls (X := X.suite a ((a, oe) :: pn)) ⟨Ty.ns, Ty.gC, Ty.kC, Ty.ty, Ty.ex⟩ hgy hdb) (da_cons (de_cls (X := X.suite a ((a, oe) :: pn)) ⟨Tz.ns, Tz.gC, Tz.kC, Tz.ty, Tz.ex⟩ hgz hdb2) da_nil hs4) hs3)) (fun _ _ => rfl) (fun b D hD hb => ⟨[Cy, Cz], rfl, ?_⟩) hs hs2 hpl
  unfold PySem.W.kitAny
  by_cases h1 : x.nm ∈ yes
  · rw [if_pos h1] at hb
    cases hb
    rcases hy _ h1 with q | ⟨q1, q2⟩
    · simp only [List.map_cons, q _ _ hD Ty.ns]
    · simp only [List.map_cons, List.map_nil, q1 _ _ hD Ty.ns, PySem.W.kitAny, q2 _ _ hD Tz.ns]
  · rw [if_neg h1] at hb
    by_cases h2 : x.nm ∈ no
    · rw [if_pos h2] at hb
      cases hb
      obtain ⟨q1, q2⟩ := hn _ h2
      simp only [List.map_cons, List.map_nil, q1 _ _ hD Ty.ns, PySem.W.kitAny, q2 _ _ hD Tz.ns]
    · rw [if_neg h2] at hb
      cases hb
end
def xisV (x : Xc) (yes no : List Str) (st : Sto) : Out D := if x.nm ∈ yes then .ok (.bl true) st else if x.nm ∈ no then .ok (.bl false) st else .bad
theorem mXis_env {n i : Nat} {x : Xc} {e : D} {yes no : List Str} {st : Sto} (h : i < n) : mXis i x e yes no (envH n i e) st = xisV x yes no st := by
  unfold mXis envH mVar
  rw [List.getElem?_set_self (by rw [List.length_replicate]; exact h)]
  dsimp only
  rw [Out.bind_ok, if_pos rfl] <;> rfl
def xflV (x : Xc) (f : Str) (st : Sto) : Out D := match x.fld with
  | some (g, d) => if g = f then .ok d st else .bad
  | none => .bad
theorem mXfl_env {n i : Nat} {x : Xc} {e : D} {f : Str} {st : Sto} (h : i < n) : mXfl i x e f (envH n i e) st = xflV x f st := by
  unfold mXfl envH mVar
  rw [List.getElem?_set_self (by rw [List.length_replicate]; exact h)]
  dsimp only
  rw [Out.bind_ok, if_pos rfl] <;> rfl
theorem envH_set {n i : Nat} {e : D} : (envH n i e).set i none = (List.replicate n none).set i none := by
  unfold envH
  rw [List.set_set]
theorem Bd.tr {X : Cx} {W W' : WX} {k : Nat} (b : Bd X W k) {pn : List (Addr × Obj)} {xe : Value → Shared → Prop} (tk : Takes (X.tr pn xe) W') : Bd (X.tr pn xe) W' k := ⟨b.room, b.gd, b.calm, b.nd, tk⟩
end Dn
/-! DnSf: list(zip(a, b)), two tuples: a new list of new pairs. -/
namespace Dn
open PySem PySem.Spec PyProof.Rows L2
section
open PySem.W PySem.Calls RZ
variable {prog : Program} {w : World} {A : Around} {E : Value → Shared → Prop} {s : Shared}
theorem zipT_next_item_held {z TI TO T i1 i2 l1 l2 : Addr} {f : Bool} {oT : Obj} {k1 k2 : Nat} {xs ys : Array Value} {x y : Value} {Q : Value → Shared → Prop} (D : ZipApart z TI TO i1 i2 l1 l2)
    (hz : IsZipHeld s.heap z TI TO T f) (hT : s.heap.get? T = some oT) (hTI : IsPair s.heap TI (.ref i1) (.ref i2))
    (h1 : s.heap.IsTupleIter i1 l1 k1) (h2 : s.heap.IsTupleIter i2 l2 k2) (hl1 : s.heap.IsTuple l1 xs) (hl2 : s.heap.IsTuple l2 ys) (hx : xs[k1]? = some x) (hy : ys[k2]? = some y)
    (hQ : ∀ h', IsZipHeld h' z TI TO T true → h'.IsTupleIter i1 l1 (k1 + 1) → h'.IsTupleIter i2 l2 (k2 + 1) → IsPair h' s.heap.objs.size x y → h'.objs.size = s.heap.objs.size + 1 →
      (∀ c o, c ≠ z → c ≠ i1 → c ≠ i2 → s.heap.get? c = some o → h'.get? c = some o) → Q (.ref s.heap.objs.size) { s with heap := h' }) :
    wpAny (model prog w) A (Builtin.«zip.__next__» ⟨[.ref z], []⟩) (fun fin s' => ∃ v, fin = .done (.ret v) ∧ Q v s') E s := by
  show wpAny _ _ (field (.ref z) 2 >>= _) _ _ _
  refine wpAny_bind (wpAny_field hz rfl (x := .bool false) rfl ?_)
  show wpAny _ _ (field (.ref z) 3 >>= _) _ _ _
  refine wpAny_bind (wpAny_field hz rfl (x := .ref TI) rfl ?_)
  refine wpAny_bind (wpAny_seqItems hTI rfl ?_)
  show wpAny _ _ (Builtin.SmallTypes.ownedTupleIsFree (.ref z) >>= _) _ _ _
  refine wpAny_bind (wpAny_tupleHeld_zip hz hT fun h₁ hz₁ hs₁ => ?_)
  simp only [Bool.false_eq_true, if_false]
  refine wpAny_bind ?_
  rw [← Array.forIn_toList]
  simp only [List.forIn_cons, List.forIn_nil]
  refine wpAny_bind (wpAny_bind (wpAny_holding ?_))
  show wpAny _ _ (Builtin.SmallTypes.nextOf (.ref i1) >>= _) _ _ _
  refine wpAny_bind (nextOf_tuple_item (s := { s with heap := h₁ }) (h1.extBut hs₁.extBut D.i1z) (hl1.extBut hs₁.extBut D.l1z) hx fun h₂ h1₂ hs₂ => wpAny_pure ?_)
  refine wpAny_pure ?_
  refine wpAny_bind (wpAny_bind (wpAny_holding ?_))
  show wpAny _ _ (Builtin.SmallTypes.nextOf (.ref i2) >>= _) _ _ _
  refine wpAny_bind (nextOf_tuple_item (s := { s with heap := h₂ }) ((h2.extBut hs₁.extBut D.i2z).extBut hs₂.extBut D.i12.symm) ((hl2.extBut hs₁.extBut D.l2z).extBut hs₂.extBut D.l2i1) hy fun h₃ h2₃ hs₃ => wpAny_pure ?_)
  refine wpAny_pure (wpAny_pure ?_)
  show wpAny _ _ (newTuple [x, y] >>= _) _ _ _
  refine wpAny_bind (wpAny_newTuple ?_)
  have hsz : h₃.objs.size = s.heap.objs.size := by rw [hs₃.1, hs₂.1, hs₁.1]
  have hz₃ : IsZipHeld h₃ z TI TO T true := hs₃.extBut _ _ D.i2z.symm (hs₂.extBut _ _ D.i1z.symm hz₁)
  have hk : ∀ c o, c ≠ z → c ≠ i1 → c ≠ i2 → s.heap.get? c = some o → h₃.get? c = some o := fun c o c1 c2 c3 e => hs₃.extBut _ _ c3 (hs₂.extBut _ _ c2 (hs₁.extBut _ _ c1 e))
  have h1₃ : h₃.IsTupleIter i1 l1 (k1 + 1) := h1₂.extBut hs₃.extBut D.i12
  refine wpAny_pure ⟨_, rfl, ?_⟩
  show Q (.ref h₃.objs.size) _
  have hp : IsPair (h₃.push { cls := .type "tuple", data := .seq #[x, y] }) h₃.objs.size x y := Heap.get?_push_size _ rfl
  have hz4 : (h₃.push { cls := .type "tuple", data := .seq #[x, y] }).objs.size = h₃.objs.size + 1 := Heap.size_push ..
  rw [hsz] at hp hz4 ⊢
  exact hQ _ (Heap.get?_push_of_some _ hz₃) (h1₃.at fun o e => Heap.get?_push_of_some _ e) (h2₃.at fun o e => Heap.get?_push_of_some _ e) hp hz4 fun c o c1 c2 c3 e => Heap.get?_push_of_some _ (hk c o c1 c2 c3 e)
theorem zipT_next_end_held {z TI TO T i1 i2 l1 l2 : Addr} {f : Bool} {oT : Obj} {k1 k2 : Nat} {xs ys : Array Value} {Q : PySem.Fin → Shared → Prop} (hh : A.handled = none) (D : ZipApart z TI TO i1 i2 l1 l2)
    (hz : IsZipHeld s.heap z TI TO T f) (hT : s.heap.get? T = some oT) (hTI : IsPair s.heap TI (.ref i1) (.ref i2))
    (h1 : s.heap.IsTupleIter i1 l1 k1) (h2 : s.heap.IsTupleIter i2 l2 k2) (hl1 : s.heap.IsTuple l1 xs) (hl2 : s.heap.IsTuple l2 ys) (hend : xs[k1]? = none ∨ ys[k2]? = none)
    (hE : ∀ h' e, (∀ c o, c ≠ z → c ≠ i1 → c ≠ i2 → s.heap.get? c = some o → h'.get? c = some o) → (∃ o, h'.get? e = some o ∧ o.cls = .type "StopIteration") → E (.ref e) { s with heap := h' }) :
    wpAny (model prog w) A (Builtin.«zip.__next__» ⟨[.ref z], []⟩) Q E s := by
  show wpAny _ _ (field (.ref z) 2 >>= _) _ _ _
  refine wpAny_bind (wpAny_field hz rfl (x := .bool false) rfl ?_)
  show wpAny _ _ (field (.ref z) 3 >>= _) _ _ _
  refine wpAny_bind (wpAny_field hz rfl (x := .ref TI) rfl ?_)
  refine wpAny_bind (wpAny_seqItems hTI rfl ?_)
  show wpAny _ _ (Builtin.SmallTypes.ownedTupleIsFree (.ref z) >>= _) _ _ _
  refine wpAny_bind (wpAny_tupleHeld_zip hz hT fun h₁ hz₁ hs₁ => ?_)
  simp only [Bool.false_eq_true, if_false]
  refine wpAny_bind ?_
  rw [← Array.forIn_toList]
  simp only [List.forIn_cons, List.forIn_nil]
  refine wpAny_bind (wpAny_bind (wpAny_holding ?_))
  show wpAny _ _ (Builtin.SmallTypes.nextOf (.ref i1) >>= _) _ _ _
  cases hx : xs[k1]? with
  | none =>
    refine wpAny_bind (nextOf_tuple_end (s := { s with heap := h₁ }) hh (h1.extBut hs₁.extBut D.i1z) (hl1.extBut hs₁.extBut D.l1z) hx fun h₂ e hs₂ he => ?_)
    exact hE h₂ e (fun c o c1 c2 _ x => hs₂ _ _ c2 (hs₁.extBut _ _ c1 x)) he
  | some x =>
    have hy : ys[k2]? = none := by rcases hend with h | h; rw [hx] at h; cases h; exact h
    refine wpAny_bind (nextOf_tuple_item (s := { s with heap := h₁ }) (h1.extBut hs₁.extBut D.i1z) (hl1.extBut hs₁.extBut D.l1z) hx fun h₂ h1₂ hs₂ => wpAny_pure ?_)
    refine wpAny_pure ?_
    refine wpAny_bind (wpAny_bind (wpAny_holding ?_))
    show wpAny _ _ (Builtin.SmallTypes.nextOf (.ref i2) >>= _) _ _ _
    refine wpAny_bind (nextOf_tuple_end (s := { s with heap := h₂ }) hh ((h2.extBut hs₁.extBut D.i2z).extBut hs₂.extBut D.i12.symm) ((hl2.extBut hs₁.extBut D.l2z).extBut hs₂.extBut D.l2i1) hy fun h₃ e hs₃ he => ?_)
    exact hE h₃ e (fun c o c1 c2 c3 x => hs₃ _ _ c3 (hs₂.extBut _ _ c2 (hs₁.extBut _ _ c1 x))) he
theorem pyNext_zipT_item_held {z TI TO T i1 i2 l1 l2 : Addr} {f : Bool} {oT : Obj} {k1 k2 : Nat} {xs ys : Array Value} {x y : Value} {Q : Option Value → Shared → Prop} (D : ZipApart z TI TO i1 i2 l1 l2)
    (hz : IsZipHeld s.heap z TI TO T f) (hT : s.heap.get? T = some oT) (hTI : IsPair s.heap TI (.ref i1) (.ref i2))
    (h1 : s.heap.IsTupleIter i1 l1 k1) (h2 : s.heap.IsTupleIter i2 l2 k2) (hl1 : s.heap.IsTuple l1 xs) (hl2 : s.heap.IsTuple l2 ys) (hx : xs[k1]? = some x) (hy : ys[k2]? = some y)
    (hQ : ∀ h', IsZipHeld h' z TI TO T true → h'.IsTupleIter i1 l1 (k1 + 1) → h'.IsTupleIter i2 l2 (k2 + 1) → IsPair h' s.heap.objs.size x y → h'.objs.size = s.heap.objs.size + 1 →
      (∀ c o, c ≠ z → c ≠ i1 → c ≠ i2 → s.heap.get? c = some o → h'.get? c = some o) → Q (some (.ref s.heap.objs.size)) { s with heap := h' }) :
    wpAny (model prog w) A (pyNext (.ref z)) Q E s := by
  have hTy : s.TypeIs (.ref z) "zip" := ⟨_, hz, rfl⟩
  unfold pyNext
  exact wpAny_bind (wpAny_attempt (wpAny_callSpecial?_slot (name := Str.ofString "__next__") hTy PySem.F.slot_zip_next
    (wpAny_call_entry PySem.F.slot_zip_next hTy PySem.F.entry_zip_next
      (zipT_next_item_held D hz hT hTI h1 h2 hl1 hl2 hx hy fun h' a1 a3 a4 a5 a6 a7 => wpAny_pure (hQ h' a1 a3 a4 a5 a6 a7)) (PySem.F.args_zip_next_1 _))))
theorem pyNext_zipT_end_held {z TI TO T i1 i2 l1 l2 : Addr} {f : Bool} {oT : Obj} {k1 k2 : Nat} {xs ys : Array Value} {Q : Option Value → Shared → Prop} (hh : A.handled = none) (D : ZipApart z TI TO i1 i2 l1 l2)
    (hz : IsZipHeld s.heap z TI TO T f) (hT : s.heap.get? T = some oT) (hTI : IsPair s.heap TI (.ref i1) (.ref i2))
    (h1 : s.heap.IsTupleIter i1 l1 k1) (h2 : s.heap.IsTupleIter i2 l2 k2) (hl1 : s.heap.IsTuple l1 xs) (hl2 : s.heap.IsTuple l2 ys) (hend : xs[k1]? = none ∨ ys[k2]? = none)
    (hQ : ∀ h', (∀ c o, c ≠ z → c ≠ i1 → c ≠ i2 → s.heap.get? c = some o → h'.get? c = some o) → Q none { s with heap := h' }) : wpAny (model prog w) A (pyNext (.ref z)) Q E s := by
  have hTy : s.TypeIs (.ref z) "zip" := ⟨_, hz, rfl⟩
  unfold pyNext
  refine wpAny_bind (wpAny_attempt (wpAny_callSpecial?_slot (name := Str.ofString "__next__") hTy PySem.F.slot_zip_next
    (wpAny_call_entry PySem.F.slot_zip_next hTy PySem.F.entry_zip_next (zipT_next_end_held hh D hz hT hTI h1 h2 hl1 hl2 hend fun h' e hk he => ?_) (PySem.F.args_zip_next_1 _))))
  obtain ⟨o, ho, hc⟩ := he
  refine wpAny_bind (wpAny_isInstance (T := "StopIteration") (b := true) ⟨o, ho, hc⟩ isSubtype_stop ?_)
  exact wpAny_pure (hQ _ hk)
/-- a zip of two tuples, i turns on; what it has given out stands -/
structure ZSt (h : Heap) (z TI TO i1 i2 l1 l2 S : Addr) (xs ys : Array Value) (i : Nat) : Prop where
  own : (IsZip h z TI TO .none ∧ ∃ a b, IsPair h TO a b) ∨ ∃ T f oT, IsZipHeld h z TI TO T f ∧ h.get? T = some oT ∧ T ≠ z ∧ T ≠ i1 ∧ T ≠ i2 ∧ T ≠ S
  ti : IsPair h TI (.ref i1) (.ref i2)
  t1 : h.IsTupleIter i1 l1 i
  t2 : h.IsTupleIter i2 l2 i
  l1 : h.IsTuple l1 xs
  l2 : h.IsTuple l2 ys
variable {z TI TO i1 i2 l1 l2 S : Addr} {xs ys : Array Value} {i : Nat}
theorem ZSt.keep {h h' : Heap} (Z : ZSt h z TI TO i1 i2 l1 l2 S xs ys i) (k : ∀ b o, b ≠ S → h.get? b = some o → h'.get? b = some o) (nz : z ≠ S) (nTI : TI ≠ S) (nTO : TO ≠ S) (n1 : i1 ≠ S) (n2 : i2 ≠ S) (m1 : l1 ≠ S) (m2 : l2 ≠ S) : ZSt h' z TI TO i1 i2 l1 l2 S xs ys i where
  own := by
    rcases Z.own with ⟨h1, a, b, h2⟩ | ⟨T, f, oT, h1, h2, h3, h4, h5, h6⟩
    · exact .inl ⟨k _ _ nz h1, a, b, k _ _ nTO h2⟩
    · exact .inr ⟨T, f, oT, k _ _ nz h1, k _ _ h6 h2, h3, h4, h5, h6⟩
  ti := k _ _ nTI Z.ti
  t1 := Z.t1.at fun o e => k _ _ n1 e
  t2 := Z.t2.at fun o e => k _ _ n2 e
  l1 := Z.l1.at fun o e => k _ _ m1 e
  l2 := Z.l2.at fun o e => k _ _ m2 e
theorem zst_item {Q : Option Value → Shared → Prop} (D : ZipApart z TI TO i1 i2 l1 l2) (Z : ZSt s.heap z TI TO i1 i2 l1 l2 S xs ys i) (hS : S < s.heap.objs.size) (h1 : i < xs.size) (h2 : i < ys.size)
    (hQ : ∀ h', ZSt h' z TI TO i1 i2 l1 l2 S xs ys (i + 1) → h'.get? s.heap.objs.size = some { cls := .type "tuple", data := .seq #[xs[i], ys[i]] } → h'.objs.size = s.heap.objs.size + 1 →
      (∀ b o, b ≠ z → b ≠ TO → b ≠ i1 → b ≠ i2 → s.heap.get? b = some o → h'.get? b = some o) → Q (some (.ref s.heap.objs.size)) { s with heap := h' }) :
    wpAny (model prog w) A (pyNext (.ref z)) Q E s := by
  have hx : xs[i]? = some xs[i] := Array.getElem?_eq_getElem h1
  have hy : ys[i]? = some ys[i] := Array.getElem?_eq_getElem h2
  have zlt : z < s.heap.objs.size := by
    rcases Z.own with ⟨h, _⟩ | ⟨_, _, _, h, _⟩
    · exact Heap.lt_size h
    · exact Heap.lt_size h
  have i1lt : i1 < s.heap.objs.size := by obtain ⟨_, e, _⟩ := Z.t1; exact Heap.lt_size e
  have i2lt : i2 < s.heap.objs.size := by obtain ⟨_, e, _⟩ := Z.t2; exact Heap.lt_size e
  rcases Z.own with ⟨hz, a, b, hTO⟩ | ⟨T, f, oT, hz, hT, n1, n2, n3, n4⟩
  · refine pyNext_zipT_item D hz Z.ti hTO Z.t1 Z.t2 Z.l1 Z.l2 hx hy fun h' q1 q2 q3 q4 q5 q6 q7 => hQ h' ⟨?_, q7 _ _ D.TIz D.TITO D.TIi1 D.TIi2 Z.ti, q3, q4, Z.l1.at fun o e => q7 _ _ D.l1z D.l1TO D.l1i1 D.l1i2 e, Z.l2.at fun o e => q7 _ _ D.l2z D.l2TO D.l2i1 D.l2i2 e⟩ q5 q6 q7
    exact .inr ⟨s.heap.objs.size, false, _, q1, q5, Nat.ne_of_gt zlt, Nat.ne_of_gt i1lt, Nat.ne_of_gt i2lt, Nat.ne_of_gt hS⟩
  · refine pyNext_zipT_item_held D hz hT Z.ti Z.t1 Z.t2 Z.l1 Z.l2 hx hy fun h' q1 q3 q4 q5 q6 q7 => hQ h' ⟨?_, q7 _ _ D.TIz D.TIi1 D.TIi2 Z.ti, q3, q4, Z.l1.at fun o e => q7 _ _ D.l1z D.l1i1 D.l1i2 e, Z.l2.at fun o e => q7 _ _ D.l2z D.l2i1 D.l2i2 e⟩ q5 q6 fun b o c1 _ c2 c3 e => q7 b o c1 c2 c3 e
    exact .inr ⟨T, true, oT, q1, q7 _ _ n1 n2 n3 hT, n1, n2, n3, n4⟩
theorem zst_done {Q : Option Value → Shared → Prop} (hh : A.handled = none) (D : ZipApart z TI TO i1 i2 l1 l2) (Z : ZSt s.heap z TI TO i1 i2 l1 l2 S xs ys i) (he : xs[i]? = none ∨ ys[i]? = none)
    (hQ : ∀ h', (∀ b o, b ≠ z → b ≠ TO → b ≠ i1 → b ≠ i2 → s.heap.get? b = some o → h'.get? b = some o) → Q none { s with heap := h' }) : wpAny (model prog w) A (pyNext (.ref z)) Q E s := by
  rcases Z.own with ⟨hz, a, b, hTO⟩ | ⟨T, f, oT, hz, hT, _⟩
  · exact pyNext_zipT_end hh D hz Z.ti hTO Z.t1 Z.t2 Z.l1 Z.l2 he hQ
  · exact pyNext_zipT_end_held hh D hz hT Z.ti Z.t1 Z.t2 Z.l1 Z.l2 he fun h' k => hQ h' fun b o c1 _ c2 c3 e => k b o c1 c2 c3 e
/-- the pairs made, in order -/
structure ZlG (xs ys : Array Value) (lo : Addr) (h : Heap) (as : List Addr) : Prop where
  rise : as.Pairwise (· < ·)
  above : ∀ a ∈ as, lo < a
  pairs : ∀ (j : Nat) (a : Addr), as[j]? = some a → ∃ (hj : j < xs.size) (hk : j < ys.size), h.get? a = some { cls := .type "tuple", data := .seq #[xs[j], ys[j]] }
theorem ZlG.there {lo : Addr} {h : Heap} {as : List Addr} (g : ZlG xs ys lo h as) {a : Addr} (ha : a ∈ as) : a < h.objs.size := by
  obtain ⟨j, hj⟩ := List.mem_iff_getElem?.mp ha
  obtain ⟨_, _, e⟩ := g.pairs j a hj
  exact Heap.lt_size e
theorem zl_loop {R : Result → Shared → Prop} (hh : A.handled = none) (D : ZipApart z TI TO i1 i2 l1 l2) (M : Addr) (hM : z ≤ M ∧ TI ≤ M ∧ TO ≤ M ∧ i1 ≤ M ∧ i2 ≤ M ∧ l1 ≤ M ∧ l2 ≤ M ∧ S ≤ M) (nz : z ≠ S) (nTI : TI ≠ S) (nTO : TO ≠ S) (n1 : i1 ≠ S) (n2 : i2 ≠ S) (m1 : l1 ≠ S) (m2 : l2 ≠ S)
    {n : Nat} (hn1 : n ≤ xs.size) (hn2 : n ≤ ys.size) (hend : xs[n]? = none ∨ ys[n]? = none) (hn : n ≤ sizeLine) (res : Value) {h₁ : Heap}
    (hR : ∀ h' tk acc c as, (∀ b o, b ≠ S → b ≠ z → b ≠ TO → b ≠ i1 → b ≠ i2 → h₁.get? b = some o → h'.get? b = some o) → h'.get? S = some { cls := .type "list", dict := none, data := .seq acc c, slots := #[] } → as.length = n → ZlG xs ys M h' as →
      acc.toList = as.map Value.ref → R (.ok (.ret res)) { s with heap := h', toks := tk }) :
    ∀ (k i : Nat) (h : Heap) (tk c : Nat) (acc : Array Value) (as : List Addr), n - i = k → i ≤ n → ZSt h z TI TO i1 i2 l1 l2 S xs ys i → (∀ b o, b ≠ S → b ≠ z → b ≠ TO → b ≠ i1 → b ≠ i2 → h₁.get? b = some o → h.get? b = some o) →
      h.get? S = some { cls := .type "list", dict := none, data := .seq acc c, slots := #[] } → acc.toList = as.map Value.ref → as.length = i → ZlG xs ys M h as → M < h.objs.size →
      codeAny (model prog w) A (.builtin "list.extend.loop" ⟨[.ref S, .ref z, res], []⟩) R { s with heap := h, toks := tk } := by
  intro k
  induction k with
  | zero =>
    intro i h tk c acc as hk hi hst hkeep hS hacc hal hG hIs
    have hin : i = n := by omega
    subst hin
    refine codeAny_builtin PySem.F.entry_extend_loop ?_
    rw [Around.under_plainId PySem.F.plain_extend_loop _]
    show wpAny _ A.in1 (pyNext (.ref z) >>= _) _ _ _
    refine wpAny_bind (zst_done (s := { s with heap := h, toks := tk }) (A := A.in1) hh D hst hend fun h' he => ?_)
    refine wpAny_pure (hR h' tk acc c as (fun b o h1 h2 h3 h4 h5 e => he b o h2 h3 h4 h5 (hkeep b o h1 h2 h3 h4 h5 e)) (he S _ nz.symm nTO.symm n1.symm n2.symm hS) hal ⟨hG.rise, hG.above, fun j a hj => ?_⟩ hacc)
    obtain ⟨hj', hk', e3⟩ := hG.pairs j a hj
    have ha := hG.above a (List.mem_of_getElem? hj)
    have ne : ∀ q : Addr, q ≤ M → a ≠ q := fun q hq => Nat.ne_of_gt (Nat.lt_of_le_of_lt hq ha)
    exact ⟨hj', hk', he a _ (ne _ hM.1) (ne _ hM.2.2.1) (ne _ hM.2.2.2.1) (ne _ hM.2.2.2.2.1) e3⟩
  | succ k ih =>
    intro i h tk c acc as hk hi hst hkeep hS hacc hal hG hIs
    have hlt : i < n := by omega
    have hsz : acc.size = i := by rw [← Array.length_toList, hacc, List.length_map, hal]
    refine codeAny_builtin PySem.F.entry_extend_loop ?_
    rw [Around.under_plainId PySem.F.plain_extend_loop _]
    show wpAny _ A.in1 (pyNext (.ref z) >>= _) _ _ _
    refine wpAny_bind (zst_item (s := { s with heap := h, toks := tk }) D hst (Heap.lt_size hS) (by omega) (by omega) fun h' hst' ht hz hkp => ?_)
    dsimp only at ht hz hkp ⊢
    have hS' := hkp S _ nz.symm nTO.symm n1.symm n2.symm hS
    have up : ∀ b o, b ≠ S → h'.get? b = some o → (h'.update S (Obj.mapSeq (·.push (Value.ref h.objs.size)))).get? b = some o := fun b o hb e => (Heap.get?_update_other _ _ (Ne.symm hb)).trans e
    have hSl : S < h.objs.size := Heap.lt_size hS
    show wpAny _ A.in1 (updateSeq S (·.push (Value.ref h.objs.size)) >>= _) _ _ _
    refine wpAny_bind ?_
    refine wpAny_updateSeq hS' rfl (wpAny_pure ⟨plainId_quiet PySem.F.plain_extend_loop _, ih (i + 1) _ tk _ (acc.push (Value.ref h.objs.size)) (as ++ [h.objs.size]) (by omega) hlt (hst'.keep up nz nTI nTO n1 n2 m1 m2)
      (fun b o h1 h2 h3 h4 h5 e => up b o h1 (hkp b o h2 h3 h4 h5 (hkeep b o h1 h2 h3 h4 h5 e))) (Heap.get?_update_self _ hS' rfl) (by rw [Array.toList_push, hacc, List.map_append]; rfl) (by rw [List.length_append, hal]; rfl) ⟨?_, ?_, ?_⟩ ?_⟩) (by rw [hsz]; omega) (by show (acc.push (Value.ref h.objs.size)).size ≤ sizeLine + 1; rw [Array.size_push, hsz]; omega)
    · refine List.pairwise_append.mpr ⟨hG.rise, List.pairwise_singleton _ _, fun a ha b hb => ?_⟩
      rw [List.mem_singleton.mp hb]
      exact hG.there ha
    · intro a ha
      rcases List.mem_append.mp ha with ha | ha
      · exact hG.above a ha
      · rw [List.mem_singleton.mp ha]; exact hIs
    · intro j b hj
      rcases Nat.lt_trichotomy j as.length with h1 | h1 | h1
      · rw [List.getElem?_append_left h1] at hj
        obtain ⟨hj', hk', e3⟩ := hG.pairs j b hj
        have hb := hG.above b (List.mem_of_getElem? hj)
        have ne : ∀ q : Addr, q ≤ M → b ≠ q := fun q hq => Nat.ne_of_gt (Nat.lt_of_le_of_lt hq hb)
        exact ⟨hj', hk', up b _ (ne _ hM.2.2.2.2.2.2.2) (hkp b _ (ne _ hM.1) (ne _ hM.2.2.1) (ne _ hM.2.2.2.1) (ne _ hM.2.2.2.2.1) e3)⟩
      · subst h1
        have hb : h.objs.size = b := by simpa using hj
        subst hb
        exact ⟨by omega, by omega, by subst hal; exact up _ _ (Nat.ne_of_gt hSl) ht⟩
      · have hnone : (as ++ [h.objs.size])[j]? = none := List.getElem?_eq_none (by rw [List.length_append, List.length_singleton]; omega)
        rw [hnone] at hj; cases hj
    · have e : (h'.update S (Obj.mapSeq (·.push (Value.ref h.objs.size)))).get? h.objs.size = _ := up _ _ (Nat.ne_of_gt hSl) ht
      exact Nat.lt_trans hIs (Heap.lt_size e)
theorem zip_no_len : typeLookup (.type "zip") "__len__" = pure none := am_miss_of_fast (by decide +kernel)
theorem zip_no_hint : typeLookup (.type "zip") "__length_hint__" = pure none := am_miss_of_fast (by decide +kernel)
theorem zip_hint {r : Addr} (hT : s.TypeIs (.ref r) "zip") {Q : Bool → Shared → Prop} (h : Q true s) : wpAny (model prog w) A (Builtin.List.listLengthHint (.ref r)) Q E s := by
  unfold Builtin.List.listLengthHint
  refine wpAny_bind (wpAny_specialOf hT zip_no_len ?_)
  show wpAny _ _ (specialOf (Value.ref r) (Str.ofString "__length_hint__") >>= _) _ _ _
  refine wpAny_bind (wpAny_specialOf hT zip_no_hint ?_)
  exact wpAny_pure h
theorem zl_extend {R : Result → Shared → Prop} (hh : A.handled = none) (D : ZipApart z TI TO i1 i2 l1 l2) (M : Addr) (hM : z ≤ M ∧ TI ≤ M ∧ TO ≤ M ∧ i1 ≤ M ∧ i2 ≤ M ∧ l1 ≤ M ∧ l2 ≤ M ∧ S ≤ M) (nz : z ≠ S) (nTI : TI ≠ S) (nTO : TO ≠ S) (n1 : i1 ≠ S) (n2 : i2 ≠ S) (m1 : l1 ≠ S) (m2 : l2 ≠ S)
    {n : Nat} (hn1 : n ≤ xs.size) (hn2 : n ≤ ys.size) (hend : xs[n]? = none ∨ ys[n]? = none) (hn : n ≤ sizeLine) (res : Value) (c₀ : Nat) (hlt : M < s.heap.objs.size)
    (hz : IsZip s.heap z TI TO .none) (Z : ZSt s.heap z TI TO i1 i2 l1 l2 S xs ys 0) (hS : s.heap.get? S = some { cls := .type "list", data := .seq #[] c₀ })
    (hR : ∀ h' tk acc c as, (∀ b o, b ≠ S → b ≠ z → b ≠ TO → b ≠ i1 → b ≠ i2 → s.heap.get? b = some o → h'.get? b = some o) → h'.get? S = some { cls := .type "list", dict := none, data := .seq acc c, slots := #[] } → as.length = n → ZlG xs ys M h' as →
      acc.toList = as.map Value.ref → R (.ok (.ret res)) { s with heap := h', toks := tk }) :
    wpAny (model prog w) A.in1 (Builtin.List.listExtendWith (.ref S) (.ref z) res)
      (fun fin s' => match fin with | .done f => R (.ok f) s' | .again c' => c'.quiet = true ∧ codeAny (model prog w) A c' R s') (fun e s' => R (.error e) s') s := by
  have hT : s.TypeIs (.ref z) "zip" := ⟨_, hz, rfl⟩
  unfold Builtin.List.listExtendWith
  refine wpAny_bind (wpAny_typeOf (T := "zip") hT ?_)
  have h1 : Builtin.List.listSameRef (.ref S) (.ref z) = false := by simp [Builtin.List.listSameRef, nz.symm]
  have h2 : (Value.type "zip" == Value.type "list") = false := by decide
  have h3 : (Value.type "zip" == Value.type "tuple") = false := by decide
  simp only [h1, h2, h3, Bool.or_false, Bool.false_eq_true, if_false]
  refine wpAny_bind (wpAny_pyIter_zip hz ?_)
  refine wpAny_bind (wpAny_holding (zip_hint hT ?_))
  refine wpAny_ite_split (fun _ => ?_) (fun hab => absurd rfl hab)
  refine wpAny_bind (wpAny_rule ?_)
  refine wpAny_bind ?_
  show wpAny _ _ (updateSeq S (·.push .none) >>= fun _ => updateSeq S (·.pop)) _ _ _
  refine wpAny_bind (wpAny_updateSeq hS rfl ?_)
  have hS₂ := Heap.get?_update_self (Obj.mapSeq (·.push Value.none)) hS rfl
  refine wpAny_updateSeq (hz := by seq_fits) hS₂ rfl ?_
  have hS₃ := Heap.get?_update_self (Obj.mapSeq (·.pop)) hS₂ rfl
  have oth : ∀ b o, b ≠ S → s.heap.get? b = some o → ((s.heap.update S (Obj.mapSeq (·.push Value.none))).update S (Obj.mapSeq (·.pop))).get? b = some o :=
    fun b o hb e => (Heap.get?_update_other _ _ (Ne.symm hb)).trans ((Heap.get?_update_other _ _ (Ne.symm hb)).trans e)
  refine wpAny_pure ⟨plainId_quiet PySem.F.plain_extend_loop _, ?_⟩
  refine zl_loop (s := s) (h₁ := s.heap) hh D M hM nz nTI nTO n1 n2 m1 m2 hn1 hn2 hend hn res hR n 0 _ s.toks _ #[] [] rfl (Nat.zero_le _) (Z.keep oth nz nTI nTO n1 n2 m1 m2) (fun b o h1 _ _ _ _ e => oth b o h1 e) hS₃ rfl rfl
    ⟨List.Pairwise.nil, (fun _ ha => nomatch ha), (fun j a hj => by simp at hj)⟩ ?_
  rw [Heap.size_update, Heap.size_update]
  exact hlt
theorem zl_call {Q : Value → Shared → Prop} (hh : A.handled = none) (D : ZipApart z TI TO i1 i2 l1 l2) {n : Nat} (hn1 : n ≤ xs.size) (hn2 : n ≤ ys.size) (hend : xs[n]? = none ∨ ys[n]? = none) (hn : n ≤ sizeLine)
    (hz : IsZip s.heap z TI TO .none) (hTI : IsPair s.heap TI (.ref i1) (.ref i2)) (hTO : IsPair s.heap TO .none .none) (t1 : s.heap.IsTupleIter i1 l1 0) (t2 : s.heap.IsTupleIter i2 l2 0) (q1 : s.heap.IsTuple l1 xs) (q2 : s.heap.IsTuple l2 ys)
    (hQ : ∀ h' tk acc c as, (∀ b o, b ≠ z → b ≠ TO → b ≠ i1 → b ≠ i2 → s.heap.get? b = some o → h'.get? b = some o) → h'.get? s.heap.objs.size = some { cls := .type "list", dict := none, data := .seq acc c, slots := #[] } → as.length = n → ZlG xs ys s.heap.objs.size h' as →
      acc.toList = as.map Value.ref → Q (.ref s.heap.objs.size) { s with heap := h', toks := tk }) :
    wpAny (model prog w) A (call (.type "list") [.ref z]) Q E s := by
  refine callType_codes (Q₁ := fun obj s₁ => obj = .ref s.heap.objs.size ∧ s₁ = { s with heap := s.heap.push { cls := .type "list", data := .seq #[] } }) PySem.F.called_list (PySem.F.typeCall_list_1 _) PySem.F.entry_list_init
    (code_list_new _ ⟨rfl, rfl⟩) fun obj s₁ h₁ => ?_
  obtain ⟨rfl, rfl⟩ := h₁
  have hS : (s.heap.push { cls := .type "list", data := .seq #[] }).get? s.heap.objs.size = some { cls := .type "list", data := .seq #[] } := Heap.get?_push_size _ rfl
  have lz : z < s.heap.objs.size := Heap.lt_size hz
  have lTI : TI < s.heap.objs.size := Heap.lt_size hTI
  have lTO : TO < s.heap.objs.size := Heap.lt_size hTO
  have li1 : i1 < s.heap.objs.size := by obtain ⟨_, e, _⟩ := t1; exact Heap.lt_size e
  have li2 : i2 < s.heap.objs.size := by obtain ⟨_, e, _⟩ := t2; exact Heap.lt_size e
  have ll1 : l1 < s.heap.objs.size := by obtain ⟨_, e, _⟩ := q1; exact Heap.lt_size e
  have ll2 : l2 < s.heap.objs.size := by obtain ⟨_, e, _⟩ := q2; exact Heap.lt_size e
  refine ⟨⟨_, hS, rfl⟩, PySem.F.args_list_init_2 _ _, ?_⟩
  show wpAny _ _ (do let old ← Builtin.List.listItems (.ref s.heap.objs.size); Builtin.List.listUpdate (.ref s.heap.objs.size) (fun _ => #[]); letGo old.toList.reverse; Builtin.List.listExtendWith (.ref s.heap.objs.size) (.ref z) .none) _ _ _
  refine wpAny_bind ?_
  unfold Builtin.List.listItems
  refine wpAny_bind (wpAny_seqItems hS rfl (wpAny_pure ?_))
  show wpAny _ _ (updateSeq s.heap.objs.size (fun _ => #[]) >>= fun _ => letGo (#[] : Array Value).toList.reverse >>= fun _ => Builtin.List.listExtendWith (.ref s.heap.objs.size) (.ref z) .none) _ _ _
  refine wpAny_bind (wpAny_updateSeq hS rfl ?_)
  have hS₂ := Heap.get?_update_self (Obj.mapSeq (fun _ => (#[] : Array Value))) hS rfl
  have oth : ∀ b o, s.heap.get? b = some o → ((s.heap.push { cls := .type "list", data := .seq #[] }).update s.heap.objs.size (Obj.mapSeq (fun _ => (#[] : Array Value)))).get? b = some o :=
    fun b o e => (Heap.get?_update_other _ _ (Nat.ne_of_gt (Heap.lt_size e))).trans (Heap.get?_push_of_some _ e)
  refine wpAny_bind (wpAny_letGo ?_)
  have ne : ∀ q : Addr, q < s.heap.objs.size → q ≠ s.heap.objs.size := fun q h => Nat.ne_of_lt h
  refine zl_extend (A := A.in1) (s := { s with heap := (s.heap.push { cls := .type "list", data := .seq #[] }).update s.heap.objs.size (Obj.mapSeq (fun _ => (#[] : Array Value))) }) hh D s.heap.objs.size ⟨Nat.le_of_lt lz, Nat.le_of_lt lTI, Nat.le_of_lt lTO, Nat.le_of_lt li1, Nat.le_of_lt li2, Nat.le_of_lt ll1, Nat.le_of_lt ll2, Nat.le_refl _⟩ (ne _ lz) (ne _ lTI) (ne _ lTO) (ne _ li1) (ne _ li2) (ne _ ll1) (ne _ ll2) hn1 hn2 hend hn .none _ ?_ (oth _ _ hz)
    ⟨.inl ⟨oth _ _ hz, _, _, oth _ _ hTO⟩, oth _ _ hTI, t1.at fun o e => oth _ _ e, t2.at fun o e => oth _ _ e, q1.at fun o e => oth _ _ e, q2.at fun o e => oth _ _ e⟩ hS₂ fun h' tk acc c as hk hS' hl hG hacc => ?_
  · show s.heap.objs.size < Array.size _
    rw [Heap.size_update, Heap.size_push]
    exact Nat.lt_succ_self _
  · exact ⟨rfl, hQ h' tk acc c as (fun b o c1 c2 c3 c4 e => hk b o (Nat.ne_of_lt (Heap.lt_size e)) c1 c2 c3 c4 (oth b o e)) hS' hl hG hacc⟩
end
/-! ### many new pairs at once -/
def pairO (x y : Value) : Obj := { cls := .type "tuple", data := .seq #[x, y] }
abbrev PrT := Addr × (Value × Value) × (V × V)
def PrT.ob (p : PrT) : HO := .frz (pairO p.2.1.1 p.2.1.2) (.tup [p.2.2.1, p.2.2.2])
def layT (H : Hp) : List PrT → Hp
  | [] => H
  | p :: r => layT (upd H p.1 p.ob) r
theorem layT_ne {b : Addr} : ∀ {ps : List PrT} {H : Hp}, b ∉ ps.map (·.1) → layT H ps b = H b
  | [], _, _ => rfl
  | p :: ps, H, h => by
    rw [List.map_cons, List.mem_cons, not_or] at h
    show layT (upd H p.1 p.ob) ps b = _
    rw [layT_ne h.2, upd_ne h.1]
section
variable {X : Cx} {pins : List (Addr × Obj)} {σ : L2.St} {s : Shared} {h' : Heap} {t : Nat}
theorem inv_many : ∀ (ps : List PrT) (H : Hp) (G : Heap), Inv X pins σ H { s with heap := G, toks := t } → (∀ b o, G.get? b = some o → h'.get? b = some o) →
    (∀ p ∈ ps, G.get? p.1 = none ∧ H p.1 = none ∧ h'.get? p.1 = some (pairO p.2.1.1 p.2.1.2) ∧ RelV p.2.2.1 p.2.1.1 ∧ RelV p.2.2.2 p.2.1.2) → (ps.map (·.1)).Nodup →
    ∃ G' : Heap, Inv X pins σ (layT H ps) { s with heap := G', toks := t } ∧ (∀ b o, G'.get? b = some o → h'.get? b = some o) ∧ ∀ b, b ∉ ps.map (·.1) → G.get? b = none → G'.get? b = none
  | [], H, G, I, k, _, _ => ⟨G, I, k, fun _ _ e => e⟩
  | p :: ps, H, G, I, k, hp, nd => by
    obtain ⟨g0, H0, e0, r1, r2⟩ := hp p (by simp)
    rw [List.map_cons, List.nodup_cons] at nd
    obtain ⟨G1, a1, a2⟩ := restrict h' fun b => (G.get? b).isSome || b == p.1
    have kG : ∀ b u, G.get? b = some u → G1.get? b = some u := fun b u e => by
      rw [a1 b (by rw [e] <;> rfl)]
      exact k b u e
    have eG : G1.get? p.1 = some (pairO p.2.1.1 p.2.1.2) := by
      rw [a1 p.1 (by simp)]
      exact e0
    have kG1 : ∀ b o, G1.get? b = some o → h'.get? b = some o := fun b o e => by
      cases q : ((G.get? b).isSome || b == p.1) with
      | true => rw [← a1 b q]; exact e
      | false => rw [a2 b q] at e; cases e
    have ok : ObjOk X.prog X.w (upd H p.1 p.ob) G1 p.1 p.ob := by
      refine ⟨eG, ?_, [p.2.1.1, p.2.1.2], .cons r1 (.cons r2 .nil), ⟨_, eG, rfl, 0, rfl⟩⟩
      rw [sizeLine_eq]
      exact (by decide : 2 ≤ 16777216)
    have I1 : Inv X pins σ (upd H p.1 p.ob) { s with heap := G1, toks := t } := Inv.laidN (s := { s with heap := G, toks := t }) (t' := t) I kG g0 H0 ok
    obtain ⟨G', I', k', n'⟩ := inv_many ps (upd H p.1 p.ob) G1 I1 kG1 (fun q hq => by
      obtain ⟨c0, C0, f0, s1, s2⟩ := hp q (by simp [hq])
      have hne : q.1 ≠ p.1 := fun z => nd.1 (by rw [← z]; exact List.mem_map_of_mem hq)
      refine ⟨a2 _ ?_, by rw [upd_ne hne]; exact C0, f0, s1, s2⟩
      rw [c0]
      simpa using hne) nd.2
    refine ⟨G', I', k', fun b hb hg => ?_⟩
    rw [List.map_cons, List.mem_cons, not_or] at hb
    refine n' b hb.2 (a2 b ?_)
    rw [hg]
    simpa using hb.1
end
theorem sim_many {K : PySem.W.Frag} {ι : List Addr} {st : Sto} : ∀ (ps : List PrT) (F H : Hp), Sim K F ι st H → (∀ p ∈ ps, H p.1 = none) → (ps.map (·.1)).Nodup → ∃ F', Ext F ι H F' ι (layT H ps) ∧ Sim K F' ι st (layT H ps) ∧ ∀ p ∈ ps, F' p.1 = some p.ob
  | [], F, H, S, _, _ => ⟨F, Ext.refl, S, fun _ h => nomatch h⟩
  | p :: ps, F, H, S, hp, nd => by
    rw [List.map_cons, List.nodup_cons] at nd
    have h0 := hp p (by simp)
    have x1 : Ext F ι H (upd F p.1 p.ob) ι (upd H p.1 p.ob) := Ext.frozen h0 S.sub
    have S1 : Sim K (upd F p.1 p.ob) ι st (upd H p.1 p.ob) := S.frozen h0 trivial
    obtain ⟨F', x2, S2, e2⟩ := sim_many ps _ _ S1 (fun q hq => by
      have hne : q.1 ≠ p.1 := fun z => nd.1 (by rw [← z]; exact List.mem_map_of_mem hq)
      rw [upd_ne hne]
      exact hp q (by simp [hq])) nd.2
    refine ⟨F', x1.trans x2, S2, fun q hq => ?_⟩
    rcases List.mem_cons.mp hq with rfl | hq
    · exact x2.f _ _ upd_same
    · exact e2 q hq
/-! ### list(zip(a, b)) -/
def tLstZip (K : PySem.W.Frag) (ta : TA) : TE := fun σ H Q => ta σ H fun vs H1 => ∃ (a b : Addr) (xs ys : List V), vs = [.ref a, .ref b] ∧ SqT K H1 a xs ∧ SqT K H1 b ys ∧ min xs.length ys.length ≤ 100000 ∧
  ∀ (S : Addr) (ps : List PrT), H1 S = none → (∀ p ∈ ps, H1 p.1 = none) → (S :: ps.map (·.1)).Nodup → ps.map (·.2.2) = xs.zip ys → Q (.ref S) (upd (layT H1 ps) S (.lst (ps.map fun p => V.ref p.1)))
theorem vals_refsA : ∀ as : List Addr, Vals (as.map V.ref) (as.map Value.ref)
  | [] => .nil
  | a :: as => .cons rfl (vals_refsA as)
theorem vals_at : ∀ {xs : List V} {us : List Value} {j : Nat} (h : j < xs.length) (h' : j < us.length), Vals xs us → RelV xs[j] us[j]
  | x :: xs, u :: us, 0, _, _, .cons r _ => r
  | x :: xs, u :: us, j + 1, h, h', .cons _ t => vals_at (xs := xs) (us := us) (by simpa using h) (by simpa using h') t
section
variable {X : Cx} {W : WX} {p p2 pos pos2 : Pos} {a b : Expr} {ta : TA} {m1 m2 : Rho → M D}
theorem pe_lstZip (hc : X.calm = true) (hg : Gl X "list") (hm : X.mg "list" = none) (hg2 : Gl X "zip") (hm2 : X.mg "zip" = none) (ha : PA X [a, b] ta)
    (hs : starEach [a, b] X.env = (false, eval a X.env) :: starEach [b] X.env := by rfl) (hpl : (backTo pos2 (starEach [b] X.env)).any (·.1) = false := by rfl)
    (nr : starEach [.Call (.Name "zip" p2) [a, b] [] pos2] X.env = (false, eval (.Call (.Name "zip" p2) [a, b] [] pos2) X.env) :: starEach [] X.env := by rfl) :
    PE X (.Call (.Name "list" p) [.Call (.Name "zip" p2) [a, b] [] pos2] [] pos) (tLstZip X.K ta) := by
  refine ⟨fun pins s σ H Q I h => ?_⟩
  have hzip : wpAny (model X.prog X.w) X.A (eval (.Call (.Name "zip" p2) [a, b] [] pos2) X.env) (fun u s2 => ∃ (s1 : Shared) (H1 : Hp) (l1 l2 : Addr) (xs ys : List V) (its its2 : List Value), u = .ref (s1.heap.objs.size + 4) ∧ Inv X pins σ H1 s1 ∧ s2 = { s1 with heap := s2.heap } ∧ Vals xs its ∧ Vals ys its2 ∧
      l1 < s1.heap.objs.size ∧ l2 < s1.heap.objs.size ∧ s1.heap.IsTuple l1 its.toArray ∧ s1.heap.IsTuple l2 its2.toArray ∧
      IsZip s2.heap (s1.heap.objs.size + 4) (s1.heap.objs.size + 2) (s1.heap.objs.size + 3) .none ∧ IsPair s2.heap (s1.heap.objs.size + 2) (.ref s1.heap.objs.size) (.ref (s1.heap.objs.size + 1)) ∧ IsPair s2.heap (s1.heap.objs.size + 3) .none .none ∧
      s2.heap.IsTupleIter s1.heap.objs.size l1 0 ∧ s2.heap.IsTupleIter (s1.heap.objs.size + 1) l2 0 ∧ s2.heap.objs.size = s1.heap.objs.size + 5 ∧ (∀ c o, s1.heap.get? c = some o → s2.heap.get? c = some o) ∧ min xs.length ys.length ≤ 100000 ∧
      ∀ (S : Addr) (ps : List PrT), H1 S = none → (∀ p ∈ ps, H1 p.1 = none) → (S :: ps.map (·.1)).Nodup → ps.map (·.2.2) = xs.zip ys → Q (.ref S) (upd (layT H1 ps) S (.lst (ps.map fun p => V.ref p.1)))) X.xe s := by
    refine Call_ (ld_blt I hg2 hm2 PyProof.Rows.boot_zip (PyProof.Rows.callWith_type1 (thn (ha.run pos2 pins s σ H _ I h) fun us s1 ⟨vs, H1, I1, r1, q1⟩ => ?_) hs hpl))
    obtain ⟨l1, l2, xs, ys, ex, hqx, hqy, hz, q⟩ := q1
    subst ex
    cases r1 with
    | cons r rr =>
      cases rr with
      | cons r' rr =>
        cases rr
        cases r
        cases r'
        obtain ⟨its, rv, p1, _⟩ := I1.tuple hqx
        obtain ⟨its2, rv2, p2', _⟩ := I1.tuple hqy
        obtain ⟨o1, ho1, _⟩ := id p1
        obtain ⟨o2, ho2, _⟩ := id p2'
        exact RZ.call_zipT (show s1.heap.IsTuple l1 its.toArray from p1) (show s1.heap.IsTuple l2 its2.toArray from p2') fun h' hz' hTI hTO t1 t2 hsz hk => ⟨s1, H1, l1, l2, xs, ys, its, its2, rfl, I1, rfl, rv, rv2, Heap.lt_size ho1, Heap.lt_size ho2, p1, p2', hz', hTI, hTO, t1, t2, hsz, hk, hz, q⟩
  refine Call_ (ld_blt I hg hm boot_list (PyProof.Rows.callWith_type1 (args_cons (thn hzip fun u s2 hh => args_nil ?_) nr) nr))
  obtain ⟨s1, H1, l1, l2, xs, ys, its, its2, rfl, I1, es, rv, rv2, b1, b2, p1, p2', hz, hTI, hTO, t1, t2, hsz, hk, hn, q⟩ := hh
  have e1 := rv.length
  have e2 := rv2.length
  have hd : X.A.handled = none := I1.ok.hd hc
  have hsl : (100000 : Nat) ≤ sizeLine := by rw [sizeLine_eq]; decide
  refine zl_call (n := min its.length its2.length) hd (PySem.W.ktu_apart s1.heap.objs.size l1 l2 b1 b2) (by simp; omega) (by simp; omega) ?_ (by omega) hz hTI hTO t1 t2 (p1.at fun o e => hk _ _ e) (p2'.at fun o e => hk _ _ e) fun h' tk acc c as hk' hS hl hG hacc => ?_
  · rcases Nat.le_total its.length its2.length with hle | hle
    · left
      rw [Nat.min_eq_left hle]
      simp
    · right
      rw [Nat.min_eq_right hle]
      simp
  have hsub : ∀ b o, s1.heap.get? b = some o → h'.get? b = some o := fun b o e => by
    have := Heap.lt_size e
    exact hk' b o (Nat.ne_of_lt (Nat.lt_add_right _ this)) (Nat.ne_of_lt (Nat.lt_add_right _ this)) (Nat.ne_of_lt this) (Nat.ne_of_lt (Nat.lt_add_right _ this)) (hk b o e)
  have hidx : ∀ j, j < as.length → j < its.length ∧ j < its2.length := fun j hj => by omega
  let ps : List PrT := (List.range as.length).map fun j => (as.getD j 0, (its.getD j .none, its2.getD j .none), (xs.getD j .non, ys.getD j .non))
  have hps1 : ps.map (·.1) = as := by
    show ((List.range as.length).map _).map _ = as
    rw [List.map_map]
    apply List.ext_getElem?
    intro j
    rw [List.getElem?_map]
    by_cases hj : j < as.length
    · rw [List.getElem?_range hj, List.getElem?_eq_getElem hj]
      simp [List.getD_eq_getElem?_getD, List.getElem?_eq_getElem hj]
    · rw [List.getElem?_eq_none (by simpa using hj), List.getElem?_eq_none (by omega)] <;> rfl
  have hps2 : ps.map (·.2.2) = xs.zip ys := by
    show ((List.range as.length).map _).map _ = _
    rw [List.map_map]
    apply List.ext_getElem?
    intro j
    rw [List.getElem?_map]
    by_cases hj : j < as.length
    · have := hidx j hj
      rw [List.getElem?_range hj, List.zip, List.getElem?_zipWith, List.getElem?_eq_getElem (show j < xs.length by omega), List.getElem?_eq_getElem (show j < ys.length by omega)]
      simp [List.getD_eq_getElem?_getD, List.getElem?_eq_getElem (show j < xs.length by omega), List.getElem?_eq_getElem (show j < ys.length by omega)]
    · rw [List.getElem?_eq_none (by simpa using hj), List.getElem?_eq_none (by rw [List.length_zip]; omega)] <;> rfl
  have habove : ∀ a ∈ as, s2.heap.objs.size < a := hG.above
  have hnone : ∀ a ∈ as, s1.heap.get? a = none ∧ H1 a = none := fun a ha => by
    have h1 := habove a ha
    have h2 : s1.heap.objs.size ≤ a := by rw [hsz] at h1; exact Nat.le_of_lt (Nat.lt_of_le_of_lt (Nat.le_add_right _ _) h1)
    refine ⟨?_, I1.hok.fresh h2⟩
    cases e : s1.heap.get? a with
    | none => rfl
    | some o => exact absurd (Heap.lt_size e) (Nat.not_lt.mpr h2)
  have hnd : as.Nodup := hG.rise.imp fun h => Nat.ne_of_lt h
  have hS0 : s1.heap.objs.size ≤ s2.heap.objs.size := by rw [hsz]; exact Nat.le_add_right _ _
  have hHS : H1 s2.heap.objs.size = none := I1.hok.fresh hS0
  have hgS : s1.heap.get? s2.heap.objs.size = none := by
    cases e : s1.heap.get? s2.heap.objs.size with
    | none => rfl
    | some o => exact absurd (Heap.lt_size e) (Nat.not_lt.mpr hS0)
  have hSas : s2.heap.objs.size ∉ as := fun hm => Nat.lt_irrefl _ (habove _ hm)
  obtain ⟨G', I', k', n'⟩ := inv_many (t := tk) (h' := h') ps H1 s1.heap (I1.tok tk) hsub (fun pr hpr => by
    obtain ⟨j, hj, rfl⟩ := List.mem_map.mp hpr
    have hj := List.mem_range.mp hj
    have hi := hidx j hj
    have ha : as.getD j 0 ∈ as := by
      rw [List.getD_eq_getElem?_getD, List.getElem?_eq_getElem hj]
      exact List.getElem_mem hj
    have hn2 := hnone _ ha
    obtain ⟨g1, g2, g3⟩ := hG.pairs j (as.getD j 0) (by rw [List.getD_eq_getElem?_getD, List.getElem?_eq_getElem hj] <;> rfl)
    refine ⟨hn2.1, hn2.2, ?_, ?_, ?_⟩
    · show h'.get? (as.getD j 0) = some (pairO (its.getD j .none) (its2.getD j .none))
      rw [g3]
      unfold pairO
      simp [List.getD_eq_getElem?_getD, List.getElem?_eq_getElem hi.1, List.getElem?_eq_getElem hi.2]
    · show RelV (xs.getD j .non) (its.getD j .none)
      rw [List.getD_eq_getElem?_getD, List.getD_eq_getElem?_getD, List.getElem?_eq_getElem hi.1, List.getElem?_eq_getElem (show j < xs.length by omega)]
      exact vals_at _ _ rv
    · show RelV (ys.getD j .non) (its2.getD j .none)
      rw [List.getD_eq_getElem?_getD, List.getD_eq_getElem?_getD, List.getElem?_eq_getElem hi.2, List.getElem?_eq_getElem (show j < ys.length by omega)]
      exact vals_at _ _ rv2) (by rw [hps1]; exact hnd)
  have hlay : layT H1 ps s2.heap.objs.size = none := by rw [layT_ne (by rw [hps1]; exact hSas)]; exact hHS
  have hok : ObjOk X.prog X.w (upd (layT H1 ps) s2.heap.objs.size (.lst (ps.map fun p => V.ref p.1))) h' s2.heap.objs.size (.lst (ps.map fun p => V.ref p.1)) := by
    refine ⟨by rw [List.length_map]; show ((List.range as.length).map _).length ≤ _; rw [List.length_map, List.length_range]; omega, acc.toList, c, ?_, by rw [Array.toArray_toList]; exact hS⟩
    rw [hacc]
    have e3 : (ps.map fun p => V.ref p.1) = as.map V.ref := by
      have := congrArg (List.map V.ref) hps1
      rw [List.map_map] at this
      exact this
    rw [e3]
    exact vals_refsA as
  have I2 := Inv.laidN (t' := tk) I' k' (n' _ (by rw [hps1]; exact hSas) hgS) hlay hok
  rw [es]
  refine ⟨.ref s2.heap.objs.size, _, I2, rfl, q _ ps hHS (fun pr hpr => ?_) ?_ hps2⟩
  · exact (hnone pr.1 (by rw [← hps1]; exact List.mem_map_of_mem hpr)).2
  · rw [hps1]
    exact List.nodup_cons.mpr ⟨hSas, hnd⟩
def zipTD (xs ys : List D) : List D := (xs.zip ys).map fun p => .tup [p.1, p.2]
def lLstZip (m1 m2 : Rho → M D) : Rho → M (List D) := fun ρ st => (m1 ρ st).bind fun d1 st1 => (m2 ρ st1).bind fun d2 st2 => match d1, d2 with
  | .tup xs, .tup ys => if min xs.length ys.length ≤ 100000 then .ok (zipTD xs ys) st2 else .bad
  | _, _ => .bad
theorem reps_zip {K : PySem.W.Frag} {F : Hp} {ι : List Addr} : ∀ {ds es : List D} {xs ys : List V} {ps : List PrT}, Reps K F ι ds xs → Reps K F ι es ys → ps.map (·.2.2) = xs.zip ys → (∀ p ∈ ps, F p.1 = some p.ob) → Reps K F ι (zipTD ds es) (ps.map fun p => V.ref p.1)
  | [], es, xs, ys, ps, r1, r2, e, h => by
    have : xs = [] := by simpa only [Reps] using r1
    subst this
    rw [List.zip_nil_left] at e
    rw [List.map_eq_nil_iff.mp e]
    exact Reps.nil
  | d :: ds, [], xs, ys, ps, r1, r2, e, h => by
    have : ys = [] := by simpa only [Reps] using r2
    subst this
    rw [List.zip_nil_right] at e
    rw [List.map_eq_nil_iff.mp e]
    exact Reps.nil
  | d :: ds, f :: es, xs, ys, ps, r1, r2, e, h => by
    simp only [Reps] at r1 r2
    obtain ⟨x, xs', rfl, d1, r1⟩ := r1
    obtain ⟨y, ys', rfl, d2, r2⟩ := r2
    match ps, e, h with
    | [], e, _ => simp at e
    | pr :: ps, e, h =>
      rw [List.map_cons, List.zip_cons_cons] at e
      injection e with e1 e2
      have hp := h pr (by simp)
      refine Reps.cons ?_ (reps_zip r1 r2 e2 fun q hq => h q (by simp [hq]))
      simp only [Rep]
      refine ⟨pr.1, [x, y], rfl, .inl ⟨pairO pr.2.1.1 pr.2.1.2, rfl, ?_⟩, Reps.cons d1 (Reps.cons d2 Reps.nil)⟩
      rw [hp]
      unfold PrT.ob
      rw [e1]
theorem dl_lstZip (hc : X.calm = true) (hg : Gl X "list") (hm : X.mg "list" = none) (hg2 : Gl X "zip") (hm2 : X.mg "zip" = none) (ha : DE X W a m1) (hb : DE X W b m2)
    (hs : starEach [a, b] X.env = (false, eval a X.env) :: starEach [b] X.env := by rfl) (hs2 : starEach [b] X.env = (false, eval b X.env) :: starEach [] X.env := by rfl) (hpl : (backTo pos2 (starEach [b] X.env)).any (·.1) = false := by rfl)
    (nr : starEach [.Call (.Name "zip" p2) [a, b] [] pos2] X.env = (false, eval (.Call (.Name "zip" p2) [a, b] [] pos2) X.env) :: starEach [] X.env := by rfl) :
    DL X W (.Call (.Name "list" p) [.Call (.Name "zip" p2) [a, b] [] pos2] [] pos) (lLstZip m1 m2) := by
  refine PE.weak (pe_lstZip hc hg hm hg2 hm2 (pa_cons ha (pa_cons hb pa_nil hs2) hs) hs hpl nr) fun σ H Q ⟨F, ι, ρ, st, S, R, q⟩ => ?_
  refine tG_seq back_L S R q fun d1 st1 F1 ι1 H1 v x1 S1 R1 r1 q1 => ?_
  refine tG_seq back_L S1 R1 q1 fun d2 st2 F2 ι2 H2 w x2 S2 R2 r2 q2 => ?_
  split at q2
  rotate_left
  · exact (q2 : False).elim
  rename_i ds es
  split at q2
  rotate_left
  · exact (q2 : False).elim
  rename_i hz
  have r1' : Rep X.K F2 ι2 (.tup ds) v := Rep.ext r1 x2
  have r2' : Rep X.K F2 ι2 (.tup es) w := r2
  simp only [Rep] at r1' r2'
  obtain ⟨l1, xs, rfl, s1, t1⟩ := r1'
  obtain ⟨l2, ys, rfl, s2, t2⟩ := r2'
  refine ⟨l1, l2, xs, ys, rfl, S2.sqT s1, S2.sqT s2, by rw [← t1.length, ← t2.length]; exact hz, fun T ps hT hps nd e => ?_⟩
  rw [List.nodup_cons] at nd
  obtain ⟨F', x3, S3, eF⟩ := sim_many ps F2 H2 S2 hps nd.2
  have hT' : layT H2 ps T = none := by rw [layT_ne nd.1]; exact hT
  have rz : Reps X.K F' ι2 (zipTD ds es) (ps.map fun p => V.ref p.1) := reps_zip (t1.ext x3) (t2.ext x3) e eF
  exact q2 F' ι2 _ _ (x3.trans (Ext.laid hT')) (S3.laid hT') (back_L _ _ _ _ _ _ _ (fun z hz => x3.there z hz) (pL_new S3 hT' rz))
end
end Dn
/-! DnSg: instances of own classes: fields, methods, making. -/
namespace Dn
open PySem PySem.Spec PyProof.Rows L2
/-! ### fields -/
def putD (f : Str) (d : D) : List (Str × D) → List (Str × D)
  | [] => [(f, d)]
  | (g, x) :: r => if g = f then (g, d) :: r else (g, x) :: putD f d r
/-- the fields of an instance of the class nm -/
def insOf (nm : Str) (st : Sto) : D → Option (List (Str × D))
  | .obj n ks xs => if n = nm then some (ks.zip xs) else none
  | .ref l => match st[l]? with
    | some (.ins n fs) => if n = nm then some fs else none
    | _ => none
  | _ => none
section
variable {K : PySem.W.Frag} {F H : Hp} {ι : List Addr} {st : Sto}
theorem RepF.look {fs : List (Str × D)} {gs : List (Str × V)} (h : RepF K F ι fs gs) (f : Str) : (∀ d, fs.lookup f = some d → ∃ v, gs.lookup f = some v ∧ Rep K F ι d v) ∧ (fs.lookup f = none → gs.lookup f = none) := by
  induction h with
  | nil => exact ⟨fun d e => by simp at e, fun _ => rfl⟩
  | @cons p q l1 l2 a b ih =>
    obtain ⟨k, d⟩ := p
    obtain ⟨k', v⟩ := q
    obtain rfl : k = k' := a.1
    by_cases e : f = k
    · subst e
      refine ⟨fun d' z => ?_, fun z => ?_⟩
      · rw [List.lookup_cons_self] at z ⊢
        cases z
        exact ⟨v, rfl, a.2⟩
      · rw [List.lookup_cons_self] at z; cases z
    · have hb : (f == k) = false := by simpa using e
      simp only [List.lookup, hb]
      exact ih
theorem RepF.put {fs : List (Str × D)} {gs : List (Str × V)} {f : Str} {d : D} {v : V} (h : RepF K F ι fs gs) (r : Rep K F ι d v) : RepF K F ι (putD f d fs) (putF f v gs) := by
  induction h with
  | nil => exact .cons ⟨rfl, r⟩ .nil
  | @cons p q l1 l2 a b ih =>
    obtain ⟨k, d0⟩ := p
    obtain ⟨k', v0⟩ := q
    obtain rfl : k = k' := a.1
    unfold putD putF
    by_cases e : k = f
    · rw [if_pos e, if_pos e]; exact .cons ⟨rfl, r⟩ b
    · rw [if_neg e, if_neg e]; exact .cons a ih
theorem RepF.len {fs : List (Str × D)} {gs : List (Str × V)} (h : RepF K F ι fs gs) : gs.length = fs.length := by
  induction h with
  | nil => rfl
  | cons a b ih => simp [ih]
theorem repF_zip : ∀ {gs : List (Str × V)} {xs : List D}, Reps K F ι xs (gs.map (·.2)) → RepF K F ι ((gs.map (·.1)).zip xs) gs
  | [], xs, h => by
    have := h.length
    rw [List.map_nil, List.length_nil] at this
    rw [List.length_eq_zero_iff.mp this]
    exact .nil
  | (k, v) :: gs, [], h => by simp only [Reps] at h; cases h
  | (k, v) :: gs, d :: xs, h => by
    simp only [Reps, List.map_cons] at h
    obtain ⟨v', r, e, h1, h2⟩ := h
    cases e
    exact .cons ⟨rfl, h1⟩ (repF_zip h2)
theorem repF_un {fs : List (Str × D)} {gs : List (Str × V)} (h : RepF K F ι fs gs) : gs.map (·.1) = fs.map (·.1) ∧ Reps K F ι (fs.map (·.2)) (gs.map (·.2)) := by
  induction h with
  | nil => exact ⟨rfl, Reps.nil⟩
  | cons a b ih => exact ⟨by rw [List.map_cons, List.map_cons, ih.1, a.1], Reps.cons a.2 ih.2⟩
theorem ins_of {nm : Str} {d : D} {v : V} {fs : List (Str × D)} (S : Sim K F ι st H) (r : Rep K F ι d v) (h : insOf nm st d = some fs) : ∃ a C dx gs, v = .ref a ∧ PySem.W.nsIn K mainGlobals nm = some (some (.ref C)) ∧ H a = some (.ins C dx gs) ∧ RepF K F ι fs gs := by
  cases d with
  | obj n ks xs =>
    simp only [Rep] at r
    obtain ⟨a, C, dx, gs, e, z, q, kk, rr⟩ := r
    unfold insOf at h
    dsimp only at h
    split at h
    · rename_i en
      subst en
      cases h
      subst kk
      exact ⟨a, C, dx, gs, e, z, S.sub _ _ q, repF_zip rr⟩
    · cases h
  | ref l =>
    simp only [Rep] at r
    obtain ⟨a, e, q⟩ := r
    unfold insOf at h
    dsimp only at h
    split at h
    · rename_i n fs' e2
      split at h
      · rename_i en
        subst en
        cases h
        obtain ⟨C, dx, gs, z, e3, rr⟩ := S.obj l _ a e2 q
        exact ⟨a, C, dx, gs, e, z, e3, rr⟩
      · cases h
    · cases h
  | _ => cases h
end
/-- a class of instances, by its name: its fields, no class attributes of their names -/
structure Kls (K : PySem.W.Frag) (mg : Str → Option Value) (nm : Str) (fs : List Str) : Prop where
  ex : ∃ C, PySem.W.nsIn K mainGlobals nm = some (some (.ref C)) ∧ mg nm = some (.ref C) ∧ Cls K C ∧ ∀ f ∈ fs, NoAttr K C f
def mFld (nm f : Str) (m : Rho → M D) : Rho → M D := fun ρ st => (m ρ st).bind fun d st1 => lift ((insOf nm st1 d).bind fun fs => fs.lookup f) st1
/-- e.f = value -/
def sSetF (nm f : Str) (mo mv : Rho → M D) : Rho → Sto → Fl := fun ρ st => (mv ρ st).fl ρ fun y st1 => (mo ρ st1).fl ρ fun d st2 => match d with
  | .ref l => match st2[l]? with
    | some (.ins n fs) => if n = nm ∧ fs.length < 100 then .next ρ (st2.set l (.ins n (putD f y fs))) else .bad
    | _ => .bad
  | _ => .bad
section
variable {X : Cx} {W : WX} {nm f : Str} {fl : List Str} {e o value : Expr} {m mo mv : Rho → M D} {pos pos' : Pos}
theorem de_fld (Ks : Kls X.K X.mg nm fl) (hf : f ∈ fl) (h : DE X W e m) (hb : attributeBase e f X.env (eval e X.env) = eval e X.env := by rfl) : DE X W (.Attribute e f pos) (mFld nm f m) := by
  obtain ⟨C, hC, _, cl, na⟩ := Ks.ex
  refine PE.weak (pe_fld h hb) fun σ H Q ⟨F, ι, ρ, st, S, R, q⟩ => ?_
  refine tG_seq back_V S R q fun d st1 F1 ι1 H1 v x1 S1 R1 r1 q1 => ?_
  cases e1 : insOf nm st1 d with
  | none => rw [e1] at q1; exact q1.elim
  | some fs =>
    rw [e1, Option.bind_some] at q1
    cases e2 : fs.lookup f with
    | none => rw [e2] at q1; exact q1.elim
    | some y =>
      rw [e2] at q1
      obtain ⟨a, C', dx, gs, rfl, hC', hH, rr⟩ := ins_of S1 r1 e1
      rw [hC] at hC'
      cases hC'
      obtain ⟨u, l, ru⟩ := (rr.look f).1 y e2
      exact ⟨a, C, dx, gs, u, rfl, hH, cl, na f hf, l, q1 F1 ι1 H1 u Ext.refl S1 ru⟩
theorem ds_setF (Ks : Kls X.K X.mg nm fl) (hf : f ∈ fl) (ho : DE X W o mo) (hv : DE X W value mv) (hs : swapsWith value (some (.Attribute o f pos')) pos.line X.env = pure false := by rfl) :
    DS X W (.Assign [.Attribute o f pos'] value pos) (sSetF nm f mo mv) := by
  obtain ⟨C, hC, _, cl, na⟩ := Ks.ex
  refine PS.weak (ps_fld ho hv hs) fun E σ H ⟨F, ι, ρ, st, S, R, q⟩ => fl_seq S R q fun y st1 F1 ι1 H1 w x1 S1 R1 r1 q1 => ?_
  refine fl_seq S1 R1 q1 fun d st2 F2 ι2 H2 v x2 S2 R2 r2 q2 => ?_
  cases d with
  | ref l =>
    dsimp only at q2
    split at q2
    · rename_i n fs e2
      split at q2
      · rename_i hn
        obtain ⟨rfl, hl⟩ := hn
        have r2 : Rep X.K F2 ι2 (.ref l) v := r2
        simp only [Rep] at r2
        obtain ⟨a, rfl, qa⟩ := r2
        obtain ⟨C', dx, gs, z, e3, rr⟩ := S2.obj l _ a e2 qa
        rw [hC] at z
        cases z
        refine ⟨a, C, dx, gs, rfl, e3, cl, na f hf, by rw [rr.len]; omega, ?_⟩
        have hw := r1.ext x2
        have S3 := S2.write (m := .ins n (putD f y fs)) (o := .ins C dx (putF f w gs)) qa (by rw [e2]; simp) ⟨C, dx, _, hC, upd_same, rr.put hw⟩
        have xw : Ext F2 ι2 H2 F2 ι2 (upd H2 a (.ins C dx (putF f w gs))) := Ext.write qa (by rw [e3]; simp)
        exact q2 F2 ι2 _ σ xw S3 (R2.ext xw)
      · exact q2.elim
    · exact q2.elim
  | _ => exact q2.elim
end
/-! ### methods -/
/-- a method that may be called on an instance of the class nm -/
structure FnM (P : Program) (w : World) (K : PySem.W.Frag) (mg : Str → Option Value) (base : Heap) (k : Nat) (nm m : Str) (np : Nat) (spec : List D → M D) : Prop where
  ex : ∃ (C f : Addr) (fd : FuncData) (ps : List Str), PySem.W.nsIn K mainGlobals nm = some (some (.ref C)) ∧ Meth K C m f ∧ FnG P w K mg base k f fd ps (spD K np spec) ∧ Binds K fd ps []
def mMethO (nm m : Str) (spec : List D → M D) (mo : Rho → M D) (am : Rho → M (List D)) : Rho → M D := fun ρ st => (mo ρ st).bind fun d st1 =>
  if ((insOf nm st1 d).bind fun fs => fs.lookup m).isNone = true ∧ (insOf nm st1 d).isSome = true then (am ρ st1).bind fun ds st2 => spec (d :: ds) st2 else .bad
section
variable {X : Cx} {W : WX} {k j np : Nat} {nm m : Str} {fl : List Str} {spec : List D → M D} {e o : Expr} {es : List Expr} {mo : Rho → M D} {am : Rho → M (List D)} {pos apos : Pos}
theorem de_meth {pl : Sem Bool} (B : Bd X W j) (Ks : Kls X.K X.mg nm fl) (C : FnM X.prog X.w X.K X.mg X.base k nm m np spec) (hk : k ≤ j) (nn : NeedN np spec) (ho : DE X W o mo) (ha : DA X W (e :: es) am)
    (he : starEach (e :: es) X.env = (false, eval e X.env) :: starEach es X.env := by rfl) (hpl : (backTo pos (starEach es X.env)).any (·.1) = false := by rfl)
    (ht : eval (.Call (.Attribute o m apos) (e :: es) [] pos) X.env = (do
      let ov ← eval o X.env
      standAt apos.atName
      let (f, first) ← holding [ov] (getMethod ov m pl)
      callWith pos f first (backTo pos (starEach (e :: es) X.env)) (backToKw pos (keywordEach [] X.env))) := by rfl) :
    DE X W (.Call (.Attribute o m apos) (e :: es) [] pos) (mMethO nm m spec mo am) := by
  obtain ⟨C0, hC0, _, cl, _⟩ := Ks.ex
  obtain ⟨C, f, fd, ps, hC, hm, F, hb⟩ := C.ex
  rw [hC0] at hC
  cases hC
  refine ⟨fun pins s σ H Q I ⟨F0, ι, ρ, st, S, R, q⟩ => ?_⟩
  refine PySem.W.methodCall_KW (pl := pl) (thn (ho.run pins s σ H (fun x H1 => ∃ a dx gs, x = .ref a ∧ H1 a = some (.ins C0 dx gs) ∧ gs.lookup m = none ∧ tA X.K W am σ H1 fun vs H2 => spD X.K np spec (x :: vs) H2 Q (fun cls dd H' => W cls dd σ H')) I ?_) fun u s1 ⟨x, H1, I1, rx, a, dx, gs, ex, ea, l, q1⟩ => ?_) ht
  · refine tG_seq back_V S R q fun d st1 F1 ι1 H1 v x1 S1 R1 r1 q1 => ?_
    split at q1
    · rename_i hc
      obtain ⟨fs, e1⟩ := Option.isSome_iff_exists.mp hc.2
      obtain ⟨a, C', dx, gs, rfl, hC', hH, rr⟩ := ins_of S1 r1 e1
      rw [hC0] at hC'
      cases hC'
      rw [e1, Option.bind_some, Option.isNone_iff_eq_none] at hc
      refine ⟨a, dx, gs, rfl, hH, (rr.look m).2 hc.1, ?_⟩
      refine tG_seq back_V S1 R1 q1 fun ds st2 F2 ι2 H2 vs x2 S2 R2 r2 q2 => ?_
      by_cases hn : (d :: ds).length = np
      · exact spD_of S2 (Reps.cons (r1.ext x2) r2) hn q2
      · rw [nn _ st2 hn] at q2
        exact (q2 : False).elim
    · exact q1.elim
  · subst ex
    obtain rfl : u = Value.ref a := rx
    refine getmeth_ok I1 ea cl hm l ?_
    refine PySem.W.callWith_K (first := [.ref a]) (h₀ := X.base) I.ok.mod.kin hm.kp (thn (ha.run pos pins s1 σ H1 _ I1 q1) fun us s2 ⟨vs, H2, I2, r, q2⟩ => ⟨I2.kIn, ?_⟩) he hpl
    exact run_fnG (us := .ref a :: us) (vs := .ref a :: vs) F (B.room.mono hk) B.gd hb B.tk I2 (.cons rfl r) q2
theorem de_meth0 {pl : Sem Bool} (B : Bd X W j) (Ks : Kls X.K X.mg nm fl) (C : FnM X.prog X.w X.K X.mg X.base k nm m np spec) (hk : k ≤ j) (nn : NeedN np spec) (ho : DE X W o mo)
    (ht : eval (.Call (.Attribute o m apos) [] [] pos) X.env = (do
      let ov ← eval o X.env
      standAt apos.atName
      let (f, first) ← holding [ov] (getMethod ov m pl)
      callWith pos f first (backTo pos (starEach [] X.env)) (backToKw pos (keywordEach [] X.env))) := by rfl) :
    DE X W (.Call (.Attribute o m apos) [] [] pos) (mMethO nm m spec mo mNil) := by
  obtain ⟨C0, hC0, _, cl, _⟩ := Ks.ex
  obtain ⟨C, f, fd, ps, hC, hm, F, hb⟩ := C.ex
  rw [hC0] at hC
  cases hC
  refine ⟨fun pins s σ H Q I ⟨F0, ι, ρ, st, S, R, q⟩ => ?_⟩
  refine PySem.W.methodCall_KW (pl := pl) (thn (ho.run pins s σ H (fun x H1 => ∃ a dx gs, x = .ref a ∧ H1 a = some (.ins C0 dx gs) ∧ gs.lookup m = none ∧ spD X.K np spec [x] H1 Q (fun cls dd H' => W cls dd σ H')) I ?_) fun u s1 ⟨x, H1, I1, rx, a, dx, gs, ex, ea, l, q1⟩ => ?_) ht
  · refine tG_seq back_V S R q fun d st1 F1 ι1 H1 v x1 S1 R1 r1 q1 => ?_
    split at q1
    · rename_i hc
      obtain ⟨fs, e1⟩ := Option.isSome_iff_exists.mp hc.2
      obtain ⟨a, C', dx, gs, rfl, hC', hH, rr⟩ := ins_of S1 r1 e1
      rw [hC0] at hC'
      cases hC'
      rw [e1, Option.bind_some, Option.isNone_iff_eq_none] at hc
      refine ⟨a, dx, gs, rfl, hH, (rr.look m).2 hc.1, ?_⟩
      have q1 : post X.K W σ F1 ι1 H1 (pV X.K) (spec [d] st1) Q := q1
      by_cases hn : [d].length = np
      · exact spD_of S1 (Reps.cons r1 Reps.nil) hn q1
      · rw [nn _ st1 hn] at q1
        exact (q1 : False).elim
    · exact q1.elim
  · subst ex
    obtain rfl : u = Value.ref a := rx
    refine getmeth_ok I1 ea cl hm l ?_
    exact PySem.W.callWith_K0 (first := [.ref a]) I1.kIn hm.kp (run_fnG (us := [.ref a]) (vs := [.ref a]) F (B.room.mono hk) B.gd hb B.tk I1 (.cons rfl .nil) q1)
end
/-! ### making; what is made is changed no more -/
structure FnI (P : Program) (w : World) (K : PySem.W.Frag) (mg : Str → Option Value) (base : Heap) (k : Nat) (nm : Str) (np : Nat) (spec : List D → M D) : Prop where
  ex : ∃ (C f : Addr) (fd : FuncData) (ps : List Str), PySem.W.nsIn K mainGlobals nm = some (some (.ref C)) ∧ mg nm = some (.ref C) ∧ Mk K C f ∧ FnG P w K mg base k f fd ps (spD K np spec) ∧ Binds K fd ps []
/-- the lists that fields hold, from here on by value -/
def frzFs (st : Sto) : List (Str × D) → List D × Sto
  | [] => ([], st)
  | (_, .ref l) :: fs => match st[l]? with
    | some (.lst xs) => let r := frzFs (st.set l .gone) fs; (.lst xs :: r.1, r.2)
    | _ => let r := frzFs st fs; (.ref l :: r.1, r.2)
  | (_, d) :: fs => let r := frzFs st fs; (d :: r.1, r.2)
def dMk0 (nm : Str) (spec : List D → M D) : List D → M D := fun ds st => match spec (.ref st.length :: ds) (st ++ [.ins nm []]) with
  | .ok .non st1 => match (frzFs st1 (match st1[st.length]? with | some (.ins _ fs) => fs | _ => [])), st1[st.length]? with
    | (xs, st2), some (.ins n fs) => match st2[st.length]? with
      | some (.ins _ _) => if n = nm then .ok (.obj nm (fs.map (·.1)) xs) (st2.set st.length .gone) else .bad
      | _ => .bad
    | _, _ => .bad
  | .ok _ _ => .bad
  | .exc x st1 => .exc x st1
  | .bad => .bad
noncomputable def dMk (nm : Str) (spec : List D → M D) : List D → M D := fun ds st => clean st (dMk0 nm spec ds st)
section
variable {K : PySem.W.Frag} {F H : Hp} {ι : List Addr} {st : Sto}
theorem frz_fs {l0 : Nat} {m0 : MO} (h0 : ∀ xs, m0 ≠ .lst xs) : ∀ (fs : List (Str × D)) (gs : List (Str × V)) (F : Hp) (st : Sto), Sim K F ι st H → RepF K F ι fs gs → st[l0]? = some m0 → ∃ F', Sim K F' ι (frzFs st fs).2 H ∧ Ext F ι H F' ι H ∧ Reps K F' ι (frzFs st fs).1 (gs.map (·.2)) ∧ (frzFs st fs).2[l0]? = some m0
  | [], _, F, st, S, r, e => by
    cases r
    exact ⟨F, S, Ext.refl, Reps.nil, e⟩
  | (k, d) :: fs, _, F, st, S, r, e => by
    cases r with
    | @cons p q l1 l2 a b =>
      have gen : ∃ F', Sim K F' ι (frzFs st fs).2 H ∧ Ext F ι H F' ι H ∧ Reps K F' ι (d :: (frzFs st fs).1) ((q :: l2).map (·.2)) ∧ (frzFs st fs).2[l0]? = some m0 := by
        obtain ⟨F', S', x, rr, e'⟩ := frz_fs h0 fs l2 F st S b e
        exact ⟨F', S', x, Reps.cons (a.2.ext x) rr, e'⟩
      cases d with
      | ref l =>
        unfold frzFs
        split
        · rename_i xs e2
          obtain ⟨p, vs, e3, q1, q2, q3⟩ := S.mut a.2 e2
          have x := Ext.retire S q1 q2
          have hne : l ≠ l0 := fun z => by rw [z, e] at e2; exact h0 xs (Option.some.inj e2)
          obtain ⟨F', S', x', rr, e'⟩ := frz_fs h0 fs l2 _ (st.set l .gone) (S.retire q1 q2) (RepF.ext b x) (by rw [List.getElem?_set_ne hne]; exact e)
          refine ⟨F', S', x.trans x', Reps.cons ?_ rr, e'⟩
          refine Rep.ext (d := .lst xs) ?_ x'
          simp only [Rep]
          exact ⟨p, vs, e3, upd_same, q3.ext x⟩
        · exact gen
      | _ => exact gen
theorem mk_post {W : WX} {σ : L2.St} {nm : Str} {spec : List D → M D} {C : Addr} {ds : List D} {Q : VK} (hC : PySem.W.nsIn K mainGlobals nm = some (some (.ref C))) (S : Sim K F ι st H) (q : post K W σ F ι H (pV K) (dMk nm spec ds st) Q) {x dx : Addr} (hx : H x = none) (hdx : H dx = none) (hne : dx ≠ x) :
    Sim K F (ι ++ [x]) (st ++ [.ins nm []]) (upd (upd H dx (.own x)) x (.ins C dx [])) ∧ Ext F ι H F (ι ++ [x]) (upd (upd H dx (.own x)) x (.ins C dx [])) ∧ Rep K F (ι ++ [x]) (.ref st.length) (.ref x) ∧
    post K W σ F (ι ++ [x]) (upd (upd H dx (.own x)) x (.ins C dx [])) (pV K) (spec (.ref st.length :: ds) (st ++ [.ins nm []])) (fun v H2 => v = .non ∧ Q (.ref x) H2) := by
  have hx1 : upd H dx (.own x) x = none := by rw [upd_ne hne.symm]; exact hx
  have hF : F x = none := by
    cases e : F x with
    | none => rfl
    | some o => have := S.sub x o e; rw [hx] at this; cases this
  have hi : x ∉ ι := fun h => S.there x h hx
  have xl : Ext F ι H F ι (upd (upd H dx (.own x)) x (.ins C dx [])) := (Ext.laid hdx).trans (Ext.laid hx1)
  have S1 : Sim K F (ι ++ [x]) (st ++ [.ins nm []]) (upd (upd H dx (.own x)) x (.ins C dx [])) := ((S.laid hdx).laid hx1).locate (m := .ins nm []) (by rw [upd_same]; simp) hF hi ⟨C, dx, [], hC, upd_same, .nil⟩
  have x1 : Ext F ι H F (ι ++ [x]) (upd (upd H dx (.own x)) x (.ins C dx [])) := xl.locate hx
  have hat : (ι ++ [x])[st.length]? = some x := by rw [← S.len, List.getElem?_append_right (Nat.le_refl _)]; simp
  refine ⟨S1, x1, ?_, ?_⟩
  · simp only [Rep]
    exact ⟨x, rfl, hat⟩
  · unfold dMk dMk0 at q
    cases er : spec (.ref st.length :: ds) (st ++ [.ins nm []]) with
    | bad => rw [er] at q; exact q.elim
    | exc e st1 =>
      rw [er] at q
      exact fun F' ι' H' cls dd y S' r => clean_exc S (x1.trans y) S' r q
    | ok d st1 =>
      rw [er] at q
      intro F' ι' H' v y S' r
      cases d with
      | non =>
        have r : Rep K F' ι' .non v := r
        simp only [Rep] at r
        refine ⟨r, ?_⟩
        dsimp only at q
        cases e1 : st1[st.length]? with
        | none => rw [e1] at q; exact q.elim
        | some mo =>
          rw [e1] at q
          cases mo with
          | ins n fs =>
            dsimp only at q
            have hat' : ι'[st.length]? = some x := y.i _ _ hat
            obtain ⟨C', dx', gs, z, e3, rr⟩ := S'.obj _ _ _ e1 hat'
            obtain ⟨F2, S2, x2, r2, e2⟩ := frz_fs (l0 := st.length) (m0 := .ins n fs) (fun _ h => nomatch h) fs gs F' st1 S' rr e1
            rw [e2] at q
            dsimp only at q
            by_cases hn : n = nm
            · subst hn
              rw [if_pos rfl] at q
              have x3 := Ext.retireO S2 hat' e3
              refine clean_ok S (((x1.trans y).trans x2).trans x3) (S2.retireO hat' e3 trivial) ?_ q
              simp only [Rep]
              exact ⟨x, C', dx', gs, rfl, z, upd_same, (repF_un rr).1, r2.ext x3⟩
            · rw [if_neg hn] at q; exact q.elim
          | _ => exact q.elim
      | _ => exact q.elim
end
section
variable {X : Cx} {W : WX} {k j np : Nat} {nm : Str} {spec : List D → M D} {e : Expr} {es : List Expr} {am : Rho → M (List D)} {pos p : Pos}
theorem de_mk (B : Bd X W j) (C : FnI X.prog X.w X.K X.mg X.base k nm np spec) (hk : k + 1 ≤ j) (hg : Gl X nm) (nn : NeedN np spec) (ha : DA X W (e :: es) am) (hdb : (nm == ("__debug__" : Str)) = false := by decide)
    (he : starEach (e :: es) X.env = (false, eval e X.env) :: starEach es X.env := by rfl) (hpl : (backTo pos (starEach es X.env)).any (·.1) = false := by rfl) : DE X W (.Call (.Name nm p) (e :: es) [] pos) (mCall (dMk nm spec) am) := by
  obtain ⟨C, f, fd, ps, hC, hmg, Mk, F, hb⟩ := C.ex
  refine ⟨fun pins s σ H Q I ⟨F0, ι, ρ, st, S, R, q⟩ => ?_⟩
  refine wpAny_Call_Name_kw (ld_glob I hg hmg ?_ hdb)
  refine PySem.W.callWith_K (h₀ := X.base) I.ok.mod.kin Mk.kp (thn (ha.run pos pins s σ H (fun vs H1 => ∀ x dx, H1 x = none → H1 dx = none → dx ≠ x → spD X.K np spec (.ref x :: vs) (upd (upd H1 dx (.own x)) x (.ins C dx [])) (fun v H2 => v = .non ∧ Q (.ref x) H2) (fun cls dd H' => W cls dd σ H')) I ?_) fun us s1 ⟨vs, H1, I1, r, h⟩ => ⟨I1.kIn, ?_⟩) he hpl
  · refine tG_seq back_V S R q fun ds st1 F1 ι1 H1 vs x1 S1 R1 r1 q1 x dx hx hdx hne => ?_
    obtain ⟨S2, x2, rx, q2⟩ := mk_post hC S1 q1 hx hdx hne
    by_cases hn : (D.ref st1.length :: ds).length = np
    · exact spD_of S2 (Reps.cons rx (r1.ext x2)) hn q2
    · rw [nn _ _ hn] at q2
      exact (q2 : False).elim
  · have hq := h (s1.heap.objs.size + 1) s1.heap.objs.size (I1.hok.fresh (Nat.le_succ _)) (I1.hok.fresh (Nat.le_refl _)) (Nat.ne_of_lt (Nat.lt_succ_self _))
    have I2 := Inv.made (C := C) I1
    have r2 : Vals (V.ref (s1.heap.objs.size + 1) :: vs) (Value.ref (s1.heap.objs.size + 1) :: us) := .cons rfl r
    have hl : (Value.ref (s1.heap.objs.size + 1) :: us ++ []).length = ps.length := by
      have e := r2.length
      rw [F.len _ _ _ _ hq] at e
      rw [List.append_nil]
      exact e.symm
    have bn := hb _ (Value.ref (s1.heap.objs.size + 1) :: us) I2.kIn hl
    rw [List.append_nil] at bn
    have hr : Room (k + 1) X.A := B.room.mono hk
    refine wpAny_call (make_map (f := f) I1.kIn Mk.makes Mk.init (beq_iff_eq.mp Mk.fn) (codeAny_mono (F.run _ X.stack _ _ ⟨Value.ref (s1.heap.objs.size + 1) :: us, []⟩ (Value.ref (s1.heap.objs.size + 1) :: us) _ _ _ (hr.make C us []) ?_
      (I2.env0.make C us []) bn r2 hq) fun r s' hq' => ?_))
    · rw [show (X.A.under (Code.builtin "type.__call__" { pos := Value.ref C :: ([] ++ us) })).guards = pushGuards (Code.builtin "type.__call__" { pos := Value.ref C :: ([] ++ us) }).guards X.A.guards from by simp [Around.under]]
      rw [B.gd]
      rfl
    · cases r with
      | error y => exact passAt B.tk σ pins _ _ y s' I2 hq'
      | ok fl =>
        cases fl with
        | ret u =>
          obtain ⟨v, H', I3, rv, ev, q3⟩ := I2.after hq'
          subst ev
          exact ⟨rv, ⟨V.ref (s1.heap.objs.size + 1), H', I3, rfl, q3⟩⟩
        | next => exact False.elim hq'
        | brk => exact False.elim hq'
        | cont => exact False.elim hq'
end
/-! ### x += e, whole numbers -/
def pAddI : Sto → D → D → Option D := fun _ a b => match a, b with
  | .int i, .int j => some (.int (i + j))
  | _, _ => none
theorem fl_bind {α β : Type} (r : Out α) (f : α → Sto → Out β) (ρ : Rho) (g : β → Sto → Fl) : (r.bind f).fl ρ g = r.fl ρ fun a st => (f a st).fl ρ g := by cases r <;> rfl
theorem ds_augI {X : Cx} {W : WX} {i : Nat} {x : Str} {e : Expr} {m : Rho → M D} {pos pos' : Pos} (hN : X.N.Nodup) (he : DE X W e m) (hi : X.N[i]? = some x := by rfl) (hx : Loc X.env.scope x := by first | exact Or.inl rfl | exact Or.inr rfl)
    (hf : X.fn x = true ∨ X.env.scope.names.lookup x = some .local := by first | exact .inl rfl | exact .inr rfl) : DS X W (.AugAssign (.Name x pos') .Add e pos) (sAsg (gN i) (mOp pAddI (mVar i) m)) := by
  refine PS.weak (ps_aug hN hi hx he ip_add hf) fun E σ H ⟨F, ι, ρ, st, S, R, q⟩ => ?_
  unfold sAsg mOp at q
  rw [fl_bind] at q
  unfold mVar at q
  split at q
  · rename_i d e1
    obtain ⟨v, q0, r⟩ := R.at_ i d e1
    refine ⟨v, q0, ?_⟩
    have q : sPost X.K W E F ι H (((m ρ st).bind fun b st2 => lift (pAddI st2 d b) st2).fl ρ fun d st1 => (nox (gN i d ρ st1)).fl ρ fun ρ2 st2 => .next ρ2 st2) := q
    rw [fl_bind] at q
    refine fl_seq S R q fun b st1 F1 ι1 H1 w x1 S1 R1 r1 q1 => ?_
    cases d with
    | int a =>
      cases b with
      | int b =>
        have r1 : Rep X.K F1 ι1 (.int b) w := r1
        simp only [Rep] at r r1
        subst r r1
        exact ⟨a, b, rfl, rfl, q1 F1 ι1 H1 _ Ext.refl S1 (R1.set (d := .int (a + b)) (by simp only [Rep]) i)⟩
      | _ => exact (q1 : False).elim
    | _ => exact (q1 : False).elim
  · exact (q : False).elim
/-! ### is True, is not True -/
def pIsB : Sto → D → D → Option D := fun _ a b => match a, b with
  | .bl i, .bl j => some (.bl (i == j))
  | _, _ => none
def pIsNotB : Sto → D → D → Option D := fun _ a b => match a, b with
  | .bl i, .bl j => some (.bl (!(i == j)))
  | _, _ => none
theorem op_pIsB {X : Cx} : OpR X (compareOp .Is) (rP X.K pIsB) := by
  intro pins s σ H x y v u Q I rx ry ⟨F, ι, st, a, b, d, S, ra, rb, e, q⟩
  unfold pIsB at e
  split at e
  · rename_i i j
    cases e
    simp only [Rep] at ra rb
    subst ra rb
    cases rx
    cases ry
    show wpAny _ _ ((isSame (.bool i) (.bool j)) >>= fun z => pure (Value.bool z)) _ _ s
    exact wpAny_bind (wpAny_of_eq (show isSame (.bool i) (.bool j) = pure (i == j) by cases i <;> cases j <;> rfl) (wpAny_pure ⟨.bl (i == j), H, I, rfl, q F H _ Ext.refl S (by simp only [Rep])⟩))
  · cases e
theorem op_pIsNotB {X : Cx} : OpR X (compareOp .IsNot) (rP X.K pIsNotB) := by
  intro pins s σ H x y v u Q I rx ry ⟨F, ι, st, a, b, d, S, ra, rb, e, q⟩
  unfold pIsNotB at e
  split at e
  · rename_i i j
    cases e
    simp only [Rep] at ra rb
    subst ra rb
    cases rx
    cases ry
    show wpAny _ _ ((isSame (.bool i) (.bool j)) >>= fun z => pure (Value.bool (!z))) _ _ s
    exact wpAny_bind (wpAny_of_eq (show isSame (.bool i) (.bool j) = pure (i == j) by cases i <;> cases j <;> rfl) (wpAny_pure ⟨.bl (!(i == j)), H, I, rfl, q F H _ Ext.refl S (by simp only [Rep])⟩))
  · cases e
end Dn
/-! DnSh: raise C(d), C an own error whose __init__ keeps one field; its field read in an except suite; a def with *args. -/
namespace PySem
namespace FldX
open PySem.W PySem.Calls PyProof.Rows PySem.HandSPX
def iA (f : Str) (p1 p2 : Pos) : Arguments := { posonlyargs := [], args := [{ arg := "self", annotation := none, pos := p1 }, { arg := f, annotation := none, pos := p2 }], vararg := none, kwonlyargs := [], kw_defaults := [], kwarg := none, defaults := [] }
def iB (f : Str) (q1 q2 q3 q4 : Pos) : List Stmt := [.Assign [.Attribute (.Name "self" q1) f q2] (.Name f q3) q4]
def iS (f : Str) : Scope := { kind := .function, names := [(PySem.Str.ofString "self", .local), (f, .local)], isGenerator := false, isCoroutine := false, more := [] }
/-- what the written part says of C, whose __init__ at fI keeps its argument as f -/
structure FldTxt (K : Frag) (f : Str) (C fI : Addr) : Prop where
  cls : ∃ nm q N bs bm sn sub ab col dd k0 k1 k2 k3 k5, K.lookup C = some (excClassObj nm q C N bs bm true sn sub ab col dd k0 k1 k2 k3 k5 "ValueError.__new__") ∧ refsVE bm = true
  sa : findIn K (.ref C) "__setattr__" = some (some (.builtin "object.__setattr__"))
  ga : findIn K (.ref C) "__getattribute__" = some (some (.builtin "BaseException.__getattribute__"))
  gg : findIn K (.ref C) "__getattr__" = some none
  noN : findIn K (.ref C) f = some none
  iC : findIn K (.ref C) "__init__" = some (some (.ref fI))
  tC : typeIn K (.ref fI) = some (.type "function")
  kC : keepIn K (.ref C) = true
  exC : subIn K (.ref C) (.type "BaseException") = some true
  tyC : typeIn K (.ref C) = some (.type "type")
  hdC : hasDictIn K C = true
  fn : ∃ (qn : Str) (oc : Value) (od : Option Addr) (doc pm : Value) (an : Option Addr) (cdv ct : Value) (osl : Array (Option Value)) (p1 p2 q1 q2 q3 q4 : Pos),
    K.lookup fI = some ⟨oc, od, .func (fnOf "__init__" qn (iA f p1 p2) (iB f q1 q2 q3 q4) (iS f) .none .none doc pm an cdv ct), osl⟩ ∧ codeIn K cdv qn = true
/-- what is asked of the name -/
structure FOk (f : Str) : Prop where
  sf : (f == ("self" : Str)) = false
  fs : (("self" : Str) == f) = false
  db : (f == ("__debug__" : Str)) = false
theorem one_size (v : Value) : [v].length ≤ sizeLine := by
  rw [sizeLine_eq]
  exact (by decide : 1 ≤ 16777216)
theorem ldC {M : Model} {s : Shared} {name : Str} {scope : Scope} {L a : Addr} {cd : Value} {m : Str → Option Value} {x : Str} {pos : Pos} {v : Value} {Q : Value → Shared → Prop} {A : Around} {E : Value → Shared → Prop} (hn : s.heap.Ns L m) (hv : m x = some v) (h : Q v s)
    (hk : scope.kind = .function) (hl : (envOfC name scope L a cd).kindOf x = some .local) (hd : (x == ("__debug__" : Str)) = false) :
    wpAny M A (eval (.Name x pos) (envOfC name scope L a cd)) Q E s := wpAny_Name (wpAny_loadName_local hk hl hn hv h) hd
structure InitEnd (f : Str) (h h' : Heap) (x C dx t1 : Addr) (v : Value) : Prop where
  keep : ∀ b o, b ≠ x → h.get? b = some o → h'.get? b = some o
  obj : h'.get? x = some { cls := .ref C, dict := some dx, data := .fields #[.ref t1, .none, .none, .none, .bool false, .none] }
  dbig : h.objs.size ≤ dx
  dne : dx ≠ x
  ns : h'.Ns1 dx (fun y => if y = f then some v else none)
structure OwnMade (f : Str) (h h' : Heap) (e C d : Addr) (v : Value) : Prop where
  keep : ∀ b o, h.get? b = some o → h'.get? b = some o
  new : h.objs.size ≤ e
  obj : ∃ oe vs, h'.get? e = some oe ∧ oe.cls = .ref C ∧ oe.dict = some d ∧ oe.data = .fields vs ∧ vs[1]? = some .none
  dbig : h.objs.size ≤ d
  dne : d ≠ e
  ns : h'.Ns1 d (fun y => if y = f then some v else none)
section
variable {prog : Program} {w : World} {A : Around} {E : Value → Shared → Prop} {R : Result → Shared → Prop} {s : Shared} {K : Frag} {f : Str} {C fI : Addr}
theorem binds_fld {qn : Str} {p1 p2 q1 q2 q3 q4 : Pos} {doc pm : Value} {an : Option Addr} {cdv ct : Value} {x v : Value} (o : FOk f) : BindsTo s (fnOf "__init__" qn (iA f p1 p2) (iB f q1 q2 q3 q4) (iS f) .none .none doc pm an cdv ct) ⟨[x, v], []⟩ [("self", x), (f, v)] := by
  refine BindsTo.of_eq ?_
  have h1 : ∀ (y z : Value), List.lookup (("self" : Str)) [(("self" : Str), y), (f, z)] = some y := fun y z => by simp [List.lookup]
  have h2 : ∀ (y z : Value), List.lookup f [(("self" : Str), y), (f, z)] = some z := fun y z => by simp [List.lookup, o.sf]
  unfold bindArgs
  simp only [fnOf, iA, List.map, List.nil_append, List.zip, List.zipWith, List.length, seqItems?]
  simp [h1, h2, List.filter]
  rfl
theorem fld_init (o : FOk f) (T : FldTxt K f C fI) {x t0 : Addr} {v : Value} (X : K.In s.heap) (hlim : s.heap.NoLimit) (hx : s.heap.get? x = some (excO C t0)) (hnx : K.lookup x = none) (hroom : A.depth < recursionLimit)
    (hq : ∀ h' tk dx, InitEnd f s.heap h' x C dx t0 v → R (.ok (.ret .none)) { s with heap := h', toks := tk }) :
    codeAny (model prog w) A (.call (.ref fI) ⟨[.ref x, v], []⟩) R s := by
  obtain ⟨qn, oc, od, doc, pm, an, cdv, ct, osl, p1, p2, q1, q2, q3, q4, ho, hcd⟩ := T.fn
  obtain ⟨nm, q, N, bs, bm, sn, sub, ab, col, dd, k0, k1, k2, k3, k5, hC, hbm⟩ := T.cls
  have hcl : clsIn K C = some { name := nm, bases := bs, mro := .ref C :: bm, ns := N, qualname := q, hasDict := true, slotNames := sn, subclasses := sub, abstract := ab, collection := col, hasDel := false } := by unfold clsIn; rw [hC] <;> rfl
  have hne : (("self" : Str) == f) = false := o.fs
  have ks : (envOfC qn (iS f) s.heap.objs.size fI cdv).kindOf ("self" : Str) = some NameKind.local := by
    show List.lookup ("self" : Str) [(("self" : Str), NameKind.local), (f, NameKind.local)] = _
    simp [List.lookup]
  have kf : (envOfC qn (iS f) s.heap.objs.size fI cdv).kindOf f = some NameKind.local := by
    show List.lookup f [(("self" : Str), NameKind.local), (f, NameKind.local)] = _
    simp [List.lookup, o.sf]
  have sne : ¬ (("self" : Str) = f) := by simpa using o.fs
  refine Att.call_fn (binds := [("self", .ref x), (f, v)]) X hlim ho hcd hroom (binds_fld o) ?_ (fun s₁ IC => ?_) rfl rfl rfl
  · show ([(("self" : Str), Value.ref x), (f, v)].all fun y => List.lookup y.fst [(("self" : Str), NameKind.local), (f, NameKind.local)] == some NameKind.local || List.lookup y.fst [(("self" : Str), NameKind.local), (f, NameKind.local)] == some NameKind.cell) = true
    have e1 : List.lookup ("self" : Str) [(("self" : Str), NameKind.local), (f, NameKind.local)] = some NameKind.local := ks
    have e2 : List.lookup f [(("self" : Str), NameKind.local), (f, NameKind.local)] = some NameKind.local := kf
    simp [List.all, e1, e2]
  obtain ⟨h₁, tk₁, rfl⟩ := IC.toInCall.same
  have k : ∀ b o, s.heap.get? b = some o → h₁.get? b = some o := IC.toInCall.keep
  have hn := IC.toInCall.ns
  have hxL : s.heap.objs.size ≠ x := Nat.ne_of_gt (Heap.lt_size hx)
  have X₁ : K.In h₁ := X.keeps k
  have hx₁ := k _ _ hx
  show wpAny _ _ (execs _ _) _ _ _
  refine wpAny_execs_cons (plainObj_wpAny_Assign_Attribute ?_)
  refine ldC (v := v) hn ?_ (ldC (v := .ref x) hn ?_ ?_ rfl ?_ (by decide)) rfl ?_ o.db
  · simp [bindL, ks, kf]
  · simp [bindL, ks, kf, sne]
  · refine set_plain X₁ (ox := excO C t0) (od := none) ⟨hx₁, rfl, rfl, trivial⟩ T.sa ?_
    refine exc_osa X₁ hx₁ hcl (show refsVE (.ref C :: bm) = true from hbm) rfl T.noN (fun h₃ tk₃ dx k₃ dn dne hx₃ hn₃ => ?_)
    show wpAny _ _ (execs _ _) _ _ _
    have z : s.heap.objs.size < h₁.objs.size := hn.lt
    exact wpAny_execs_nil (hq h₃ tk₃ dx ⟨fun b o hb e => k₃ b o hb (k b o e), hx₃, Nat.le_of_lt (Nat.lt_of_lt_of_le z dn), dne, hn₃⟩)
  · exact ks
  · exact kf
theorem fld_made (o : FOk f) (T : FldTxt K f C fI) {v : Value} (X : K.In s.heap) (hlim : s.heap.NoLimit) (hroom : A.depth + 1 < recursionLimit)
    (hq : ∀ h' tk e d, OwnMade f s.heap h' e C d v → R (.ok (.ret (.ref e))) { s with heap := h', toks := tk }) :
    codeAny (model prog w) A (.call (.ref C) ⟨[v], []⟩) R s := by
  obtain ⟨nm, q, N, bs, bm, sn, sub, ab, col, dd, k0, k1, k2, k3, k5, hC, hbm⟩ := T.cls
  obtain ⟨hp, g, dr, tk, os⟩ := s
  have k : ∀ b o, hp.get? b = some o → ((hp.push (kdv_tup [v])).push (excO C hp.objs.size)).get? b = some o := fun b o e => Heap.get?_push_of_some _ (Heap.get?_push_of_some _ e)
  have hget : ((hp.push (kdv_tup [v])).push (excO C hp.objs.size)).get? (hp.objs.size + 1) = some (excO C hp.objs.size) := by heap_get
  have hnx : K.lookup (hp.objs.size + 1) = none := by
    cases e : K.lookup (hp.objs.size + 1) with
    | none => rfl
    | some o =>
      have z : hp.get? (hp.objs.size + 1) = some o := X _ _ e
      exact absurd (Nat.lt_of_succ_lt (Heap.lt_size z)) (Nat.lt_irrefl _)
  refine call_own F.excBase_ValueError (fun X => refsVE_contains X bm hbm) (X _ _ hC) (looks_findIn X T.iC) (fun self => bind_fn X self T.tC) (one_size v) ?_
  refine fld_init (s := ⟨(hp.push (kdv_tup [v])).push (excO C hp.objs.size), g, dr, tk, os⟩) o T (X.keeps k) (hlim.keeps k) hget hnx ?_ fun h' tk' dx ⟨k', hx, dn, dne, hns⟩ => ?_
  · show A.depth + 1 < recursionLimit
    exact hroom
  · have old : ∀ b o, hp.get? b = some o → h'.get? b = some o := fun b o e => k' b o (Nat.ne_of_lt (Nat.lt_succ_of_lt (Heap.lt_size e))) (k b o e)
    have z : hp.objs.size + 1 + 1 ≤ dx := by
      first
        | (simpa only [Heap.size_push] using dn)
        | exact dn
        | (have q := dn; rw [Heap.size_push, Heap.size_push] at q; exact q)
    exact ⟨rfl, hq h' tk' (hp.objs.size + 1) dx ⟨old, Nat.le_succ _, ⟨_, _, hx, rfl, rfl, rfl, rfl⟩, Nat.le_trans (Nat.le_trans (Nat.le_succ _) (Nat.le_succ _)) z, dne, hns⟩⟩
end
end FldX
end PySem
namespace Dn
open PySem PySem.Spec PyProof.Rows L2 PySem.FldX
theorem relO_fld {f : Str} {v : V} {v' : Value} (r : RelV v v') (g : Str) : RelO (List.lookup g [(f, v)]) (if g = f then some v' else none) := by
  by_cases hw : g = f
  · subst hw
    rw [if_pos rfl]
    have q : List.lookup g [(g, v)] = some v := by simp [List.lookup]
    rw [q]
    exact r
  · rw [if_neg hw]
    have qw : (g == f) = false := by simpa using hw
    have q2 : List.lookup g [(f, v)] = none := by simp [List.lookup, qw]
    rw [q2]
    trivial
section
variable {X : Cx} {W : WX} {nm f : Str} {C fI : Addr}
/-- C(e) -/
def tMkF (f : Str) (C : Addr) (ta : TA) : L2.St → Hp → XK → Prop := fun σ H Q => ta σ H fun vs H1 => ∃ v, vs = [v] ∧ ∀ d, H1 d = none → Q (.ref C) (some d) (upd H1 d (.xd [(f, v)]))
theorem pmk_fld {a : Expr} {ta : TA} {p pos : Pos} {k : Nat} (o : FOk f) (T : FldTxt X.K f C fI) (gC : X.mg nm = some (.ref C)) (hr : Room (k + 1) X.A) (ha : PA X [a] ta) (hg : Gl X nm) (hdb : (nm == ("__debug__" : Str)) = false)
    (he : starEach (a :: []) X.env = (false, eval a X.env) :: starEach [] X.env := by rfl) (hpl : (backTo pos (starEach [] X.env)).any (·.1) = false := by rfl) :
    PMk X (.Call (.Name nm p) [a] [] pos) (tMkF f C ta) := by
  intro pins s σ H Q I h
  refine wpAny_Call_Name_kw (ld_glob I hg gC ?_ hdb)
  refine PySem.W.callWith_K (h₀ := X.base) I.ok.mod.kin T.kC (thn (ha.run pos pins s σ H _ I h) fun us s1 hh => ?_) he hpl
  obtain ⟨vs, H1, I1, r1, v, ev, q1⟩ := hh
  subst ev
  refine ⟨I1.kIn, ?_⟩
  cases r1 with
  | cons rv rn =>
    rename_i v' us'
    cases rn
    show wpAny _ _ (call (.ref C) [v']) _ _ _
    have hlim := I1.nolimit
    obtain ⟨hp, g, dr, tk, os⟩ := s1
    refine wpAny_call (fld_made o T I1.kIn hlim (by have := hr.dp; omega) fun h' tk' e d M => ?_)
    show MkP X pins σ Q (.ref e) ⟨h', g, dr, tk', os⟩
    obtain ⟨oe, fv, hoe, hc, hd, hdat, h1⟩ := M.obj
    have hns := M.ns
    obtain ⟨G', g1, g2⟩ := restrict h' fun b => decide (b ≠ e)
    have gk : ∀ b, b ≠ e → G'.get? b = h'.get? b := fun b hb => g1 b (decide_eq_true hb)
    have ge : G'.get? e = none := g2 e (by simp)
    have old : ∀ b o, hp.get? b = some o → G'.get? b = some o := fun b o q => (gk b (Nat.ne_of_lt (Nat.lt_of_lt_of_le (Heap.lt_size q) M.new))).trans (M.keep b o q)
    have ob : ObjOk X.prog X.w (upd H1 d (.xd [(f, v)])) G' d (.xd [(f, v)]) :=
      ⟨_, hns.at (fun o q => (gk d M.dne).trans q), fun g => relO_fld rv g⟩
    have J : Inv X pins σ (upd H1 d (.xd [(f, v)])) ⟨G', g, dr, tk', os⟩ := I1.laid (t' := tk') old M.dbig ob
    refine ⟨e, oe, fv, ⟨G', g, dr, tk', os⟩, _, .ref C, some d, rfl, J, fun b o q => ?_, ge, hoe, ⟨hc, hd⟩, hdat, h1, ?_, rfl, I1.bare, raises_own T.exC T.tyC, q1 d (I1.hok.fresh M.dbig)⟩
    · by_cases hb : b = e
      · have q' : G'.get? b = some o := q
        rw [hb, ge] at q'; cases q'
      · exact (gk b hb).symm.trans q
    · rw [upd_ne (Ne.symm M.dne)]
      exact I1.hok.fresh M.new
/-- an own error whose __init__ keeps its argument as f -/
def RfX (K : PySem.W.Frag) (mg : Str → Option Value) (nm f : Str) : Prop := ∃ C fI, ErrN K mg nm C ∧ FldTxt K f C fI
def sRaiseF (nm f : Str) (m : Rho → M D) : Rho → Sto → Fl := fun ρ st => (m ρ st).fl ρ fun d st1 => .exc ⟨nm, some (f, d)⟩ ρ st1
theorem ds_raiseF {a : Expr} {m : Rho → M D} {p pos pos2 : Pos} {k : Nat} (o : FOk f) (T : RfX X.K X.mg nm f) (B : Bd X W (k + 1)) (ha : DE X W a m) (hg : Gl X nm) (hdb : (nm == ("__debug__" : Str)) = false := by decide)
    (he : starEach (a :: []) X.env = (false, eval a X.env) :: starEach [] X.env := by rfl) (hpl : (backTo pos (starEach [] X.env)).any (·.1) = false := by rfl) :
    DS X W (.Raise (some (.Call (.Name nm p) [a] [] pos)) none pos2) (sRaiseF nm f m) := by
  obtain ⟨C, fI, T1, T2⟩ := T
  refine PS.weak (ps_raise B.calm B.tk (pmk_fld o T2 T1.gC B.room (pa_cons ha pa_nil he) hg hdb he hpl)) fun E σ H ⟨F, ι, ρ, st, S, R, q⟩ => ?_
  refine fl_seq S R q fun d st1 F1 ι1 H1 v x1 S1 R1 r1 q1 => ?_
  refine ⟨v, rfl, fun dd hdd => ?_⟩
  exact q1 (upd F1 dd (.xd [(f, v)])) ι1 _ (.ref C) (some dd) σ (Ext.frozen hdd S1.sub) (S1.frozen hdd trivial) (R1.ext (Ext.frozen hdd S1.sub)) ⟨T1.ns, dd, v, rfl, upd_same, Rep.ext r1 (Ext.frozen (H := H1) hdd S1.sub)⟩
end
theorem rfX_of {K : PySem.W.Frag} {mg : Str → Option Value} {nm f : Str} {C fI : Addr} {cn q qn : Str} {N : Addr} {bs bm : List Value} {sn : List Str} {sub : List Value} {ab : Bool} {col : Option Bool} {dd od an : Option Addr} {k0 k1 k2 k3 k5 : Option Value} {oc doc pm cdv ct : Value} {osl : Array (Option Value)} {p1 p2 q1 q2 q3 q4 : Pos}
    (T : ErrN K mg nm C) (xL : K.lookup C = some (excClassObj cn q C N bs bm true sn sub ab col dd k0 k1 k2 k3 k5 "ValueError.__new__")) (hb : PySem.HandSPX.refsVE bm = true)
    (sa : PySem.W.findIn K (.ref C) "__setattr__" = some (some (.builtin "object.__setattr__"))) (noN : PySem.W.findIn K (.ref C) f = some none) (iC : PySem.W.findIn K (.ref C) "__init__" = some (some (.ref fI))) (tC : PySem.W.typeIn K (.ref fI) = some (.type "function"))
    (lf : K.lookup fI = some ⟨oc, od, .func (PySem.W.fnOf "__init__" qn (iA f p1 p2) (iB f q1 q2 q3 q4) (iS f) .none .none doc pm an cdv ct), osl⟩) (cf : PySem.W.codeIn K cdv qn = true) : RfX K mg nm f :=
  ⟨C, fI, T, ⟨⟨_, _, _, _, _, _, _, _, _, _, _, _, _, _, _, xL, hb⟩, sa, T.ex.hg, T.ex.hk, noN, iC, tC, T.kC, T.ex.hs, T.ty, T.ex.hd, ⟨_, _, _, _, _, _, _, _, _, _, _, _, _, _, _, lf, cf⟩⟩⟩
theorem refs1 {c : Addr} : PySem.HandSPX.refsVE [.ref c, .type "ValueError", .type "Exception", .type "BaseException", .type "object"] = true := by
  show PySem.HandSPX.refsVE [.type "ValueError", .type "Exception", .type "BaseException", .type "object"] = true
  decide +kernel
theorem al_of {α : Type} {P : α → Prop} {x : α} {l : List α} (hx : x ∈ l) (h : ∀ z ∈ l, P z) : P x := h x hx
/-- no class of that name has an attribute f -/
def NoF (K : PySem.W.Frag) (z f : Str) : Prop := ∀ C, PySem.W.nsIn K mainGlobals z = some (some (.ref C)) → PySem.W.findIn K (.ref C) f = some none
theorem noF_of {K : PySem.W.Frag} {z f : Str} {C : Addr} (hn : PySem.W.nsIn K mainGlobals z = some (some (.ref C))) (h : PySem.W.findIn K (.ref C) f = some none) : NoF K z f := fun C' e => by
  rw [hn] at e
  cases e
  exact h
section
variable {X : Cx} {x : Xc} {e : D} {a : Addr} {oe : Obj} {pn : List (Addr × Obj)} {i : Nat} {p2 pos : Pos} {ev f : Str}
theorem de_xf (c : HC X x e a oe) (hv : DE (X.suite a ((a, oe) :: pn)) wN (.Name ev p2) (mVar i)) (hn : NoF X.K x.nm f)
    (hb : attributeBase (.Name ev p2) f X.env (eval (.Name ev p2) X.env) = eval (.Name ev p2) X.env := by rfl) :
    DE (X.suite a ((a, oe) :: pn)) wN (.Attribute (.Name ev p2) f pos) (mXfl i x e f) := by
  obtain ⟨C, d, hns, hC, hz, he⟩ := c.ex
  obtain ⟨fvs, hfl⟩ := c.fl
  refine ⟨fun pins s σ H Q I ⟨F, ι, ρ, st, S, R, q⟩ => ?_⟩
  refine attr_of hb (thn (hv.run pins s σ H (fun v H1 => v = .ref a ∧ ∃ (dd : Addr) (w : V), d = some dd ∧ H1 dd = some (.xd [(f, w)]) ∧ Q w H1) I ?_) fun u s1 hh => ?_)
  · refine tG_seq back_V S R q fun e' st1 F1 ι1 H1 v x1 S1 R1 r1 q1 => ?_
    by_cases he' : e' = e
    · rw [if_pos he'] at q1
      subst he'
      unfold EV at he
      cases hf : x.fld with
      | none =>
        rw [hf] at q1
        exact (q1 : False).elim
      | some p =>
        obtain ⟨g, w⟩ := p
        rw [hf] at q1 he
        dsimp only at q1 he
        obtain ⟨dd, rfl, rfl⟩ := he
        simp only [Rep] at r1
        obtain ⟨rfl, u, r2, r3⟩ := r1
        by_cases hg : g = f
        · rw [if_pos hg] at q1
          subst hg
          exact ⟨rfl, dd, u, rfl, S1.sub _ _ r2, q1 F1 ι1 H1 u Ext.refl S1 r3⟩
        · rw [if_neg hg] at q1
          exact (q1 : False).elim
    · rw [if_neg he'] at q1
      exact (q1 : False).elim
  · obtain ⟨v, H1, I1, rx, rfl, dd, w, rfl, ea, q1⟩ := hh
    obtain rfl : u = Value.ref a := rx
    obtain ⟨ha, _⟩ := I1.pin (a, oe) (List.mem_append_left _ List.mem_cons_self)
    have hx : ObjOk X.prog X.w H1 s1.heap dd (.xd [(f, w)]) := I1.hok dd _ ea
    obtain ⟨mA, hns', hr⟩ := hx
    obtain ⟨od, ho, hl⟩ := lookIn_ns hns'
    have l : List.lookup f [(f, w)] = some w := by simp [List.lookup]
    obtain ⟨u, hu, ru⟩ := RelO.some_of (v := w) (o := mA f) (by rw [← l]; exact hr f)
    have J : PySem.W.InstAt s1.heap a oe C (some od) := ⟨ha, hz.1, by unfold PySem.W.notCls; rw [hfl] <;> rfl, by rw [hz.2]; exact ho⟩
    exact PySem.HandSPX.exc_get I1.kIn J hC.hg hC.hk hC.hs (PySem.W.findObj_own hC.hd (hn C hns) rfl (by rw [hl, hu])) (handed_of ru) ⟨w, H1, I1.tok _, ru, q1⟩
end
/-! ### a def with *args -/
/-- a def's promise, its arguments bound -/
def FnBody (P : Program) (w : World) (K : PySem.W.Frag) (mg : Str → Option Value) (base : Heap) (k : Nat) (f : Addr) (fd : FuncData) (body : List Stmt) (ps : List Str) (sp : Sp) : Prop :=
  ∀ (B : Around) (fr : List Env) (s : Shared) (H : Hp) (us : List Value) (vs : List V) (Q : VK) (E : XK), Room k B → B.guards = some [] → Env0 P w K mg base B fr s H → Vals vs us → sp vs H Q E →
    wpAny (model P w) B.in1 (newFunctionEnv fd.scope fd.globals fd.closure (ps.zip us) (fd.qualname ++ ".<locals>.") (some f) fd.code none fd.builtins)
      (fun env s₂ => s₂.heap.NoLimit ∧ codeAny (model P w) B (.func body env) (CR (L2.CX P w) fr P w H s Q E) s₂) (fun e s' => CR (L2.CX P w) fr P w H s Q E (.error e) s') s
section
variable {P : Program} {w : World} {K : PySem.W.Frag} {mg : Str → Option Value} {base : Heap}
theorem fnBody_of {x qual : Str} {stm : Stmt} {f : Addr} {fd : FuncData} {N ps : List Str} {k : Nat} {m : Rho → Sto → Fl} (Fn : Fun K x qual stm f fd) (SC : FnScope N ps (defScope stm)) (hN : ps.length ≤ N.length)
    (hb : ∀ (cdv : Value) (B : Around) (fr : List Env) (s : Shared) (H : Hp) (E : XK), Bd (cxOf (L2.CX P w) P w K mg base N qual (defScope stm) f cdv B fr s H E) (wE E) k →
      PassesOwn (model P w) (B.deeper (envOfC qual (defScope stm) s.heap.objs.size f cdv)) (envOfC qual (defScope stm) s.heap.objs.size f cdv) (cxOf (L2.CX P w) P w K mg base N qual (defScope stm) f cdv B fr s H E).xe →
      DSs (cxOf (L2.CX P w) P w K mg base N qual (defScope stm) f cdv B fr s H E) (wE E) (defBody stm) m) :
    FnBody P w K mg base (k + 1) f fd (defBody stm) ps (spD K ps.length (fnD ps.length N.length m)) := by
  obtain ⟨oc, od, kV, doc, pm, an, cdv, ct, osl, rfl, lk, hcd⟩ := Fn.ex
  intro B fr s H us vs Q E hr hgd e0 rv hsp
  have hl : vs.length = ps.length := hsp.1
  have hKs : K.In s.heap := e0.mod.kin.keeps fun b o e => (e0.bs b o e).1
  have hlim : s.heap.NoLimit := e0.mod.nolimit.keeps fun b o e => (e0.bs b o e).1
  refine wpAny_newFunctionEnv_cells SC.kind (fun ⟨y, u⟩ hy => ?_) fun env he s1 ic => ?_
  · rcases SC.par y (List.of_mem_zip hy).1 with q | q
    · exact .inl q
    · exact .inr ⟨q, PySem.W.cellsFrom_some _ _ _ (.inl q)⟩
  subst he
  refine ⟨hlim.keeps ic.toInCall.keep, codeAny_func ?_⟩
  obtain ⟨_, F, ι, st, ds, S, rs, q⟩ := hsp
  have hds : ds.length = ps.length := by rw [rs.length]; exact hl
  have I := inv_start (CX := L2.CX P w) (E := E) (cd := cdv) SC hr.hd e0 hl rv ic
  have bd : Bd (cxOf (L2.CX P w) P w K mg base N qual (defScope stm) f cdv B fr s H E) (wE E) k :=
    ⟨hr.deeper _, hgd, rfl, SC.nd, takes_of (X := cxOf (L2.CX P w) P w K mg base N qual (defScope stm) f cdv B fr s H E) (E := E) (E₁ := fun e' s'' => L2.CX P w fr H s E e' s'') rfl rfl rfl rfl⟩
  have hown := passes_of (X := cxOf (L2.CX P w) P w K mg base N qual (defScope stm) f cdv B fr s H E) (K := fun e s'' => L2.CX P w fr H s E e s'') (E₁ := fun e' s'' => L2.CX P w fr H s E e' s'') rfl
  unfold fnD at q
  rw [if_pos hds] at q
  refine wpAny_mono ((hb cdv B fr s H E bd hown).run [] s1 (start N vs) H { nx := fun _ H' => Q .non H', rt := Q } I ⟨F, ι, rho0 N.length ds, st, S, REnv.start rs (by omega), body_end S q⟩) (fun fl s' hs => ?_) fun e s' hs => hs
  cases fl with
  | ret u =>
    obtain ⟨v, σ', H', J, r', qq⟩ := hs
    exact ⟨v, H', J.os, J.bare, J.base, J.hok, r', qq⟩
  | next =>
    obtain ⟨σ', H', J, qq⟩ := hs
    exact ⟨V.non, H', J.os, J.bare, J.base, J.hok, rfl, qq⟩
  | brk =>
    obtain ⟨_, _, _, qq⟩ := hs
    exact False.elim qq
  | cont =>
    obtain ⟨_, _, _, qq⟩ := hs
    exact False.elim qq
/-- a def with *args alone, that may be called by its name -/
structure FnCV (P : Program) (w : World) (K : PySem.W.Frag) (mg : Str → Option Value) (base : Heap) (k : Nat) (x : Str) (spec : List D → M D) : Prop where
  ex : ∃ (f : Addr) (fd : FuncData) (p y qual : Str) (stm : Stmt), FnBody P w K mg base k f fd (defBody stm) [p] (spD K 1 spec) ∧ Fun K y qual stm f fd ∧ (defScope stm).isCoroutine = false ∧ (defScope stm).isGenerator = false ∧ mg x = some (.ref f) ∧ PySem.W.keepIn K (.ref f) = true ∧
    ∀ us : List Value, bindArgs fd ⟨us, []⟩ = (newTuple us >>= fun t => pure [(p, t)])
end
def varD (spec : List D → M D) : List D → M D := fun ds st => if ds.length ≤ SZ then spec [.tup ds] st else .bad
section
variable {X : Cx} {W : WX} {k j : Nat} {x : Str} {spec : List D → M D} {p pos : Pos} {e : Expr} {es : List Expr} {am : Rho → M (List D)}
theorem de_callV (B : Bd X W j) (C : FnCV X.prog X.w X.K X.mg X.base k x spec) (hk : k ≤ j) (hg : Gl X x) (ha : DA X W (e :: es) am) (hdb : (x == ("__debug__" : Str)) = false := by decide)
    (he : starEach (e :: es) X.env = (false, eval e X.env) :: starEach es X.env := by rfl) (hpl : (backTo pos (starEach es X.env)).any (·.1) = false := by rfl) : DE X W (.Call (.Name x p) (e :: es) [] pos) (mCall (varD spec) am) := by
  obtain ⟨f, fd, pn, y, qual, stm, F, Fn, hco, hgen, hm, kp, hb⟩ := C.ex
  refine ⟨fun pins s σ H Q I ⟨F0, ι, ρ, st, S, R, q⟩ => ?_⟩
  refine wpAny_Call_Name_kw (ld_glob I hg hm ?_ hdb)
  refine PySem.W.callWith_K (h₀ := X.base) I.ok.mod.kin kp (thn (ha.run pos pins s σ H (fun vs H1 => vs.length ≤ sizeLine ∧ ∀ (p : Addr) (o : Obj), o.dict = none → H1 p = none → spD X.K 1 spec [.ref p] (upd H1 p (.frz o (.tup vs))) Q (fun cls dd H' => W cls dd σ H')) I ?_) fun us s1 ⟨vs, H1, I1, r, z, qq⟩ => ⟨I1.kIn, ?_⟩) he hpl
  · refine tG_seq back_V S R q fun ds st1 F1 ι1 H1 vs x1 S1 R1 r1 q1 => ?_
    unfold varD at q1
    by_cases hz : ds.length ≤ SZ
    · rw [if_pos hz] at q1
      refine ⟨by rw [← Reps.length r1]; exact sz_le hz, fun p o ho hp => ?_⟩
      refine spD_of (S1.frozen hp trivial) (ds := [.tup ds]) ?_ rfl (post_ext back_V q1 (Ext.frozen hp S1.sub))
      simp only [Reps, Rep]
      exact ⟨_, _, rfl, ⟨p, vs, rfl, .inl ⟨o, ho, upd_same⟩, Reps.ext r1 (Ext.frozen (H := H1) hp S1.sub)⟩, rfl⟩
    · rw [if_neg hz] at q1
      exact q1.elim
  · have hr := B.room.mono hk
    obtain ⟨oc, od, kV, doc, pm, an, cdv, ct, osl, rfl, lk, hcd⟩ := Fn.ex
    have I2 := fin_tup (t' := s1.toks) (Q := fun v H2 => spD X.K 1 spec [v] H2 Q fun cls dd H' => W cls dd σ H') I1 r z qq
    obtain ⟨v2, H2, I2, rv2, sp2⟩ := I2
    have hzu : us.length ≤ sizeLine := by rw [← r.length]; exact z
    refine wpAny_call (codeAny_call_function hr.depth (I1.kIn _ _ lk) rfl hco hgen rfl (PySem.W.codeRec_of I1.kIn hcd) ?_)
    rw [show ([] ++ us : List Value) = us from rfl, hb us]
    refine wpAny_bind (wpAny_newTuple ?_ hzu)
    refine wpAny_pure ?_
    refine wpAny_mono (F X.A X.stack _ H2 [_] [v2] Q (fun cls dd H' => W cls dd σ H') hr B.gd I2.env0 (.cons rv2 .nil) sp2) (fun env s2 ⟨h1, h2⟩ => ⟨h1, codeAny_mono h2 fun r s' hq => ?_⟩) fun e s' hq => passAt B.tk σ pins H2 _ e s' I2 hq
    cases r with
    | error y => exact passAt B.tk σ pins H2 _ y s' I2 hq
    | ok fl =>
      cases fl with
      | ret u => exact I2.after hq
      | next => exact False.elim hq
      | brk => exact False.elim hq
      | cont => exact False.elim hq
end
end Dn
/-! DnT: a list of the store that is changed no more. -/
namespace Dn
open PySem PySem.Spec PyProof.Rows L2
def mFrzV (i : Nat) : Rho → M D := fun ρ st => match ρ[i]? with
  | some (some (.ref l)) => match st[l]? with
    | some (.lst xs) => .ok (.lst xs) (st.set l .gone)
    | _ => .bad
  | _ => .bad
theorem de_frv {X : Cx} {W : WX} {pos : Pos} {i : Nat} {x : Str} (hN : X.N[i]? = some x) (hv : Vis X.env.scope x) (hd : (x == ("__debug__" : Str)) = false := by decide) (hcd : (x == ("__classdict__" : Str)) = false := by decide) : DE X W (.Name x pos) (mFrzV i) := by
  refine PE.weak (pe_var hN hv hd hcd) fun σ H Q ⟨F, ι, ρ, st, S, R, h⟩ => ?_
  unfold mFrzV at h
  split at h
  · rename_i l e
    split at h
    · rename_i xs e2
      obtain ⟨v, q, r⟩ := R.at_ i _ e
      obtain ⟨a, vs, rfl, q1, q2, q3⟩ := S.mut r e2
      refine ⟨_, q, h (upd F a (.lst vs)) ι H (.ref a) (Ext.retire S q1 q2) (S.retire q1 q2) ?_⟩
      show Rep _ _ _ _ _
      simp only [Rep]
      exact ⟨a, vs, rfl, upd_same, Reps.ext q3 (Ext.retire S q1 q2)⟩
    · exact h.elim
  · exact h.elim
/-- from here on the list in slot i is changed no more -/
def sFz (i : Nat) (m : Rho → Sto → Fl) : Rho → Sto → Fl := fun ρ st => match ρ[i]? with
  | some (some (.ref l)) => match st[l]? with
    | some (.lst xs) => m (ρ.set i (some (.lst xs))) (st.set l .gone)
    | _ => .bad
  | _ => .bad
theorem REnv.set1 {K : PySem.W.Frag} {F : Hp} {ι : List Addr} {ρ : Rho} {σ : L2.St} (h : REnv K F ι ρ σ) {i : Nat} {d : D} {v : V} (hv : σ[i]? = some (some v)) (r : Rep K F ι d v) : REnv K F ι (ρ.set i (some d)) σ := by
  refine ⟨by simp [h.len], fun j e q => ?_⟩
  by_cases hj : i = j
  · subst hj
    have hl : i < ρ.length := by have := (List.getElem?_eq_some_iff.mp q).1; simpa using this
    rw [List.getElem?_set_self hl] at q
    cases q
    exact ⟨v, hv, r⟩
  · rw [List.getElem?_set_ne hj] at q
    exact h.at_ j e q
theorem fz_of {K : PySem.W.Frag} {W : WX} {i : Nat} {m : Rho → Sto → Fl} {E : Ends} {σ : L2.St} {H : Hp} (h : tS K W (sFz i m) E σ H) : tS K W m E σ H := by
  obtain ⟨F, ι, ρ, st, S, R, q⟩ := h
  unfold sFz at q
  split at q
  · rename_i l e
    split at q
    · rename_i xs e2
      obtain ⟨v, q0, r⟩ := R.at_ i _ e
      obtain ⟨a, vs, rfl, q1, q2, q3⟩ := S.mut r e2
      have x := Ext.retire S q1 q2
      refine ⟨_, ι, _, _, S.retire q1 q2, (R.ext x).set1 (d := .lst xs) q0 ?_, sPost_ext q x⟩
      simp only [Rep]
      exact ⟨a, vs, rfl, upd_same, Reps.ext q3 x⟩
    · exact q.elim
  · exact q.elim
theorem dss_fz {X : Cx} {W : WX} {ss : List Stmt} {i : Nat} {m : Rho → Sto → Fl} (h : DSs X W ss m) : DSs X W ss (sFz i m) := PSs.weak h fun _ _ _ q => fz_of q
theorem ds_fz {X : Cx} {W : WX} {ss : Stmt} {i : Nat} {m : Rho → Sto → Fl} (h : DS X W ss m) : DS X W ss (sFz i m) := PS.weak h fun _ _ _ q => fz_of q
/-- from here on the dict in slot i is changed no more -/
def sFzD (i : Nat) (m : Rho → Sto → Fl) : Rho → Sto → Fl := fun ρ st => match ρ[i]? with
  | some (some (.ref l)) => match st[l]? with
    | some (.dct ks xs) => m (ρ.set i (some (.fd ks xs))) (st.set l .gone)
    | _ => .bad
  | _ => .bad
theorem fzD_of {K : PySem.W.Frag} {W : WX} {i : Nat} {m : Rho → Sto → Fl} {E : Ends} {σ : L2.St} {H : Hp} (h : tS K W (sFzD i m) E σ H) : tS K W m E σ H := by
  obtain ⟨F, ι, ρ, st, S, R, q⟩ := h
  unfold sFzD at q
  split at q
  · rename_i l e
    split at q
    · rename_i ks xs e2
      obtain ⟨v, q0, r⟩ := R.at_ i _ e
      simp only [Rep] at r
      obtain ⟨a, rfl, hl⟩ := r
      obtain ⟨ys, ws, z, qa, kt, vr, rr⟩ := S.obj l _ a e2 hl
      have x := Ext.retireO S hl qa
      refine ⟨_, ι, _, _, S.retireO hl qa trivial, (R.ext x).set1 (d := .fd ks xs) q0 ?_, sPost_ext q x⟩
      simp only [Rep]
      exact ⟨a, ys, ws, rfl, z, upd_same, kt.mono x.f, vr, Reps.ext rr x⟩
    · exact q.elim
  · exact q.elim
theorem dss_fzd {X : Cx} {W : WX} {ss : List Stmt} {i : Nat} {m : Rho → Sto → Fl} (h : DSs X W ss m) : DSs X W ss (sFzD i m) := PSs.weak h fun _ _ _ q => fzD_of q
theorem ds_fzd {X : Cx} {W : WX} {ss : Stmt} {i : Nat} {m : Rho → Sto → Fl} (h : DS X W ss m) : DS X W ss (sFzD i m) := PS.weak h fun _ _ _ q => fzD_of q
end Dn
/-! DnU: meanings by typed values: a monad over a world, and what it is that a combinator computes in it. -/
namespace Dn
open PySem PySem.Spec PyProof.Rows L2
inductive Rs (S α : Type) where
  | ok (a : α) (s : S) | exc (x : Xc) (s : S) | bad
def Mt (S α : Type) := S → Rs S α
section
variable {S α β γ : Type}
def rbind (r : Rs S α) (k : α → Mt S β) : Rs S β := match r with
  | .ok a s => k a s
  | .exc x s => .exc x s
  | .bad => .bad
def mpure (a : α) : Mt S α := fun s => .ok a s
def mbind (m : Mt S α) (k : α → Mt S β) : Mt S β := fun s => rbind (m s) k
def mbad : Mt S α := fun _ => .bad
def mraise (x : Xc) : Mt S α := fun s => .exc x s
def mopt (o : Option α) : Mt S α := match o with
  | some a => mpure a
  | none => mbad
@[simp] theorem rbind_ok (a : α) (s : S) (k : α → Mt S β) : rbind (.ok a s) k = k a s := rfl
@[simp] theorem rbind_exc (x : Xc) (s : S) (k : α → Mt S β) : rbind (.exc x s) k = .exc x s := rfl
@[simp] theorem rbind_bad (k : α → Mt S β) : rbind .bad k = .bad := rfl
@[simp] theorem mbind_pure (a : α) (k : α → Mt S β) : mbind (mpure a) k = k a := rfl
@[simp] theorem mopt_some (a : α) : (mopt (some a) : Mt S α) = mpure a := rfl
@[simp] theorem mopt_none : (mopt none : Mt S α) = mbad := rfl
@[simp] theorem mbind_bad (k : α → Mt S β) : mbind mbad k = mbad := rfl
@[simp] theorem mbind_raise (x : Xc) (k : α → Mt S β) : mbind (mraise x) k = mraise x := rfl
theorem mbind_assoc (m : Mt S α) (k : α → Mt S β) (l : β → Mt S γ) : mbind (mbind m k) l = mbind m fun a => mbind (k a) l := by
  funext s
  unfold mbind
  cases m s <;> rfl
theorem mpure_ap (a : α) (s : S) : mpure a s = .ok a s := rfl
theorem mbind_ap (m : Mt S α) (k : α → Mt S β) (s : S) : mbind m k s = rbind (m s) k := rfl
theorem mbind_ret (m : Mt S α) : mbind m mpure = m := by
  funext s
  unfold mbind
  cases m s <;> rfl
end

/-! ### the world, the slots -/
structure Wd (S : Type) where
  st : S → Sto
  n : Nat
  len : ∀ s, (st s).length = n
  low : ∀ s (l : Nat) (m : MO), (st s)[l]? = some m → m.low n = true
/-- what is known of a slot: nothing; its value; that it alone holds an object of the store -/
inductive Sl where
  | any | val (d : D) | mut (m : MO)
def Pre {S : Type} (W : Wd S) (fr : Sto) (s : S) (st : Sto) : Prop := ∃ loc, st = W.st s ++ (fr ++ loc)
structure Has {S : Type} (W : Wd S) (fr : Sto) (s : S) (Γ : List Sl) (ρ : Rho) (st : Sto) : Prop where
  len : ρ.length = Γ.length
  pre : Pre W fr s st
  val : ∀ (i : Nat) d, Γ[i]? = some (.val d) → ρ[i]? = some (some d)
  mt : ∀ (i : Nat) m, Γ[i]? = some (.mut m) → ∃ l, ρ[i]? = some (some (.ref l)) ∧ W.n + fr.length ≤ l ∧ st[l]? = some m
  nal : ∀ (i j : Nat) m1 m2, Γ[i]? = some (.mut m1) → Γ[j]? = some (.mut m2) → ρ[i]? = ρ[j]? → i = j
section
variable {S : Type} {W : Wd S} {fr : Sto} {s s' : S} {Γ Γ' : List Sl} {ρ ρ' : Rho} {st st' : Sto}
theorem Has.bound (h : Has W fr s Γ ρ st) : W.n + fr.length ≤ st.length := by
  obtain ⟨loc, e⟩ := h.pre
  rw [e, List.length_append, List.length_append, W.len]
  omega
theorem Has.setVal (h : Has W fr s Γ ρ st) (i : Nat) (d : D) : Has W fr s (Γ.set i (.val d)) (ρ.set i (some d)) st := by
  refine ⟨by simp [h.len], h.pre, fun j d' e => ?_, fun j m e => ?_, fun j k m1 m2 e1 e2 e3 => ?_⟩
  · by_cases hj : i = j
    · subst hj
      have hl : i < Γ.length := by have := (List.getElem?_eq_some_iff.mp e).1; simpa using this
      rw [List.getElem?_set_self hl] at e
      cases e
      rw [List.getElem?_set_self (by rw [h.len]; exact hl)]
    · rw [List.getElem?_set_ne hj] at e ⊢
      exact h.val j d' e
  · have hj : i ≠ j := fun q => by
      subst q
      have hl : i < Γ.length := by have := (List.getElem?_eq_some_iff.mp e).1; simpa using this
      rw [List.getElem?_set_self hl] at e
      cases e
    rw [List.getElem?_set_ne hj] at e ⊢
    exact h.mt j m e
  · have key : ∀ (j : Nat) m, (Γ.set i (.val d))[j]? = some (.mut m) → i ≠ j := fun j m e q => by
      subst q
      have hl : i < Γ.length := by have := (List.getElem?_eq_some_iff.mp e).1; simpa using this
      rw [List.getElem?_set_self hl] at e
      cases e
    have h1 := key j m1 e1
    have h2 := key k m2 e2
    rw [List.getElem?_set_ne h1] at e1 e3
    rw [List.getElem?_set_ne h2] at e2 e3
    exact h.nal j k m1 m2 e1 e2 e3
theorem Has.setNew (h : Has W fr s Γ ρ st) (i : Nat) (m : MO) : Has W fr s (Γ.set i (.mut m)) (ρ.set i (some (.ref st.length))) (st ++ [m]) := by
  have hb := h.bound
  have old : ∀ (j : Nat) m', Γ[j]? = some (.mut m') → ∃ l, ρ[j]? = some (some (.ref l)) ∧ l < st.length ∧ W.n + fr.length ≤ l ∧ st[l]? = some m' := fun j m' e => by
    obtain ⟨l, q1, q2, q3⟩ := h.mt j m' e
    exact ⟨l, q1, (List.getElem?_eq_some_iff.mp q3).1, q2, q3⟩
  refine ⟨by simp [h.len], ?_, fun j d' e => ?_, fun j m' e => ?_, fun j k m1 m2 e1 e2 e3 => ?_⟩
  · obtain ⟨loc, e⟩ := h.pre
    exact ⟨loc ++ [m], by rw [e]; simp⟩
  · have hj : i ≠ j := fun q => by
      subst q
      have hl : i < Γ.length := by have := (List.getElem?_eq_some_iff.mp e).1; simpa using this
      rw [List.getElem?_set_self hl] at e
      cases e
    rw [List.getElem?_set_ne hj] at e ⊢
    exact h.val j d' e
  · by_cases hj : i = j
    · subst hj
      have hl : i < Γ.length := by have := (List.getElem?_eq_some_iff.mp e).1; simpa using this
      rw [List.getElem?_set_self hl] at e
      cases e
      exact ⟨st.length, by rw [List.getElem?_set_self (by rw [h.len]; exact hl)], hb, by simp⟩
    · rw [List.getElem?_set_ne hj] at e ⊢
      obtain ⟨l, q1, q2, q3, q4⟩ := old j m' e
      exact ⟨l, q1, q3, by rw [List.getElem?_append_left q2]; exact q4⟩
  · by_cases hj : i = j
    · by_cases hk : i = k
      · rw [← hj, ← hk]
      · subst hj
        have hl : i < Γ.length := by have := (List.getElem?_eq_some_iff.mp e1).1; simpa using this
        rw [List.getElem?_set_self (by rw [h.len]; exact hl), List.getElem?_set_ne hk] at e3
        rw [List.getElem?_set_ne hk] at e2
        obtain ⟨l, q1, q2, _⟩ := old k m2 e2
        rw [q1] at e3
        injection e3 with e3
        injection e3 with e3
        injection e3 with e3
        omega
    · by_cases hk : i = k
      · subst hk
        have hl : i < Γ.length := by have := (List.getElem?_eq_some_iff.mp e2).1; simpa using this
        rw [List.getElem?_set_self (by rw [h.len]; exact hl), List.getElem?_set_ne hj] at e3
        rw [List.getElem?_set_ne hj] at e1
        obtain ⟨l, q1, q2, _⟩ := old j m1 e1
        rw [q1] at e3
        injection e3 with e3
        injection e3 with e3
        injection e3 with e3
        omega
      · rw [List.getElem?_set_ne hj] at e1 e3
        rw [List.getElem?_set_ne hk] at e2 e3
        exact h.nal j k m1 m2 e1 e2 e3
theorem Has.write (h : Has W fr s Γ ρ st) {i l : Nat} {m : MO} (m' : MO) (hi : Γ[i]? = some (.mut m)) (hl : ρ[i]? = some (some (.ref l))) : Has W fr s (Γ.set i (.mut m')) ρ (st.set l m') := by
  obtain ⟨l', q1, q2, q3⟩ := h.mt i m hi
  rw [hl] at q1
  injection q1 with q1
  injection q1 with q1
  injection q1 with q1
  subst q1
  have hlt := (List.getElem?_eq_some_iff.mp q3).1
  have hil := (List.getElem?_eq_some_iff.mp hi).1
  refine ⟨by simp [h.len], ?_, fun j d' e => ?_, fun j m2 e => ?_, fun j k m1 m2 e1 e2 e3 => ?_⟩
  · obtain ⟨loc, e⟩ := h.pre
    refine ⟨loc.set (l - (W.n + fr.length)) m', ?_⟩
    have h1 : (W.st s).length = W.n := W.len s
    rw [e, List.set_append_right _ _ (by omega), List.set_append_right _ _ (by omega)]
    congr 3
    omega
  · by_cases hj : i = j
    · subst hj
      rw [List.getElem?_set_self hil] at e
      cases e
    · rw [List.getElem?_set_ne hj] at e
      exact h.val j d' e
  · by_cases hj : i = j
    · subst hj
      rw [List.getElem?_set_self hil] at e
      cases e
      exact ⟨l, hl, q2, by rw [List.getElem?_set_self hlt]⟩
    · rw [List.getElem?_set_ne hj] at e
      obtain ⟨k, p1, p2, p3⟩ := h.mt j m2 e
      refine ⟨k, p1, p2, ?_⟩
      have hk : l ≠ k := fun q => by
        subst q
        exact hj (h.nal i j m m2 hi e (hl.trans p1.symm))
      rw [List.getElem?_set_ne hk]
      exact p3
  · have key : ∀ (j : Nat) m2, (Γ.set i (.mut m'))[j]? = some (.mut m2) → ∃ m3, Γ[j]? = some (.mut m3) := fun j m2 e => by
      by_cases hj : i = j
      · subst hj; exact ⟨m, hi⟩
      · rw [List.getElem?_set_ne hj] at e; exact ⟨m2, e⟩
    obtain ⟨n1, f1⟩ := key j m1 e1
    obtain ⟨n2, f2⟩ := key k m2 e2
    exact h.nal j k n1 n2 f1 f2 e3
theorem Has.grow (h : Has W fr s Γ ρ st) (g : Sto) : Has W fr s Γ ρ (st ++ g) := by
  refine ⟨h.len, ?_, h.val, fun j m e => ?_, h.nal⟩
  · obtain ⟨loc, e⟩ := h.pre
    exact ⟨loc ++ g, by rw [e]; simp⟩
  · obtain ⟨l, q1, q2, q3⟩ := h.mt j m e
    exact ⟨l, q1, q2, by rw [List.getElem?_append_left (List.getElem?_eq_some_iff.mp q3).1]; exact q3⟩
/-- the world goes on, the rest of the store stands -/
theorem Has.world {loc : Sto} (h : Has W fr s Γ ρ (W.st s ++ (fr ++ loc))) (s' : S) : Has W fr s' Γ ρ (W.st s' ++ (fr ++ loc)) := by
  refine ⟨h.len, ⟨loc, rfl⟩, h.val, fun j m e => ?_, h.nal⟩
  obtain ⟨l, q1, q2, q3⟩ := h.mt j m e
  refine ⟨l, q1, q2, ?_⟩
  have h1 : (W.st s).length = W.n := W.len s
  have h2 : (W.st s').length = W.n := W.len s'
  rw [List.getElem?_append_right (by omega)] at q3 ⊢
  rw [h2]
  rw [h1] at q3
  exact q3
/-- less is known -/
inductive Wk : List Sl → List Sl → Prop where
  | nil : Wk [] []
  | any {a : Sl} {Γ Γ' : List Sl} (h : Wk Γ Γ') : Wk (a :: Γ) (.any :: Γ')
  | same {a : Sl} {Γ Γ' : List Sl} (h : Wk Γ Γ') : Wk (a :: Γ) (a :: Γ')
theorem Wk.len {Γ Γ' : List Sl} (h : Wk Γ Γ') : Γ.length = Γ'.length := by
  induction h with
  | nil => rfl
  | any _ ih => simp [ih]
  | same _ ih => simp [ih]
theorem Wk.get {Γ Γ' : List Sl} (h : Wk Γ Γ') : ∀ (i : Nat) (a : Sl), Γ'[i]? = some a → a = .any ∨ Γ[i]? = some a := by
  induction h with
  | nil => intro i a e; simp at e
  | any _ ih =>
    intro i a e
    cases i with
    | zero => left; simpa using e.symm
    | succ i => simpa using ih i a (by simpa using e)
  | same _ ih =>
    intro i a e
    cases i with
    | zero => right; simpa using e
    | succ i => simpa using ih i a (by simpa using e)
theorem Wk.refl : ∀ Γ : List Sl, Wk Γ Γ
  | [] => .nil
  | _ :: Γ => .same (Wk.refl Γ)
theorem Has.wk (h : Has W fr s Γ ρ st) (w : Wk Γ Γ') : Has W fr s Γ' ρ st := by
  have g : ∀ (i : Nat) (a : Sl), Γ'[i]? = some a → a ≠ .any → Γ[i]? = some a := fun i a e n => (w.get i a e).resolve_left n
  exact ⟨h.len.trans w.len, h.pre, fun i d e => h.val i d (g i _ e (by simp)), fun i m e => h.mt i m (g i _ e (by simp)), fun i j m1 m2 e1 e2 => h.nal i j m1 m2 (g i _ e1 (by simp)) (g j _ e2 (by simp))⟩
theorem Has.drop (h : Has W fr s Γ ρ st) (i : Nat) : Has W fr s (Γ.set i .any) ρ st := by
  have g : ∀ (j : Nat) (a : Sl), (Γ.set i .any)[j]? = some a → a ≠ .any → Γ[j]? = some a := fun j a e n => by
    by_cases hj : i = j
    · subst hj
      have hl : i < Γ.length := by have := (List.getElem?_eq_some_iff.mp e).1; simpa using this
      rw [List.getElem?_set_self hl] at e
      cases e
      exact absurd rfl n
    · rw [List.getElem?_set_ne hj] at e; exact e
  exact ⟨by simp [h.len], h.pre, fun i d e => h.val i d (g i _ e (by simp)), fun i m e => h.mt i m (g i _ e (by simp)), fun i j m1 m2 e1 e2 => h.nal i j m1 m2 (g i _ e1 (by simp)) (g j _ e2 (by simp))⟩
end

/-! ### expressions -/
def Xc.pl (x : Xc) : Prop := match x.fld with
  | none => True
  | some p => isP p.2 = true
section
variable {S : Type} (W : Wd S) (fr : Sto)
def OR {A β : Type} (Γ' : β → List Sl) (ρ : Rho) (enc : β → A) (r : Out A) (q : Rs S β) : Prop := match q with
  | .ok b s' => ∃ st', r = .ok (enc b) st' ∧ Has W fr s' (Γ' b) ρ st'
  | .exc x s' => ∃ st', r = .exc x st' ∧ Pre W fr s' st' ∧ x.pl
  | .bad => True
/-- m computes q, in the typed values -/
def HT {A β : Type} (Γ : List Sl) (m : Rho → M A) (q : Mt S β) (enc : β → A) (Γ' : β → List Sl) : Prop := ∀ s ρ st, Has W fr s Γ ρ st → OR W fr Γ' ρ enc (m ρ st) (q s)
/-- m has the value d, and changes nothing -/
def HV {A : Type} (Γ : List Sl) (m : Rho → M A) (d : A) : Prop := ∀ s ρ st, Has W fr s Γ ρ st → m ρ st = .ok d st
/-- the arguments, then F -/
def AC {A β : Type} (Γ : List Sl) (a : Rho → M (List D)) (F : List D → M A) (q : Mt S β) (enc : β → A) (Γ' : β → List Sl) : Prop := ∀ s ρ st, Has W fr s Γ ρ st → OR W fr Γ' ρ enc ((a ρ st).bind F) (q s)
def FO {β : Type} (fr : Sto) (enc : β → D) (r : Out D) (q : Rs S β) : Prop := match q with
  | .ok b s' => r = .ok (enc b) (W.st s' ++ fr)
  | .exc x s' => r = .exc x (W.st s' ++ fr) ∧ x.pl
  | .bad => True
/-- a def, called with these arguments -/
def FN {β : Type} (d : List D → M D) (args : List D) (q : Mt S β) (enc : β → D) : Prop := ∀ (fr : Sto) (s : S), FO W fr enc (d args (W.st s ++ fr)) (q s)
end
section
variable {S : Type} {W : Wd S} {fr : Sto} {Γ Γ1 Γ2 : List Sl} {ρ : Rho}
theorem Out.bind_assoc {α β γ : Type} (r : Out α) (f : α → Sto → Out β) (g : β → Sto → Out γ) : (r.bind f).bind g = r.bind fun a st => (f a st).bind g := by cases r <;> rfl
theorem OR.bind {A B β γ : Type} {Γ' : β → List Sl} {Γ'' : γ → List Sl} {e : β → A} {e' : γ → B} {r : Out A} {q : Rs S β} {f : A → Sto → Out B} {k : β → Mt S γ} (h : OR W fr Γ' ρ e r q)
    (hk : ∀ b s st, Has W fr s (Γ' b) ρ st → OR W fr Γ'' ρ e' (f (e b) st) (k b s)) : OR W fr Γ'' ρ e' (r.bind f) (rbind q k) := by
  cases q with
  | ok b s =>
    obtain ⟨st', rfl, h2⟩ := h
    exact hk b s st' h2
  | exc x s =>
    obtain ⟨st', rfl, h2⟩ := h
    exact ⟨st', rfl, h2⟩
  | bad => trivial
theorem ht_ofV {A β : Type} {m : Rho → M A} {x : β} {enc : β → A} (h : HV W fr Γ m (enc x)) : HT W fr Γ m (mpure x) enc fun _ => Γ := fun s ρ st H => ⟨st, h s ρ st H, H⟩
theorem ht_enc {A B β : Type} {m : Rho → M A} {q : Mt S β} {e : β → A} {e2 : β → A} {Γ' : β → List Sl} (h : HT W fr Γ m q e Γ') (he : e = e2) : HT W fr Γ m q e2 Γ' := he ▸ h
/-! arguments -/
theorem ac_nil {A β : Type} {F : List D → M A} {q : Mt S β} {enc : β → A} {Γ' : β → List Sl} (h : ∀ s ρ st, Has W fr s Γ ρ st → OR W fr Γ' ρ enc (F [] st) (q s)) : AC W fr Γ mNil F q enc Γ' := fun s ρ st H => h s ρ st H
theorem ac_ret {A β : Type} {F : List D → M A} {b : β} {enc : β → A} (h : ∀ st, F [] st = .ok (enc b) st) : AC W fr Γ mNil F (mpure b) enc fun _ => Γ := ac_nil fun s ρ st H => ⟨st, h st, H⟩
theorem ac_opt {A β : Type} {F : List D → M A} {o : Option β} {enc : β → A} (h : ∀ b, o = some b → ∀ st, F [] st = .ok (enc b) st) : AC W fr Γ mNil F (mopt o) enc fun _ => Γ := ac_nil fun s ρ st H => by
  cases o with
  | none => trivial
  | some b => exact ⟨st, h b rfl st, H⟩
theorem ac_if {A β : Type} {F : List D → M A} {c : Prop} [Decidable c] {b : β} {enc : β → A} (h : c → ∀ st, F [] st = .ok (enc b) st) : AC W fr Γ mNil F (if c then mpure b else mbad) enc fun _ => Γ := ac_nil fun s ρ st H => by
  by_cases hc : c
  · rw [if_pos hc]; exact ⟨st, h hc st, H⟩
  · rw [if_neg hc]; trivial
theorem ac_fn {β : Type} {F : List D → M D} {d : List D → M D} {args : List D} {q : Mt S β} {enc : β → D} (h : FN W d args q enc) (hF : F [] = d args := by rfl) : AC W fr Γ mNil F q enc fun _ => Γ := ac_nil fun s ρ st H => by
  obtain ⟨loc, e⟩ := H.pre
  subst e
  have h := h (fr ++ loc) s
  rw [hF]
  revert h
  show FO W _ enc (d args (W.st s ++ (fr ++ loc))) (q s) → OR W fr _ ρ enc (d args (W.st s ++ (fr ++ loc))) (q s)
  generalize q s = r
  cases r with
  | ok b s' => intro h; exact ⟨_, h, H.world s'⟩
  | exc x s' => intro h; exact ⟨_, h.1, ⟨loc, rfl⟩, h.2⟩
  | bad => intro _; trivial
theorem ac_V {A β : Type} {m : Rho → M D} {r : Rho → M (List D)} {F : List D → M A} {d : D} {q : Mt S β} {enc : β → A} {Γ' : β → List Sl} (h : HV W fr Γ m d) (hr : AC W fr Γ r (fun ds => F (d :: ds)) q enc Γ') : AC W fr Γ (mCons m r) F q enc Γ' := fun s ρ st H => by
  have := hr s ρ st H
  unfold mCons
  rw [h s ρ st H, Out.bind_ok, Out.bind_assoc]
  exact this
theorem ac_T {A β γ : Type} {m : Rho → M D} {r : Rho → M (List D)} {F : List D → M A} {q1 : Mt S γ} {e1 : γ → D} {Γ1 : γ → List Sl} {k : γ → Mt S β} {enc : β → A} {Γ' : β → List Sl} (h : HT W fr Γ m q1 e1 Γ1) (hr : ∀ x, AC W fr (Γ1 x) r (fun ds => F (e1 x :: ds)) (k x) enc Γ') : AC W fr Γ (mCons m r) F (mbind q1 k) enc Γ' := fun s ρ st H => by
  unfold mCons
  rw [Out.bind_assoc]
  refine OR.bind (h s ρ st H) fun b s1 st1 H1 => ?_
  rw [Out.bind_assoc]
  exact hr b s1 ρ st1 H1
theorem ac_star {A β γ : Type} {m : Rho → M D} {r : Rho → M (List D)} {F : List D → M A} {q1 : Mt S γ} {e1 : γ → D} {xs : γ → List D} {Γ1 : γ → List Sl} {k : γ → Mt S β} {enc : β → A} {Γ' : β → List Sl} (h : HT W fr Γ m q1 e1 Γ1) (hs : ∀ x st, seqOf st (e1 x) = some (xs x))
    (hr : ∀ x, AC W fr (Γ1 x) r (fun ds => F (xs x ++ ds)) (k x) enc Γ') : AC W fr Γ (mStar m r) F (mbind q1 k) enc Γ' := fun s ρ st H => by
  unfold mStar
  rw [Out.bind_assoc]
  refine OR.bind (h s ρ st H) fun b s1 st1 H1 => ?_
  rw [hs b st1]
  dsimp only
  rw [Out.bind_assoc]
  exact hr b s1 ρ st1 H1
theorem ac_starV {A β : Type} {m : Rho → M D} {r : Rho → M (List D)} {F : List D → M A} {d : D} {xs : List D} {q : Mt S β} {enc : β → A} {Γ' : β → List Sl} (h : HV W fr Γ m d) (hs : ∀ st, seqOf st d = some xs)
    (hr : AC W fr Γ r (fun ds => F (xs ++ ds)) q enc Γ') : AC W fr Γ (mStar m r) F q enc Γ' := fun s ρ st H => by
  have := hr s ρ st H
  unfold mStar
  rw [h s ρ st H, Out.bind_ok, hs st]
  dsimp only
  rw [Out.bind_assoc]
  exact this
/-- a starred list of the store -/
theorem ac_starM {A β : Type} {i : Nat} {r : Rho → M (List D)} {F : List D → M A} {xs : List D} {q : Mt S β} {enc : β → A} {Γ' : β → List Sl} (h : Γ[i]? = some (.mut (.lst xs)))
    (hr : AC W fr Γ r (fun ds => F (xs ++ ds)) q enc Γ') : AC W fr Γ (mStar (mVar i) r) F q enc Γ' := fun s ρ st H => by
  have := hr s ρ st H
  obtain ⟨l, q1, q2, q3⟩ := H.mt i _ h
  unfold mStar
  have e : mVar i ρ st = .ok (.ref l) st := by unfold mVar; rw [q1]
  rw [e, Out.bind_ok, seqOf_ref q3]
  dsimp only
  rw [Out.bind_assoc]
  exact this
/-- an operand in the store, the rest changes nothing -/
theorem ac_M {A β : Type} {i : Nat} {r : Rho → M (List D)} {F : List D → M A} {xs ds : List D} {q : Mt S β} {enc : β → A} {Γ' : β → List Sl} (h : Γ[i]? = some (.mut (.lst xs))) (hv : HV W fr Γ r ds)
    (hd : ∀ st l, st[l]? = some (.lst xs) → F (.ref l :: ds) st = F (.lst xs :: ds) st) (hr : AC W fr Γ r (fun ds => F (.lst xs :: ds)) q enc Γ') : AC W fr Γ (mCons (mVar i) r) F q enc Γ' := fun s ρ st H => by
  have := hr s ρ st H
  obtain ⟨l, q1, q2, q3⟩ := H.mt i _ h
  rw [hv s ρ st H, Out.bind_ok] at this
  unfold mCons
  have e : mVar i ρ st = .ok (.ref l) st := by unfold mVar; rw [q1]
  rw [e, Out.bind_ok, Out.bind_assoc, hv s ρ st H, Out.bind_ok, Out.bind_ok, hd st l q3]
  exact this
theorem hv_nil : HV W fr Γ mNil [] := fun _ _ _ _ => rfl
theorem hv_cons {m : Rho → M D} {r : Rho → M (List D)} {d : D} {ds : List D} (h : HV W fr Γ m d) (hr : HV W fr Γ r ds) : HV W fr Γ (mCons m r) (d :: ds) := fun s ρ st H => by
  unfold mCons
  rw [h s ρ st H, Out.bind_ok, hr s ρ st H, Out.bind_ok]
/-! strict combinators -/
def F2 (p : Sto → D → D → Option D) : List D → M D := fun ds st => match ds with
  | [a, b] => lift (p st a b) st
  | _ => .bad
def F2L (p : Sto → D → D → Option (List D)) : List D → M (List D) := fun ds st => match ds with
  | [a, b] => lift (p st a b) st
  | _ => .bad
def F1 (p : Sto → D → Option D) : List D → M D := fun ds st => match ds with
  | [a] => lift (p st a) st
  | _ => .bad
def FB {A : Type} (p : Sto → List D → Option A) : List D → M A := fun ds st => lift (p st ds) st
def FTup : List D → M D := fun xs st => if xs.length ≤ 100000 then .ok (.tup xs) st else .bad
def FDisp : List D → M (List D) := fun xs st => if xs.length ≤ 100000 then .ok xs st else .bad
section
variable {β : Type} {m1 m2 : Rho → M D} {a : Rho → M (List D)} {q : Mt S β} {Γ' : β → List Sl}
theorem ht_op {p : Sto → D → D → Option D} {enc : β → D} (h : AC W fr Γ (mCons m1 (mCons m2 mNil)) (F2 p) q enc Γ') : HT W fr Γ (mOp p m1 m2) q enc Γ' := fun s ρ st H => by
  have := h s ρ st H
  unfold mCons mNil at this
  simp only [Out.bind_assoc, Out.bind_ok] at this
  exact this
theorem ht_opL {p : Sto → D → D → Option (List D)} {enc : β → List D} (h : AC W fr Γ (mCons m1 (mCons m2 mNil)) (F2L p) q enc Γ') : HT W fr Γ (lOp p m1 m2) q enc Γ' := fun s ρ st H => by
  have := h s ρ st H
  unfold mCons mNil at this
  simp only [Out.bind_assoc, Out.bind_ok] at this
  exact this
theorem ht_un {p : Sto → D → Option D} {enc : β → D} (h : AC W fr Γ (mCons m1 mNil) (F1 p) q enc Γ') : HT W fr Γ (mUn p m1) q enc Γ' := fun s ρ st H => by
  have := h s ρ st H
  unfold mCons mNil at this
  simp only [Out.bind_assoc, Out.bind_ok] at this
  exact this
theorem ht_b {p : Sto → List D → Option D} {enc : β → D} (h : AC W fr Γ a (FB p) q enc Γ') : HT W fr Γ (mB p a) q enc Γ' := h
theorem ht_bL {p : Sto → List D → Option (List D)} {enc : β → List D} (h : AC W fr Γ a (FB p) q enc Γ') : HT W fr Γ (lB p a) q enc Γ' := h
theorem ht_call {d : List D → M D} {enc : β → D} (h : AC W fr Γ a d q enc Γ') : HT W fr Γ (mCall d a) q enc Γ' := h
theorem ht_tup {enc : β → D} (h : AC W fr Γ a FTup q enc Γ') : HT W fr Γ (mTup a) q enc Γ' := h
theorem ht_disp {enc : β → List D} (h : AC W fr Γ a FDisp q enc Γ') : HT W fr Γ (lDisp a) q enc Γ' := h
theorem ht_frz {l : Rho → M (List D)} {enc : β → List D} (h : HT W fr Γ l q enc Γ') : HT W fr Γ (mFrz l) q (fun x => .lst (enc x)) Γ' := fun s ρ st H => by
  have := h s ρ st H
  unfold mFrz
  revert this
  cases q s with
  | ok b s' => rintro ⟨st', e, h2⟩; exact ⟨st', by rw [e]; rfl, h2⟩
  | exc x s' => rintro ⟨st', e, h2⟩; exact ⟨st', by rw [e]; rfl, h2⟩
  | bad => intro _; trivial
theorem ht_frv {i : Nat} {xs : List D} (h : Γ[i]? = some (.mut (.lst xs))) : HT W fr Γ (mFrzV i) (mpure xs) (fun xs => .lst xs) fun _ => Γ.set i .any := fun s ρ st H => by
  obtain ⟨l, q1, q2, q3⟩ := H.mt i _ h
  refine ⟨st.set l .gone, ?_, ?_⟩
  · unfold mFrzV
    simp only [q1, q3]
  · have := (H.write .gone h q1).drop i
    rwa [List.set_set] at this
theorem ht_isB {m : Rho → M D} {q : Mt S Bool} {Γ' : Bool → List Sl} (h : HT W fr Γ m q .bl Γ') : HT W fr Γ (isB m) q id Γ' := fun s ρ st H => by
  have := h s ρ st H
  unfold isB
  revert this
  cases q s with
  | ok b s' => rintro ⟨st', e, h2⟩; exact ⟨st', by rw [e]; rfl, h2⟩
  | exc x s' => rintro ⟨st', e, h2⟩; exact ⟨st', by rw [e]; rfl, h2⟩
  | bad => intro _; trivial
theorem ht_tru {m : Rho → M D} {enc : β → D} {f : β → Bool} (h : HT W fr Γ m q enc fun _ => Γ) (hf : ∀ x st, (enc x).truth st = some (f x)) : HT W fr Γ (mTru m) (mbind q fun x => mpure (f x)) id fun _ => Γ := fun s ρ st H => by
  unfold mTru
  refine OR.bind (h s ρ st H) fun b s1 st1 H1 => ?_
  rw [hf b st1]
  exact ⟨st1, rfl, H1⟩
theorem ht_and {t1 t2 : Rho → M Bool} {q1 q2 : Mt S Bool} (h1 : HT W fr Γ t1 q1 id fun _ => Γ) (h2 : HT W fr Γ t2 q2 id fun _ => Γ) : HT W fr Γ (bAnd t1 t2) (mbind q1 fun b => if b = true then q2 else mpure false) id fun _ => Γ := fun s ρ st H => by
  unfold bAnd
  refine OR.bind (h1 s ρ st H) fun b s1 st1 H1 => ?_
  cases b
  · exact ⟨st1, rfl, H1⟩
  · exact h2 s1 ρ st1 H1
theorem ht_or {t1 t2 : Rho → M Bool} {q1 q2 : Mt S Bool} (h1 : HT W fr Γ t1 q1 id fun _ => Γ) (h2 : HT W fr Γ t2 q2 id fun _ => Γ) : HT W fr Γ (bOr t1 t2) (mbind q1 fun b => if b = true then mpure true else q2) id fun _ => Γ := fun s ρ st H => by
  unfold bOr
  refine OR.bind (h1 s ρ st H) fun b s1 st1 H1 => ?_
  cases b
  · exact h2 s1 ρ st1 H1
  · exact ⟨st1, rfl, H1⟩
theorem ht_not {t1 : Rho → M Bool} {q1 : Mt S Bool} (h1 : HT W fr Γ t1 q1 id fun _ => Γ) : HT W fr Γ (bNot t1) (mbind q1 fun b => mpure (!b)) id fun _ => Γ := fun s ρ st H => by
  unfold bNot
  refine OR.bind (h1 s ρ st H) fun b s1 st1 H1 => ⟨st1, rfl, H1⟩
theorem ht_if {t : Rho → M Bool} {qt : Mt S Bool} {qa qb : Mt S β} {enc : β → D} (ht : HT W fr Γ t qt id fun _ => Γ) (h1 : HT W fr Γ m1 qa enc fun _ => Γ) (h2 : HT W fr Γ m2 qb enc fun _ => Γ) : HT W fr Γ (mIf t m1 m2) (mbind qt fun c => if c = true then qa else qb) enc fun _ => Γ := fun s ρ st H => by
  unfold mIf
  refine OR.bind (ht s ρ st H) fun b s1 st1 H1 => ?_
  cases b
  · exact h2 s1 ρ st1 H1
  · exact h1 s1 ρ st1 H1
/-- and, or of truth values as values -/
theorem ht_andV {q1 q2 : Mt S Bool} (h1 : HT W fr Γ m1 q1 .bl fun _ => Γ) (h2 : HT W fr Γ m2 q2 .bl fun _ => Γ) : HT W fr Γ (mAndV m1 m2) (mbind q1 fun b => if b = true then q2 else mpure false) .bl fun _ => Γ := fun s ρ st H => by
  unfold mAndV
  refine OR.bind (h1 s ρ st H) fun b s1 st1 H1 => ?_
  cases b
  · exact ⟨st1, rfl, H1⟩
  · exact h2 s1 ρ st1 H1
theorem ht_orV {q1 q2 : Mt S Bool} (h1 : HT W fr Γ m1 q1 .bl fun _ => Γ) (h2 : HT W fr Γ m2 q2 .bl fun _ => Γ) : HT W fr Γ (mOrV m1 m2) (mbind q1 fun b => if b = true then mpure true else q2) .bl fun _ => Γ := fun s ρ st H => by
  unfold mOrV
  refine OR.bind (h1 s ρ st H) fun b s1 st1 H1 => ?_
  cases b
  · exact h2 s1 ρ st1 H1
  · exact ⟨st1, rfl, H1⟩
theorem ht_notV {enc : β → D} {f : β → Bool} (h : HT W fr Γ m1 q enc fun _ => Γ) (hf : ∀ x st, (enc x).truth st = some (f x)) : HT W fr Γ (mNotV m1) (mbind q fun x => mpure (!f x)) .bl fun _ => Γ := fun s ρ st H => by
  unfold mNotV
  refine OR.bind (h s ρ st H) fun b s1 st1 H1 => ?_
  rw [hf b st1]
  exact ⟨st1, rfl, H1⟩
end
/-! values -/
theorem hv_lit {d : D} : HV W fr Γ (mLit d) d := fun _ _ _ _ => rfl
theorem hv_var {i : Nat} {d : D} (h : Γ[i]? = some (.val d)) : HV W fr Γ (mVar i) d := fun s ρ st H => by
  unfold mVar
  rw [H.val i d h]
theorem hv_op {p : Sto → D → D → Option D} {m1 m2 : Rho → M D} {d1 d2 d : D} (h1 : HV W fr Γ m1 d1) (h2 : HV W fr Γ m2 d2) (h : ∀ st, p st d1 d2 = some d) : HV W fr Γ (mOp p m1 m2) d := fun s ρ st H => by
  unfold mOp
  rw [h1 s ρ st H, Out.bind_ok, h2 s ρ st H, Out.bind_ok, h st, lift_some]
theorem hv_opM1 {p : Sto → D → D → Option D} {i : Nat} {xs : List D} {m2 : Rho → M D} {d2 d : D} (h1 : Γ[i]? = some (.mut (.lst xs))) (h2 : HV W fr Γ m2 d2) (hd : ∀ st l, st[l]? = some (.lst xs) → p st (.ref l) d2 = p st (.lst xs) d2) (h : ∀ st, p st (.lst xs) d2 = some d) : HV W fr Γ (mOp p (mVar i) m2) d := fun s ρ st H => by
  obtain ⟨l, q1, q2, q3⟩ := H.mt i _ h1
  have e : mVar i ρ st = .ok (.ref l) st := by unfold mVar; rw [q1]
  unfold mOp
  rw [e, Out.bind_ok, h2 s ρ st H, Out.bind_ok, hd st l q3, h st, lift_some]
theorem hv_opM2 {p : Sto → D → D → Option D} {i : Nat} {xs : List D} {m1 : Rho → M D} {d1 d : D} (h1 : HV W fr Γ m1 d1) (h2 : Γ[i]? = some (.mut (.lst xs))) (hd : ∀ st l, st[l]? = some (.lst xs) → p st d1 (.ref l) = p st d1 (.lst xs)) (h : ∀ st, p st d1 (.lst xs) = some d) : HV W fr Γ (mOp p m1 (mVar i)) d := fun s ρ st H => by
  obtain ⟨l, q1, q2, q3⟩ := H.mt i _ h2
  have e : mVar i ρ st = .ok (.ref l) st := by unfold mVar; rw [q1]
  unfold mOp
  rw [h1 s ρ st H, Out.bind_ok, e, Out.bind_ok, hd st l q3, h st, lift_some]
theorem hv_un {p : Sto → D → Option D} {m1 : Rho → M D} {d1 d : D} (h1 : HV W fr Γ m1 d1) (h : ∀ st, p st d1 = some d) : HV W fr Γ (mUn p m1) d := fun s ρ st H => by
  unfold mUn
  rw [h1 s ρ st H, Out.bind_ok, h st, lift_some]
theorem hv_b {A : Type} {p : Sto → List D → Option D} {a : Rho → M (List D)} {ds : List D} {d : D} (h1 : HV W fr Γ a ds) (h : ∀ st, p st ds = some d) : HV W fr Γ (mB p a) d := fun s ρ st H => by
  unfold mB
  rw [h1 s ρ st H, Out.bind_ok, h st, lift_some]
theorem hv_bL {p : Sto → List D → Option (List D)} {a : Rho → M (List D)} {ds d : List D} (h1 : HV W fr Γ a ds) (h : ∀ st, p st ds = some d) : HV W fr Γ (lB p a) d := fun s ρ st H => by
  unfold lB
  rw [h1 s ρ st H, Out.bind_ok, h st, lift_some]
theorem hv_bM {p : Sto → List D → Option D} {i : Nat} {xs : List D} {d : D} (h1 : Γ[i]? = some (.mut (.lst xs))) (hd : ∀ st l, st[l]? = some (.lst xs) → p st [.ref l] = p st [.lst xs]) (h : ∀ st, p st [.lst xs] = some d) : HV W fr Γ (mB p (mCons (mVar i) mNil)) d := fun s ρ st H => by
  obtain ⟨l, q1, q2, q3⟩ := H.mt i _ h1
  have e : mVar i ρ st = .ok (.ref l) st := by unfold mVar; rw [q1]
  unfold mB mCons mNil
  simp only [e, Out.bind_ok, hd st l q3, h st, lift_some]
theorem hv_bLM {p : Sto → List D → Option (List D)} {i : Nat} {xs d : List D} (h1 : Γ[i]? = some (.mut (.lst xs))) (hd : ∀ st l, st[l]? = some (.lst xs) → p st [.ref l] = p st [.lst xs]) (h : ∀ st, p st [.lst xs] = some d) : HV W fr Γ (lB p (mCons (mVar i) mNil)) d := fun s ρ st H => by
  obtain ⟨l, q1, q2, q3⟩ := H.mt i _ h1
  have e : mVar i ρ st = .ok (.ref l) st := by unfold mVar; rw [q1]
  unfold lB mCons mNil
  simp only [e, Out.bind_ok, hd st l q3, h st, lift_some]
theorem hv_frz {l : Rho → M (List D)} {ds : List D} (h : HV W fr Γ l ds) : HV W fr Γ (mFrz l) (.lst ds) := fun s ρ st H => by
  unfold mFrz
  rw [h s ρ st H, Out.bind_ok]
theorem hv_tup {a : Rho → M (List D)} {ds : List D} (h : HV W fr Γ a ds) (hl : ds.length ≤ 100000) : HV W fr Γ (mTup a) (.tup ds) := fun s ρ st H => by
  unfold mTup
  rw [h s ρ st H, Out.bind_ok, if_pos hl]
theorem hv_disp {a : Rho → M (List D)} {ds : List D} (h : HV W fr Γ a ds) (hl : ds.length ≤ 100000) : HV W fr Γ (lDisp a) ds := fun s ρ st H => by
  unfold lDisp
  rw [h s ρ st H, Out.bind_ok, if_pos hl]
theorem hv_isB {m : Rho → M D} {b : Bool} (h : HV W fr Γ m (.bl b)) : HV W fr Γ (isB m) b := fun s ρ st H => by
  unfold isB
  rw [h s ρ st H, Out.bind_ok]
theorem hv_tru {m : Rho → M D} {d : D} {b : Bool} (h : HV W fr Γ m d) (hb : ∀ st, d.truth st = some b) : HV W fr Γ (mTru m) b := fun s ρ st H => by
  unfold mTru
  rw [h s ρ st H, Out.bind_ok, hb st, lift_some]
theorem hv_truM {i : Nat} {xs : List D} (h : Γ[i]? = some (.mut (.lst xs))) : HV W fr Γ (mTru (mVar i)) (!xs.isEmpty) := fun s ρ st H => by
  obtain ⟨l, q1, q2, q3⟩ := H.mt i _ h
  have e : mVar i ρ st = .ok (.ref l) st := by unfold mVar; rw [q1]
  unfold mTru
  rw [e, Out.bind_ok]
  show lift ((seqOf st (.ref l)).map _) st = _
  rw [seqOf_ref q3] <;> rfl
theorem hv_and {t1 t2 : Rho → M Bool} {b1 b2 : Bool} (h1 : HV W fr Γ t1 b1) (h2 : HV W fr Γ t2 b2) : HV W fr Γ (bAnd t1 t2) (b1 && b2) := fun s ρ st H => by
  unfold bAnd
  rw [h1 s ρ st H, Out.bind_ok]
  cases b1
  · rfl
  · exact h2 s ρ st H
theorem hv_or {t1 t2 : Rho → M Bool} {b1 b2 : Bool} (h1 : HV W fr Γ t1 b1) (h2 : HV W fr Γ t2 b2) : HV W fr Γ (bOr t1 t2) (b1 || b2) := fun s ρ st H => by
  unfold bOr
  rw [h1 s ρ st H, Out.bind_ok]
  cases b1
  · exact h2 s ρ st H
  · rfl
theorem hv_not {t1 : Rho → M Bool} {b1 : Bool} (h1 : HV W fr Γ t1 b1) : HV W fr Γ (bNot t1) (!b1) := fun s ρ st H => by
  unfold bNot
  rw [h1 s ρ st H, Out.bind_ok]
theorem hv_andV {m1 m2 : Rho → M D} {b1 b2 : Bool} (h1 : HV W fr Γ m1 (.bl b1)) (h2 : HV W fr Γ m2 (.bl b2)) : HV W fr Γ (mAndV m1 m2) (.bl (b1 && b2)) := fun s ρ st H => by
  unfold mAndV
  rw [h1 s ρ st H, Out.bind_ok]
  cases b1
  · rfl
  · exact h2 s ρ st H
theorem hv_orV {m1 m2 : Rho → M D} {b1 b2 : Bool} (h1 : HV W fr Γ m1 (.bl b1)) (h2 : HV W fr Γ m2 (.bl b2)) : HV W fr Γ (mOrV m1 m2) (.bl (b1 || b2)) := fun s ρ st H => by
  unfold mOrV
  rw [h1 s ρ st H, Out.bind_ok]
  cases b1
  · exact h2 s ρ st H
  · rfl
theorem hv_notV {m : Rho → M D} {d : D} {b : Bool} (h : HV W fr Γ m d) (hb : ∀ st, d.truth st = some b) : HV W fr Γ (mNotV m) (.bl (!b)) := fun s ρ st H => by
  unfold mNotV
  rw [h s ρ st H, Out.bind_ok, hb st, lift_some, Out.bind_ok]
theorem hv_if {A β : Type} {t : Rho → M Bool} {m1 m2 : Rho → M D} {c : Bool} {x y : β} {e : β → D} (ht : HV W fr Γ t c) (h1 : HV W fr Γ m1 (e x)) (h2 : HV W fr Γ m2 (e y)) : HV W fr Γ (mIf t m1 m2) (e (if c = true then x else y)) := fun s ρ st H => by
  unfold mIf
  rw [ht s ρ st H, Out.bind_ok]
  cases c
  · exact h2 s ρ st H
  · exact h1 s ρ st H
theorem hv_chain {p p' : Sto → D → D → Option D} {m1 m2 m3 : Rho → M D} {d1 d2 d3 : D} {b b' : Bool} (h1 : HV W fr Γ m1 d1) (h2 : HV W fr Γ m2 d2) (h3 : HV W fr Γ m3 d3) (hp : ∀ st, p st d1 d2 = some (.bl b)) (hp' : ∀ st, p' st d2 d3 = some (.bl b')) : HV W fr Γ (mChain p p' m1 m2 m3) (.bl (b && b')) := fun s ρ st H => by
  unfold mChain
  rw [h1 s ρ st H, Out.bind_ok, h2 s ρ st H, Out.bind_ok, hp st]
  cases b
  · rfl
  · dsimp only
    rw [h3 s ρ st H, Out.bind_ok, hp' st]
    rfl
theorem hv_eq {A : Type} {m : Rho → M A} {d d' : A} (h : HV W fr Γ m d) (e : d = d') : HV W fr Γ m d' := e ▸ h
theorem hv_oNone : HV W fr Γ oNone none := fun _ _ _ _ => rfl
theorem hv_oSome {m : Rho → M D} {i : Int} (h : HV W fr Γ m (.int i)) : HV W fr Γ (oSome m) (some i) := fun s ρ st H => by
  unfold oSome
  rw [h s ρ st H, Out.bind_ok]
theorem ht_oSome {m : Rho → M D} {q : Mt S Int} (h : HT W fr Γ m q .int fun _ => Γ) : HT W fr Γ (oSome m) q some fun _ => Γ := fun s ρ st H => by
  have := h s ρ st H
  unfold oSome
  revert this
  cases q s with
  | ok b s' => rintro ⟨st', e, h2⟩; exact ⟨st', by rw [e]; rfl, h2⟩
  | exc x s' => rintro ⟨st', e, h2⟩; exact ⟨st', by rw [e]; rfl, h2⟩
  | bad => intro _; trivial
end
end Dn
/-! DnV: statements, loops, comprehensions, defs in the typed values. -/
namespace Dn
open PySem PySem.Spec PyProof.Rows L2
inductive Lp (σ β : Type) where
  | nx (z : σ) | bk (z : σ) | rt (b : β)
section
variable {S α β σ τ : Type}
/-- a loop that nobody leaves; one that is left by break or return -/
def forU (body : α → σ → Mt S σ) : List α → σ → Mt S σ
  | [], z => mpure z
  | x :: xs, z => mbind (body x z) fun z' => forU body xs z'
def forX (body : α → σ → Mt S (Lp σ β)) : List α → σ → Mt S (σ ⊕ β)
  | [], z => mpure (.inl z)
  | x :: xs, z => mbind (body x z) fun r => match r with
    | .nx z' => forX body xs z'
    | .bk z' => mpure (.inl z')
    | .rt b => mpure (.inr b)
def whileU (c : σ → Mt S Bool) (body : σ → Mt S σ) : Nat → σ → Mt S σ
  | 0, _ => mbad
  | n + 1, z => mbind (c z) fun b => if b = true then mbind (body z) fun z' => whileU c body n z' else mpure z
def whileX (c : σ → Mt S Bool) (body : σ → Mt S (Lp σ β)) : Nat → σ → Mt S (σ ⊕ β)
  | 0, _ => mbad
  | n + 1, z => mbind (c z) fun b => if b = true then (mbind (body z) fun r => match r with
    | .nx z' => whileX c body n z'
    | .bk z' => mpure (.inl z')
    | .rt b => mpure (.inr b)) else mpure (.inl z)
def mfin (q : Mt S (σ ⊕ β)) (k : σ → Mt S β) : Mt S β := mbind q fun r => match r with
  | .inl z => k z
  | .inr b => mpure b
def mfinL (q : Mt S (σ ⊕ β)) (k : σ → Mt S (Lp τ β)) : Mt S (Lp τ β) := mbind q fun r => match r with
  | .inl z => k z
  | .inr b => mpure (.rt b)
end
section
variable {S : Type} (W : Wd S) (fr : Sto)
/-- a statement that goes on -/
def NR {σ : Type} (J : σ → List Sl) (r : Fl) (q : Rs S σ) : Prop := match q with
  | .ok z s' => ∃ ρ' st', r = .next ρ' st' ∧ Has W fr s' (J z) ρ' st'
  | .exc x s' => ∃ ρ' st', r = .exc x ρ' st' ∧ Pre W fr s' st' ∧ x.pl
  | .bad => True
def TN {σ : Type} (Γ : List Sl) (m : Rho → Sto → Fl) (q : Mt S σ) (J : σ → List Sl) : Prop := ∀ s ρ st, Has W fr s Γ ρ st → NR W fr J (m ρ st) (q s)
/-- statements that return -/
def RR {β : Type} (enc : β → D) (r : Fl) (q : Rs S β) : Prop := match q with
  | .ok b s' => ∃ st', r = .ret (enc b) st' ∧ Pre W fr s' st'
  | .exc x s' => ∃ ρ' st', r = .exc x ρ' st' ∧ Pre W fr s' st' ∧ x.pl
  | .bad => True
def TR {β : Type} (Γ : List Sl) (m : Rho → Sto → Fl) (q : Mt S β) (enc : β → D) : Prop := ∀ s ρ st, Has W fr s Γ ρ st → RR W fr enc (m ρ st) (q s)
/-- a loop's body -/
def LR {σ β : Type} (J : σ → List Sl) (enc : β → D) (r : Fl) (q : Rs S (Lp σ β)) : Prop := match q with
  | .ok (.nx z) s' => ∃ ρ' st', (r = .next ρ' st' ∨ r = .cnt ρ' st') ∧ Has W fr s' (J z) ρ' st'
  | .ok (.bk z) s' => ∃ ρ' st', r = .brk ρ' st' ∧ Has W fr s' (J z) ρ' st'
  | .ok (.rt b) s' => ∃ st', r = .ret (enc b) st' ∧ Pre W fr s' st'
  | .exc x s' => ∃ ρ' st', r = .exc x ρ' st' ∧ Pre W fr s' st' ∧ x.pl
  | .bad => True
def TL {σ β : Type} (Γ : List Sl) (m : Rho → Sto → Fl) (q : Mt S (Lp σ β)) (J : σ → List Sl) (enc : β → D) : Prop := ∀ s ρ st, Has W fr s Γ ρ st → LR W fr J enc (m ρ st) (q s)
/-- .. that does not end by itself -/
def XR {σ β : Type} (J : σ → List Sl) (enc : β → D) (r : Fl) (q : Rs S (Lp σ β)) : Prop := match q with
  | .ok (.nx z) s' => ∃ ρ' st', r = .cnt ρ' st' ∧ Has W fr s' (J z) ρ' st'
  | .ok (.bk z) s' => ∃ ρ' st', r = .brk ρ' st' ∧ Has W fr s' (J z) ρ' st'
  | .ok (.rt b) s' => ∃ st', r = .ret (enc b) st' ∧ Pre W fr s' st'
  | .exc x s' => ∃ ρ' st', r = .exc x ρ' st' ∧ Pre W fr s' st' ∧ x.pl
  | .bad => True
def TX {σ β : Type} (Γ : List Sl) (m : Rho → Sto → Fl) (q : Mt S (Lp σ β)) (J : σ → List Sl) (enc : β → D) : Prop := ∀ s ρ st, Has W fr s Γ ρ st → XR W fr J enc (m ρ st) (q s)
/-- a loop: it ends, or the def returns -/
def FR {σ β : Type} (J : σ → List Sl) (enc : β → D) (r : Fl) (q : Rs S (σ ⊕ β)) : Prop := match q with
  | .ok (.inl z) s' => ∃ ρ' st', r = .next ρ' st' ∧ Has W fr s' (J z) ρ' st'
  | .ok (.inr b) s' => ∃ st', r = .ret (enc b) st' ∧ Pre W fr s' st'
  | .exc x s' => ∃ ρ' st', r = .exc x ρ' st' ∧ Pre W fr s' st' ∧ x.pl
  | .bad => True
def TF {σ β : Type} (Γ : List Sl) (m : Rho → Sto → Fl) (q : Mt S (σ ⊕ β)) (J : σ → List Sl) (enc : β → D) : Prop := ∀ s ρ st, Has W fr s Γ ρ st → FR W fr J enc (m ρ st) (q s)
/-- a target takes d -/
def GT1 (Γ : List Sl) (gf : D → Rho → M Rho) (d : D) (Γ' : List Sl) (js : List Nat) : Prop := ∀ s ρ st, Has W fr s Γ ρ st → ∃ ρ', gf d ρ st = .ok ρ' st ∧ Has W fr s Γ' ρ' st ∧ ∀ j, j ∉ js → ρ'[j]? = ρ[j]?
def GTs (Γ : List Sl) (gs : List D → Rho → M Rho) (ds : List D) (Γ' : List Sl) (js : List Nat) : Prop := ∀ s ρ st, Has W fr s Γ ρ st → ∃ ρ', gs ds ρ st = .ok ρ' st ∧ Has W fr s Γ' ρ' st ∧ ∀ j, j ∉ js → ρ'[j]? = ρ[j]?
end
section
variable {S : Type} {W : Wd S} {fr : Sto} {Γ Γ1 Γ2 : List Sl}
/-! targets -/
theorem gt1_N (i : Nat) (d : D) : GT1 W fr Γ (gN i) d (Γ.set i (.val d)) [i] := fun s ρ st H => ⟨_, rfl, H.setVal i d, fun j hj => by
  rw [List.getElem?_set_ne (fun q => hj (by simp [q]))]⟩
theorem gts_nil : GTs W fr Γ gsNil [] Γ [] := fun s ρ st H => ⟨ρ, rfl, H, fun _ _ => rfl⟩
theorem gts_cons {g : D → Rho → M Rho} {gs : List D → Rho → M Rho} {d : D} {ds : List D} {j1 j2 : List Nat} (h1 : GT1 W fr Γ g d Γ1 j1) (h2 : GTs W fr Γ1 gs ds Γ2 j2) : GTs W fr Γ (gsCons g gs) (d :: ds) Γ2 (j1 ++ j2) := fun s ρ st H => by
  obtain ⟨ρ1, e1, H1, k1⟩ := h1 s ρ st H
  obtain ⟨ρ2, e2, H2, k2⟩ := h2 s ρ1 st H1
  refine ⟨ρ2, ?_, H2, fun j hj => ?_⟩
  · show (g d ρ st).bind (fun r s1 => gs ds r s1) = _
    rw [e1]
    exact e2
  · rw [k2 j fun q => hj (List.mem_append_right _ q), k1 j fun q => hj (List.mem_append_left _ q)]
theorem gt1_T {n : Nat} {gs : List D → Rho → M Rho} {ds : List D} {js : List Nat} (h : GTs W fr Γ gs ds Γ1 js) (hn : ds.length = n) : GT1 W fr Γ (gT n gs) (.tup ds) Γ1 js := fun s ρ st H => by
  have e : gT n gs (.tup ds) ρ st = gs ds ρ st := by
    show (if ds.length = n then gs ds ρ st else .bad) = _
    rw [if_pos hn]
  rw [e]
  exact h s ρ st H
theorem gt1_L {n : Nat} {gs : List D → Rho → M Rho} {ds : List D} {js : List Nat} (h : GTs W fr Γ gs ds Γ1 js) (hn : ds.length = n) : GT1 W fr Γ (gL n gs) (.lst ds) Γ1 js := fun s ρ st H => by
  have e : gL n gs (.lst ds) ρ st = gs ds ρ st := by
    show (if ds.length = n then gs ds ρ st else .bad) = _
    rw [if_pos hn]
  rw [e]
  exact h s ρ st H
/-! statements that go on -/
theorem NR.exc_of {σ : Type} {J : σ → List Sl} {x : Xc} {s : S} {ρ : Rho} {st : Sto} (h : Pre W fr s st) (hx : x.pl) : NR W fr J (.exc x ρ st) (.exc x s) := ⟨ρ, st, rfl, h, hx⟩
theorem OR.fl {A β σ : Type} {Γ' : β → List Sl} {J : σ → List Sl} {ρ : Rho} {e : β → A} {r : Out A} {q : Rs S β} {f : A → Sto → Fl} {k : β → Mt S σ} (h : OR W fr Γ' ρ e r q)
    (hk : ∀ b s st, Has W fr s (Γ' b) ρ st → NR W fr J (f (e b) st) (k b s)) : NR W fr J (r.fl ρ f) (rbind q k) := by
  cases q with
  | ok b s =>
    obtain ⟨st', rfl, h2⟩ := h
    exact hk b s st' h2
  | exc x s =>
    obtain ⟨st', rfl, h2, h3⟩ := h
    exact ⟨ρ, st', rfl, h2, h3⟩
  | bad => trivial
theorem tn_next : TN W fr Γ sNext (mpure ()) fun _ => Γ := fun s ρ st H => ⟨ρ, st, rfl, H⟩
theorem tn_wk {σ : Type} {m : Rho → Sto → Fl} {q : Mt S σ} {J J' : σ → List Sl} (h : TN W fr Γ m q J) (w : ∀ z, Wk (J z) (J' z)) : TN W fr Γ m q J' := fun s ρ st H => by
  have := h s ρ st H
  revert this
  unfold NR
  cases q s with
  | ok z s' => rintro ⟨ρ', st', e, h2⟩; exact ⟨ρ', st', e, h2.wk (w z)⟩
  | exc x s' => exact id
  | bad => exact id
/-- the known values, told in another way -/
theorem tn_map {σ τ : Type} {m : Rho → Sto → Fl} {q : Mt S σ} {J : σ → List Sl} {J' : τ → List Sl} {f : σ → τ} (h : TN W fr Γ m q J) (w : ∀ z, Wk (J z) (J' (f z))) : TN W fr Γ m (mbind q fun z => mpure (f z)) J' := fun s ρ st H => by
  have := h s ρ st H
  revert this
  show NR W fr J _ _ → NR W fr J' _ (rbind (q s) _)
  cases q s with
  | ok z s' => rintro ⟨ρ', st', e, h2⟩; exact ⟨ρ', st', e, h2.wk (w z)⟩
  | exc x s' => exact id
  | bad => exact id
theorem tn_seq {σ τ : Type} {m1 m2 : Rho → Sto → Fl} {q : Mt S σ} {J : σ → List Sl} {k : σ → Mt S τ} {J' : τ → List Sl} (h1 : TN W fr Γ m1 q J) (h2 : ∀ z, TN W fr (J z) m2 (k z) J') : TN W fr Γ (sSeq m1 m2) (mbind q k) J' := fun s ρ st H => by
  have := h1 s ρ st H
  unfold sSeq
  revert this
  show NR W fr J _ _ → NR W fr J' _ (rbind (q s) _)
  cases q s with
  | ok z s' => rintro ⟨ρ', st', e, h3⟩; rw [e]; exact h2 z s' ρ' st' h3
  | exc x s' => rintro ⟨ρ', st', e, h3⟩; rw [e]; exact ⟨ρ', st', rfl, h3⟩
  | bad => intro _; trivial
theorem tn_asg {β : Type} {i : Nat} {m : Rho → M D} {q : Mt S β} {enc : β → D} {Γ' : β → List Sl} (h : HT W fr Γ m q enc Γ') : TN W fr Γ (sAsg (gN i) m) q fun x => (Γ' x).set i (.val (enc x)) := fun s ρ st H => by
  have := OR.fl (J := fun x => (Γ' x).set i (.val (enc x))) (f := fun d st1 => (nox (gN i d ρ st1)).fl ρ fun ρ2 st2 => .next ρ2 st2) (k := mpure) (h s ρ st H) fun b s1 st1 H1 => ⟨_, st1, rfl, H1.setVal i (enc b)⟩
  have e : rbind (q s) mpure = q s := congrFun (mbind_ret q) s
  rw [e] at this
  exact this
theorem tn_asgG {β : Type} {gf : D → Rho → M Rho} {m : Rho → M D} {q : Mt S β} {enc : β → D} {Γ' J : β → List Sl} {js : List Nat} (h : HT W fr Γ m q enc Γ') (hg : ∀ x, GT1 W fr (Γ' x) gf (enc x) (J x) js) : TN W fr Γ (sAsg gf m) q J := fun s ρ st H => by
  have := OR.fl (J := J) (f := fun d st1 => (nox (gf d ρ st1)).fl ρ fun ρ2 st2 => .next ρ2 st2) (k := mpure) (h s ρ st H) fun b s1 st1 H1 => by
    obtain ⟨ρ', e, H2, _⟩ := hg b s1 ρ st1 H1
    rw [e]
    exact ⟨ρ', st1, rfl, H2⟩
  have e : rbind (q s) mpure = q s := congrFun (mbind_ret q) s
  rw [e] at this
  exact this
theorem tn_new {β : Type} {i : Nat} {l : Rho → M (List D)} {q : Mt S β} {enc : β → List D} {Γ' : β → List Sl} (h : HT W fr Γ l q enc Γ') : TN W fr Γ (sAsg (gN i) (mNew l)) q fun x => (Γ' x).set i (.mut (.lst (enc x))) := fun s ρ st H => by
  have := OR.fl (J := fun x => (Γ' x).set i (.mut (.lst (enc x)))) (f := fun xs st1 => .next (ρ.set i (some (.ref st1.length))) (st1 ++ [.lst xs])) (k := mpure) (h s ρ st H) fun b s1 st1 H1 => ⟨_, _, rfl, H1.setNew i _⟩
  have e : rbind (q s) mpure = q s := congrFun (mbind_ret q) s
  rw [e] at this
  have e2 : sAsg (gN i) (mNew l) ρ st = (l ρ st).fl ρ fun xs st1 => .next (ρ.set i (some (.ref st1.length))) (st1 ++ [.lst xs]) := by
    unfold sAsg mNew
    cases l ρ st <;> rfl
  rw [e2]
  exact this
theorem tn_drop {β : Type} {m : Rho → M D} {q : Mt S β} {enc : β → D} {Γ' : β → List Sl} (h : HT W fr Γ m q enc Γ') : TN W fr Γ (sDrop m) q Γ' := fun s ρ st H => by
  have := OR.fl (J := Γ') (f := fun _ st1 => .next ρ st1) (k := mpure) (h s ρ st H) fun b s1 st1 H1 => ⟨_, st1, rfl, H1⟩
  have e : rbind (q s) mpure = q s := congrFun (mbind_ret q) s
  rw [e] at this
  exact this
theorem tn_if {σ : Type} {t : Rho → M Bool} {a b : Rho → Sto → Fl} {qt : Mt S Bool} {qa qb : Mt S σ} {J : σ → List Sl} {Γ' : Bool → List Sl} (ht : HT W fr Γ t qt id Γ') (ha : TN W fr (Γ' true) a qa J) (hb : TN W fr (Γ' false) b qb J) : TN W fr Γ (sIf t a b) (mbind qt fun c => if c = true then qa else qb) J := fun s ρ st H => by
  refine OR.fl (f := fun c st1 => if c = true then a ρ st1 else b ρ st1) (ht s ρ st H) fun c s1 st1 H1 => ?_
  cases c
  · exact hb s1 ρ st1 H1
  · exact ha s1 ρ st1 H1
/-! a, b = x, y -/
/-- values that wait for their slots -/
def AP {σ : Type} (W : Wd S) (fr : Sto) (Γ : List Sl) (pd : List (D × Sl)) (a : Rho → M (List D)) (F : Rho → List D → Sto → Fl) (q : Mt S σ) (J : σ → List Sl) : Prop := ∀ s ρ st, Has W fr s (Γ ++ pd.map (·.2)) (ρ ++ pd.map fun p => some p.1) st → ρ.length = Γ.length → NR W fr J ((a ρ st).fl ρ (F ρ)) (q s)
theorem Has.front {s : S} {Γ Γ' : List Sl} {ρ ρ' : Rho} {st : Sto} (h : Has W fr s (Γ ++ Γ') (ρ ++ ρ') st) (hl : ρ.length = Γ.length) : Has W fr s Γ ρ st := by
  have g : ∀ (i : Nat) a, Γ[i]? = some a → (Γ ++ Γ')[i]? = some a ∧ (ρ ++ ρ')[i]? = ρ[i]? := fun i a e => by
    have hi := (List.getElem?_eq_some_iff.mp e).1
    exact ⟨by rw [List.getElem?_append_left hi]; exact e, by rw [List.getElem?_append_left (by omega)]⟩
  refine ⟨hl, h.pre, fun i d e => ?_, fun i m e => ?_, fun i j m1 m2 e1 e2 e3 => ?_⟩
  · rw [← (g i _ e).2]; exact h.val i d (g i _ e).1
  · rw [← (g i _ e).2]; exact h.mt i m (g i _ e).1
  · exact h.nal i j m1 m2 (g i _ e1).1 (g j _ e2).1 (by rw [(g i _ e1).2, (g j _ e2).2]; exact e3)
theorem Has.snocVal {s : S} {Γ : List Sl} {ρ : Rho} {st : Sto} (h : Has W fr s Γ ρ st) (d : D) : Has W fr s (Γ ++ [.val d]) (ρ ++ [some d]) st := by
  have h2 : Has W fr s (Γ ++ [Sl.any]) (ρ ++ [some d]) st := by
    have g : ∀ (i : Nat) a, (Γ ++ [Sl.any])[i]? = some a → a ≠ .any → Γ[i]? = some a ∧ (ρ ++ [some d])[i]? = ρ[i]? := fun i a e n => by
      by_cases hi : i < Γ.length
      · rw [List.getElem?_append_left hi] at e
        exact ⟨e, by rw [List.getElem?_append_left (by rw [h.len]; exact hi)]⟩
      · rw [List.getElem?_append_right (by omega)] at e
        have := List.mem_of_getElem? e
        exact absurd (by simpa using this) n
    refine ⟨by simp [h.len], h.pre, fun i d e => ?_, fun i m e => ?_, fun i j m1 m2 e1 e2 e3 => ?_⟩
    · rw [(g i _ e (by simp)).2]; exact h.val i d (g i _ e (by simp)).1
    · rw [(g i _ e (by simp)).2]; exact h.mt i m (g i _ e (by simp)).1
    · exact h.nal i j m1 m2 (g i _ e1 (by simp)).1 (g j _ e2 (by simp)).1 (by rw [← (g i _ e1 (by simp)).2, ← (g j _ e2 (by simp)).2]; exact e3)
  have := h2.setVal Γ.length d
  rw [List.set_append_right _ _ (Nat.le_refl _), List.set_append_right _ _ (by rw [h.len]; exact Nat.le_refl _), h.len, Nat.sub_self] at this
  exact this
theorem Has.snocNew {s : S} {Γ : List Sl} {ρ : Rho} {st : Sto} (h : Has W fr s Γ ρ st) (m : MO) : Has W fr s (Γ ++ [.mut m]) (ρ ++ [some (.ref st.length)]) (st ++ [m]) := by
  have := (h.snocVal .non).setNew Γ.length m
  rw [List.set_append_right _ _ (Nat.le_refl _), List.set_append_right _ _ (by rw [h.len]; exact Nat.le_refl _), h.len, Nat.sub_self] at this
  exact this
theorem ap_T {σ γ : Type} {m : Rho → M D} {r : Rho → M (List D)} {F : Rho → List D → Sto → Fl} {q1 : Mt S γ} {e1 : γ → D} {Γ1 : γ → List Sl} {k : γ → Mt S σ} {J : σ → List Sl} (h : HT W fr Γ m q1 e1 Γ1)
    (hl : ∀ x, (Γ1 x).length = Γ.length) (hr : ∀ x, AP W fr (Γ1 x) [(e1 x, .val (e1 x))] r (fun ρ ds => F ρ (e1 x :: ds)) (k x) J) : AP W fr Γ [] (mCons m r) F (mbind q1 k) J := fun s ρ st H hρ => by
  rw [List.map_nil, List.map_nil, List.append_nil, List.append_nil] at H
  have e : (mCons m r ρ st).fl ρ (F ρ) = (m ρ st).fl ρ fun d st1 => (r ρ st1).fl ρ fun ds st2 => F ρ (d :: ds) st2 := by
    unfold mCons
    cases m ρ st with
    | ok d st1 => simp only [Out.bind_ok, Out.fl_ok]; cases r ρ st1 <;> rfl
    | exc _ _ => rfl
    | bad => rfl
  rw [e]
  exact OR.fl (h s ρ st H) fun b s1 st1 H1 => hr b s1 ρ st1 (H1.snocVal _) (by rw [hl]; exact hρ)
theorem ap_V {σ : Type} {pd : List (D × Sl)} {m : Rho → M D} {r : Rho → M (List D)} {F : Rho → List D → Sto → Fl} {d : D} {q : Mt S σ} {J : σ → List Sl} (h : HV W fr Γ m d)
    (hr : AP W fr Γ (pd ++ [(d, .val d)]) r (fun ρ ds => F ρ (d :: ds)) q J) : AP W fr Γ pd (mCons m r) F q J := fun s ρ st H hρ => by
  have e : (mCons m r ρ st).fl ρ (F ρ) = (r ρ st).fl ρ fun ds st2 => F ρ (d :: ds) st2 := by
    unfold mCons
    rw [h s ρ st (H.front hρ), Out.bind_ok]
    cases r ρ st <;> rfl
  rw [e]
  refine hr s ρ st ?_ hρ
  have := H.snocVal d
  rw [List.append_assoc, List.append_assoc] at this
  rw [List.map_append, List.map_append]
  exact this
theorem ap_New {σ : Type} {pd : List (D × Sl)} {l : Rho → M (List D)} {r : Rho → M (List D)} {F : Rho → List D → Sto → Fl} {xs : List D} {q : Mt S σ} {J : σ → List Sl} (h : HV W fr Γ l xs)
    (hr : ∀ a, AP W fr Γ (pd ++ [(.ref a, .mut (.lst xs))]) r (fun ρ ds => F ρ (.ref a :: ds)) q J) : AP W fr Γ pd (mCons (mNew l) r) F q J := fun s ρ st H hρ => by
  have e : (mCons (mNew l) r ρ st).fl ρ (F ρ) = (r ρ (st ++ [.lst xs])).fl ρ fun ds st2 => F ρ (.ref st.length :: ds) st2 := by
    unfold mCons mNew
    rw [h s ρ st (H.front hρ), Out.bind_ok, Out.bind_ok]
    cases r ρ (st ++ [.lst xs]) <;> rfl
  rw [e]
  refine hr st.length s ρ _ ?_ hρ
  have := H.snocNew (.lst xs)
  rw [List.append_assoc, List.append_assoc] at this
  rw [List.map_append, List.map_append]
  exact this
/-- a waiting value is put into slot i -/
theorem Has.put {s : S} {Γ : List Sl} {ρ : Rho} {st : Sto} {d : D} {a : Sl} {Γ' : List Sl} {ρ' : Rho} (h : Has W fr s (Γ ++ a :: Γ') (ρ ++ some d :: ρ') st) (hl : ρ.length = Γ.length) (i : Nat) (hi : i < Γ.length) : Has W fr s (Γ.set i a ++ Γ') (ρ.set i (some d) ++ ρ') st := by
  have hll : ρ'.length = Γ'.length := by have := h.len; simp at this; omega
  -- where slot j of the new slots stood
  let f : Nat → Nat := fun j => if j = i then Γ.length else if j < Γ.length then j else j + 1
  have key : ∀ (j : Nat) b, (Γ.set i a ++ Γ')[j]? = some b → (Γ ++ a :: Γ')[f j]? = some b ∧ (ρ.set i (some d) ++ ρ')[j]? = (ρ ++ some d :: ρ')[f j]? := fun j b e => by
    by_cases h1 : j = i
    · subst h1
      have ef : f j = Γ.length := if_pos rfl
      rw [ef]
      rw [List.getElem?_append_left (by simpa using hi), List.getElem?_set_self hi] at e
      rw [List.getElem?_append_right (Nat.le_refl _), Nat.sub_self, List.getElem?_append_left (by simpa [hl] using hi), List.getElem?_set_self (by omega), List.getElem?_append_right (by omega), hl, Nat.sub_self]
      exact ⟨by simpa using e, rfl⟩
    · by_cases h2 : j < Γ.length
      · have ef : f j = j := by simp only [f]; rw [if_neg h1, if_pos h2]
        rw [ef]
        rw [List.getElem?_append_left (by simpa using h2), List.getElem?_set_ne (Ne.symm h1)] at e
        rw [List.getElem?_append_left h2, List.getElem?_append_left (by simpa [hl] using h2), List.getElem?_set_ne (Ne.symm h1), List.getElem?_append_left (by omega)]
        exact ⟨e, rfl⟩
      · have ef : f j = j + 1 := by simp only [f]; rw [if_neg h1, if_neg h2]
        rw [ef]
        have e' := e
        rw [List.getElem?_append_right (by simp; omega), List.length_set] at e
        rw [List.getElem?_append_right (by omega), List.getElem?_append_right (by simp [hl]; omega), List.getElem?_append_right (by omega), List.length_set, hl]
        have e1 : j + 1 - Γ.length = (j - Γ.length) + 1 := by omega
        rw [e1, List.getElem?_cons_succ, List.getElem?_cons_succ]
        exact ⟨e, rfl⟩
  have fi : ∀ j k, f j = f k → j = k := fun j k e => by
    simp only [f] at e
    split at e <;> split at e <;> (try split at e) <;> (try split at e) <;> omega
  refine ⟨by simp [hl, hll], h.pre, fun j d' e => ?_, fun j m e => ?_, fun j k m1 m2 e1 e2 e3 => ?_⟩
  · obtain ⟨q1, q2⟩ := key j _ e
    rw [q2]; exact h.val _ _ q1
  · obtain ⟨q1, q2⟩ := key j _ e
    rw [q2]; exact h.mt _ _ q1
  · obtain ⟨q1, q2⟩ := key j _ e1
    obtain ⟨q3, q4⟩ := key k _ e2
    exact fi j k (h.nal _ _ m1 m2 q1 q3 (by rw [← q2, ← q4]; exact e3))
theorem ap_fin {σ : Type} {pd : List (D × Sl)} {F : Rho → List D → Sto → Fl} {z : σ} {J : σ → List Sl} (h : ∀ s ρ st, Has W fr s (Γ ++ pd.map (·.2)) (ρ ++ pd.map fun p => some p.1) st → ρ.length = Γ.length → ∃ ρ', F ρ [] st = .next ρ' st ∧ Has W fr s (J z) ρ' st) : AP W fr Γ pd mNil F (mpure z) J := fun s ρ st H hρ => by
  obtain ⟨ρ', e, h2⟩ := h s ρ st H hρ
  exact ⟨ρ', st, e, h2⟩
def FPar (i j : Nat) : Rho → List D → Sto → Fl := fun ρ ds st1 => match ds with
  | [x, y] => .next ((ρ.set i (some x)).set j (some y)) st1
  | _ => .bad
def FPar3 (i j l : Nat) : Rho → List D → Sto → Fl := fun ρ ds st1 => match ds with
  | [x, y, z] => .next (((ρ.set i (some x)).set j (some y)).set l (some z)) st1
  | _ => .bad
theorem tn_par {σ : Type} {i j : Nat} {a : Rho → M (List D)} {q : Mt S σ} {J : σ → List Sl} (h : AP W fr Γ [] a (FPar i j) q J) : TN W fr Γ (sPar i j a) q J := fun s ρ st H => h s ρ st (by simpa using H) H.len
theorem tn_par3 {σ : Type} {i j l : Nat} {a : Rho → M (List D)} {q : Mt S σ} {J : σ → List Sl} (h : AP W fr Γ [] a (FPar3 i j l) q J) : TN W fr Γ (sPar3 i j l a) q J := fun s ρ st H => h s ρ st (by simpa using H) H.len
theorem tn_tup2 {σ : Type} {i j : Nat} {a : Rho → M (List D)} {q : Mt S σ} {J : σ → List Sl} (h : AP W fr Γ [] a (FPar i j) q J) : TN W fr Γ (sAsg (gT 2 (gsCons (gN i) (gsCons (gN j) gsNil))) (mTup a)) q J := fun s ρ st H => by
  have e : sAsg (gT 2 (gsCons (gN i) (gsCons (gN j) gsNil))) (mTup a) ρ st = (a ρ st).fl ρ (FPar i j ρ) := by
    unfold sAsg mTup
    cases a ρ st with
    | exc _ _ => rfl
    | bad => rfl
    | ok ds st1 =>
      match ds with
      | [] => rfl
      | [_] => rfl
      | [_, _] => rfl
      | _ :: _ :: _ :: r =>
        simp only [Out.bind_ok, Out.fl_ok]
        split
        · rfl
        · rfl
  rw [e]
  exact h s ρ st (by simpa using H) H.len
theorem tn_tup3 {σ : Type} {i j l : Nat} {a : Rho → M (List D)} {q : Mt S σ} {J : σ → List Sl} (h : AP W fr Γ [] a (FPar3 i j l) q J) : TN W fr Γ (sAsg (gT 3 (gsCons (gN i) (gsCons (gN j) (gsCons (gN l) gsNil)))) (mTup a)) q J := fun s ρ st H => by
  have e : sAsg (gT 3 (gsCons (gN i) (gsCons (gN j) (gsCons (gN l) gsNil)))) (mTup a) ρ st = (a ρ st).fl ρ (FPar3 i j l ρ) := by
    unfold sAsg mTup
    cases a ρ st with
    | exc _ _ => rfl
    | bad => rfl
    | ok ds st1 =>
      match ds with
      | [] => rfl
      | [_] => rfl
      | [_, _] => rfl
      | [_, _, _] => rfl
      | _ :: _ :: _ :: _ :: r =>
        simp only [Out.bind_ok, Out.fl_ok]
        split
        · rfl
        · rfl
  rw [e]
  exact h s ρ st (by simpa using H) H.len
theorem ap_two {i j : Nat} {d1 d2 : D} {a1 a2 : Sl} (hi : i < Γ.length) (hj : j < Γ.length) {σ : Type} {z : σ} {J : σ → List Sl} (hJ : J z = (Γ.set i a1).set j a2 := by rfl) : AP W fr Γ [(d1, a1), (d2, a2)] mNil (fun ρ ds => FPar i j ρ (d1 :: d2 :: ds)) (mpure z) J := ap_fin fun s ρ st H hρ => by
  have h1 : Has W fr s (Γ.set i a1 ++ [a2]) (ρ.set i (some d1) ++ [some d2]) st := Has.put (Γ' := [a2]) (ρ' := [some d2]) H hρ i hi
  have h2 := Has.put (Γ' := []) (ρ' := []) h1 (by simp [hρ]) j (by simpa using hj)
  rw [List.append_nil, List.append_nil] at h2
  exact ⟨_, rfl, by rw [hJ]; exact h2⟩
theorem ap_three {i j l : Nat} {d1 d2 d3 : D} {a1 a2 a3 : Sl} (hi : i < Γ.length) (hj : j < Γ.length) (hk : l < Γ.length) {σ : Type} {z : σ} {J : σ → List Sl} (hJ : J z = ((Γ.set i a1).set j a2).set l a3 := by rfl) : AP W fr Γ [(d1, a1), (d2, a2), (d3, a3)] mNil (fun ρ ds => FPar3 i j l ρ (d1 :: d2 :: d3 :: ds)) (mpure z) J := ap_fin fun s ρ st H hρ => by
  have h1 : Has W fr s (Γ.set i a1 ++ [a2, a3]) (ρ.set i (some d1) ++ [some d2, some d3]) st := Has.put (Γ' := [a2, a3]) (ρ' := [some d2, some d3]) H hρ i hi
  have h2 : Has W fr s ((Γ.set i a1).set j a2 ++ [a3]) ((ρ.set i (some d1)).set j (some d2) ++ [some d3]) st := Has.put (Γ' := [a3]) (ρ' := [some d3]) h1 (by simp [hρ]) j (by simpa using hj)
  have h3 := Has.put (Γ' := []) (ρ' := []) h2 (by simp [hρ]) l (by simpa using hk)
  rw [List.append_nil, List.append_nil] at h3
  exact ⟨_, rfl, by rw [hJ]; exact h3⟩
end
end Dn
/-! DnW: returns, loops, comprehensions, defs. -/
namespace Dn
open PySem PySem.Spec PyProof.Rows L2
section
variable {S : Type} {W : Wd S} {fr : Sto} {Γ Γ1 Γ2 : List Sl}
/-! statements that return -/
section
variable {β : Type} {enc : β → D}
theorem tr_ret {m : Rho → M D} {q : Mt S β} {Γ' : β → List Sl} (h : HT W fr Γ m q enc Γ') : TR W fr Γ (sRet m) q enc := fun s ρ st H => by
  have := h s ρ st H
  unfold sRet
  revert this
  show OR W fr Γ' ρ enc _ _ → RR W fr enc _ _
  cases q s with
  | ok b s' => rintro ⟨st', e, h2⟩; exact ⟨st', by rw [e]; rfl, h2.pre⟩
  | exc x s' => rintro ⟨st', e, h2⟩; exact ⟨ρ, st', by rw [e]; rfl, h2⟩
  | bad => intro _; trivial
theorem tr_retN {b : β} (h : enc b = .non) : TR W fr Γ sRetN (mpure b) enc := fun s ρ st H => ⟨st, by rw [h]; rfl, H.pre⟩
theorem tr_seqN {σ : Type} {m1 m2 : Rho → Sto → Fl} {q : Mt S σ} {J : σ → List Sl} {k : σ → Mt S β} (h1 : TN W fr Γ m1 q J) (h2 : ∀ z, TR W fr (J z) m2 (k z) enc) : TR W fr Γ (sSeq m1 m2) (mbind q k) enc := fun s ρ st H => by
  have := h1 s ρ st H
  unfold sSeq
  revert this
  show NR W fr J _ _ → RR W fr enc _ (rbind (q s) _)
  cases q s with
  | ok z s' => rintro ⟨ρ', st', e, h3⟩; rw [e]; exact h2 z s' ρ' st' h3
  | exc x s' => rintro ⟨ρ', st', e, h3⟩; rw [e]; exact ⟨ρ', st', rfl, h3⟩
  | bad => intro _; trivial
theorem OR.flR {A γ : Type} {Γ' : γ → List Sl} {ρ : Rho} {e : γ → A} {r : Out A} {q : Rs S γ} {f : A → Sto → Fl} {k : γ → Mt S β} (h : OR W fr Γ' ρ e r q)
    (hk : ∀ b s st, Has W fr s (Γ' b) ρ st → RR W fr enc (f (e b) st) (k b s)) : RR W fr enc (r.fl ρ f) (rbind q k) := by
  cases q with
  | ok b s =>
    obtain ⟨st', rfl, h2⟩ := h
    exact hk b s st' h2
  | exc x s =>
    obtain ⟨st', rfl, h2, h3⟩ := h
    exact ⟨ρ, st', rfl, h2, h3⟩
  | bad => trivial
theorem tr_if {t : Rho → M Bool} {a b : Rho → Sto → Fl} {qt : Mt S Bool} {qa qb : Mt S β} {Γ' : Bool → List Sl} (ht : HT W fr Γ t qt id Γ') (ha : TR W fr (Γ' true) a qa enc) (hb : TR W fr (Γ' false) b qb enc) : TR W fr Γ (sIf t a b) (mbind qt fun c => if c = true then qa else qb) enc := fun s ρ st H => by
  refine OR.flR (f := fun c st1 => if c = true then a ρ st1 else b ρ st1) (ht s ρ st H) fun c s1 st1 H1 => ?_
  cases c
  · exact hb s1 ρ st1 H1
  · exact ha s1 ρ st1 H1
theorem seq_if (t : Rho → M Bool) (a b c : Rho → Sto → Fl) : sSeq (sIf t a b) c = sIf t (sSeq a c) (sSeq b c) := by
  funext ρ st
  unfold sSeq sIf
  cases t ρ st with
  | ok k st1 => cases k <;> rfl
  | exc _ _ => rfl
  | bad => rfl
theorem seq_seq (a b c : Rho → Sto → Fl) : sSeq (sSeq a b) c = sSeq a (sSeq b c) := by
  funext ρ st
  show ((a ρ st).seq b).seq c = (a ρ st).seq fun ρ st => (b ρ st).seq c
  cases a ρ st <;> rfl
theorem seq_nx (c : Rho → Sto → Fl) : sSeq sNext c = c := rfl
theorem tr_ifseq {t : Rho → M Bool} {a b c : Rho → Sto → Fl} {qt : Mt S Bool} {qa qb : Mt S β} {Γ' : Bool → List Sl} (ht : HT W fr Γ t qt id Γ') (ha : TR W fr (Γ' true) (sSeq a c) qa enc) (hb : TR W fr (Γ' false) (sSeq b c) qb enc) : TR W fr Γ (sSeq (sIf t a b) c) (mbind qt fun c => if c = true then qa else qb) enc := by
  rw [seq_if]
  exact tr_if ht ha hb
theorem tr_seqR {a c : Rho → Sto → Fl} {q : Mt S β} (h : TR W fr Γ a q enc) : TR W fr Γ (sSeq a c) q enc := fun s ρ st H => by
  have := h s ρ st H
  unfold sSeq
  revert this
  unfold RR
  cases q s with
  | ok b s' => rintro ⟨st', e, h2⟩; exact ⟨st', by rw [e]; rfl, h2⟩
  | exc x s' => rintro ⟨ρ', st', e, h2⟩; exact ⟨ρ', st', by rw [e]; rfl, h2⟩
  | bad => intro _; trivial
theorem tr_seqA {a b c : Rho → Sto → Fl} {q : Mt S β} (h : TR W fr Γ (sSeq a (sSeq b c)) q enc) : TR W fr Γ (sSeq (sSeq a b) c) q enc := by
  rw [seq_seq]
  exact h
theorem tr_seqF {σ : Type} {m1 m2 : Rho → Sto → Fl} {q : Mt S (σ ⊕ β)} {J : σ → List Sl} {k : σ → Mt S β} (h1 : TF W fr Γ m1 q J enc) (h2 : ∀ z, TR W fr (J z) m2 (k z) enc) : TR W fr Γ (sSeq m1 m2) (mfin q k) enc := fun s ρ st H => by
  have := h1 s ρ st H
  unfold sSeq mfin
  revert this
  show FR W fr J enc _ _ → RR W fr enc _ (rbind (q s) _)
  cases q s with
  | ok z s' =>
    cases z with
    | inl z => rintro ⟨ρ', st', e, h3⟩; rw [e]; exact h2 z s' ρ' st' h3
    | inr b => rintro ⟨st', e, h3⟩; rw [e]; exact ⟨st', rfl, h3⟩
  | exc x s' => rintro ⟨ρ', st', e, h3⟩; rw [e]; exact ⟨ρ', st', rfl, h3⟩
  | bad => intro _; trivial
/-- a body that falls through: None -/
theorem tr_end {σ : Type} {m : Rho → Sto → Fl} {q : Mt S σ} {J : σ → List Sl} (h : TN W fr Γ m q J) : TR W fr Γ (sSeq m sRetN) (mbind q fun _ => mpure ()) (fun _ => .non) := tr_seqN h fun _ => tr_retN rfl
end
/-! a loop's body -/
section
variable {σ β : Type} {enc : β → D} {J : σ → List Sl}
theorem tl_ofX {m : Rho → Sto → Fl} {q : Mt S (Lp σ β)} (h : TX W fr Γ m q J enc) : TL W fr Γ m q J enc := fun s ρ st H => by
  have := h s ρ st H
  revert this
  unfold XR LR
  cases q s with
  | ok r s' =>
    cases r with
    | nx z => rintro ⟨ρ', st', e, h2⟩; exact ⟨ρ', st', .inr e, h2⟩
    | bk z => exact id
    | rt b => exact id
  | exc x s' => exact id
  | bad => exact id
theorem tl_ofN {m : Rho → Sto → Fl} {q : Mt S σ} (h : TN W fr Γ m q J) : TL W fr Γ m (mbind q fun z => mpure (.nx z)) J enc := fun s ρ st H => by
  have := h s ρ st H
  revert this
  show NR W fr J _ _ → LR W fr J enc _ (rbind (q s) _)
  cases q s with
  | ok z s' => rintro ⟨ρ', st', e, h2⟩; exact ⟨ρ', st', .inl e, h2⟩
  | exc x s' => exact id
  | bad => exact id
theorem tl_next {z : σ} (w : Wk Γ (J z)) : TL W fr Γ sNext (mpure (.nx z)) J enc := fun s ρ st H => ⟨ρ, st, .inl rfl, H.wk w⟩
theorem tx_brk {z : σ} (w : Wk Γ (J z)) : TX W fr Γ sBrk (mpure (.bk z)) J enc := fun s ρ st H => ⟨ρ, st, rfl, H.wk w⟩
theorem tx_cnt {z : σ} (w : Wk Γ (J z)) : TX W fr Γ sCnt (mpure (.nx z)) J enc := fun s ρ st H => ⟨ρ, st, rfl, H.wk w⟩
theorem tx_ofR {m : Rho → Sto → Fl} {q : Mt S β} (h : TR W fr Γ m q enc) : TX W fr Γ m (mbind q fun b => mpure (.rt b)) J enc := fun s ρ st H => by
  have := h s ρ st H
  revert this
  show RR W fr enc _ _ → XR W fr J enc _ (rbind (q s) _)
  cases q s with
  | ok z s' => exact id
  | exc x s' => exact id
  | bad => exact id
theorem tx_seqN {τ : Type} {m1 m2 : Rho → Sto → Fl} {q : Mt S τ} {J1 : τ → List Sl} {k : τ → Mt S (Lp σ β)} (h1 : TN W fr Γ m1 q J1) (h2 : ∀ z, TX W fr (J1 z) m2 (k z) J enc) : TX W fr Γ (sSeq m1 m2) (mbind q k) J enc := fun s ρ st H => by
  have := h1 s ρ st H
  unfold sSeq
  revert this
  show NR W fr J1 _ _ → XR W fr J enc _ (rbind (q s) _)
  cases q s with
  | ok z s' => rintro ⟨ρ', st', e, h3⟩; rw [e]; exact h2 z s' ρ' st' h3
  | exc x s' => rintro ⟨ρ', st', e, h3⟩; rw [e]; exact ⟨ρ', st', rfl, h3⟩
  | bad => intro _; trivial
theorem OR.flG {A γ : Type} {Γ' : γ → List Sl} {ρ : Rho} {e : γ → A} {r : Out A} {q : Rs S γ} {f : A → Sto → Fl} {δ : Type} {k : γ → Mt S δ} {P : Fl → Rs S δ → Prop} (h : OR W fr Γ' ρ e r q)
    (he : ∀ x s st, Pre W fr s st → x.pl → P (.exc x ρ st) (.exc x s)) (hb : ∀ r, P r .bad) (hk : ∀ b s st, Has W fr s (Γ' b) ρ st → P (f (e b) st) (k b s)) : P (r.fl ρ f) (rbind q k) := by
  cases q with
  | ok b s =>
    obtain ⟨st', rfl, h2⟩ := h
    exact hk b s st' h2
  | exc x s =>
    obtain ⟨st', rfl, h2, h3⟩ := h
    exact he x s st' h2 h3
  | bad => exact hb _
theorem tx_if {t : Rho → M Bool} {a b : Rho → Sto → Fl} {qt : Mt S Bool} {qa qb : Mt S (Lp σ β)} {Γ' : Bool → List Sl} (ht : HT W fr Γ t qt id Γ') (ha : TX W fr (Γ' true) a qa J enc) (hb : TX W fr (Γ' false) b qb J enc) : TX W fr Γ (sIf t a b) (mbind qt fun c => if c = true then qa else qb) J enc := fun s ρ st H => by
  refine OR.flG (P := XR W fr J enc) (f := fun c st1 => if c = true then a ρ st1 else b ρ st1) (ht s ρ st H) (fun x s st h1 h2 => ⟨ρ, st, rfl, h1, h2⟩) (fun _ => trivial) fun c s1 st1 H1 => ?_
  cases c
  · exact hb s1 ρ st1 H1
  · exact ha s1 ρ st1 H1
theorem tx_seqX {a c : Rho → Sto → Fl} {q : Mt S (Lp σ β)} (h : TX W fr Γ a q J enc) : TX W fr Γ (sSeq a c) q J enc := fun s ρ st H => by
  have := h s ρ st H
  unfold sSeq
  revert this
  unfold XR
  cases q s with
  | ok r s' =>
    cases r with
    | nx z => rintro ⟨ρ', st', e, h2⟩; exact ⟨ρ', st', by rw [e]; rfl, h2⟩
    | bk z => rintro ⟨ρ', st', e, h2⟩; exact ⟨ρ', st', by rw [e]; rfl, h2⟩
    | rt b => rintro ⟨st', e, h2⟩; exact ⟨st', by rw [e]; rfl, h2⟩
  | exc x s' => rintro ⟨ρ', st', e, h2⟩; exact ⟨ρ', st', by rw [e]; rfl, h2⟩
  | bad => intro _; trivial
theorem tl_seqN {τ : Type} {m1 m2 : Rho → Sto → Fl} {q : Mt S τ} {J1 : τ → List Sl} {k : τ → Mt S (Lp σ β)} (h1 : TN W fr Γ m1 q J1) (h2 : ∀ z, TL W fr (J1 z) m2 (k z) J enc) : TL W fr Γ (sSeq m1 m2) (mbind q k) J enc := fun s ρ st H => by
  have := h1 s ρ st H
  unfold sSeq
  revert this
  show NR W fr J1 _ _ → LR W fr J enc _ (rbind (q s) _)
  cases q s with
  | ok z s' => rintro ⟨ρ', st', e, h3⟩; rw [e]; exact h2 z s' ρ' st' h3
  | exc x s' => rintro ⟨ρ', st', e, h3⟩; rw [e]; exact ⟨ρ', st', rfl, h3⟩
  | bad => intro _; trivial
theorem tl_if {t : Rho → M Bool} {a b : Rho → Sto → Fl} {qt : Mt S Bool} {qa qb : Mt S (Lp σ β)} {Γ' : Bool → List Sl} (ht : HT W fr Γ t qt id Γ') (ha : TL W fr (Γ' true) a qa J enc) (hb : TL W fr (Γ' false) b qb J enc) : TL W fr Γ (sIf t a b) (mbind qt fun c => if c = true then qa else qb) J enc := fun s ρ st H => by
  refine OR.flG (P := LR W fr J enc) (f := fun c st1 => if c = true then a ρ st1 else b ρ st1) (ht s ρ st H) (fun x s st h1 h2 => ⟨ρ, st, rfl, h1, h2⟩) (fun _ => trivial) fun c s1 st1 H1 => ?_
  cases c
  · exact hb s1 ρ st1 H1
  · exact ha s1 ρ st1 H1
theorem tl_ifseq {t : Rho → M Bool} {a b c : Rho → Sto → Fl} {qt : Mt S Bool} {qa qb : Mt S (Lp σ β)} {Γ' : Bool → List Sl} (ht : HT W fr Γ t qt id Γ') (ha : TL W fr (Γ' true) (sSeq a c) qa J enc) (hb : TL W fr (Γ' false) (sSeq b c) qb J enc) : TL W fr Γ (sSeq (sIf t a b) c) (mbind qt fun c => if c = true then qa else qb) J enc := by
  rw [seq_if]
  exact tl_if ht ha hb
theorem tl_seqX {a c : Rho → Sto → Fl} {q : Mt S (Lp σ β)} (h : TX W fr Γ a q J enc) : TL W fr Γ (sSeq a c) q J enc := tl_ofX (tx_seqX h)
theorem tl_seqA {a b c : Rho → Sto → Fl} {q : Mt S (Lp σ β)} (h : TL W fr Γ (sSeq a (sSeq b c)) q J enc) : TL W fr Γ (sSeq (sSeq a b) c) q J enc := by
  rw [seq_seq]
  exact h
theorem tl_seqF {τ : Type} {m1 m2 : Rho → Sto → Fl} {q : Mt S (τ ⊕ β)} {J1 : τ → List Sl} {k : τ → Mt S (Lp σ β)} (h1 : TF W fr Γ m1 q J1 enc) (h2 : ∀ z, TL W fr (J1 z) m2 (k z) J enc) : TL W fr Γ (sSeq m1 m2) (mfinL q k) J enc := fun s ρ st H => by
  have := h1 s ρ st H
  unfold sSeq mfinL
  revert this
  show FR W fr J1 enc _ _ → LR W fr J enc _ (rbind (q s) _)
  cases q s with
  | ok z s' =>
    cases z with
    | inl z => rintro ⟨ρ', st', e, h3⟩; rw [e]; exact h2 z s' ρ' st' h3
    | inr b => rintro ⟨st', e, h3⟩; rw [e]; exact ⟨st', rfl, h3⟩
  | exc x s' => rintro ⟨ρ', st', e, h3⟩; rw [e]; exact ⟨ρ', st', rfl, h3⟩
  | bad => intro _; trivial
end
/-! loops -/
def eSrc {α : Type} (e : α → D) (xs : List α) : Src := ⟨xs.map e, []⟩
section
variable {α σ β : Type} {enc : β → D} {e : α → D} {J : σ → List Sl} {gf : D → Rho → M Rho} {mb : Rho → Sto → Fl} {G : α → σ → List Sl} {js : List Nat}
theorem forL_U {held : List (Nat × List D)} {body : α → σ → Mt S σ} (hh : ∀ z s ρ st, Has W fr s (J z) ρ st → heldOk held st) (hg : ∀ x z, GT1 W fr (J z) gf (e x) (G x z) js) (hb : ∀ x z, TN W fr (G x z) mb (body x z) J) :
    ∀ (xs : List α) (z : σ) s ρ st, Has W fr s (J z) ρ st → NR W fr J (forL held (forB gf mb) (xs.map e) ρ st) (forU body xs z s)
  | [], z, s, ρ, st, H => by
    rw [List.map_nil]
    unfold forL
    rw [if_pos (hh z s ρ st H)]
    exact ⟨ρ, st, rfl, H⟩
  | x :: xs, z, s, ρ, st, H => by
    rw [List.map_cons]
    unfold forL
    rw [if_pos (hh z s ρ st H)]
    obtain ⟨ρ1, e1, H1, _⟩ := hg x z s ρ st H
    have h1 := hb x z s ρ1 st H1
    have eb : forB gf mb (e x) ρ st = mb ρ1 st := by unfold forB; rw [e1]; rfl
    rw [eb]
    show NR W fr J _ (rbind (body x z s) _)
    revert h1
    cases body x z s with
    | ok z' s' => rintro ⟨ρ', st', e2, h2⟩; rw [e2]; exact forL_U hh hg hb xs z' s' ρ' st' h2
    | exc y s' => rintro ⟨ρ', st', e2, h2⟩; rw [e2]; exact ⟨ρ', st', rfl, h2⟩
    | bad => intro _; trivial
theorem forL_X {held : List (Nat × List D)} {body : α → σ → Mt S (Lp σ β)} (hh : ∀ z s ρ st, Has W fr s (J z) ρ st → heldOk held st) (hg : ∀ x z, GT1 W fr (J z) gf (e x) (G x z) js) (hb : ∀ x z, TL W fr (G x z) mb (body x z) J enc) :
    ∀ (xs : List α) (z : σ) s ρ st, Has W fr s (J z) ρ st → FR W fr J enc (forL held (forB gf mb) (xs.map e) ρ st) (forX body xs z s)
  | [], z, s, ρ, st, H => by
    rw [List.map_nil]
    unfold forL
    rw [if_pos (hh z s ρ st H)]
    exact ⟨ρ, st, rfl, H⟩
  | x :: xs, z, s, ρ, st, H => by
    rw [List.map_cons]
    unfold forL
    rw [if_pos (hh z s ρ st H)]
    obtain ⟨ρ1, e1, H1, _⟩ := hg x z s ρ st H
    have h1 := hb x z s ρ1 st H1
    have eb : forB gf mb (e x) ρ st = mb ρ1 st := by unfold forB; rw [e1]; rfl
    rw [eb]
    show FR W fr J enc _ (rbind (body x z s) _)
    revert h1
    cases body x z s with
    | ok r s' =>
      cases r with
      | nx z' =>
        rintro ⟨ρ', st', e2, h2⟩
        rcases e2 with e2 | e2
        · rw [e2]; exact forL_X hh hg hb xs z' s' ρ' st' h2
        · rw [e2]; exact forL_X hh hg hb xs z' s' ρ' st' h2
      | bk z' => rintro ⟨ρ', st', e2, h2⟩; rw [e2]; exact ⟨ρ', st', rfl, h2⟩
      | rt b => rintro ⟨st', e2, h2⟩; rw [e2]; exact ⟨st', rfl, h2⟩
    | exc y s' => rintro ⟨ρ', st', e2, h2⟩; rw [e2]; exact ⟨ρ', st', rfl, h2⟩
    | bad => intro _; trivial
theorem tn_for {ms : Rho → M Src} {q : Mt S (List α)} {body : α → σ → Mt S σ} {Γ' : List α → List Sl} {z0 : σ} (hs : HT W fr Γ ms q (eSrc e) Γ') (w : ∀ xs, Wk (Γ' xs) (J z0)) (hg : ∀ x z, GT1 W fr (J z) gf (e x) (G x z) js) (hb : ∀ x z, TN W fr (G x z) mb (body x z) J) :
    TN W fr Γ (sFor ms gf mb) (mbind q fun xs => forU body xs z0) J := fun s ρ st H => by
  refine OR.fl (f := fun src st1 => forL src.held (forB gf mb) src.items ρ st1) (hs s ρ st H) fun xs s1 st1 H1 => ?_
  exact forL_U (fun _ _ _ _ _ => (heldOk_nil _).mpr trivial) hg hb xs z0 s1 ρ st1 (H1.wk (w xs))
theorem tf_for {ms : Rho → M Src} {q : Mt S (List α)} {body : α → σ → Mt S (Lp σ β)} {Γ' : List α → List Sl} {z0 : σ} (hs : HT W fr Γ ms q (eSrc e) Γ') (w : ∀ xs, Wk (Γ' xs) (J z0)) (hg : ∀ x z, GT1 W fr (J z) gf (e x) (G x z) js) (hb : ∀ x z, TL W fr (G x z) mb (body x z) J enc) :
    TF W fr Γ (sFor ms gf mb) (mbind q fun xs => forX body xs z0) J enc := fun s ρ st H => by
  refine OR.flG (P := FR W fr J enc) (f := fun src st1 => forL src.held (forB gf mb) src.items ρ st1) (hs s ρ st H) (fun x s st h1 h2 => ⟨ρ, st, rfl, h1, h2⟩) (fun _ => trivial) fun xs s1 st1 H1 => ?_
  exact forL_X (fun _ _ _ _ _ => (heldOk_nil _).mpr trivial) hg hb xs z0 s1 ρ st1 (H1.wk (w xs))
/-- while -/
theorem whileL_U {n : Nat} {t : Rho → M Bool} {c : σ → Mt S Bool} {body : σ → Mt S σ} (hc : ∀ z, HT W fr (J z) t (c z) id fun _ => J z) (hb : ∀ z, TN W fr (J z) mb (body z) J) :
    ∀ (n : Nat) (z : σ) s ρ st, Has W fr s (J z) ρ st → NR W fr J (whileL t mb n ρ st) (whileU c body n z s)
  | 0, z, s, ρ, st, H => trivial
  | n + 1, z, s, ρ, st, H => by
    refine OR.fl (f := fun b st1 => if b = true then (match mb ρ st1 with
      | .next ρ' st' => whileL t mb n ρ' st'
      | .cnt ρ' st' => whileL t mb n ρ' st'
      | .brk ρ' st' => .next ρ' st'
      | r => r) else .next ρ st1) (hc z s ρ st H) fun b s1 st1 H1 => ?_
    cases b
    · exact ⟨ρ, st1, rfl, H1⟩
    · have h1 := hb z s1 ρ st1 H1
      show NR W fr J (match mb ρ st1 with
        | .next ρ' st' => whileL t mb n ρ' st'
        | .cnt ρ' st' => whileL t mb n ρ' st'
        | .brk ρ' st' => .next ρ' st'
        | r => r) (rbind (body z s1) _)
      revert h1
      cases body z s1 with
      | ok z' s' => rintro ⟨ρ', st', e2, h2⟩; rw [e2]; exact whileL_U (n := n) hc hb n z' s' ρ' st' h2
      | exc y s' => rintro ⟨ρ', st', e2, h2⟩; rw [e2]; exact ⟨ρ', st', rfl, h2⟩
      | bad => intro _; trivial
theorem tn_while {n : Nat} {t : Rho → M Bool} {c : σ → Mt S Bool} {body : σ → Mt S σ} {z0 : σ} (w : Wk Γ (J z0)) (hc : ∀ z, HT W fr (J z) t (c z) id fun _ => J z) (hb : ∀ z, TN W fr (J z) mb (body z) J) :
    TN W fr Γ (sWhile n t mb) (whileU c body n z0) J := fun s ρ st H => whileL_U (n := n) hc hb n z0 s ρ st (H.wk w)
theorem whileL_X {t : Rho → M Bool} {c : σ → Mt S Bool} {body : σ → Mt S (Lp σ β)} (hc : ∀ z, HT W fr (J z) t (c z) id fun _ => J z) (hb : ∀ z, TL W fr (J z) mb (body z) J enc) :
    ∀ (n : Nat) (z : σ) s ρ st, Has W fr s (J z) ρ st → FR W fr J enc (whileL t mb n ρ st) (whileX c body n z s)
  | 0, z, s, ρ, st, H => trivial
  | n + 1, z, s, ρ, st, H => by
    refine OR.flG (P := FR W fr J enc) (f := fun b st1 => if b = true then (match mb ρ st1 with
      | .next ρ' st' => whileL t mb n ρ' st'
      | .cnt ρ' st' => whileL t mb n ρ' st'
      | .brk ρ' st' => .next ρ' st'
      | r => r) else .next ρ st1) (hc z s ρ st H) (fun x s st h1 h2 => ⟨ρ, st, rfl, h1, h2⟩) (fun _ => trivial) fun b s1 st1 H1 => ?_
    cases b
    · exact ⟨ρ, st1, rfl, H1⟩
    · have h1 := hb z s1 ρ st1 H1
      show FR W fr J enc (match mb ρ st1 with
        | .next ρ' st' => whileL t mb n ρ' st'
        | .cnt ρ' st' => whileL t mb n ρ' st'
        | .brk ρ' st' => .next ρ' st'
        | r => r) (rbind (body z s1) _)
      revert h1
      cases body z s1 with
      | ok r s' =>
        cases r with
        | nx z' =>
          rintro ⟨ρ', st', e2, h2⟩
          rcases e2 with e2 | e2
          · rw [e2]; exact whileL_X hc hb n z' s' ρ' st' h2
          · rw [e2]; exact whileL_X hc hb n z' s' ρ' st' h2
        | bk z' => rintro ⟨ρ', st', e2, h2⟩; rw [e2]; exact ⟨ρ', st', rfl, h2⟩
        | rt b => rintro ⟨st', e2, h2⟩; rw [e2]; exact ⟨st', rfl, h2⟩
      | exc y s' => rintro ⟨ρ', st', e2, h2⟩; rw [e2]; exact ⟨ρ', st', rfl, h2⟩
      | bad => intro _; trivial
theorem tf_while {n : Nat} {t : Rho → M Bool} {c : σ → Mt S Bool} {body : σ → Mt S (Lp σ β)} {z0 : σ} (w : Wk Γ (J z0)) (hc : ∀ z, HT W fr (J z) t (c z) id fun _ => J z) (hb : ∀ z, TL W fr (J z) mb (body z) J enc) :
    TF W fr Γ (sWhile n t mb) (whileX c body n z0) J enc := fun s ρ st H => whileL_X hc hb n z0 s ρ st (H.wk w)
end
/-! a list is changed no more -/
theorem Has.fz {s : S} {ρ : Rho} {st : Sto} {i : Nat} {xs : List D} (H : Has W fr s Γ ρ st) (h : Γ[i]? = some (.mut (.lst xs))) : ∃ l, ρ[i]? = some (some (.ref l)) ∧ st[l]? = some (.lst xs) ∧ Has W fr s (Γ.set i (.val (.lst xs))) (ρ.set i (some (.lst xs))) (st.set l .gone) := by
  obtain ⟨l, q1, q2, q3⟩ := H.mt i _ h
  refine ⟨l, q1, q3, ?_⟩
  have := (H.write .gone h q1).setVal i (.lst xs)
  rwa [List.set_set] at this
theorem sFz_eq {ρ : Rho} {st : Sto} {i l : Nat} {xs : List D} {m : Rho → Sto → Fl} (q1 : ρ[i]? = some (some (.ref l))) (q3 : st[l]? = some (.lst xs)) : sFz i m ρ st = m (ρ.set i (some (.lst xs))) (st.set l .gone) := by
  unfold sFz
  rw [q1]
  dsimp only
  rw [q3]
section
variable {σ β : Type} {enc : β → D} {J : σ → List Sl} {i : Nat} {xs : List D} {m : Rho → Sto → Fl}
theorem tn_fz {q : Mt S σ} (h : Γ[i]? = some (.mut (.lst xs))) (hm : TN W fr (Γ.set i (.val (.lst xs))) m q J) : TN W fr Γ (sFz i m) q J := fun s ρ st H => by
  obtain ⟨l, q1, q2, H1⟩ := H.fz h
  rw [sFz_eq q1 q2]
  exact hm s _ _ H1
theorem tr_fz {q : Mt S β} (h : Γ[i]? = some (.mut (.lst xs))) (hm : TR W fr (Γ.set i (.val (.lst xs))) m q enc) : TR W fr Γ (sFz i m) q enc := fun s ρ st H => by
  obtain ⟨l, q1, q2, H1⟩ := H.fz h
  rw [sFz_eq q1 q2]
  exact hm s _ _ H1
theorem tl_fz {q : Mt S (Lp σ β)} (h : Γ[i]? = some (.mut (.lst xs))) (hm : TL W fr (Γ.set i (.val (.lst xs))) m q J enc) : TL W fr Γ (sFz i m) q J enc := fun s ρ st H => by
  obtain ⟨l, q1, q2, H1⟩ := H.fz h
  rw [sFz_eq q1 q2]
  exact hm s _ _ H1
theorem tx_fz {q : Mt S (Lp σ β)} (h : Γ[i]? = some (.mut (.lst xs))) (hm : TX W fr (Γ.set i (.val (.lst xs))) m q J enc) : TX W fr Γ (sFz i m) q J enc := fun s ρ st H => by
  obtain ⟨l, q1, q2, H1⟩ := H.fz h
  rw [sFz_eq q1 q2]
  exact hm s _ _ H1
end
/-! comprehensions -/
def wipeG (Γ : List Sl) : List Nat → List Sl
  | [] => Γ
  | v :: vs => (wipeG Γ vs).set v .any
theorem Has.unset {s : S} {Γ : List Sl} {ρ : Rho} {st : Sto} (h : Has W fr s Γ ρ st) (i : Nat) : Has W fr s (Γ.set i .any) (ρ.set i none) st := by
  have g : ∀ (j : Nat) (a : Sl), (Γ.set i .any)[j]? = some a → a ≠ .any → Γ[j]? = some a ∧ (ρ.set i none)[j]? = ρ[j]? := fun j a e n => by
    by_cases hj : i = j
    · subst hj
      have hl : i < Γ.length := by have := (List.getElem?_eq_some_iff.mp e).1; simpa using this
      rw [List.getElem?_set_self hl] at e
      cases e
      exact absurd rfl n
    · rw [List.getElem?_set_ne hj] at e ⊢; exact ⟨e, rfl⟩
  refine ⟨by simp [h.len], h.pre, fun i d e => ?_, fun i m e => ?_, fun i j m1 m2 e1 e2 e3 => ?_⟩
  · rw [(g i _ e (by simp)).2]; exact h.val i d (g i _ e (by simp)).1
  · rw [(g i _ e (by simp)).2]; exact h.mt i m (g i _ e (by simp)).1
  · exact h.nal i j m1 m2 (g i _ e1 (by simp)).1 (g j _ e2 (by simp)).1 (by rw [← (g i _ e1 (by simp)).2, ← (g j _ e2 (by simp)).2]; exact e3)
theorem Has.wipe {s : S} {Γ : List Sl} {ρ : Rho} {st : Sto} (h : Has W fr s Γ ρ st) : ∀ vs : List Nat, Has W fr s (wipeG Γ vs) (wipeD ρ vs) st
  | [] => h
  | v :: vs => (h.wipe vs).unset v
theorem wipeD_get (ρ : Rho) : ∀ (vs : List Nat) (j : Nat), j ∉ vs → (wipeD ρ vs)[j]? = ρ[j]?
  | [], _, _ => rfl
  | v :: vs, j, h => by
    show ((wipeD ρ vs).set v none)[j]? = _
    rw [List.getElem?_set_ne (fun q => h (by simp [q])), wipeD_get ρ vs j fun q => h (List.mem_cons_of_mem _ q)]
/-- slots of the store stand on, but at js -/
def Kp (js : List Nat) (Γ Γ' : List Sl) : Prop := ∀ (i : Nat) m, Γ[i]? = some (.mut m) → i ∉ js ∧ Γ'[i]? = some (.mut m)
def kpB : List Sl → List Sl → Nat → List Nat → Prop
  | [], _, _, _ => True
  | .mut m :: Γ, Γ', n, js => n ∉ js ∧ Γ'[n]? = some (.mut m) ∧ kpB Γ Γ' (n + 1) js
  | _ :: Γ, Γ', n, js => kpB Γ Γ' (n + 1) js
theorem kpB_get {js : List Nat} {Γ' : List Sl} : ∀ {Γ : List Sl} {n : Nat}, kpB Γ Γ' n js → ∀ (i : Nat) m, Γ[i]? = some (.mut m) → i + n ∉ js ∧ Γ'[i + n]? = some (.mut m)
  | [], _, _, i, m, e => by simp at e
  | .mut m' :: Γ, n, h, 0, m, e => by
    have : m' = m := by simpa using e
    subst this
    rw [Nat.zero_add]
    exact ⟨h.1, h.2.1⟩
  | .any :: Γ, n, h, 0, m, e => by simp at e
  | .val _ :: Γ, n, h, 0, m, e => by simp at e
  | .mut m' :: Γ, n, h, i + 1, m, e => by
    have := kpB_get (Γ := Γ) h.2.2 i m (by simpa using e)
    rwa [show i + (n + 1) = i + 1 + n by omega] at this
  | .any :: Γ, n, h, i + 1, m, e => by
    have := kpB_get (Γ := Γ) h i m (by simpa using e)
    rwa [show i + (n + 1) = i + 1 + n by omega] at this
  | .val _ :: Γ, n, h, i + 1, m, e => by
    have := kpB_get (Γ := Γ) h i m (by simpa using e)
    rwa [show i + (n + 1) = i + 1 + n by omega] at this
theorem kp_of {js : List Nat} {Γ Γ' : List Sl} (h : kpB Γ Γ' 0 js) : Kp js Γ Γ' := fun i m e => kpB_get h i m e
/-- back to the slots as they were -/
theorem Has.back {s s' : S} {Γ Γ' : List Sl} {ρ ρ' : Rho} {st st' : Sto} {js : List Nat} (h : Has W fr s Γ ρ st) (h' : Has W fr s' Γ' ρ' st') (k : Kp js Γ Γ') (hr : ∀ j, j ∉ js → ρ'[j]? = ρ[j]?) : Has W fr s' Γ ρ st' := by
  refine ⟨h.len, h'.pre, h.val, fun i m e => ?_, h.nal⟩
  obtain ⟨q1, q2⟩ := k i m e
  obtain ⟨l, p1, p2, p3⟩ := h'.mt i m q2
  exact ⟨l, by rw [← hr i q1]; exact p1, p2, p3⟩
section
variable {α β : Type}
def compT (f : α → Mt S (Option β)) : List α → Mt S (List β)
  | [] => mpure []
  | x :: xs => mbind (f x) fun o => mbind (compT f xs) fun ys => mpure (o.toList ++ ys)
/-- each item, while it holds: the test and the item draw or may fail -/
def compG (c : α → Mt S Bool) (f : α → Mt S β) (xs : List α) : Mt S (List β) := if xs.length ≤ 100000 then compT (fun x => mbind (c x) fun b => if b = true then mbind (f x) fun y => mpure (some y) else mpure none) xs else mbad
/-- nothing fails -/
def compV (c : α → Bool) (f : α → β) (xs : List α) : Mt S (List β) := if xs.length ≤ 100000 then mpure ((xs.filter c).map f) else mbad
/-- only the item may fail -/
def mapT (f : α → Mt S β) : List α → Mt S (List β)
  | [] => mpure []
  | x :: xs => mbind (f x) fun y => mbind (mapT f xs) fun ys => mpure (y :: ys)
def compM (c : α → Bool) (f : α → Mt S β) (xs : List α) : Mt S (List β) := if xs.length ≤ 100000 then mapT f (xs.filter c) else mbad
variable {e : α → D} {enc : β → D} {gf : D → Rho → M Rho} {mt : Rho → M Bool} {me : Rho → M D} {vs js : List Nat} {G : α → List Sl}
theorem lcL_T {f : α → Mt S (Option β)} {ρ : Rho} (hf : ∀ x s st, Has W fr s Γ ρ st → OR W fr (fun _ => Γ) ρ (fun o : Option β => o.map enc) (lcF gf mt me (wipeD ρ vs) (e x) st) (f x s)) :
    ∀ (xs : List α) s st, Has W fr s Γ ρ st → OR W fr (fun _ => Γ) ρ (fun ys : List β => ys.map enc) (lcL [] (lcF gf mt me (wipeD ρ vs)) (xs.map e) st) (compT f xs s)
  | [], s, st, H => by
    rw [List.map_nil]
    unfold lcL
    rw [if_pos ((heldOk_nil _).mpr trivial)]
    exact ⟨st, rfl, H⟩
  | x :: xs, s, st, H => by
    rw [List.map_cons]
    unfold lcL
    rw [if_pos ((heldOk_nil _).mpr trivial)]
    refine OR.bind (hf x s st H) fun o s1 st1 H1 => ?_
    refine OR.bind (lcL_T hf xs s1 st1 H1) fun ys s2 st2 H2 => ?_
    refine ⟨st2, ?_, H2⟩
    cases o <;> simp
theorem nox_OR {A : Type} {r : Out A} {γ : Type} {Γ' : γ → List Sl} {ρ : Rho} {en : γ → A} {q : Rs S γ} (h : OR W fr Γ' ρ en r q) (hx : ∀ x s, q ≠ .exc x s) : OR W fr Γ' ρ en (nox r) q := by
  cases q with
  | ok b s => obtain ⟨st', rfl, h2⟩ := h; exact ⟨st', rfl, h2⟩
  | exc x s => exact absurd rfl (hx x s)
  | bad => trivial
/-- nothing is raised -/
def NoX {γ : Type} (q : Mt S γ) : Prop := ∀ s x s', q s ≠ .exc x s'
/-- what is raised counts as a failure -/
def rcalm {γ : Type} (r : Rs S γ) : Rs S γ := match r with
  | .ok a s' => .ok a s'
  | _ => .bad
def calmly {γ : Type} (q : Mt S γ) : Mt S γ := fun s => rcalm (q s)
theorem calm_OR {A : Type} {r : Out A} {γ : Type} {Γ' : γ → List Sl} {ρ : Rho} {en : γ → A} {q : Rs S γ} (h : OR W fr Γ' ρ en r q) : OR W fr Γ' ρ en (nox r) (rcalm q) := by
  cases q with
  | ok b s => obtain ⟨st', rfl, h2⟩ := h; exact ⟨st', rfl, h2⟩
  | exc x s => trivial
  | bad => trivial
theorem lcF_T {c : Mt S Bool} {f : Mt S β} {x : α} {Γw : List Sl} {Γx : List Sl} (hw : wipeG Γ vs = Γw) (hg : GT1 W fr Γw gf (e x) Γx js) (hjs : ∀ j, j ∈ js → j ∈ vs) (hk : Kp vs Γ Γx) (hc : HT W fr Γx mt c id fun _ => Γx) (hf : HT W fr Γx me f enc fun _ => Γx) (s : S) (ρ : Rho) (st : Sto) (H : Has W fr s Γ ρ st) :
    OR W fr (fun _ => Γ) ρ (fun o : Option β => o.map enc) (lcF gf mt me (wipeD ρ vs) (e x) st) (mbind c (fun b => if b = true then mbind f fun y => mpure (some y) else mpure none) s) := by
  have H0 := H.wipe vs
  rw [hw] at H0
  obtain ⟨ρ1, e1, H1, k1⟩ := hg s (wipeD ρ vs) st H0
  have kr : ∀ j, j ∉ vs → ρ1[j]? = ρ[j]? := fun j hj => by rw [k1 j fun q => hj (hjs j q), wipeD_get ρ vs j hj]
  unfold lcF
  rw [e1, Out.bind_ok]
  show OR W fr _ ρ _ _ (rbind (c s) _)
  have h1 := hc s ρ1 st H1
  revert h1
  cases c s with
  | ok b s1 =>
    rintro ⟨st1, e2, H2⟩
    rw [e2, Out.bind_ok]
    cases b
    · exact ⟨st1, rfl, H.back H2 hk kr⟩
    · have h2 := hf s1 ρ1 st1 H2
      show OR W fr _ ρ _ _ (rbind (f s1) _)
      revert h2
      cases f s1 with
      | ok y s2 =>
        rintro ⟨st2, e3, H3⟩
        refine ⟨st2, ?_, H.back H3 hk kr⟩
        simp only [id, if_true, e3]
        rfl
      | exc y s2 =>
        rintro ⟨st2, e3, H3⟩
        refine ⟨st2, ?_, H3⟩
        simp only [id, if_true, e3]
        rfl
      | bad => intro _; trivial
  | exc y s1 =>
    rintro ⟨st1, e2, H2⟩
    exact ⟨st1, by rw [e2]; rfl, H2⟩
  | bad => intro _; trivial
/-- nothing that is raised leaves a comprehension in the layer: it counts as a failure -/
theorem ht_compG {ms : Rho → M Src} {q : Mt S (List α)} {c : α → Mt S Bool} {f : α → Mt S β} {Γw : List Sl} (hs : HT W fr Γ ms q (eSrc e) fun _ => Γ) (hw : wipeG Γ vs = Γw) (hg : ∀ x, GT1 W fr Γw gf (e x) (G x) js) (hjs : ∀ j, j ∈ js → j ∈ vs) (hk : ∀ x, Kp vs Γ (G x))
    (hc : ∀ x, HT W fr (G x) mt (c x) id fun _ => G x) (hf : ∀ x, HT W fr (G x) me (f x) enc fun _ => G x) : HT W fr Γ (lLc ms gf mt me vs) (mbind q fun xs => calmly (compG c f xs)) (fun ys : List β => ys.map enc) fun _ => Γ := fun s ρ st H => by
  unfold lLc
  refine OR.bind (hs s ρ st H) fun xs s1 st1 H1 => ?_
  show OR W fr _ ρ _ (if (xs.map e).length ≤ SZ then nox (lcL [] (lcF gf mt me (wipeD ρ vs)) (xs.map e) st1) else .bad) (rcalm (compG c f xs s1))
  unfold compG
  rw [List.length_map]
  by_cases hl : xs.length ≤ 100000
  · rw [if_pos hl, if_pos (show xs.length ≤ SZ from hl)]
    exact calm_OR (lcL_T (fun x s st H => lcF_T hw (hg x) hjs (hk x) (hc x) (hf x) s ρ st H) xs s1 st1 H1)
  · rw [if_neg hl, if_neg (show ¬ xs.length ≤ SZ from hl)]
    trivial
theorem compT_V (c : α → Bool) (f : α → β) : ∀ xs : List α, compT (S := S) (fun x => mbind (mpure (c x)) fun b => if b = true then mbind (mpure (f x)) fun y => mpure (some y) else mpure none) xs = mpure ((xs.filter c).map f)
  | [] => rfl
  | x :: xs => by
    unfold compT
    rw [compT_V c f xs]
    simp only [mbind_pure]
    cases h : c x <;> simp [h]
theorem compT_M (c : α → Bool) (f : α → Mt S β) : ∀ xs : List α, compT (fun x => mbind (mpure (c x)) fun b => if b = true then mbind (f x) fun y => mpure (some y) else mpure none) xs = mapT f (xs.filter c)
  | [] => rfl
  | x :: xs => by
    unfold compT
    rw [compT_M c f xs]
    simp only [mbind_pure]
    cases h : c x
    · simp [h, mbind_ret]
    · simp only [h, if_true, List.filter_cons_of_pos]
      rw [mapT, mbind_assoc]
      rfl
theorem calmly_pure {γ : Type} (a : γ) : calmly (mpure a : Mt S γ) = mpure a := rfl
theorem calmly_bad {γ : Type} : calmly (mbad : Mt S γ) = mbad := rfl
theorem ht_compV {ms : Rho → M Src} {q : Mt S (List α)} {c : α → Bool} {f : α → β} {Γw : List Sl} (hs : HT W fr Γ ms q (eSrc e) fun _ => Γ) (hw : wipeG Γ vs = Γw) (hg : ∀ x, GT1 W fr Γw gf (e x) (G x) js) (hjs : ∀ j, j ∈ js → j ∈ vs) (hk : ∀ x, Kp vs Γ (G x))
    (hc : ∀ x, HV W fr (G x) mt (c x)) (hf : ∀ x, HV W fr (G x) me (enc (f x))) : HT W fr Γ (lLc ms gf mt me vs) (mbind q fun xs => compV c f xs) (fun ys : List β => ys.map enc) fun _ => Γ := by
  have h := ht_compG (c := fun x => mpure (c x)) (f := fun x => mpure (f x)) hs hw hg hjs hk (fun x => ht_ofV (enc := id) (hc x)) fun x => ht_ofV (hf x)
  have e : (fun xs : List α => calmly (compG (S := S) (fun x => mpure (c x)) (fun x => mpure (f x)) xs)) = fun xs => compV c f xs := by
    funext xs
    unfold compG compV
    rw [compT_V]
    split <;> rfl
  rw [e] at h
  exact h
theorem ht_compM {ms : Rho → M Src} {q : Mt S (List α)} {c : α → Bool} {f : α → Mt S β} {Γw : List Sl} (hs : HT W fr Γ ms q (eSrc e) fun _ => Γ) (hw : wipeG Γ vs = Γw) (hg : ∀ x, GT1 W fr Γw gf (e x) (G x) js) (hjs : ∀ j, j ∈ js → j ∈ vs) (hk : ∀ x, Kp vs Γ (G x))
    (hc : ∀ x, HV W fr (G x) mt (c x)) (hf : ∀ x, HT W fr (G x) me (f x) enc fun _ => G x) : HT W fr Γ (lLc ms gf mt me vs) (mbind q fun xs => calmly (compM c f xs)) (fun ys : List β => ys.map enc) fun _ => Γ := by
  have h := ht_compG (c := fun x => mpure (c x)) (f := f) hs hw hg hjs hk (fun x => ht_ofV (enc := id) (hc x)) hf
  have e : (fun xs : List α => calmly (compG (S := S) (fun x => mpure (c x)) f xs)) = fun xs => calmly (compM c f xs) := by
    funext xs
    unfold compG compM
    rw [compT_M]
  rw [e] at h
  exact h
end
/-! defs -/
mutual
theorem low_mono {n n' : Nat} (h : n ≤ n') : ∀ d : D, d.low n = true → d.low n' = true
  | .non, _ => by simp only [D.low]
  | .bl _, _ => by simp only [D.low]
  | .int _, _ => by simp only [D.low]
  | .str _, _ => by simp only [D.low]
  | .adr _, _ => by simp only [D.low]
  | .ref l, e => by
    simp only [D.low, decide_eq_true_eq] at e ⊢
    omega
  | .tup xs, e => by simp only [D.low] at e ⊢; exact lows_mono h xs e
  | .lst xs, e => by simp only [D.low] at e ⊢; exact lows_mono h xs e
  | .scr xs, e => by simp only [D.low] at e ⊢; exact lows_mono h xs e
  | .fd _ xs, e => by simp only [D.low] at e ⊢; exact lows_mono h xs e
  | .exo _ _ _ d, e => by simp only [D.low] at e ⊢; exact low_mono h d e
  | .obj _ _ xs, e => by simp only [D.low] at e ⊢; exact lows_mono h xs e
theorem lows_mono {n n' : Nat} (h : n ≤ n') : ∀ ds : List D, D.lows n ds = true → D.lows n' ds = true
  | [], _ => by simp only [D.lows]
  | d :: ds, e => by
    simp only [D.lows, Bool.and_eq_true] at e ⊢
    exact ⟨low_mono h d e.1, lows_mono h ds e.2⟩
end
theorem mo_low_mono {n n' : Nat} {m : MO} (e : m.low n = true) (h : n ≤ n') : m.low n' = true := by
  cases m with
  | lst xs => exact lows_mono h xs e
  | dct _ xs => exact lows_mono h xs e
  | gone => rfl
  | ins C fs =>
    simp only [MO.low, List.all_eq_true] at e ⊢
    exact fun p hp => low_mono h _ (e p hp)
theorem has_start {s : S} {np nN : Nat} {ds : List D} {fr : Sto} (hl : ds.length ≤ nN) : Has W fr s (ds.map .val ++ List.replicate (nN - ds.length) .any) (rho0 nN ds) (W.st s ++ fr) := by
  unfold rho0
  have g : ∀ (i : Nat) a, (ds.map Sl.val ++ List.replicate (nN - ds.length) Sl.any)[i]? = some a → a = .any ∨ ∃ d, a = .val d ∧ ds[i]? = some d := fun i a e => by
    by_cases hi : i < ds.length
    · rw [List.getElem?_append_left (by simpa using hi), List.getElem?_map] at e
      cases e1 : ds[i]? with
      | none => rw [e1] at e; cases e
      | some d => rw [e1] at e; cases e; exact .inr ⟨d, rfl, rfl⟩
    · rw [List.getElem?_append_right (by simpa using hi), List.getElem?_replicate] at e
      split at e
      · cases e; exact .inl rfl
      · cases e
  refine ⟨by simp, ⟨[], by simp⟩, fun i d e => ?_, fun i m e => ?_, fun i j m1 m2 e1 e2 e3 => ?_⟩
  · rcases g i _ e with q | ⟨d', q, h⟩
    · cases q
    · cases q
      have hi := (List.getElem?_eq_some_iff.mp h).1
      rw [List.getElem?_append_left (by simpa using hi), List.getElem?_map, h]
      rfl
  · rcases g i _ e with q | ⟨d', q, h⟩
    · cases q
    · cases q
  · rcases g i _ e1 with q | ⟨d', q, h⟩
    · cases q
    · cases q
theorem clean_pre {s s' : S} {st' : Sto} {fr : Sto} {d : D} (hd : isP d = true) (h : Pre W fr s' st') : clean (W.st s ++ fr) (.ok d st') = .ok d (W.st s' ++ fr) := by
  obtain ⟨loc, rfl⟩ := h
  have hl : (W.st s).length = W.n := W.len s
  have hl' : (W.st s').length = W.n := W.len s'
  have ht : Tidy (W.st s ++ fr) (W.st s' ++ (fr ++ loc)) := by
    refine ⟨by simp only [List.length_append, hl, hl']; omega, fun l m hlt e => ?_⟩
    rw [List.length_append, hl] at hlt
    by_cases h1 : l < W.n
    · rw [List.getElem?_append_left (by omega)] at e
      right
      exact mo_low_mono (W.low s' l m e) (by rw [List.length_append, hl]; omega)
    · left
      rw [List.getElem?_append_right (by omega), List.getElem?_append_left (by omega)] at e
      rw [List.getElem?_append_right (by omega)]
      rw [hl]
      rw [hl'] at e
      exact e
  rw [clean_drop (low_of_isP _ d hd) ht]
  congr 1
  rw [← List.append_assoc, List.take_append_of_le_length (by simp [hl, hl']), List.take_of_length_le (by simp [hl, hl'])]
theorem clean_preX {s s' : S} {st' : Sto} {fr : Sto} {x : Xc} (hx : x.pl) (h : Pre W fr s' st') : clean (W.st s ++ fr) (.exc x st') = .exc x (W.st s' ++ fr) := by
  obtain ⟨loc, rfl⟩ := h
  have hl : (W.st s).length = W.n := W.len s
  have hl' : (W.st s').length = W.n := W.len s'
  have ht : Tidy (W.st s ++ fr) (W.st s' ++ (fr ++ loc)) := by
    refine ⟨by simp only [List.length_append, hl, hl']; omega, fun l m hlt e => ?_⟩
    rw [List.length_append, hl] at hlt
    by_cases h1 : l < W.n
    · rw [List.getElem?_append_left (by omega)] at e
      right
      exact mo_low_mono (W.low s' l m e) (by rw [List.length_append, hl]; omega)
    · left
      rw [List.getElem?_append_right (by omega), List.getElem?_append_left (by omega)] at e
      rw [List.getElem?_append_right (by omega)]
      rw [hl]
      rw [hl'] at e
      exact e
  have hlow : x.low (W.st s ++ fr).length = true := by
    unfold Xc.low
    unfold Xc.pl at hx
    split
    · rfl
    · rename_i p e
      rw [e] at hx
      exact low_of_isP _ _ hx
  unfold clean
  dsimp only
  rw [if_pos ⟨hlow, ht⟩]
  congr 1
  rw [← List.append_assoc, List.take_append_of_le_length (by simp [hl, hl']), List.take_of_length_le (by simp [hl, hl'])]
/-- a def by its body -/
theorem fnT_of {β : Type} {enc : β → D} {np nN : Nat} {m : Rho → Sto → Fl} {ds : List D} {q : Mt S β} (hp : ∀ b, isP (enc b) = true) (hn : ds.length = np) (hl : ds.length ≤ nN) (h : ∀ fr, TR W fr (ds.map .val ++ List.replicate (nN - ds.length) .any) m q enc) : FN W (fnD np nN m) ds q enc := fun fr s => by
  have := h fr s _ _ (has_start (W := W) (np := np) (s := s) (fr := fr) hl)
  unfold fnD
  rw [if_pos hn]
  revert this
  show RR W fr enc _ (q s) → FO W fr enc _ (q s)
  generalize q s = r
  cases r with
  | ok b s' =>
    rintro ⟨st', e, h2⟩
    rw [e]
    exact clean_pre (hp b) h2
  | exc x s' =>
    rintro ⟨ρ', st', e, h2, h3⟩
    rw [e]
    exact ⟨clean_preX h3 h2, h3⟩
  | bad => intro _; trivial
/-- .. that falls through -/
theorem fnT_ofN {σ : Type} {J : σ → List Sl} {np nN : Nat} {m : Rho → Sto → Fl} {ds : List D} {q : Mt S σ} (hn : ds.length = np) (hl : ds.length ≤ nN) (h : ∀ fr, TN W fr (ds.map .val ++ List.replicate (nN - ds.length) .any) m q J) : FN W (fnD np nN m) ds (mbind q fun _ => mpure ()) (fun _ => .non) := fun fr s => by
  have := h fr s _ _ (has_start (W := W) (np := np) (s := s) (fr := fr) hl)
  unfold fnD
  rw [if_pos hn]
  revert this
  show NR W fr J _ (q s) → FO W fr _ _ (rbind (q s) fun _ => mpure ())
  generalize q s = r
  cases r with
  | ok b s' =>
    rintro ⟨ρ', st', e, h2⟩
    rw [e]
    exact clean_pre rfl h2.pre
  | exc x s' =>
    rintro ⟨ρ', st', e, h2, h3⟩
    rw [e]
    exact ⟨clean_preX h3 h2, h3⟩
  | bad => intro _; trivial
end
end Dn
/-! DnX: how typed values are written, and what each operation does with them. -/
namespace Dn
open PySem PySem.Spec PyProof.Rows L2
def eI : Int → D := .int
def eB : Bool → D := .bl
def eS : Str → D := .str
def eD : D → D := fun d => d
def eU : Unit → D := fun _ => .non
def eT {α : Type} (e : α → D) (xs : List α) : D := .tup (xs.map e)
def eL {α : Type} (e : α → D) (xs : List α) : D := .lst (xs.map e)
def eP {α β : Type} (e : α → D) (f : β → D) (z : α × β) : D := .tup [e z.1, f z.2]
def eP3 {α β γ : Type} (e : α → D) (f : β → D) (g : γ → D) (z : α × β × γ) : D := .tup [e z.1, f z.2.1, g z.2.2]
def eO {α : Type} (e : α → D) (o : Option α) : D := match o with
  | none => .non
  | some x => e x
/-! ### equality -/
class Ev {α : Type} [DecidableEq α] (e : α → D) (dp : outParam Nat) : Prop where
  p : ∀ x, isP (e x) = true
  dep : ∀ x, (toP (e x)).depth ≤ dp
  eq : ∀ x y, PyData.eqv (toP (e x)) (toP (e y)) = decide (x = y)
/-- plain data -/
class Pl {α : Type} (e : α → D) : Prop where
  p : ∀ x, isP (e x) = true
instance : Pl eI := ⟨fun _ => rfl⟩
instance : Pl eB := ⟨fun _ => rfl⟩
instance : Pl eS := ⟨fun _ => rfl⟩
instance : Pl eU := ⟨fun _ => rfl⟩
theorem isPs_of {α : Type} {e : α → D} (h : ∀ x, isP (e x) = true) : ∀ xs : List α, isPs (xs.map e) = true
  | [] => rfl
  | x :: xs => by rw [List.map_cons, isPs, h x, isPs_of h xs] <;> rfl
instance {α : Type} {e : α → D} [Pl e] : Pl (eT e) := ⟨fun xs => by unfold eT; rw [isP]; exact isPs_of Pl.p xs⟩
instance {α : Type} {e : α → D} [Pl e] : Pl (eL e) := ⟨fun xs => by unfold eL; rw [isP]; exact isPs_of Pl.p xs⟩
instance {α β : Type} {e : α → D} {f : β → D} [Pl e] [Pl f] : Pl (eP e f) := ⟨fun z => by unfold eP; simp only [isP, isPs, Pl.p, Bool.and_self]⟩
instance {α β γ : Type} {e : α → D} {f : β → D} {g : γ → D} [Pl e] [Pl f] [Pl g] : Pl (eP3 e f g) := ⟨fun z => by unfold eP3; simp only [isP, isPs, Pl.p, Bool.and_self]⟩
instance {α : Type} {e : α → D} [Pl e] : Pl (eO e) := ⟨fun o => by cases o with
  | none => rfl
  | some x => exact Pl.p x⟩
instance : Ev eI 0 := ⟨fun _ => rfl, fun _ => Nat.le_refl _, fun x y => by
  show (x == y) = _
  rw [Bool.eq_iff_iff]; simp⟩
instance : Ev eB 0 := ⟨fun _ => rfl, fun _ => Nat.le_refl _, fun x y => by
  show (x == y) = _
  rw [Bool.eq_iff_iff]; simp⟩
instance : Ev eS 0 := ⟨fun _ => rfl, fun _ => Nat.le_refl _, fun x y => by
  show (x == y) = _
  rw [Bool.eq_iff_iff]; simp⟩
instance : Ev eU 0 := ⟨fun _ => rfl, fun _ => Nat.le_refl _, fun x y => rfl⟩
theorem depAll_of {α : Type} {e : α → D} {n : Nat} (h : ∀ x, (toP (e x)).depth ≤ n) : ∀ xs : List α, PyData.depthAll (toPs (xs.map e)) ≤ n
  | [] => Nat.zero_le _
  | x :: xs => by
    rw [List.map_cons, toPs, PyData.depthAll]
    exact Nat.max_le.mpr ⟨h x, depAll_of h xs⟩
theorem eqvAll_of {α : Type} [DecidableEq α] {e : α → D} (h : ∀ x y, PyData.eqv (toP (e x)) (toP (e y)) = decide (x = y)) : ∀ xs ys : List α, PyData.eqvAll (toPs (xs.map e)) (toPs (ys.map e)) = decide (xs = ys)
  | [], [] => rfl
  | [], y :: ys => by simp only [List.map_nil, List.map_cons, toPs, PyData.eqvAll]; rfl
  | x :: xs, [] => by simp only [List.map_nil, List.map_cons, toPs, PyData.eqvAll]; rfl
  | x :: xs, y :: ys => by
    simp only [List.map_cons, toPs, PyData.eqvAll]
    rw [h x y, eqvAll_of h xs ys, Bool.eq_iff_iff]
    simp
instance {α : Type} [DecidableEq α] {e : α → D} {n : Nat} [Ev e n] : Ev (eT e) (n + 1) := ⟨fun xs => by unfold eT; rw [isP]; exact isPs_of Ev.p xs, fun xs => by
  unfold eT
  rw [toP, PyData.depth]
  have := depAll_of (n := n) (e := e) Ev.dep xs
  omega, fun xs ys => by
  unfold eT
  rw [toP, toP, PyData.eqv]
  exact eqvAll_of Ev.eq xs ys⟩
instance {α : Type} [DecidableEq α] {e : α → D} {n : Nat} [Ev e n] : Ev (eL e) (n + 1) := ⟨fun xs => by unfold eL; rw [isP]; exact isPs_of Ev.p xs, fun xs => by
  unfold eL
  rw [toP, PyData.depth]
  have := depAll_of (n := n) (e := e) Ev.dep xs
  omega, fun xs ys => by
  unfold eL
  rw [toP, toP, PyData.eqv]
  exact eqvAll_of Ev.eq xs ys⟩
instance {α β : Type} [DecidableEq α] [DecidableEq β] {e : α → D} {f : β → D} {n m : Nat} [Ev e n] [Ev f m] : Ev (eP e f) (max n m + 1) := ⟨fun z => by unfold eP; simp only [isP, isPs, Ev.p, Bool.and_self], fun z => by
  unfold eP
  have h1 := Ev.dep (e := e) z.1
  have h2 := Ev.dep (e := f) z.2
  simp only [toP, toPs, PyData.depth, PyData.depthAll]
  omega, fun x y => by
  unfold eP
  simp only [toP, toPs, PyData.eqv, PyData.eqvAll, Ev.eq]
  rw [Bool.eq_iff_iff]
  simp [Prod.ext_iff]⟩
/-- never None -/
class Nn {α : Type} (e : α → D) : Prop where
  nn : ∀ x, toP (e x) ≠ .none
instance : Nn eI := ⟨fun _ h => nomatch h⟩
instance : Nn eB := ⟨fun _ h => nomatch h⟩
instance : Nn eS := ⟨fun _ h => nomatch h⟩
instance {α : Type} {e : α → D} : Nn (eT e) := ⟨fun _ h => by unfold eT at h; rw [toP] at h; cases h⟩
instance {α : Type} {e : α → D} : Nn (eL e) := ⟨fun _ h => by unfold eL at h; rw [toP] at h; cases h⟩
instance {α β : Type} {e : α → D} {f : β → D} : Nn (eP e f) := ⟨fun _ h => by unfold eP at h; rw [toP] at h; cases h⟩
theorem eqv_none_l {d : PyData} (h : d ≠ .none) : PyData.eqv .none d = false := by cases d <;> first | rfl | exact absurd rfl h
theorem eqv_none_r {d : PyData} (h : d ≠ .none) : PyData.eqv d .none = false := by cases d <;> first | rfl | exact absurd rfl h
instance {α : Type} [DecidableEq α] {e : α → D} {n : Nat} [Ev e n] [Nn e] : Ev (eO e) n := ⟨fun o => by cases o with
  | none => rfl
  | some x => exact Ev.p x, fun o => by cases o with
  | none => exact Nat.zero_le _
  | some x => exact Ev.dep x, fun o p => by
  cases o with
  | none =>
    cases p with
    | none => rfl
    | some y =>
      show PyData.eqv .none (toP (e y)) = _
      rw [eqv_none_l (Nn.nn (e := e) y)] <;> rfl
  | some x =>
    cases p with
    | none =>
      show PyData.eqv (toP (e x)) .none = _
      rw [eqv_none_r (Nn.nn (e := e) x)] <;> rfl
    | some y =>
      show PyData.eqv (toP (e x)) (toP (e y)) = _
      rw [Ev.eq (e := e)]
      simp⟩
section
variable {α : Type} [DecidableEq α] {e : α → D} {n : Nat}
theorem pEq_dat {st : Sto} {a b : D} {p q : PyData} (ha : dat st a = some p) (hb : dat st b = some q) (hd : min p.depth q.depth ≤ 64) : pEq st a b = some (.bl (PyData.eqv p q)) := by
  have gen : (match dat st a, dat st b with
    | some p, some q => if min p.depth q.depth ≤ 64 then some (D.bl (PyData.eqv p q)) else none
    | _, _ => none) = some (D.bl (PyData.eqv p q)) := by
    rw [ha, hb]
    exact if_pos hd
  unfold pEq
  split
  · rename_i x y
    cases ha
    cases hb
    rfl
  · exact gen
theorem pNe_dat {st : Sto} {a b : D} {p q : PyData} (ha : dat st a = some p) (hb : dat st b = some q) (hd : min p.depth q.depth ≤ 64) : pNe st a b = some (.bl (!PyData.eqv p q)) := by
  have gen : (match dat st a, dat st b with
    | some p, some q => if min p.depth q.depth ≤ 64 then some (D.bl (!PyData.eqv p q)) else none
    | _, _ => none) = some (D.bl (!PyData.eqv p q)) := by
    rw [ha, hb]
    exact if_pos hd
  unfold pNe
  split
  · rename_i x y
    cases ha
    cases hb
    rfl
  · exact gen
theorem t_eq [Ev e n] (x y : α) (h : n ≤ 64) (st : Sto) : pEq st (e x) (e y) = some (.bl (decide (x = y))) := by
  have hd := Ev.dep (e := e) x
  rw [pEq_dat (dat_P (Ev.p x)) (dat_P (Ev.p y)) (by omega), Ev.eq]
theorem t_ne [Ev e n] (x y : α) (h : n ≤ 64) (st : Sto) : pNe st (e x) (e y) = some (.bl (!decide (x = y))) := by
  have hd := Ev.dep (e := e) x
  rw [pNe_dat (dat_P (Ev.p x)) (dat_P (Ev.p y)) (by omega), Ev.eq]
theorem any_of [Ev e n] (x : α) : ∀ xs : List α, ((toPs (xs.map e)).any fun z => PyData.eqv z (toP (e x))) = decide (x ∈ xs)
  | [] => by simp [toPs]
  | y :: ys => by
    rw [List.map_cons, toPs, List.any_cons, any_of x ys, Ev.eq]
    by_cases h : y = x
    · subst h; simp
    · have h' : ¬ x = y := fun q => h q.symm
      simp [h, h']
theorem inD_seq {st : Sto} {a b : D} {p : PyData} {ds : List PyData} (ha : dat st a = some p) (hb : dat st b = some (.list ds) ∨ dat st b = some (.tuple ds)) (hd : p.depth ≤ 64) : inD st a b = some (ds.any fun z => PyData.eqv z p) := by
  unfold inD
  split
  · rcases hb with hb | hb <;> cases hb
  · rw [ha]
    rcases hb with hb | hb
    · rw [hb]
      exact if_pos hd
    · rw [hb]
      exact if_pos hd
theorem dat_eT [Ev e n] (xs : List α) (st : Sto) : dat st (eT e xs) = some (.tuple (toPs (xs.map e))) := by
  rw [dat_P (Ev.p xs)]
  unfold eT
  rw [toP]
theorem dat_eL [Ev e n] (xs : List α) (st : Sto) : dat st (eL e xs) = some (.list (toPs (xs.map e))) := by
  rw [dat_P (Ev.p xs)]
  unfold eL
  rw [toP]
theorem t_inT [Ev e n] (x : α) (xs : List α) (h : n ≤ 64) (st : Sto) : pIn st (e x) (eT e xs) = some (.bl (decide (x ∈ xs))) := by
  unfold pIn
  rw [inD_seq (dat_P (Ev.p x)) (.inr (dat_eT xs st)) (Nat.le_trans (Ev.dep (e := e) x) h), any_of] <;> rfl
theorem t_inL [Ev e n] (x : α) (xs : List α) (h : n ≤ 64) (st : Sto) : pIn st (e x) (eL e xs) = some (.bl (decide (x ∈ xs))) := by
  unfold pIn
  rw [inD_seq (dat_P (Ev.p x)) (.inl (dat_eL xs st)) (Nat.le_trans (Ev.dep (e := e) x) h), any_of] <;> rfl
theorem t_ninT [Ev e n] (x : α) (xs : List α) (h : n ≤ 64) (st : Sto) : pNotIn st (e x) (eT e xs) = some (.bl (!decide (x ∈ xs))) := by
  unfold pNotIn
  rw [inD_seq (dat_P (Ev.p x)) (.inr (dat_eT xs st)) (Nat.le_trans (Ev.dep (e := e) x) h), any_of] <;> rfl
theorem t_ninL [Ev e n] (x : α) (xs : List α) (h : n ≤ 64) (st : Sto) : pNotIn st (e x) (eL e xs) = some (.bl (!decide (x ∈ xs))) := by
  unfold pNotIn
  rw [inD_seq (dat_P (Ev.p x)) (.inl (dat_eL xs st)) (Nat.le_trans (Ev.dep (e := e) x) h), any_of] <;> rfl
end
/-! ### a list of the store stands for its items -/
theorem dr_dat {st : Sto} {l : Nat} {xs : List D} (h : st[l]? = some (.lst xs)) : dat st (.ref l) = dat st (.lst xs) := by
  unfold dat
  dsimp only
  rw [h]
  simp only [isP, toP]
  rfl
theorem dr_eq1 {st : Sto} {l : Nat} {xs : List D} {b : D} (h : st[l]? = some (.lst xs)) : pEq st (.ref l) b = pEq st (.lst xs) b := by
  unfold pEq
  simp only [dr_dat h]
theorem dr_ne1 {st : Sto} {l : Nat} {xs : List D} {b : D} (h : st[l]? = some (.lst xs)) : pNe st (.ref l) b = pNe st (.lst xs) b := by
  unfold pNe
  simp only [dr_dat h]
theorem dr_in2 {st : Sto} {l : Nat} {xs : List D} {a : D} (h : st[l]? = some (.lst xs)) : pIn st a (.ref l) = pIn st a (.lst xs) := by
  unfold pIn inD
  simp only [dr_dat h]
theorem dr_nin2 {st : Sto} {l : Nat} {xs : List D} {a : D} (h : st[l]? = some (.lst xs)) : pNotIn st a (.ref l) = pNotIn st a (.lst xs) := by
  unfold pNotIn inD
  simp only [dr_dat h]
theorem dr_seq {st : Sto} {l : Nat} {xs : List D} (h : st[l]? = some (.lst xs)) : seqOf st (.ref l) = seqOf st (.lst xs) := by rw [seqOf_ref h, seqOf_lst]
theorem dr_lst {st : Sto} {l : Nat} {xs : List D} (h : st[l]? = some (.lst xs)) : lstOf st (.ref l) = lstOf st (.lst xs) := by rw [lstOf_ref h, lstOf_lst]
theorem dr_idx1 {st : Sto} {l : Nat} {xs : List D} {b : D} (h : st[l]? = some (.lst xs)) : pIdx st (.ref l) b = pIdx st (.lst xs) b := by
  unfold pIdx
  cases b <;> simp only [dr_seq h]
theorem dr_len {st : Sto} {l : Nat} {xs : List D} (h : st[l]? = some (.lst xs)) : pLen st [.ref l] = pLen st [.lst xs] := by
  show (seqOf st (.ref l)).map (fun xs => D.int xs.length) = (seqOf st (.lst xs)).map (fun xs => D.int xs.length)
  rw [dr_seq h]
theorem dr_tuple {st : Sto} {l : Nat} {xs : List D} (h : st[l]? = some (.lst xs)) : pTuple st [.ref l] = pTuple st [.lst xs] := by
  show (lstOf st (.ref l)).map _ = (lstOf st (.lst xs)).map _
  rw [dr_lst h]
theorem dr_list {st : Sto} {l : Nat} {xs : List D} (h : st[l]? = some (.lst xs)) : pList st [.ref l] = pList st [.lst xs] := dr_seq h
theorem dr_sorted {st : Sto} {l : Nat} {xs : List D} (h : st[l]? = some (.lst xs)) : pSorted st [.ref l] = pSorted st [.lst xs] := by
  unfold pSorted
  simp only [dr_seq h]
theorem dr_cat1 {st : Sto} {l : Nat} {xs : List D} {b : D} (h : st[l]? = some (.lst xs)) : pCat st (.ref l) b = pCat st (.lst xs) b := by
  unfold pCat
  rw [dr_lst h]
theorem dr_cat2 {st : Sto} {l : Nat} {xs : List D} {b : D} (h : st[l]? = some (.lst xs)) : pCat st b (.ref l) = pCat st b (.lst xs) := by
  unfold pCat
  rw [dr_lst h]
theorem dr_repr {st : Sto} {l : Nat} {xs : List D} (h : st[l]? = some (.lst xs)) : pRepr st [.ref l] = pRepr st [.lst xs] := by
  show (dat st (.ref l)).bind _ = (dat st (.lst xs)).bind _
  rw [dr_dat h]
/-! ### numbers -/
theorem t_add (a b : Int) (st : Sto) : pAdd st (eI a) (eI b) = some (eI (a + b)) := rfl
theorem t_sub (a b : Int) (st : Sto) : pSub st (eI a) (eI b) = some (eI (a - b)) := rfl
theorem t_neg (a : Int) (st : Sto) : pNeg st (eI a) = some (eI (-a)) := rfl
theorem t_lt (a b : Int) (st : Sto) : pLt st (eI a) (eI b) = some (.bl (decide (a < b))) := rfl
theorem t_le (a b : Int) (st : Sto) : pLe st (eI a) (eI b) = some (.bl (decide (a ≤ b))) := rfl
theorem t_gt (a b : Int) (st : Sto) : pGt st (eI a) (eI b) = some (.bl (decide (b < a))) := rfl
theorem t_ge (a b : Int) (st : Sto) : pGe st (eI a) (eI b) = some (.bl (decide (b ≤ a))) := rfl
def b2z (b : Bool) : Int := if b = true then 1 else 0
theorem t_intB (b : Bool) (st : Sto) : pInt st [eB b] = some (eI (b2z b)) := by cases b <;> rfl
theorem t_intI (a : Int) (st : Sto) : pInt st [eI a] = some (eI a) := rfl
theorem t_max (a b : Int) (st : Sto) : pMax2 st [eI a, eI b] = some (eI (max a b)) := by
  show some (D.int (if b > a then b else a)) = some (D.int (max a b))
  congr 2
  by_cases h : b > a
  · rw [if_pos h]; omega
  · rw [if_neg h]; omega
theorem t_min (a b : Int) (st : Sto) : pMin2 st [eI a, eI b] = some (eI (min a b)) := by
  show some (D.int (if b < a then b else a)) = some (D.int (min a b))
  congr 2
  by_cases h : b < a
  · rw [if_pos h]; omega
  · rw [if_neg h]; omega
theorem t_abs (a : Int) (st : Sto) : pAbs st [eI a] = some (eI (if a < 0 then -a else a)) := rfl
section
variable {α : Type} {e : α → D}
theorem t_lenT (xs : List α) (st : Sto) : pLen st [eT e xs] = some (eI (xs.length : Int)) := by
  show some (D.int ((xs.map e).length : Int)) = _
  rw [List.length_map] <;> rfl
theorem t_lenL (xs : List α) (st : Sto) : pLen st [eL e xs] = some (eI (xs.length : Int)) := by
  show some (D.int ((xs.map e).length : Int)) = _
  rw [List.length_map] <;> rfl
theorem atI_map (xs : List α) (i : Int) : atI (xs.map e) i = (atI xs i).map e := by
  unfold atI
  rw [List.length_map]
  cases ixN xs.length i with
  | none => rfl
  | some j => simp
theorem t_idxT (xs : List α) (i : Int) (x : α) (h : atI xs i = some x) (st : Sto) : pIdx st (eT e xs) (eI i) = some (e x) := by
  show (seqOf st (eT e xs)).bind (fun xs => atI xs i) = _
  show atI (xs.map e) i = _
  rw [atI_map, h] <;> rfl
theorem t_idxL (xs : List α) (i : Int) (x : α) (h : atI xs i = some x) (st : Sto) : pIdx st (eL e xs) (eI i) = some (e x) := by
  show (seqOf st (eL e xs)).bind (fun xs => atI xs i) = _
  show atI (xs.map e) i = _
  rw [atI_map, h] <;> rfl
theorem t_catT (xs ys : List α) (h : xs.length + ys.length ≤ 100000) (st : Sto) : pAdd st (eT e xs) (eT e ys) = some (eT e (xs ++ ys)) := by
  show (if (xs.map e).length + (ys.map e).length ≤ 100000 then some (D.tup (xs.map e ++ ys.map e)) else none) = _
  rw [List.length_map, List.length_map, if_pos h, ← List.map_append] <;> rfl
theorem t_catL (xs ys : List α) (h : xs.length + ys.length ≤ 100000) (st : Sto) : pCat st (eL e xs) (eL e ys) = some ((xs ++ ys).map e) := by
  show (if (xs.map e).length + (ys.map e).length ≤ 100000 then some (xs.map e ++ ys.map e) else none) = _
  rw [List.length_map, List.length_map, if_pos h, ← List.map_append]
theorem map_rep (xs : List α) (k : Nat) : (List.replicate k (xs.map e)).flatten = ((List.replicate k xs).flatten).map e := by
  induction k with
  | zero => rfl
  | succ k ih => rw [List.replicate_succ, List.flatten_cons, ih, List.replicate_succ, List.flatten_cons, List.map_append]
theorem t_repT (xs : List α) (k : Int) (h : xs.length ≤ 1000 ∧ -1000 ≤ k ∧ k ≤ 1000) (st : Sto) : pMul st (eT e xs) (eI k) = some (eT e (List.replicate k.toNat xs).flatten) := by
  show (if (xs.map e).length ≤ 1000 ∧ -1000 ≤ k ∧ k ≤ 1000 then some (D.tup (List.replicate k.toNat (xs.map e)).flatten) else none) = _
  rw [List.length_map, if_pos h, map_rep] <;> rfl
theorem t_repL (xs : List α) (k : Int) (h : xs.length * k.toNat ≤ 100000 ∧ -1000000 ≤ k ∧ k ≤ 1000000) (st : Sto) : pRepL st (eL e xs) (eI k) = some ((List.replicate k.toNat xs).flatten.map e) := by
  show (if (xs.map e).length * k.toNat ≤ 100000 ∧ -1000000 ≤ k ∧ k ≤ 1000000 then some (List.replicate k.toNat (xs.map e)).flatten else none) = _
  rw [List.length_map, if_pos h, map_rep]
theorem t_tupL (xs : List α) (st : Sto) : pTuple st [eL e xs] = some (eT e xs) := rfl
theorem t_tupT (xs : List α) (st : Sto) : pTuple st [eT e xs] = some (eT e xs) := rfl
theorem t_listL (xs : List α) (st : Sto) : pList st [eL e xs] = some (xs.map e) := rfl
theorem t_listT (xs : List α) (st : Sto) : pList st [eT e xs] = some (xs.map e) := rfl
theorem t_all (bs : List Bool) (st : Sto) : pAll st [eL eB bs] = some (eB (bs.all id)) := by
  show ((some (bs.map eB)).bind blOf).map _ = _
  show (blOf (bs.map D.bl)).map _ = _
  rw [blOf_map] <;> rfl
theorem t_any (bs : List Bool) (st : Sto) : pAny st [eL eB bs] = some (eB (bs.any id)) := by
  show ((some (bs.map eB)).bind blOf).map _ = _
  show (blOf (bs.map D.bl)).map _ = _
  rw [blOf_map] <;> rfl
theorem t_sum (ns : List Int) (st : Sto) : pSum st [eL eI ns] = some (eI ns.sum) := by
  show ((some (ns.map eI)).bind intOf).map _ = _
  show (intOf (ns.map D.int)).map _ = _
  rw [intOf_map] <;> rfl
theorem t_isO (o : Option α) [Nn e] (st : Sto) : pIs st (eO e o) .non = some (.bl o.isNone) := by
  cases o with
  | none => rfl
  | some x =>
    show some (D.bl (e x).isNon) = some (D.bl false)
    have := Nn.nn (e := e) x
    cases h : e x <;> first | rfl | (rw [h] at this; exact absurd rfl this)
theorem t_isNotO (o : Option α) [Nn e] (st : Sto) : pIsNot st (eO e o) .non = some (.bl o.isSome) := by
  cases o with
  | none => rfl
  | some x =>
    show some (D.bl (!(e x).isNon)) = some (D.bl true)
    have := Nn.nn (e := e) x
    cases h : e x <;> first | rfl | (rw [h] at this; exact absurd rfl this)
theorem cutD_map (xs : List α) (lo hi : Option Int) : cutD (xs.map e) lo hi = (cutD xs lo hi).map e := by
  unfold cutD
  rw [List.length_map, ← List.map_drop, ← List.map_take]
/-! truth -/
theorem tr_B (b : Bool) (st : Sto) : (eB b).truth st = some b := rfl
theorem tr_I (a : Int) (st : Sto) : (eI a).truth st = some (a != 0) := rfl
theorem tr_T (xs : List α) (st : Sto) : (eT e xs).truth st = some (!xs.isEmpty) := by
  show (seqOf st (.tup (xs.map e))).map (fun xs => !xs.isEmpty) = _
  show some (!(xs.map e).isEmpty) = _
  cases xs <;> rfl
theorem tr_L (xs : List α) (st : Sto) : (eL e xs).truth st = some (!xs.isEmpty) := by
  show (seqOf st (.lst (xs.map e))).map (fun xs => !xs.isEmpty) = _
  show some (!(xs.map e).isEmpty) = _
  cases xs <;> rfl
end
/-! ### what may fail -/
section
variable {S : Type}
def mmod (a b : Int) : Mt S Int := if 0 < b then mpure (a % b) else mbad
def mdiv (a b : Int) : Mt S Int := if 0 < b ∧ b < 1073741824 then mpure (a / b) else mbad
noncomputable def mmul (a b : Int) : Mt S Int := @ite _ (a.natAbs < 2 ^ 64 ∨ b.natAbs < 2 ^ 64) (Classical.propDecidable _) (mpure (a * b)) mbad
noncomputable def mpow (a b : Int) : Mt S Int := @ite _ (0 ≤ b ∧ b ≤ 1000000 ∧ a.natAbs < 2 ^ 64) (Classical.propDecidable _) (mpure (a ^ b.toNat)) mbad
def midx {α : Type} (xs : List α) (i : Int) : Mt S α := mopt (atI xs i)
def mcat {α : Type} (xs ys : List α) : Mt S (List α) := if xs.length + ys.length ≤ 100000 then mpure (xs ++ ys) else mbad
def mrepT {α : Type} (xs : List α) (k : Int) : Mt S (List α) := if xs.length ≤ 1000 ∧ -1000 ≤ k ∧ k ≤ 1000 then mpure (List.replicate k.toNat xs).flatten else mbad
def mrepL {α : Type} (xs : List α) (k : Int) : Mt S (List α) := if xs.length * k.toNat ≤ 100000 ∧ -1000000 ≤ k ∧ k ≤ 1000000 then mpure (List.replicate k.toNat xs).flatten else mbad
def mdisp {α : Type} (xs : List α) : Mt S (List α) := if xs.length ≤ 100000 then mpure xs else mbad
def mapp {α : Type} (xs : List α) (x : α) : Mt S (List α) := if xs.length < 100000 then mpure (xs ++ [x]) else mbad
def rngI (lo hi : Int) : List Int := (List.range (hi - lo).toNat).map fun i : Nat => lo + (i : Int)
noncomputable def mrng (lo hi : Int) : Mt S (List Int) := @ite _ (-(2 ^ 62) ≤ lo ∧ lo < 2 ^ 62 ∧ -(2 ^ 62) ≤ hi ∧ hi < 2 ^ 62) (Classical.propDecidable _) (mpure (rngI lo hi)) mbad
noncomputable def mrngL (lo hi : Int) : Mt S (List Int) := @ite _ (rgOk lo hi) (Classical.propDecidable _) (mpure (rngI lo hi)) mbad
noncomputable def mrepr (d : D) : Mt S Str := @ite _ (isP d = true ∧ SeqAt.shaped (toP d) = true ∧ (toP d).showable = true ∧ (toP d).shown.length ≤ sizeLine) (Classical.propDecidable _) (mpure (toP d).shown) mbad
def mstr (a : Int) : Mt S Str := if a.natAbs.log2 < 1920 then mpure (toString a : Str) else mbad
end
theorem rngD_rngI (lo hi : Int) : rngD lo (hi - lo).toNat = (rngI lo hi).map eI := by
  unfold rngD rngI
  rw [List.map_map] <;> rfl
section
variable {S : Type} {W : Wd S} {fr : Sto} {Γ : List Sl}
/-! ends of argument lists -/
theorem af_op {p : Sto → D → D → Option D} {d1 d2 : D} {β : Type} {enc : β → D} {b : β} (h : ∀ st, p st d1 d2 = some (enc b)) : AC W fr Γ mNil (fun ds => F2 p (d1 :: d2 :: ds)) (mpure b) enc fun _ => Γ := ac_ret fun st => by
  show lift (p st d1 d2) st = _
  rw [h st] <;> rfl
theorem af_opL {p : Sto → D → D → Option (List D)} {d1 d2 : D} {β : Type} {enc : β → List D} {b : β} (h : ∀ st, p st d1 d2 = some (enc b)) : AC W fr Γ mNil (fun ds => F2L p (d1 :: d2 :: ds)) (mpure b) enc fun _ => Γ := ac_ret fun st => by
  show lift (p st d1 d2) st = _
  rw [h st] <;> rfl
theorem af_un {p : Sto → D → Option D} {d1 : D} {β : Type} {enc : β → D} {b : β} (h : ∀ st, p st d1 = some (enc b)) : AC W fr Γ mNil (fun ds => F1 p (d1 :: ds)) (mpure b) enc fun _ => Γ := ac_ret fun st => by
  show lift (p st d1) st = _
  rw [h st] <;> rfl
theorem af_b1 {A β : Type} {p : Sto → List D → Option A} {d1 : D} {enc : β → A} {b : β} (h : ∀ st, p st [d1] = some (enc b)) : AC W fr Γ mNil (fun ds => FB p (d1 :: ds)) (mpure b) enc fun _ => Γ := ac_ret fun st => by
  show lift (p st [d1]) st = _
  rw [h st] <;> rfl
theorem af_b2 {A β : Type} {p : Sto → List D → Option A} {d1 d2 : D} {enc : β → A} {b : β} (h : ∀ st, p st [d1, d2] = some (enc b)) : AC W fr Γ mNil (fun ds => FB p (d1 :: d2 :: ds)) (mpure b) enc fun _ => Γ := ac_ret fun st => by
  show lift (p st [d1, d2]) st = _
  rw [h st] <;> rfl
theorem af_mod (a b : Int) : AC W fr Γ mNil (fun ds => F2 pMod (eI a :: eI b :: ds)) (mmod a b) eI fun _ => Γ := ac_if fun h st => by
  show lift (pMod st (.int a) (.int b)) st = _
  rw [pMod_int _ _ _ h] <;> rfl
theorem af_div (a b : Int) : AC W fr Γ mNil (fun ds => F2 pDiv (eI a :: eI b :: ds)) (mdiv a b) eI fun _ => Γ := ac_if fun h st => by
  show lift (pDiv st (.int a) (.int b)) st = _
  rw [pDiv_int _ _ _ h] <;> rfl
theorem af_mul (a b : Int) : AC W fr Γ mNil (fun ds => F2 pMul (eI a :: eI b :: ds)) (mmul a b) eI fun _ => Γ := by
  unfold mmul
  exact @ac_if _ _ _ _ _ _ _ _ (Classical.propDecidable _) _ _ fun h st => by
    show lift (pMul st (.int a) (.int b)) st = _
    rw [pMul_int _ _ _ h] <;> rfl
theorem af_pow (a b : Int) : AC W fr Γ mNil (fun ds => F2 pPow (eI a :: eI b :: ds)) (mpow a b) eI fun _ => Γ := by
  unfold mpow
  exact @ac_if _ _ _ _ _ _ _ _ (Classical.propDecidable _) _ _ fun h st => by
    show lift (pPow st (.int a) (.int b)) st = _
    rw [pPow_int _ _ _ h] <;> rfl
section
variable {α : Type} {e : α → D}
theorem af_idxT (xs : List α) (i : Int) : AC W fr Γ mNil (fun ds => F2 pIdx (eT e xs :: eI i :: ds)) (midx xs i) e fun _ => Γ := ac_opt fun b h st => by
  show lift (pIdx st (eT e xs) (eI i)) st = _
  rw [t_idxT xs i b h] <;> rfl
theorem af_idxL (xs : List α) (i : Int) : AC W fr Γ mNil (fun ds => F2 pIdx (eL e xs :: eI i :: ds)) (midx xs i) e fun _ => Γ := ac_opt fun b h st => by
  show lift (pIdx st (eL e xs) (eI i)) st = _
  rw [t_idxL xs i b h] <;> rfl
theorem af_catT (xs ys : List α) : AC W fr Γ mNil (fun ds => F2 pAdd (eT e xs :: eT e ys :: ds)) (mcat xs ys) (eT e) fun _ => Γ := ac_if fun h st => by
  show lift (pAdd st (eT e xs) (eT e ys)) st = _
  rw [t_catT xs ys h] <;> rfl
theorem af_catL (xs ys : List α) : AC W fr Γ mNil (fun ds => F2L pCat (eL e xs :: eL e ys :: ds)) (mcat xs ys) (fun zs => zs.map e) fun _ => Γ := ac_if fun h st => by
  show lift (pCat st (eL e xs) (eL e ys)) st = _
  rw [t_catL xs ys h] <;> rfl
theorem af_repT (xs : List α) (k : Int) : AC W fr Γ mNil (fun ds => F2 pMul (eT e xs :: eI k :: ds)) (mrepT xs k) (eT e) fun _ => Γ := ac_if fun h st => by
  show lift (pMul st (eT e xs) (eI k)) st = _
  rw [t_repT xs k h] <;> rfl
theorem af_repL (xs : List α) (k : Int) : AC W fr Γ mNil (fun ds => F2L pRepL (eL e xs :: eI k :: ds)) (mrepL xs k) (fun zs => zs.map e) fun _ => Γ := ac_if fun h st => by
  show lift (pRepL st (eL e xs) (eI k)) st = _
  rw [t_repL xs k h] <;> rfl
/-- a display with starred items -/
theorem af_tup (xs : List α) {ds : List D} (h : ds = xs.map e) : AC W fr Γ mNil (fun r => FTup (ds ++ r)) (mdisp xs) (eT e) fun _ => Γ := ac_if fun hl st => by
  show FTup (ds ++ []) st = _
  unfold FTup
  rw [List.append_nil, h, List.length_map, if_pos hl] <;> rfl
theorem af_disp (xs : List α) {ds : List D} (h : ds = xs.map e) : AC W fr Γ mNil (fun r => FDisp (ds ++ r)) (mdisp xs) (fun zs => zs.map e) fun _ => Γ := ac_if fun hl st => by
  show FDisp (ds ++ []) st = _
  unfold FDisp
  rw [List.append_nil, h, List.length_map, if_pos hl]
end
theorem af_repr (d : D) : AC W fr Γ mNil (fun ds => FB pRepr (d :: ds)) (mrepr d) eS fun _ => Γ := by
  unfold mrepr
  exact @ac_if _ _ _ _ _ _ _ _ (Classical.propDecidable _) _ _ fun h st => by
    show lift (pRepr st [d]) st = _
    unfold pRepr
    dsimp only
    rw [dat_P h.1]
    show lift (if SeqAt.shaped (toP d) = true ∧ (toP d).showable = true ∧ (toP d).shown.length ≤ sizeLine then some (D.str (toP d).shown) else none) st = _
    rw [if_pos h.2] <;> rfl
theorem af_str (a : Int) : AC W fr Γ mNil (fun ds => FB pStr (eI a :: ds)) (mstr a) eS fun _ => Γ := ac_if fun h st => by
  show lift (if a.natAbs.log2 < 1920 then some (D.str (toString a)) else none) st = _
  rw [if_pos h] <;> rfl
/-! slices -/
section
variable {α : Type} {e : α → D} {m : Rho → M D} {l h : Rho → M (Option Int)}
theorem hv_slT {xs : List α} {lo hi : Option Int} (hm : HV W fr Γ m (eT e xs)) (hl : HV W fr Γ l lo) (hh : HV W fr Γ h hi) : HV W fr Γ (mSlT m l h) (eT e (cutD xs lo hi)) := fun s ρ st H => by
  unfold mSlT
  rw [hm s ρ st H, Out.bind_ok, hl s ρ st H, Out.bind_ok, hh s ρ st H, Out.bind_ok]
  show Out.ok (D.tup (cutD (xs.map e) lo hi)) st = _
  rw [cutD_map] <;> rfl
theorem ht_slT {q : Mt S (List α)} {ql qh : Mt S (Option Int)} (hm : HT W fr Γ m q (eT e) fun _ => Γ) (hl : HT W fr Γ l ql id fun _ => Γ) (hh : HT W fr Γ h qh id fun _ => Γ) : HT W fr Γ (mSlT m l h) (mbind q fun xs => mbind ql fun lo => mbind qh fun hi => mpure (cutD xs lo hi)) (eT e) fun _ => Γ := fun s ρ st H => by
  unfold mSlT
  refine OR.bind (hm s ρ st H) fun xs s1 st1 H1 => ?_
  refine OR.bind (hl s1 ρ st1 H1) fun lo s2 st2 H2 => ?_
  refine OR.bind (hh s2 ρ st2 H2) fun hi s3 st3 H3 => ⟨st3, ?_, H3⟩
  show Out.ok (D.tup (cutD (xs.map e) lo hi)) st3 = _
  rw [cutD_map] <;> rfl
theorem hv_slL {xs : List α} {lo hi : Option Int} (hm : HV W fr Γ m (eL e xs)) (hl : HV W fr Γ l lo) (hh : HV W fr Γ h hi) : HV W fr Γ (lSlL m l h) ((cutD xs lo hi).map e) := fun s ρ st H => by
  unfold lSlL
  rw [hm s ρ st H, Out.bind_ok, hl s ρ st H, Out.bind_ok, hh s ρ st H, Out.bind_ok]
  show Out.ok (cutD (xs.map e) lo hi) st = _
  rw [cutD_map]
theorem ht_slL {q : Mt S (List α)} {ql qh : Mt S (Option Int)} (hm : HT W fr Γ m q (eL e) fun _ => Γ) (hl : HT W fr Γ l ql id fun _ => Γ) (hh : HT W fr Γ h qh id fun _ => Γ) : HT W fr Γ (lSlL m l h) (mbind q fun xs => mbind ql fun lo => mbind qh fun hi => mpure (cutD xs lo hi)) (fun zs => zs.map e) fun _ => Γ := fun s ρ st H => by
  unfold lSlL
  refine OR.bind (hm s ρ st H) fun xs s1 st1 H1 => ?_
  refine OR.bind (hl s1 ρ st1 H1) fun lo s2 st2 H2 => ?_
  refine OR.bind (hh s2 ρ st2 H2) fun hi s3 st3 H3 => ⟨st3, ?_, H3⟩
  show Out.ok (cutD (xs.map e) lo hi) st3 = _
  rw [cutD_map]
theorem hv_slM {i : Nat} {xs : List α} {lo hi : Option Int} (hm : Γ[i]? = some (.mut (.lst (xs.map e)))) (hl : HV W fr Γ l lo) (hh : HV W fr Γ h hi) : HV W fr Γ (lSlL (mVar i) l h) ((cutD xs lo hi).map e) := fun s ρ st H => by
  obtain ⟨k, q1, q2, q3⟩ := H.mt i _ hm
  have e1 : mVar i ρ st = .ok (.ref k) st := by unfold mVar; rw [q1]
  unfold lSlL
  rw [e1, Out.bind_ok, hl s ρ st H, Out.bind_ok, hh s ρ st H, Out.bind_ok]
  show (lift (lstOf st (.ref k)) st).bind _ = _
  rw [lstOf_ref q3, lift_some, Out.bind_ok, cutD_map]
theorem hv_revT {xs : List α} (hm : HV W fr Γ m (eT e xs)) : HV W fr Γ (mRevT m) (eT e xs.reverse) := fun s ρ st H => by
  unfold mRevT
  rw [hm s ρ st H, Out.bind_ok]
  show Out.ok (D.tup (xs.map e).reverse) st = _
  rw [← List.map_reverse] <;> rfl
theorem ht_revT {q : Mt S (List α)} (hm : HT W fr Γ m q (eT e) fun _ => Γ) : HT W fr Γ (mRevT m) (mbind q fun xs => mpure xs.reverse) (eT e) fun _ => Γ := fun s ρ st H => by
  unfold mRevT
  refine OR.bind (hm s ρ st H) fun xs s1 st1 H1 => ⟨st1, ?_, H1⟩
  show Out.ok (D.tup (xs.map e).reverse) st1 = _
  rw [← List.map_reverse] <;> rfl
theorem hv_revL {xs : List α} (hm : HV W fr Γ m (eL e xs)) : HV W fr Γ (lRevL m) (xs.reverse.map e) := fun s ρ st H => by
  unfold lRevL
  rw [hm s ρ st H, Out.bind_ok]
  show Out.ok (xs.map e).reverse st = _
  rw [← List.map_reverse]
theorem hv_revM {i : Nat} {xs : List α} (hm : Γ[i]? = some (.mut (.lst (xs.map e)))) : HV W fr Γ (lRevL (mVar i)) (xs.reverse.map e) := fun s ρ st H => by
  obtain ⟨k, q1, q2, q3⟩ := H.mt i _ hm
  have e1 : mVar i ρ st = .ok (.ref k) st := by unfold mVar; rw [q1]
  unfold lRevL
  rw [e1, Out.bind_ok, lstOf_ref q3, lift_some, Out.bind_ok, ← List.map_reverse]
end
end
end Dn
/-! DnY: what is walked, methods of lists, sorting, in the typed values. -/
namespace Dn
open PySem PySem.Spec PyProof.Rows L2
/-! ### order -/
def lexB {α : Type} [DecidableEq α] (lt : α → α → Bool) : List α → List α → Bool
  | _, [] => false
  | [], _ :: _ => true
  | x :: xs, y :: ys => if x = y then lexB lt xs ys else lt x y
/-- values of one shape, in Python's order -/
class Or {α : Type} [DecidableEq α] (e : α → D) (lt : outParam (α → α → Bool)) : Prop where
  al : ∀ x y, PySem.W.alike (toP (e x)) (toP (e y)) = true
  lt : ∀ x y, PySem.W.dataLt (toP (e x)) (toP (e y)) = lt x y
def ltI (a b : Int) : Bool := decide (a < b)
def ltS (a b : Str) : Bool := decide (a.cps.toList < b.cps.toList)
instance : Or eI ltI := ⟨fun _ _ => rfl, fun x y => PySem.W.dataLt_int x y⟩
instance : Or eS ltS := ⟨fun _ _ => rfl, fun x y => PySem.W.dataLt_str x y⟩
theorem alikeAll_of {α : Type} {e : α → D} (h : ∀ x y, PySem.W.alike (toP (e x)) (toP (e y)) = true) : ∀ xs ys : List α, PySem.W.alikeAll (toPs (xs.map e)) (toPs (ys.map e)) = true
  | [], ys => by rw [List.map_nil, toPs, PySem.W.alikeAll]
  | x :: xs, [] => by rw [List.map_nil, List.map_cons, toPs, toPs, PySem.W.alikeAll]
  | x :: xs, y :: ys => by rw [List.map_cons, List.map_cons, toPs, toPs, PySem.W.alikeAll, h x y, alikeAll_of h xs ys] <;> rfl
theorem ltAll_of {α : Type} [DecidableEq α] {e : α → D} {n : Nat} [Ev e n] {lt : α → α → Bool} (ha : ∀ x y, PySem.W.alike (toP (e x)) (toP (e y)) = true) (hl : ∀ x y, PySem.W.dataLt (toP (e x)) (toP (e y)) = lt x y) :
    ∀ xs ys : List α, PyProof.Rows.lexLt itemOrd (PySem.W.keyToksAll (toPs (xs.map e))) (PySem.W.keyToksAll (toPs (ys.map e))) = lexB lt xs ys
  | [], [] => rfl
  | [], y :: ys => rfl
  | x :: xs, [] => rfl
  | x :: xs, y :: ys => by
    rw [List.map_cons, List.map_cons, toPs, toPs]
    unfold lexB
    by_cases h : x = y
    · rw [if_pos h, PySem.W.dataLt_all_yes (ha x y) (by rw [Ev.eq, decide_eq_true h]), ltAll_of ha hl xs ys]
    · rw [if_neg h, PySem.W.dataLt_all_no (ha x y) (by rw [Ev.eq, decide_eq_false h]), hl]
instance {α : Type} [DecidableEq α] {e : α → D} {n : Nat} {lt : α → α → Bool} [Ev e n] [Or e lt] : Or (eT e) (lexB lt) := ⟨fun xs ys => by
  unfold eT
  rw [toP, toP, PySem.W.alike]
  exact alikeAll_of (Or.al (e := e)) xs ys, fun xs ys => by
  unfold eT
  rw [toP, toP, PySem.W.dataLt_tuple]
  exact ltAll_of (Or.al (e := e)) (Or.lt (e := e)) xs ys⟩
/-- can be sorted: all tuples, or no tuples -/
class Sb {α : Type} (e : α → D) : Prop where
  sb : (∀ x, ∃ xs, toP (e x) = .tuple xs) ∨ ∀ x, toP (e x) ≠ .none ∧ ∀ xs, toP (e x) ≠ .tuple xs
instance : Sb eI := ⟨.inr fun _ => ⟨(fun h => nomatch h), fun _ h => nomatch h⟩⟩
instance : Sb eS := ⟨.inr fun _ => ⟨(fun h => nomatch h), fun _ h => nomatch h⟩⟩
instance {α : Type} {e : α → D} : Sb (eT e) := ⟨.inl fun xs => ⟨_, by unfold eT; rw [toP]⟩⟩
section
variable {S : Type}
def leOf {α : Type} (lt : α → α → Bool) (a b : α) : Bool := !lt b a
def msort {α : Type} (lt : α → α → Bool) (xs : List α) : Mt S (List α) := if xs.length ≤ 100000 then mpure (xs.mergeSort (leOf lt)) else mbad
theorem t_lt_or {α : Type} [DecidableEq α] {e : α → D} {n : Nat} {lt : α → α → Bool} [Ev e n] [Or e lt] (h : n < 64) (xs ys : List α) (st : Sto) : pLt st (eT e xs) (eT e ys) = some (.bl (lexB lt xs ys)) := by
  show (if isPs (xs.map e) = true ∧ isPs (ys.map e) = true ∧ PySem.W.alikeAll (toPs (xs.map e)) (toPs (ys.map e)) = true ∧ PyData.depth (toP (.tup (xs.map e))) ≤ 64 then some (D.bl (PySem.W.dataLt (toP (.tup (xs.map e))) (toP (.tup (ys.map e))))) else none) = _
  rw [if_pos ⟨isPs_of Ev.p xs, isPs_of Ev.p ys, alikeAll_of (Or.al (e := e)) xs ys, by
    have := Ev.dep (e := eT e) xs
    unfold eT at this
    omega⟩]
  have := Or.lt (e := eT e) xs ys
  unfold eT at this
  rw [this]
theorem t_sorted {α : Type} [DecidableEq α] {e : α → D} {n : Nat} {lt : α → α → Bool} [Ev e n] [Or e lt] [Sb e] (hn : n ≤ 50) (xs : List α) (h : xs.length ≤ 100000) {d : D} {st : Sto} (hd : seqOf st d = some (xs.map e)) : pSorted st [d] = some ((xs.mergeSort (leOf lt)).map e) := by
  unfold pSorted
  simp only [hd]
  rw [if_pos]
  · congr 1
    unfold sortD
    rw [← List.map_mergeSort (r := leOf lt)]
    intro a _ b _
    show (!lt b a) = !PySem.W.dataLt (toP (e b)) (toP (e a))
    rw [Or.lt]
  · refine ⟨by rw [List.length_map]; exact h, fun x hx => ?_, fun x hx y hy => ?_, ?_⟩
    · obtain ⟨a, _, rfl⟩ := List.mem_map.mp hx
      exact ⟨Ev.p a, Nat.le_trans (Ev.dep (e := e) a) hn⟩
    · rw [List.map_map] at hx hy
      obtain ⟨a, _, rfl⟩ := List.mem_map.mp hx
      obtain ⟨b, _, rfl⟩ := List.mem_map.mp hy
      exact Or.al a b
    · rcases Sb.sb (e := e) with q | q
      · refine .inl fun d hd => ?_
        rw [List.map_map] at hd
        obtain ⟨a, _, rfl⟩ := List.mem_map.mp hd
        exact q a
      · refine .inr fun d hd => ?_
        rw [List.map_map] at hd
        obtain ⟨a, _, rfl⟩ := List.mem_map.mp hd
        exact q a
end
/-! ### what is walked -/
def enumZ {α : Type} (n : Nat) : List α → List (Int × α)
  | [] => []
  | x :: r => ((n : Int), x) :: enumZ (n + 1) r
theorem enumD_map {α : Type} (e : α → D) : ∀ (xs : List α) (n : Nat), enumD n (xs.map e) = (enumZ n xs).map (eP eI e)
  | [], _ => rfl
  | x :: r, n => by rw [List.map_cons, enumD, enumZ, List.map_cons, enumD_map e r] <;> rfl
theorem zipD_map {α β : Type} (e : α → D) (f : β → D) : ∀ (xs : List α) (ys : List β), zipD (xs.map e) (ys.map f) = (xs.zip ys).map (eP e f)
  | [], _ => by simp [zipD]
  | _ :: _, [] => by simp [zipD]
  | x :: xs, y :: ys => by rw [List.map_cons, List.map_cons, zipD, zipD_map e f xs ys, List.zip_cons_cons, List.map_cons] <;> rfl
section
variable {S : Type} {W : Wd S} {fr : Sto} {Γ : List Sl}
section
variable {α β : Type} {e : α → D} {f : β → D} {m m2 : Rho → M D} {q : Mt S (List α)} {q2 : Mt S (List β)} {Γ' : List α → List Sl}
theorem sT (xs : List α) (st : Sto) : srcOf st (eT e xs) = some (eSrc e xs) := rfl
theorem sL (xs : List α) (st : Sto) : srcOf st (eL e xs) = some (eSrc e xs) := rfl
theorem src_seq {en : List α → D} (hs : ∀ xs st, srcOf st (en xs) = some (eSrc e xs)) (h : HT W fr Γ m q en Γ') : HT W fr Γ (iSeq m) q (eSrc e) Γ' := fun s ρ st H => by
  unfold iSeq
  have := OR.bind (f := fun d st1 => lift (srcOf st1 d) st1) (k := mpure) (e' := eSrc e) (Γ'' := Γ') (h s ρ st H) fun xs s1 st1 H1 => by
    refine ⟨st1, ?_, H1⟩
    rw [hs xs st1] <;> rfl
  have e1 : rbind (q s) mpure = q s := congrFun (mbind_ret q) s
  rw [e1] at this
  exact this
theorem src_enum {en : List α → D} (hs : ∀ xs st, srcOf st (en xs) = some (eSrc e xs)) (h : HT W fr Γ m q en fun _ => Γ) : HT W fr Γ (iEnumD m) (mbind q fun xs => mpure (enumZ 0 xs)) (eSrc (eP eI e)) fun _ => Γ := fun s ρ st H => by
  unfold iEnumD
  refine OR.bind (h s ρ st H) fun xs s1 st1 H1 => ?_
  refine ⟨st1, ?_, H1⟩
  rw [hs xs st1, lift_some, Out.bind_ok]
  show Out.ok (⟨enumD 0 (xs.map e), []⟩ : Src) st1 = _
  rw [enumD_map] <;> rfl
theorem src_zip {en : List α → D} {en2 : List β → D} (hs : ∀ xs st, srcOf st (en xs) = some (eSrc e xs)) (hs2 : ∀ xs st, srcOf st (en2 xs) = some (eSrc f xs)) (h : HT W fr Γ m q en fun _ => Γ) (h2 : HT W fr Γ m2 q2 en2 fun _ => Γ) :
    HT W fr Γ (iZipD m m2) (mbind q fun xs => mbind q2 fun ys => mpure (xs.zip ys)) (eSrc (eP e f)) fun _ => Γ := fun s ρ st H => by
  unfold iZipD
  refine OR.bind (h s ρ st H) fun xs s1 st1 H1 => ?_
  refine OR.bind (h2 s1 ρ st1 H1) fun ys s2 st2 H2 => ⟨st2, ?_, H2⟩
  rw [hs xs st2, lift_some, Out.bind_ok, hs2 ys st2, lift_some, Out.bind_ok]
  show Out.ok (⟨zipD (xs.map e) (ys.map f), [] ++ []⟩ : Src) st2 = _
  rw [zipD_map] <;> rfl
end
theorem src_rng1 {m : Rho → M D} {q : Mt S Int} (h : HT W fr Γ m q eI fun _ => Γ) : HT W fr Γ (iRng1D m) (mbind q fun n => mrng 0 n) (eSrc eI) fun _ => Γ := fun s ρ st H => by
  unfold iRng1D
  refine OR.bind (h s ρ st H) fun n s1 st1 H1 => ?_
  unfold mrng
  by_cases hc : -(2 ^ 62) ≤ (0 : Int) ∧ (0 : Int) < 2 ^ 62 ∧ -(2 ^ 62) ≤ n ∧ n < 2 ^ 62
  · rw [if_pos hc]
    refine ⟨st1, ?_, H1⟩
    show lift (rng1 (.int n)) st1 = _
    unfold rng1
    dsimp only
    rw [if_pos hc.2.2, lift_some]
    have := rngD_rngI 0 n
    rw [Int.sub_zero] at this
    rw [this] <;> rfl
  · rw [if_neg hc]; trivial
theorem src_rng2 {m m2 : Rho → M D} {q q2 : Mt S Int} (h : HT W fr Γ m q eI fun _ => Γ) (h2 : HT W fr Γ m2 q2 eI fun _ => Γ) : HT W fr Γ (iRng2D m m2) (mbind q fun a => mbind q2 fun b => mrng a b) (eSrc eI) fun _ => Γ := fun s ρ st H => by
  unfold iRng2D
  refine OR.bind (h s ρ st H) fun a s1 st1 H1 => ?_
  refine OR.bind (h2 s1 ρ st1 H1) fun b s2 st2 H2 => ?_
  unfold mrng
  by_cases hc : -(2 ^ 62) ≤ a ∧ a < 2 ^ 62 ∧ -(2 ^ 62) ≤ b ∧ b < 2 ^ 62
  · rw [if_pos hc]
    refine ⟨st2, ?_, H2⟩
    show lift (rng2 (.int a) (.int b)) st2 = _
    unfold rng2
    dsimp only
    rw [if_pos hc, lift_some, rngD_rngI] <;> rfl
  · rw [if_neg hc]; trivial
/-- tuple(range(..)), list(range(..)) -/
theorem ht_tupRg {m : Rho → M D} {q : Mt S Int} (h : HT W fr Γ m q eI fun _ => Γ) : HT W fr Γ (mTupRg m) (mbind q fun n => mrngL 0 n) (eT eI) fun _ => Γ := fun s ρ st H => by
  unfold mTupRg
  refine OR.bind (h s ρ st H) fun b s2 st2 H2 => ?_
  unfold mrngL
  by_cases hc : rgOk 0 b
  · rw [if_pos hc]
    refine ⟨st2, ?_, H2⟩
    show lift ((lRange (.int 0) (.int b)).map D.tup) st2 = _
    unfold lRange
    dsimp only
    rw [if_pos hc, rngD_rngI] <;> rfl
  · rw [if_neg hc]; trivial
theorem ht_lstRg {m : Rho → M D} {q : Mt S Int} (h : HT W fr Γ m q eI fun _ => Γ) : HT W fr Γ (lLstRg m) (mbind q fun n => mrngL 0 n) (fun zs => zs.map eI) fun _ => Γ := fun s ρ st H => by
  unfold lLstRg
  refine OR.bind (h s ρ st H) fun b s2 st2 H2 => ?_
  unfold mrngL
  by_cases hc : rgOk 0 b
  · rw [if_pos hc]
    refine ⟨st2, ?_, H2⟩
    show lift (lRange (.int 0) (.int b)) st2 = _
    unfold lRange
    dsimp only
    rw [if_pos hc, rngD_rngI] <;> rfl
  · rw [if_neg hc]; trivial
theorem ht_tupRg2 {m m2 : Rho → M D} {q q2 : Mt S Int} (h : HT W fr Γ m q eI fun _ => Γ) (h2 : HT W fr Γ m2 q2 eI fun _ => Γ) : HT W fr Γ (mTupRg2 m m2) (mbind q fun a => mbind q2 fun b => mrngL a b) (eT eI) fun _ => Γ := fun s ρ st H => by
  unfold mTupRg2
  refine OR.bind (h s ρ st H) fun a s1 st1 H1 => ?_
  refine OR.bind (h2 s1 ρ st1 H1) fun b s2 st2 H2 => ?_
  unfold mrngL
  by_cases hc : rgOk a b
  · rw [if_pos hc]
    refine ⟨st2, ?_, H2⟩
    show lift ((lRange (.int a) (.int b)).map D.tup) st2 = _
    unfold lRange
    dsimp only
    rw [if_pos hc, rngD_rngI] <;> rfl
  · rw [if_neg hc]; trivial
theorem ht_lstRg2 {m m2 : Rho → M D} {q q2 : Mt S Int} (h : HT W fr Γ m q eI fun _ => Γ) (h2 : HT W fr Γ m2 q2 eI fun _ => Γ) : HT W fr Γ (lLstRg2 m m2) (mbind q fun a => mbind q2 fun b => mrngL a b) (fun zs => zs.map eI) fun _ => Γ := fun s ρ st H => by
  unfold lLstRg2
  refine OR.bind (h s ρ st H) fun a s1 st1 H1 => ?_
  refine OR.bind (h2 s1 ρ st1 H1) fun b s2 st2 H2 => ?_
  unfold mrngL
  by_cases hc : rgOk a b
  · rw [if_pos hc]
    refine ⟨st2, ?_, H2⟩
    show lift (lRange (.int a) (.int b)) st2 = _
    unfold lRange
    dsimp only
    rw [if_pos hc, rngD_rngI] <;> rfl
  · rw [if_neg hc]; trivial
/-! ### sorted -/
theorem af_sortT {α : Type} [DecidableEq α] {e : α → D} {n : Nat} {lt : α → α → Bool} [Ev e n] [Or e lt] [Sb e] (hn : n ≤ 50) (xs : List α) : AC W fr Γ mNil (fun ds => FB pSorted (eT e xs :: ds)) (msort lt xs) (fun zs => zs.map e) fun _ => Γ := ac_if fun h st => by
  show lift (pSorted st [eT e xs]) st = _
  rw [t_sorted hn xs h rfl] <;> rfl
theorem af_sortL {α : Type} [DecidableEq α] {e : α → D} {n : Nat} {lt : α → α → Bool} [Ev e n] [Or e lt] [Sb e] (hn : n ≤ 50) (xs : List α) : AC W fr Γ mNil (fun ds => FB pSorted (eL e xs :: ds)) (msort lt xs) (fun zs => zs.map e) fun _ => Γ := ac_if fun h st => by
  show lift (pSorted st [eL e xs]) st = _
  rw [t_sorted hn xs h rfl] <;> rfl
/-! ### sorted(set(..)), len(set(..)) -/
def msetS {S : Type} (xs : List Int) : Mt S (List Int) := if xs.length ≤ 1000 ∧ (setI xs).length < 64 then mpure (sortI xs) else mbad
def msetL {S : Type} (xs : List Int) : Mt S Int := if xs.length ≤ 1000 then mpure ((setI xs).length : Int) else mbad
theorem intsOf_eI : ∀ xs : List Int, intsOf (xs.map eI) = some xs
  | [] => rfl
  | x :: xs => by
    show (intsOf (xs.map eI)).map (x :: ·) = _
    rw [intsOf_eI xs] <;> rfl
theorem iT (xs : List Int) (st : Sto) : intsAt st (eT eI xs) = some xs := intsOf_eI xs
theorem iL (xs : List Int) (st : Sto) : intsAt st (eL eI xs) = some xs := intsOf_eI xs
theorem ht_sortSet {m : Rho → M D} {q : Mt S (List Int)} {en : List Int → D} (hs : ∀ xs st, intsAt st (en xs) = some xs) (h : HT W fr Γ m q en fun _ => Γ) : HT W fr Γ (lSortSet m) (mbind q fun xs => msetS xs) (fun zs => zs.map eI) fun _ => Γ := fun s ρ st H => by
  unfold lSortSet
  refine OR.bind (h s ρ st H) fun xs s1 st1 H1 => ?_
  rw [hs xs st1]
  dsimp only
  unfold msetS
  split
  · exact ⟨st1, rfl, H1⟩
  · trivial
theorem ht_lenSet {m : Rho → M D} {q : Mt S (List Int)} {en : List Int → D} (hs : ∀ xs st, intsAt st (en xs) = some xs) (h : HT W fr Γ m q en fun _ => Γ) : HT W fr Γ (mLenSet m) (mbind q fun xs => msetL xs) eI fun _ => Γ := fun s ρ st H => by
  unfold mLenSet
  refine OR.bind (h s ρ st H) fun xs s1 st1 H1 => ?_
  rw [hs xs st1]
  dsimp only
  unfold msetL
  split
  · exact ⟨st1, rfl, H1⟩
  · trivial
theorem ht_sortSetM {i : Nat} {xs : List Int} (hi : Γ[i]? = some (.mut (.lst (xs.map eI)))) : HT W fr Γ (lSortSet (mVar i)) (msetS xs) (fun zs => zs.map eI) fun _ => Γ := fun s ρ st H => by
  obtain ⟨k, q1, q2, q3⟩ := H.mt i _ hi
  have e1 : mVar i ρ st = .ok (.ref k) st := by unfold mVar; rw [q1]
  have e2 : intsAt st (.ref k) = some xs := by
    unfold intsAt
    rw [seqOf_ref q3]
    exact intsOf_eI xs
  unfold lSortSet
  rw [e1, Out.bind_ok, e2]
  dsimp only
  unfold msetS
  split
  · exact ⟨st, rfl, H⟩
  · trivial
/-! ### methods -/
section
variable {α : Type} {e : α → D} {i : Nat} {xs : List α}
theorem onL_ref {st : Sto} {l : Nat} {ys : List D} {f : Nat → List D → Out D} (h : st[l]? = some (.lst ys)) : onL st (.ref l) f = f l ys := by
  unfold onL
  dsimp only
  rw [h]
theorem eraseIdx_map : ∀ (ys : List α) (k : Nat), (ys.eraseIdx k).map e = (ys.map e).eraseIdx k
  | [], _ => rfl
  | y :: ys, 0 => rfl
  | y :: ys, k + 1 => by simp [eraseIdx_map ys k]
theorem isTy_ref {st : Sto} {l : Nat} {ys : List D} (h : st[l]? = some (.lst ys)) : (D.ref l).isTy st "list" := ⟨rfl, ys, h⟩
theorem mMeth_one {p : D → List D → M D} {m : Rho → M D} {ρ : Rho} {st st1 : Sto} {l : Nat} {d : D} {ys : List D} (h1 : ρ[i]? = some (some (.ref l))) (h2 : st[l]? = some (.lst ys)) (h3 : m ρ st = .ok d st1) : mMeth "list" p (mVar i) (mCons m mNil) ρ st = nox (p (.ref l) [d] st1) := by
  have e1 : mVar i ρ st = .ok (.ref l) st := by unfold mVar; rw [h1]
  unfold mMeth
  rw [e1, Out.bind_ok, if_pos (isTy_ref h2)]
  unfold mCons mNil
  rw [h3] <;> rfl
theorem ht_append {m : Rho → M D} {q : Mt S α} (hi : Γ[i]? = some (.mut (.lst (xs.map e)))) (h : HT W fr Γ m q e fun _ => Γ) :
    HT W fr Γ (mMeth "list" pAppend (mVar i) (mCons m mNil)) (mbind q fun x => mapp xs x) (fun _ => .non) fun ys => Γ.set i (.mut (.lst (ys.map e))) := fun s ρ st H => by
  obtain ⟨l, q1, q2, q3⟩ := H.mt i _ hi
  have h1 := h s ρ st H
  show OR W fr _ ρ _ _ (rbind (q s) _)
  revert h1
  cases q s with
  | ok x s1 =>
    rintro ⟨st1, e1, H1⟩
    rw [mMeth_one q1 q3 e1]
    obtain ⟨l', p1, p2, p3⟩ := H1.mt i _ hi
    rw [q1] at p1
    injection p1 with p1
    injection p1 with p1
    injection p1 with p1
    subst p1
    show OR W fr _ ρ _ _ (mapp xs x s1)
    unfold mapp
    by_cases hl : xs.length < 100000
    · rw [if_pos hl]
      refine ⟨st1.set l (.lst ((xs ++ [x]).map e)), ?_, H1.write _ hi q1⟩
      unfold pAppend
      rw [onL_ref p3]
      dsimp only
      rw [List.length_map, if_pos (show xs.length < SZ from hl)]
      simp
    · rw [if_neg hl]; trivial
  | exc x s1 =>
    rintro ⟨st1, e1, H1⟩
    refine ⟨st1, ?_, H1⟩
    have e1' : mVar i ρ st = .ok (.ref l) st := by unfold mVar; rw [q1]
    unfold mMeth
    rw [e1', Out.bind_ok, if_pos (isTy_ref q3)]
    unfold mCons
    rw [e1] <;> rfl
  | bad => intro _; trivial
theorem ht_extend {m : Rho → M D} {q : Mt S (List α)} (hi : Γ[i]? = some (.mut (.lst (xs.map e)))) (h : HT W fr Γ m q (eL e) fun _ => Γ) :
    HT W fr Γ (mMeth "list" pExtend (mVar i) (mCons m mNil)) (mbind q fun ys => mcat xs ys) (fun _ => .non) fun ys => Γ.set i (.mut (.lst (ys.map e))) := fun s ρ st H => by
  obtain ⟨l, q1, q2, q3⟩ := H.mt i _ hi
  have h1 := h s ρ st H
  show OR W fr _ ρ _ _ (rbind (q s) _)
  revert h1
  cases q s with
  | ok ys s1 =>
    rintro ⟨st1, e1, H1⟩
    rw [mMeth_one q1 q3 e1]
    obtain ⟨l', p1, p2, p3⟩ := H1.mt i _ hi
    rw [q1] at p1
    injection p1 with p1
    injection p1 with p1
    injection p1 with p1
    subst p1
    show OR W fr _ ρ _ _ (mcat xs ys s1)
    unfold mcat
    by_cases hl : xs.length + ys.length ≤ 100000
    · rw [if_pos hl]
      refine ⟨st1.set l (.lst ((xs ++ ys).map e)), ?_, H1.write _ hi q1⟩
      unfold pExtend
      rw [onL_ref p3]
      show nox (if (xs.map e).length + (ys.map e).length ≤ SZ then _ else _) = _
      rw [List.length_map, List.length_map, if_pos (show xs.length + ys.length ≤ SZ from hl), ← List.map_append] <;> rfl
    · rw [if_neg hl]; trivial
  | exc x s1 =>
    rintro ⟨st1, e1, H1⟩
    refine ⟨st1, ?_, H1⟩
    have e1' : mVar i ρ st = .ok (.ref l) st := by unfold mVar; rw [q1]
    unfold mMeth
    rw [e1', Out.bind_ok, if_pos (isTy_ref q3)]
    unfold mCons
    rw [e1] <;> rfl
  | bad => intro _; trivial
def mpop (xs : List α) : Mt S (α × List α) := match xs[xs.length - 1]? with
  | some y => mpure (y, xs.dropLast)
  | none => mbad
theorem ht_pop (hi : Γ[i]? = some (.mut (.lst (xs.map e)))) :
    HT W fr Γ (mMeth "list" pPop (mVar i) mNil) (mpop xs) (fun z => e z.1) fun z => Γ.set i (.mut (.lst (z.2.map e))) := fun s ρ st H => by
  obtain ⟨l, q1, q2, q3⟩ := H.mt i _ hi
  have e1 : mVar i ρ st = .ok (.ref l) st := by unfold mVar; rw [q1]
  have e2 : mMeth "list" pPop (mVar i) mNil ρ st = nox (pPop (.ref l) [] st) := by
    unfold mMeth
    rw [e1, Out.bind_ok, if_pos (isTy_ref q3)] <;> rfl
  rw [e2]
  unfold mpop
  cases h : xs[xs.length - 1]? with
  | none => trivial
  | some y =>
    refine ⟨st.set l (.lst (xs.dropLast.map e)), ?_, H.write _ hi q1⟩
    unfold pPop
    rw [onL_ref q3]
    dsimp only
    have : (xs.map e)[(xs.map e).length - 1]? = some (e y) := by rw [List.length_map, List.getElem?_map, h]; rfl
    rw [this]
    dsimp only
    rw [List.map_dropLast] <;> rfl
def mpopAt (xs : List α) (k : Int) : Mt S (α × List α) := if k = 0 then (match xs with
  | y :: r => mpure (y, r)
  | [] => mbad) else mbad
theorem ht_popAt {m : Rho → M D} (hi : Γ[i]? = some (.mut (.lst (xs.map e)))) (h : HV W fr Γ m (.int 0)) :
    HT W fr Γ (mMeth "list" pPopAt (mVar i) (mCons m mNil)) (mpopAt xs 0) (fun z => e z.1) fun z => Γ.set i (.mut (.lst (z.2.map e))) := fun s ρ st H => by
  obtain ⟨l, q1, q2, q3⟩ := H.mt i _ hi
  rw [mMeth_one q1 q3 (h s ρ st H)]
  unfold mpopAt
  rw [if_pos rfl]
  cases xs with
  | nil => trivial
  | cons y r =>
    refine ⟨st.set l (.lst (r.map e)), ?_, H.write _ hi q1⟩
    unfold pPopAt
    rw [onL_ref q3]
    dsimp only
    rw [if_pos (by constructor <;> decide)]
    have : seqIndex? 0 ((y :: r).map e).length = some 0 := by
      unfold seqIndex?
      simp
    rw [this]
    rfl
/-- pop(k), k drawn -/
def mpopIx (xs : List α) (k : Int) : Mt S (α × List α) := if 0 ≤ k ∧ k < 1000000 then (match xs[k.toNat]? with
  | some y => mpure (y, xs.eraseIdx k.toNat)
  | none => mbad) else mbad
theorem ht_popIx {m : Rho → M D} {q : Mt S Int} (hi : Γ[i]? = some (.mut (.lst (xs.map e)))) (h : HT W fr Γ m q eI fun _ => Γ) :
    HT W fr Γ (mMeth "list" pPopAt (mVar i) (mCons m mNil)) (mbind q fun k => mpopIx xs k) (fun z => e z.1) fun z => Γ.set i (.mut (.lst (z.2.map e))) := fun s ρ st H => by
  obtain ⟨l, q1, q2, q3⟩ := H.mt i _ hi
  have h1 := h s ρ st H
  show OR W fr _ ρ _ _ (rbind (q s) _)
  revert h1
  cases q s with
  | ok k s1 =>
    rintro ⟨st1, e1, H1⟩
    rw [mMeth_one q1 q3 e1]
    obtain ⟨l', p1, p2, p3⟩ := H1.mt i _ hi
    rw [q1] at p1
    injection p1 with p1
    injection p1 with p1
    injection p1 with p1
    subst p1
    show OR W fr _ ρ _ _ (mpopIx xs k s1)
    unfold mpopIx
    by_cases hl : 0 ≤ k ∧ k < 1000000
    · rw [if_pos hl]
      cases hx : xs[k.toNat]? with
      | none => trivial
      | some y =>
        refine ⟨st1.set l (.lst ((xs.eraseIdx k.toNat).map e)), ?_, H1.write _ hi q1⟩
        have hlt := (List.getElem?_eq_some_iff.mp hx).1
        unfold pPopAt
        rw [onL_ref p3]
        show nox (@ite _ _ (Classical.propDecidable _) (match seqIndex? k (xs.map e).length with
          | some k => match (xs.map e)[k]? with
            | some y => Out.ok y (st1.set l (.lst ((xs.map e).eraseIdx k)))
            | none => .bad
          | none => .bad) _) = _
        rw [if_pos ⟨by have : (-(2:Int) ^ 63) ≤ 0 := by decide
                       omega, by have : (1000000 : Int) < 2 ^ 63 := by decide
                                 omega⟩]
        have hs : seqIndex? k (xs.map e).length = some k.toNat := by
          unfold seqIndex?
          simp only [List.length_map]
          rw [if_neg (show ¬ k < 0 by omega)]
          have h1 : (decide (0 ≤ k) && decide (k < (xs.length : Int))) = true := by
            rw [Bool.and_eq_true, decide_eq_true_eq, decide_eq_true_eq]
            omega
          rw [if_pos h1]
        rw [hs]
        dsimp only
        rw [List.getElem?_map, hx]
        dsimp only [Option.map]
        rw [← eraseIdx_map] <;> rfl
    · rw [if_neg hl]; trivial
  | exc x s1 =>
    rintro ⟨st1, e1, H1⟩
    refine ⟨st1, ?_, H1⟩
    have e1' : mVar i ρ st = .ok (.ref l) st := by unfold mVar; rw [q1]
    unfold mMeth
    rw [e1', Out.bind_ok, if_pos (isTy_ref q3)]
    unfold mCons
    rw [e1] <;> rfl
  | bad => intro _; trivial
def msetI (xs : List α) (j : Int) (x : α) : Mt S (List α) := match ixN xs.length j with
  | some k => mpure (xs.set k x)
  | none => mbad
/-- o[i] = v -/
theorem tn_setitem {m mi : Rho → M D} {q : Mt S α} {qi : Mt S Int} (hi : Γ[i]? = some (.mut (.lst (xs.map e)))) (h : HT W fr Γ m q e fun _ => Γ) (hj : HT W fr Γ mi qi eI fun _ => Γ) :
    TN W fr Γ (sAsg (gSubD (mVar i) mi) m) (mbind q fun x => calmly (mbind qi fun j => msetI xs j x)) fun ys => Γ.set i (.mut (.lst (ys.map e))) := fun s ρ st H => by
  refine OR.fl (f := fun d st1 => (nox (gSubD (mVar i) mi d ρ st1)).fl ρ fun ρ2 st2 => .next ρ2 st2) (h s ρ st H) fun x s1 st1 H1 => ?_
  obtain ⟨l, q1, q2, q3⟩ := H1.mt i _ hi
  have e1 : mVar i ρ st1 = .ok (.ref l) st1 := by unfold mVar; rw [q1]
  have h2 := hj s1 ρ st1 H1
  show NR W fr _ _ (rcalm (rbind (qi s1) _))
  unfold gSubD
  rw [e1, Out.bind_ok]
  revert h2
  cases qi s1 with
  | ok j s2 =>
    rintro ⟨st2, e2, H2⟩
    obtain ⟨l', p1, p2, p3⟩ := H2.mt i _ hi
    rw [q1] at p1
    injection p1 with p1
    injection p1 with p1
    injection p1 with p1
    subst p1
    rw [e2, Out.bind_ok]
    show NR W fr _ _ (rcalm (msetI xs j x s2))
    unfold msetI
    cases hx : ixN xs.length j with
    | none => trivial
    | some k =>
      refine ⟨ρ, st2.set l (.lst ((xs.set k x).map e)), ?_, H2.write _ hi q1⟩
      unfold eI
      dsimp only
      rw [p3]
      dsimp only
      rw [List.length_map, hx]
      dsimp only
      rw [List.map_set] <;> rfl
  | exc y s2 => intro _; trivial
  | bad => intro _; trivial
end
theorem ints_map (xs : List Int) : intsOf (xs.map eI) = some xs := intsOf_eI xs
theorem ht_remove {xs : List Int} {i : Nat} {m : Rho → M D} {q : Mt S Int} (hi : Γ[i]? = some (.mut (.lst (xs.map eI)))) (h : HT W fr Γ m q eI fun _ => Γ) :
    HT W fr Γ (mMeth "list" pRemove (mVar i) (mCons m mNil)) (mbind q fun x => if x ∈ xs then mpure (xs.eraseIdx (xs.idxOf x)) else mbad) (fun _ => .non) fun ys => Γ.set i (.mut (.lst (ys.map eI))) := fun s ρ st H => by
  obtain ⟨l, q1, q2, q3⟩ := H.mt i _ hi
  have h1 := h s ρ st H
  show OR W fr _ ρ _ _ (rbind (q s) _)
  revert h1
  cases q s with
  | ok x s1 =>
    rintro ⟨st1, e1, H1⟩
    rw [mMeth_one q1 q3 e1]
    obtain ⟨l', p1, p2, p3⟩ := H1.mt i _ hi
    rw [q1] at p1
    injection p1 with p1
    injection p1 with p1
    injection p1 with p1
    subst p1
    show OR W fr _ ρ _ _ ((if x ∈ xs then mpure (xs.eraseIdx (xs.idxOf x)) else mbad) s1)
    by_cases hl : x ∈ xs
    · rw [if_pos hl]
      refine ⟨st1.set l (.lst ((xs.eraseIdx (xs.idxOf x)).map eI)), ?_, H1.write _ hi q1⟩
      unfold pRemove
      rw [onL_ref p3]
      have hx : intsOf (xs.map eI) = some xs := ints_map xs
      show nox (match intsOf (xs.map eI) with
        | some ns => if x ∈ ns then Out.ok D.non (st1.set l (.lst ((ns.eraseIdx (ns.idxOf x)).map .int))) else .bad
        | none => .bad) = _
      rw [hx]
      dsimp only
      rw [if_pos hl] <;> rfl
    · rw [if_neg hl]; trivial
  | exc x s1 =>
    rintro ⟨st1, e1, H1⟩
    refine ⟨st1, ?_, H1⟩
    have e1' : mVar i ρ st = .ok (.ref l) st := by unfold mVar; rw [q1]
    unfold mMeth
    rw [e1', Out.bind_ok, if_pos (isTy_ref q3)]
    unfold mCons
    rw [e1] <;> rfl
  | bad => intro _; trivial
end
end Dn
/-! DnZ: small words for the printer; what a computation in a world gives. -/
namespace Dn
open PySem PySem.Spec PyProof.Rows L2
section
variable {S : Type} {W : Wd S} {fr : Sto} {Γ Γ1 Γ2 : List Sl}
theorem ht_conv {β γ : Type} {m : Rho → M D} {q : Mt S β} {e : β → D} {e2 : γ → D} {f : β → γ} (h : HT W fr Γ m q e fun _ => Γ) (he : ∀ x, e x = e2 (f x)) : HT W fr Γ m (mbind q fun x => mpure (f x)) e2 fun _ => Γ := fun s ρ st H => by
  have := h s ρ st H
  show OR W fr _ ρ _ _ (rbind (q s) _)
  revert this
  cases q s with
  | ok b s' => rintro ⟨st', e1, h2⟩; exact ⟨st', by rw [e1, he], h2⟩
  | exc x s' => exact id
  | bad => exact id
theorem af_tupE {α : Type} {e : α → D} {F : List D → M D} (xs : List α) (h : F [] = FTup (xs.map e)) : AC W fr Γ mNil F (mdisp xs) (eT e) fun _ => Γ := ac_if fun hl st => by
  rw [h]
  unfold FTup
  rw [List.length_map, if_pos hl] <;> rfl
theorem af_dispE {α : Type} {e : α → D} {F : List D → M (List D)} (xs : List α) (h : F [] = FDisp (xs.map e)) : AC W fr Γ mNil F (mdisp xs) (fun zs => zs.map e) fun _ => Γ := ac_if fun hl st => by
  rw [h]
  unfold FDisp
  rw [List.length_map, if_pos hl]
theorem le_c {a b : Nat} (h : Nat.ble a b = true) : a ≤ b := Nat.le_of_ble_eq_true h
theorem lt_c {a b : Nat} (h : Nat.ble (a + 1) b = true) : a < b := Nat.le_of_ble_eq_true h
theorem hv_yes : HV W fr Γ bYes true := fun _ _ _ _ => rfl
theorem tn_skip {σ : Type} {z : σ} {J : σ → List Sl} (w : Wk Γ (J z)) : TN W fr Γ sNext (mpure z) J := fun s ρ st H => ⟨ρ, st, rfl, H.wk w⟩
theorem tl_endN {σ τ β : Type} {m : Rho → Sto → Fl} {q : Mt S τ} {J1 : τ → List Sl} {J : σ → List Sl} {enc : β → D} {f : τ → σ} (h : TN W fr Γ m q J1) (w : ∀ z, Wk (J1 z) (J (f z))) : TL W fr Γ m (mbind q fun z => mpure (.nx (f z))) J enc := fun s ρ st H => by
  have := h s ρ st H
  revert this
  show NR W fr J1 _ _ → LR W fr J enc _ (rbind (q s) _)
  cases q s with
  | ok z s' => rintro ⟨ρ', st', e, h2⟩; exact ⟨ρ', st', .inl e, h2.wk (w z)⟩
  | exc x s' => exact id
  | bad => exact id
theorem tl_endF {σ τ β : Type} {m : Rho → Sto → Fl} {q : Mt S (τ ⊕ β)} {J1 : τ → List Sl} {J : σ → List Sl} {enc : β → D} {f : τ → σ} (h : TF W fr Γ m q J1 enc) (w : ∀ z, Wk (J1 z) (J (f z))) : TL W fr Γ m (mfinL q fun z => mpure (.nx (f z))) J enc := fun s ρ st H => by
  have := h s ρ st H
  revert this
  show FR W fr J1 enc _ _ → LR W fr J enc _ (rbind (q s) _)
  cases q s with
  | ok z s' =>
    cases z with
    | inl z => rintro ⟨ρ', st', e, h2⟩; exact ⟨ρ', st', .inl e, h2.wk (w z)⟩
    | inr b => exact id
  | exc x s' => exact id
  | bad => exact id
theorem mCons_fl {m : Rho → M D} {r : Rho → M (List D)} {F : Rho → List D → Sto → Fl} (ρ : Rho) (st : Sto) : (mCons m r ρ st).fl ρ (F ρ) = (m ρ st).fl ρ fun d st1 => (r ρ st1).fl ρ fun ds st2 => F ρ (d :: ds) st2 := by
  unfold mCons
  cases m ρ st with
  | ok d st1 => simp only [Out.bind_ok, Out.fl_ok]; cases r ρ st1 <;> rfl
  | exc _ _ => rfl
  | bad => rfl
theorem ap_T1 {σ γ : Type} {m : Rho → M D} {r : Rho → M (List D)} {F : Rho → List D → Sto → Fl} {d : D} {q1 : Mt S γ} {e1 : γ → D} {k : γ → Mt S σ} {J : σ → List Sl} (h : HT W fr Γ m q1 e1 fun _ => Γ)
    (hr : ∀ x, AP W fr Γ [(d, .val d), (e1 x, .val (e1 x))] r (fun ρ ds => F ρ (e1 x :: ds)) (k x) J) : AP W fr Γ [(d, .val d)] (mCons m r) F (mbind q1 k) J := fun s ρ st H hρ => by
  rw [mCons_fl]
  refine OR.fl (h s ρ st (H.front hρ)) fun b s1 st1 H1 => hr b s1 ρ st1 ?_ hρ
  have := (H1.snocVal d).snocVal (e1 b)
  simpa using this
theorem ap_T2 {σ γ : Type} {m : Rho → M D} {r : Rho → M (List D)} {F : Rho → List D → Sto → Fl} {d d2 : D} {q1 : Mt S γ} {e1 : γ → D} {k : γ → Mt S σ} {J : σ → List Sl} (h : HT W fr Γ m q1 e1 fun _ => Γ)
    (hr : ∀ x, AP W fr Γ [(d, .val d), (d2, .val d2), (e1 x, .val (e1 x))] r (fun ρ ds => F ρ (e1 x :: ds)) (k x) J) : AP W fr Γ [(d, .val d), (d2, .val d2)] (mCons m r) F (mbind q1 k) J := fun s ρ st H hρ => by
  rw [mCons_fl]
  refine OR.fl (h s ρ st (H.front hρ)) fun b s1 st1 H1 => hr b s1 ρ st1 ?_ hρ
  have := ((H1.snocVal d).snocVal d2).snocVal (e1 b)
  simpa using this
/-- what was taken on the way is told beside the value -/
theorem ac_pair {A β γ : Type} {a : Rho → M (List D)} {F : List D → M A} {q : Mt S β} {enc : β → A} (G : γ → List Sl) {r : γ} (h : AC W fr (G r) a F q enc fun _ => G r) : AC W fr (G r) a F (mbind q fun b => mpure (b, r)) (fun z => enc z.1) fun z => G z.2 := fun s ρ st H => by
  have := h s ρ st H
  show OR W fr _ ρ _ _ (rbind (q s) _)
  revert this
  cases q s with
  | ok b s' => exact id
  | exc x s' => exact id
  | bad => exact id
theorem mNew_fl {l : Rho → M (List D)} {r : Rho → M (List D)} {F : Rho → List D → Sto → Fl} (ρ : Rho) (st : Sto) : (mCons (mNew l) r ρ st).fl ρ (F ρ) = (l ρ st).fl ρ fun xs st1 => (r ρ (st1 ++ [.lst xs])).fl ρ fun ds st2 => F ρ (.ref st1.length :: ds) st2 := by
  unfold mCons mNew
  cases l ρ st with
  | ok xs st1 => simp only [Out.bind_ok, Out.fl_ok]; cases r ρ (st1 ++ [.lst xs]) <;> rfl
  | exc _ _ => rfl
  | bad => rfl
theorem ap_NewT0 {σ γ : Type} {l : Rho → M (List D)} {r : Rho → M (List D)} {F : Rho → List D → Sto → Fl} {q1 : Mt S γ} {e1 : γ → List D} {k : γ → Mt S σ} {J : σ → List Sl} (h : HT W fr Γ l q1 e1 fun _ => Γ)
    (hr : ∀ x a, AP W fr Γ [(.ref a, .mut (.lst (e1 x)))] r (fun ρ ds => F ρ (.ref a :: ds)) (k x) J) : AP W fr Γ [] (mCons (mNew l) r) F (mbind q1 k) J := fun s ρ st H hρ => by
  rw [mNew_fl]
  refine OR.fl (h s ρ st (H.front hρ)) fun b s1 st1 H1 => hr b st1.length s1 ρ _ ?_ hρ
  have := H1.snocNew (.lst (e1 b))
  simpa using this
theorem ap_NewT1 {σ γ : Type} {l : Rho → M (List D)} {r : Rho → M (List D)} {F : Rho → List D → Sto → Fl} {d : D} {q1 : Mt S γ} {e1 : γ → List D} {k : γ → Mt S σ} {J : σ → List Sl} (h : HT W fr Γ l q1 e1 fun _ => Γ)
    (hr : ∀ x a, AP W fr Γ [(d, .val d), (.ref a, .mut (.lst (e1 x)))] r (fun ρ ds => F ρ (.ref a :: ds)) (k x) J) : AP W fr Γ [(d, .val d)] (mCons (mNew l) r) F (mbind q1 k) J := fun s ρ st H hρ => by
  rw [mNew_fl]
  refine OR.fl (h s ρ st (H.front hρ)) fun b s1 st1 H1 => hr b st1.length s1 ρ _ ?_ hρ
  have := (H1.snocVal d).snocNew (.lst (e1 b))
  simpa using this
theorem ap_NewT2 {σ γ : Type} {l : Rho → M (List D)} {r : Rho → M (List D)} {F : Rho → List D → Sto → Fl} {d d2 : D} {q1 : Mt S γ} {e1 : γ → List D} {k : γ → Mt S σ} {J : σ → List Sl} (h : HT W fr Γ l q1 e1 fun _ => Γ)
    (hr : ∀ x a, AP W fr Γ [(d, .val d), (d2, .val d2), (.ref a, .mut (.lst (e1 x)))] r (fun ρ ds => F ρ (.ref a :: ds)) (k x) J) : AP W fr Γ [(d, .val d), (d2, .val d2)] (mCons (mNew l) r) F (mbind q1 k) J := fun s ρ st H hρ => by
  rw [mNew_fl]
  refine OR.fl (h s ρ st (H.front hρ)) fun b s1 st1 H1 => hr b st1.length s1 ρ _ ?_ hρ
  have := ((H1.snocVal d).snocVal d2).snocNew (.lst (e1 b))
  simpa using this
end
end Dn
/-! DnZa: equations of the monad: what does not fail is pure. -/
namespace Dn
open PySem PySem.Spec PyProof.Rows L2
section
variable {S α β γ σ : Type}
theorem mt_ext {q r : Mt S α} (h : ∀ s, q s = r s) : q = r := funext h
@[simp] theorem calmly_pure' (a : α) : calmly (mpure a : Mt S α) = mpure a := rfl
@[simp] theorem calmly_bad' : calmly (mbad : Mt S α) = mbad := rfl
@[simp] theorem mfin_inl (z : σ) (k : σ → Mt S β) : mfin (mpure (.inl z)) k = k z := rfl
@[simp] theorem mfin_inr (b : β) (k : σ → Mt S β) : mfin (mpure (.inr b)) k = mpure b := rfl
@[simp] theorem mfinL_inl (z : σ) (k : σ → Mt S (Lp γ β)) : mfinL (mpure (.inl z)) k = k z := rfl
@[simp] theorem mfinL_inr (b : β) (k : σ → Mt S (Lp γ β)) : mfinL (mpure (.inr b)) k = mpure (.rt b) := rfl
theorem forU_pure (g : α → σ → σ) {body : α → σ → Mt S σ} (I : σ → Prop) : ∀ (xs : List α) (z : σ), I z → (∀ x ∈ xs, ∀ z, I z → body x z = mpure (g x z) ∧ I (g x z)) → forU body xs z = mpure (xs.foldl (fun z x => g x z) z)
  | [], z, _, _ => rfl
  | x :: xs, z, h, hb => by
    unfold forU
    rw [(hb x (by simp) z h).1, mbind_pure, forU_pure g I xs _ (hb x (by simp) z h).2 fun y hy => hb y (by simp [hy]), List.foldl_cons]
/-- a loop by its prefix -/
theorem forU_inv {body : α → σ → Mt S σ} (xs : List α) (z0 : σ) (f : List α → σ) (h0 : f [] = z0) (hb : ∀ pre x post, xs = pre ++ x :: post → body x (f pre) = mpure (f (pre ++ [x]))) : forU body xs z0 = mpure (f xs) := by
  suffices h : ∀ (post pre : List α), xs = pre ++ post → forU body post (f pre) = mpure (f xs) by
    rw [← h0]
    exact h xs [] rfl
  intro post
  induction post with
  | nil =>
    intro pre e
    rw [List.append_nil] at e
    rw [e] <;> rfl
  | cons x post ih =>
    intro pre e
    unfold forU
    rw [hb pre x post e, mbind_pure]
    exact ih (pre ++ [x]) (by rw [e]; simp)
/-- a loop over numbers below n, the state told by the turn -/
theorem forX_none {body : α → σ → Mt S (Lp σ β)} (I : σ → Prop) : ∀ (xs : List α) (z : σ), I z → (∀ x ∈ xs, ∀ z, I z → ∃ z', body x z = mpure (.nx z') ∧ I z') → ∃ z', forX body xs z = mpure (.inl z') ∧ I z'
  | [], z, h, _ => ⟨z, rfl, h⟩
  | x :: xs, z, h, hb => by
    obtain ⟨z', e, h'⟩ := hb x (by simp) z h
    obtain ⟨z2, e2, h2⟩ := forX_none I xs z' h' fun y hy => hb y (by simp [hy])
    refine ⟨z2, ?_, h2⟩
    unfold forX
    rw [e, mbind_pure]
    exact e2
/-- the first item at which the def returns -/
theorem forX_find {body : α → Unit → Mt S (Lp Unit β)} (p : α → Bool) (b : α → β) : ∀ (xs : List α), (∀ x ∈ xs, body x () = mpure (if p x = true then .rt (b x) else .nx ())) → forX body xs () = mpure (match xs.find? p with
    | some x => .inr (b x)
    | none => .inl ())
  | [], _ => rfl
  | x :: xs, hb => by
    unfold forX
    rw [hb x (by simp), mbind_pure]
    cases h : p x
    · simp only [Bool.false_eq_true, if_false, List.find?_cons, h]
      exact forX_find p b xs fun y hy => hb y (by simp [hy])
    · simp only [if_true, List.find?_cons, h]
theorem compV_ok {c : α → Bool} {f : α → β} {xs : List α} (h : xs.length ≤ 100000) : compV (S := S) c f xs = mpure ((xs.filter c).map f) := if_pos h
theorem mapT_pure {f : α → Mt S β} (g : α → β) : ∀ xs : List α, (∀ x ∈ xs, f x = mpure (g x)) → mapT f xs = mpure (xs.map g)
  | [], _ => rfl
  | x :: xs, h => by
    unfold mapT
    rw [h x (by simp), mbind_pure, mapT_pure g xs fun y hy => h y (by simp [hy]), mbind_pure] <;> rfl
theorem compM_pure {c : α → Bool} {f : α → Mt S β} (g : α → β) {xs : List α} (hl : xs.length ≤ 100000) (h : ∀ x ∈ xs, c x = true → f x = mpure (g x)) : compM c f xs = mpure ((xs.filter c).map g) := by
  unfold compM
  rw [if_pos hl]
  exact mapT_pure g _ fun x hx => h x (List.mem_filter.mp hx).1 (List.mem_filter.mp hx).2
theorem compT_pure {f : α → Mt S (Option β)} (g : α → Option β) : ∀ xs : List α, (∀ x ∈ xs, f x = mpure (g x)) → compT f xs = mpure (xs.filterMap g)
  | [], _ => rfl
  | x :: xs, h => by
    unfold compT
    rw [h x (by simp), mbind_pure, compT_pure g xs fun y hy => h y (by simp [hy]), mbind_pure]
    cases e : g x <;> simp [List.filterMap_cons, e]
theorem compG_pure {c : α → Mt S Bool} {f : α → Mt S β} (p : α → Bool) (g : α → β) {xs : List α} (hl : xs.length ≤ 100000) (hc : ∀ x ∈ xs, c x = mpure (p x)) (hf : ∀ x ∈ xs, p x = true → f x = mpure (g x)) : compG c f xs = mpure ((xs.filter p).map g) := by
  unfold compG
  rw [if_pos hl, compT_pure (fun x => if p x = true then some (g x) else none)]
  · congr 1
    clear hl hc hf
    induction xs with
    | nil => rfl
    | cons x xs ih => cases e : p x <;> simp [List.filterMap_cons, e, ih]
  · intro x hx
    rw [hc x hx, mbind_pure]
    cases e : p x
    · rfl
    · rw [if_pos rfl, if_pos rfl, hf x hx e] <;> rfl
theorem filter_true {α : Type} (xs : List α) : xs.filter (fun _ => true) = xs := by simp
theorem midx_ok {xs : List α} {i : Int} {x : α} (h0 : 0 ≤ i) (h : xs[i.toNat]? = some x) : midx (S := S) xs i = mpure x := by
  have hl := (List.getElem?_eq_some_iff.mp h).1
  have e : ixN xs.length i = some i.toNat := by
    unfold ixN
    rw [if_pos h0, if_pos (by omega)]
  unfold midx atI
  rw [e]
  show mopt xs[i.toNat]? = _
  rw [h] <;> rfl
theorem midx_cons0 (x : α) (xs : List α) : midx (S := S) (x :: xs) 0 = mpure x := midx_ok (by decide) rfl
theorem midx_last {xs : List α} {x : α} (h : xs.getLast? = some x) : midx (S := S) xs (-1) = mpure x := by
  have hne : xs ≠ [] := fun q => by subst q; cases h
  have hl : 0 < xs.length := List.length_pos_iff.mpr hne
  have e : ixN xs.length (-1) = some (xs.length - 1) := by
    unfold ixN
    rw [if_neg (by decide), if_pos (by omega)]
    congr 1
    omega
  unfold midx atI
  rw [e]
  show mopt xs[xs.length - 1]? = _
  rw [← List.getLast?_eq_getElem?, h] <;> rfl
theorem mmod_ok {a b : Int} (h : 0 < b) : mmod (S := S) a b = mpure (a % b) := if_pos h
theorem mcat_ok {xs ys : List α} (h : xs.length + ys.length ≤ 100000) : mcat (S := S) xs ys = mpure (xs ++ ys) := if_pos h
theorem mapp_ok {xs : List α} {x : α} (h : xs.length < 100000) : mapp (S := S) xs x = mpure (xs ++ [x]) := if_pos h
theorem mdisp_ok {xs : List α} (h : xs.length ≤ 100000) : mdisp (S := S) xs = mpure xs := if_pos h
theorem msort_ok {lt : α → α → Bool} {xs : List α} (h : xs.length ≤ 100000) : msort (S := S) lt xs = mpure (xs.mergeSort (leOf lt)) := if_pos h
theorem mrepT_ok {x : α} {k : Int} (h0 : 0 ≤ k) (h : k ≤ 1000) : mrepT (S := S) [x] k = mpure (List.replicate k.toNat x) := by
  unfold mrepT
  rw [if_pos ⟨by simp, by omega, h⟩]
  congr 1
  generalize k.toNat = n
  induction n with
  | zero => rfl
  | succ n ih => rw [List.replicate_succ, List.flatten_cons, ih] <;> rfl
theorem mrepL_ok {x : α} {k : Int} (h0 : 0 ≤ k) (h : k ≤ 1000) : mrepL (S := S) [x] k = mpure (List.replicate k.toNat x) := by
  unfold mrepL
  rw [if_pos ⟨by simp; omega, by omega, by omega⟩]
  congr 1
  generalize k.toNat = n
  induction n with
  | zero => rfl
  | succ n ih => rw [List.replicate_succ, List.flatten_cons, ih] <;> rfl
/-- 0, 1, .. below n -/
def upto (n : Nat) : List Int := (List.range n).map fun i : Nat => (i : Int)
theorem upto_length (n : Nat) : (upto n).length = n := by simp [upto]
theorem mem_upto {n : Nat} {a : Int} : a ∈ upto n ↔ 0 ≤ a ∧ a < n := by
  unfold upto
  simp only [List.mem_map, List.mem_range]
  constructor
  · rintro ⟨i, h, rfl⟩; omega
  · intro ⟨h1, h2⟩; exact ⟨a.toNat, by omega, by omega⟩
theorem rngI_upto (n : Int) : rngI 0 n = upto n.toNat := by
  unfold rngI upto
  rw [Int.sub_zero]
  congr 1
  funext i
  exact Int.zero_add _
theorem mrng_ok {n : Int} (h : n ≤ 1000000000) (h0 : -1000000000 ≤ n) : mrng (S := S) 0 n = mpure (upto n.toNat) := by
  unfold mrng
  have e1 : (2 : Int) ^ 62 = 4611686018427387904 := by decide
  rw [if_pos (by rw [e1]; omega), rngI_upto]
theorem mrng_nat (n : Nat) (h : n ≤ 1000000000) : mrng (S := S) 0 (n : Int) = mpure (upto n) := by rw [mrng_ok (by omega) (by omega), Int.toNat_natCast]
theorem mrngL_ok {n : Int} (h0 : 0 ≤ n) (h : n ≤ 100000) : mrngL (S := S) 0 n = mpure (upto n.toNat) := by
  unfold mrngL
  have e1 : (2 : Int) ^ 62 = 4611686018427387904 := by decide
  have hs : (SZ : Nat) = 100000 := rfl
  rw [if_pos (by unfold rgOk; rw [e1, hs]; omega), rngI_upto]
theorem mrngL_nat (n : Nat) (h : n ≤ 100000) : mrngL (S := S) 0 (n : Int) = mpure (upto n) := by rw [mrngL_ok (by omega) (by omega), Int.toNat_natCast]
theorem mrng2_ok {lo hi : Int} (h1 : -1000000000 ≤ lo) (h2 : lo ≤ 1000000000) (h3 : -1000000000 ≤ hi) (h4 : hi ≤ 1000000000) : mrng (S := S) lo hi = mpure (rngI lo hi) := by
  unfold mrng
  have e1 : (2 : Int) ^ 62 = 4611686018427387904 := by decide
  rw [if_pos (by rw [e1]; omega)]
theorem enumZ_get : ∀ (xs : List α) (n i : Nat), (enumZ n xs)[i]? = xs[i]?.map fun x => (((n + i : Nat) : Int), x)
  | [], _, _ => by simp [enumZ]
  | x :: xs, n, 0 => by simp [enumZ]
  | x :: xs, n, i + 1 => by
    rw [enumZ, List.getElem?_cons_succ, enumZ_get xs (n + 1) i, List.getElem?_cons_succ]
    rw [show n + 1 + i = n + (i + 1) by omega]
theorem enumZ_length : ∀ (xs : List α) (n : Nat), (enumZ n xs).length = xs.length
  | [], _ => rfl
  | x :: xs, n => by rw [enumZ, List.length_cons, enumZ_length xs, List.length_cons]
theorem mem_enumZ {xs : List α} {n : Nat} {p : Int × α} (h : p ∈ enumZ n xs) : ∃ i : Nat, xs[i]? = some p.2 ∧ p.1 = ((n + i : Nat) : Int) := by
  obtain ⟨i, hi⟩ := List.getElem?_of_mem h
  rw [enumZ_get] at hi
  cases e : xs[i]? with
  | none => rw [e] at hi; cases hi
  | some x =>
    rw [e] at hi
    cases hi
    exact ⟨i, e, rfl⟩
theorem upto_get (n i : Nat) : (upto n)[i]? = if i < n then some (i : Int) else none := by
  unfold upto
  rw [List.getElem?_map]
  by_cases h : i < n
  · rw [List.getElem?_range h, if_pos h] <;> rfl
  · rw [List.getElem?_eq_none (by simpa using h), if_neg h] <;> rfl
theorem enumZ_upto (n : Nat) (w : Int → α) : enumZ 0 ((upto n).map w) = (upto n).map fun i => (i, w i) := by
  apply List.ext_getElem?
  intro i
  rw [enumZ_get, List.getElem?_map, List.getElem?_map, upto_get, Nat.zero_add]
  by_cases h : i < n
  · simp [h]
  · simp [h]
/-! sorted lists -/
theorem sort_ints (xs : List Int) : xs.mergeSort (leOf ltI) = xs.mergeSort (fun a b => decide (a ≤ b)) := by
  congr 1
  funext a b
  unfold leOf ltI
  by_cases h : b < a
  · have : ¬ a ≤ b := by omega
    simp [h, this]
  · have : a ≤ b := by omega
    simp [h, this]
theorem sort_eq {xs ys : List Int} (hp : xs.Perm ys) (hs : ys.Pairwise (· < ·)) : xs.mergeSort (leOf ltI) = ys := by
  rw [sort_ints]
  have h1 : (xs.mergeSort (fun a b => decide (a ≤ b))).Pairwise (fun a b => decide (a ≤ b) = true) := List.pairwise_mergeSort (by intro a b c; simp; omega) (by intro a b; simp; omega) xs
  have h2 : ys.Pairwise (fun a b => decide (a ≤ b) = true) := hs.imp fun {a b} h => by
    have : a ≤ b := Int.le_of_lt h
    simpa using this
  exact List.Perm.eq_of_pairwise (fun a b _ _ h1 h2 => by simp at h1 h2; omega) h1 h2 ((List.mergeSort_perm _ _).trans hp)
end
/-! repr -/
theorem mrepr_ok {S : Type} {dp bk : Nat} {d : D} (h : ROk dp bk d) (h1 : dp ≤ 64) (h2 : bk ≤ 200000) : mrepr (S := S) d = mpure (toP d).shown := by
  have := h.repr h1 h2 []
  unfold mrepr
  rw [if_pos]
  refine ⟨h.p, ?_⟩
  unfold pRepr at this
  dsimp only at this
  rw [dat_P h.p] at this
  have this : (if SeqAt.shaped (toP d) = true ∧ (toP d).showable = true ∧ (toP d).shown.length ≤ sizeLine then some (D.str (toP d).shown) else none) = some (D.str (toP d).shown) := this
  by_cases hc : SeqAt.shaped (toP d) = true ∧ (toP d).showable = true ∧ (toP d).shown.length ≤ sizeLine
  · exact hc
  · rw [if_neg hc] at this
    cases this
end Dn
/-! DnZb: panels, sets of small numbers, what repr shows. -/
namespace Dn
open PySem PySem.Spec PyProof.Rows L2
/-! ### isinstance, an option opened, min -/
theorem kb_int_int : kitB "int" "int" = some true := by decide +kernel
theorem kb_int_bool : kitB "int" "bool" = some false := by decide +kernel
theorem kb_int_str : kitB "int" "str" = some false := by decide +kernel
theorem kb_int_tuple : kitB "int" "tuple" = some false := by decide +kernel
theorem kb_int_list : kitB "int" "list" = some false := by decide +kernel
theorem kb_bool_int : kitB "bool" "int" = some true := by decide +kernel
theorem kb_bool_bool : kitB "bool" "bool" = some true := by decide +kernel
theorem kb_bool_str : kitB "bool" "str" = some false := by decide +kernel
theorem kb_bool_tuple : kitB "bool" "tuple" = some false := by decide +kernel
theorem kb_bool_list : kitB "bool" "list" = some false := by decide +kernel
theorem kb_str_int : kitB "str" "int" = some false := by decide +kernel
theorem kb_str_bool : kitB "str" "bool" = some false := by decide +kernel
theorem kb_str_str : kitB "str" "str" = some true := by decide +kernel
theorem kb_str_tuple : kitB "str" "tuple" = some false := by decide +kernel
theorem kb_str_list : kitB "str" "list" = some false := by decide +kernel
theorem kb_tuple_int : kitB "tuple" "int" = some false := by decide +kernel
theorem kb_tuple_bool : kitB "tuple" "bool" = some false := by decide +kernel
theorem kb_tuple_str : kitB "tuple" "str" = some false := by decide +kernel
theorem kb_tuple_tuple : kitB "tuple" "tuple" = some true := by decide +kernel
theorem kb_tuple_list : kitB "tuple" "list" = some false := by decide +kernel
theorem kb_list_int : kitB "list" "int" = some false := by decide +kernel
theorem kb_list_bool : kitB "list" "bool" = some false := by decide +kernel
theorem kb_list_str : kitB "list" "str" = some false := by decide +kernel
theorem kb_list_tuple : kitB "list" "tuple" = some false := by decide +kernel
theorem kb_list_list : kitB "list" "list" = some true := by decide +kernel
theorem kb_NoneType_int : kitB "NoneType" "int" = some false := by decide +kernel
theorem kb_NoneType_bool : kitB "NoneType" "bool" = some false := by decide +kernel
theorem kb_NoneType_str : kitB "NoneType" "str" = some false := by decide +kernel
theorem kb_NoneType_tuple : kitB "NoneType" "tuple" = some false := by decide +kernel
theorem kb_NoneType_list : kitB "NoneType" "list" = some false := by decide +kernel
section
variable {S : Type} {W : Wd S} {fr : Sto} {Γ : List Sl}
theorem hv_isi {T : String} {m : Rho → M D} {d b : D} (h : HV W fr Γ m d) (hk : ∀ st, ((tyD st d).bind fun t => (kitB t T).map D.bl) = some b) : HV W fr Γ (mIsi T m) b := fun s ρ st H => by
  unfold mIsi
  rw [h s ρ st H, Out.bind_ok, hk st, lift_some]
theorem t_isi {d : D} {t T : String} {r : Bool} (hk : kitB t T = some r) (ht : ∀ st, tyD st d = some t) (st : Sto) : ((tyD st d).bind fun t => (kitB t T).map D.bl) = some (.bl r) := by
  rw [ht st]
  show (kitB t T).map D.bl = _
  rw [hk] <;> rfl
theorem t_isiO {α : Type} {e : α → D} {o : Option α} {t T : String} (hk : kitB t T = some true) (hn : kitB "NoneType" T = some false) (ht : ∀ st x, tyD st (e x) = some t) (st : Sto) : ((tyD st (eO e o)).bind fun t => (kitB t T).map D.bl) = some (.bl o.isSome) := by
  cases o with
  | none =>
    show (kitB "NoneType" T).map D.bl = _
    rw [hn] <;> rfl
  | some x => exact t_isi hk (fun st => ht st x) st
theorem t_isiN {α : Type} {e : α → D} {o : Option α} {t T : String} (hk : kitB t T = some false) (hn : kitB "NoneType" T = some false) (ht : ∀ st x, tyD st (e x) = some t) (st : Sto) : ((tyD st (eO e o)).bind fun t => (kitB t T).map D.bl) = some (.bl false) := by
  cases o with
  | none =>
    show (kitB "NoneType" T).map D.bl = _
    rw [hn] <;> rfl
  | some x => exact t_isi hk (fun st => ht st x) st
theorem ht_unopt {α : Type} {m : Rho → M D} {o : Option α} {e : α → D} (h : HV W fr Γ m (eO e o)) : HT W fr Γ m (mopt o) e fun _ => Γ := fun s ρ st H => by
  cases o with
  | none => trivial
  | some x => exact ⟨st, h s ρ st H, H⟩
def mminI (xs : List Int) : Mt S Int := match xs with
  | n :: ns => if ns.length ≤ 10000 then mpure (ns.foldl min n) else mbad
  | [] => mbad
theorem af_minL {e : List Int → D} {xs : List Int} (he : ∀ st, intsAt st (e xs) = some xs) : AC W fr Γ mNil (fun ds => FB pMin (e xs :: ds)) (mminI xs) eI fun _ => Γ := by
  cases xs with
  | nil => exact fun s ρ st H => trivial
  | cons n ns =>
    unfold mminI
    exact ac_if fun h st => by
      show lift (match intsAt st (e (n :: ns)) with
        | some (n :: ns) => if ns.length ≤ 10000 then some (D.int (ns.foldl min n)) else none
        | _ => none) st = _
      rw [he st]
      dsimp only
      rw [if_pos h] <;> rfl
theorem af_minT (xs : List Int) : AC W fr Γ mNil (fun ds => FB pMin (eT eI xs :: ds)) (mminI xs) eI fun _ => Γ := af_minL fun st => iT xs st
theorem af_minLL (xs : List Int) : AC W fr Γ mNil (fun ds => FB pMin (eL eI xs :: ds)) (mminI xs) eI fun _ => Γ := af_minL fun st => iL xs st
end
/-! ### repr of encoded values -/
theorem rok_eI {z : Int} (h0 : 0 ≤ z) (h : z < 1000) : ROk 0 0 (eI z) := by
  obtain ⟨n, rfl⟩ : ∃ n : Nat, z = n := ⟨z.toNat, by omega⟩
  exact rok_nI (by omega)
theorem rok_eB (b : Bool) : ROk 0 0 (eB b) := by
  cases b
  · exact ⟨rfl, rfl, by decide, rfl, by decide, by decide⟩
  · exact ⟨rfl, rfl, by decide, rfl, by decide, by decide⟩
section
variable {α β : Type} {dp bk n : Nat}
theorem rok_eT {e : α → D} {xs : List α} (h : ∀ x ∈ xs, ROk dp bk (e x)) (hn : xs.length ≤ n) : ROk (dp + 1) (n * (bk + 1)) (eT e xs) := by
  refine rok_tup (xs := xs.map e) (fun x hx => ?_) (by rw [List.length_map]; exact hn)
  obtain ⟨a, ha, rfl⟩ := List.mem_map.mp hx
  exact h a ha
theorem rok_eL {e : α → D} {xs : List α} (h : ∀ x ∈ xs, ROk dp bk (e x)) (hn : xs.length ≤ n) : ROk (dp + 1) (n * (bk + 1)) (eL e xs) := by
  refine rok_lst (xs := xs.map e) (fun x hx => ?_) (by rw [List.length_map]; exact hn)
  obtain ⟨a, ha, rfl⟩ := List.mem_map.mp hx
  exact h a ha
theorem rok_two {d1 d2 : D} (h1 : ROk dp bk d1) (h2 : ROk dp bk d2) : ROk (dp + 1) (2 * (bk + 1)) (eL eD [d1, d2]) := rok_eL (fun x hx => by
  rcases List.mem_cons.mp hx with rfl | h
  · exact h1
  · rw [List.mem_singleton.mp h]; exact h2) (by simp)
theorem rok_row {r : List Int} {m : Nat} (hm : m ≤ 1000) (h : ∀ a ∈ r, 0 ≤ a ∧ a < (m : Int)) (hl : r.length ≤ n) : ROk 1 n (eT eI r) := by
  have := rok_eT (e := eI) (dp := 0) (bk := 0) (fun a ha => rok_eI (h a ha).1 (by have := (h a ha).2; omega)) hl
  simpa using this
end
/-! ### small sets -/
theorem nodup_len_sub {l m : List Int} (hn : l.Nodup) : (∀ a ∈ l, a ∈ m) → l.length ≤ m.length := by
  induction l generalizing m with
  | nil => intro _; exact Nat.zero_le _
  | cons a l ih =>
    intro h
    have h1 := ih (m := m.erase a) (List.nodup_cons.mp hn).2 fun b hb => (List.mem_erase_of_ne (fun q => (List.nodup_cons.mp hn).1 (by rw [← q]; exact hb))).mpr (h b (by simp [hb]))
    have h2 : a ∈ m := h a (by simp)
    rw [List.length_erase_of_mem h2] at h1
    have := List.length_pos_of_mem h2
    rw [List.length_cons]
    omega
theorem nodup_upto (n : Nat) : (upto n).Nodup := by
  unfold upto
  exact List.Pairwise.map _ (fun _ _ h q => h (by omega)) List.nodup_range
theorem sorted_upto (n : Nat) : (upto n).Pairwise (· < ·) := by
  unfold upto
  exact List.Pairwise.map _ (fun _ _ h => by omega) List.pairwise_lt_range
theorem sortI_perm (xs : List Int) : (sortI xs).Perm (setI xs) := List.mergeSort_perm _ _
theorem sortI_len (xs : List Int) : (sortI xs).length = (setI xs).length := (sortI_perm xs).length_eq
theorem mem_sortI {a : Int} {xs : List Int} : a ∈ sortI xs ↔ a ∈ xs := by rw [(sortI_perm xs).mem_iff, mem_setI]
theorem setI_small {xs : List Int} {n : Nat} (h : ∀ a ∈ xs, 0 ≤ a ∧ a < (n : Int)) : (setI xs).length ≤ n := by
  have := nodup_len_sub (m := upto n) (nodup_setI xs) fun a ha => mem_upto.mpr (h a (mem_setI.mp ha))
  rwa [upto_length] at this
theorem setI_full {xs : List Int} {n : Nat} (h : ∀ a ∈ xs, 0 ≤ a ∧ a < (n : Int)) : (setI xs).length = n ↔ ∀ a, 0 ≤ a → a < (n : Int) → a ∈ xs := by
  constructor
  · intro e a h0 h1
    apply Classical.byContradiction
    intro hn
    have h2 := nodup_len_sub (m := (upto n).erase a) (nodup_setI xs) fun b hb => (List.mem_erase_of_ne fun q => hn (by rw [← q]; exact mem_setI.mp hb)).mpr (mem_upto.mpr (h b (mem_setI.mp hb)))
    have h3 : a ∈ upto n := mem_upto.mpr ⟨h0, h1⟩
    rw [List.length_erase_of_mem h3, upto_length] at h2
    omega
  · intro hall
    have h1 := setI_small h
    have h2 := nodup_len_sub (m := setI xs) (nodup_upto n) fun a ha => mem_setI.mpr (hall a (mem_upto.mp ha).1 (mem_upto.mp ha).2)
    rw [upto_length] at h2
    omega
theorem msetS_ok {S : Type} {xs : List Int} {n : Nat} (hn : n < 64) (h : ∀ a ∈ xs, 0 ≤ a ∧ a < (n : Int)) (hl : xs.length ≤ 1000) : msetS (S := S) xs = mpure (sortI xs) := by
  unfold msetS
  have := setI_small h
  rw [if_pos ⟨hl, by omega⟩]
theorem sortI_sorted (xs : List Int) : (sortI xs).Pairwise (· < ·) := by
  have hn : (sortI xs).Nodup := (sortI_perm xs).nodup_iff.mpr (nodup_setI xs)
  have h2 := List.pairwise_mergeSort (le := fun a b : Int => decide (a ≤ b)) (by intro a b c; simp; omega) (by intro a b; simp; omega) (setI xs)
  exact (List.Pairwise.and h2 hn).imp fun {a b} h => by
    have h1 : a ≤ b := by simpa using h.1
    have h2 : a ≠ b := h.2
    omega
/-! ### panels -/
def rowAt (pan : List (List Int)) (b : Int) : List Int := pan.getD b.toNat []
theorem midx_row {S : Type} {pan : List (List Int)} {b : Int} (h0 : 0 ≤ b) (h : b < pan.length) : midx (S := S) pan b = mpure (rowAt pan b) := by
  have hl : b.toNat < pan.length := by omega
  refine midx_ok h0 ?_
  unfold rowAt
  rw [List.getElem?_eq_getElem hl, List.getD_eq_getElem?_getD, List.getElem?_eq_getElem hl] <;> rfl
theorem midx_getD {S α : Type} {xs : List α} {b : Int} (d : α) (h0 : 0 ≤ b) (h : b < xs.length) : midx (S := S) xs b = mpure (xs.getD b.toNat d) := by
  have hl : b.toNat < xs.length := by omega
  refine midx_ok h0 ?_
  rw [List.getElem?_eq_getElem hl, List.getD_eq_getElem?_getD, List.getElem?_eq_getElem hl] <;> rfl
theorem getD_mem {α : Type} {xs : List α} {b : Int} (d : α) (h0 : 0 ≤ b) (h : b < xs.length) : xs.getD b.toNat d ∈ xs := by
  have hl : b.toNat < xs.length := by omega
  rw [List.getD_eq_getElem?_getD, List.getElem?_eq_getElem hl]
  exact List.getElem_mem hl
structure Pan (K : Nat) (pan : List (List Int)) : Prop where
  pos : 1 ≤ pan.length
  le : pan.length ≤ K
  len : ∀ r ∈ pan, r.length ≤ K
  rng : ∀ r ∈ pan, ∀ a ∈ r, 0 ≤ a ∧ a < (pan.length : Int)
theorem Pan.row {K : Nat} {pan : List (List Int)} (h : Pan K pan) {b : Int} (h0 : 0 ≤ b) (h1 : b < pan.length) : rowAt pan b ∈ pan := getD_mem [] h0 h1
theorem Pan.rok {K : Nat} {pan : List (List Int)} (h : Pan K pan) (hK : K ≤ 1000) : ROk 2 (K * (K + 1)) (eT (eT eI) pan) :=
  rok_eT (fun r hr => rok_row (m := pan.length) (by have := h.le; omega) (h.rng r hr) (h.len r hr)) h.le
/-! ### a comprehension in a comprehension -/
def relabelS (scope sc : Scope) : Scope :=
  { scope with names := scope.names.map fun (n, k) => if (k == .free && sc.kind == .function && sc.names.lookup n == some .cell) then (n, .cell) else (n, k) }
theorem blk_in {X : Cx} {s : Shared} {H : Hp} {scope1 scope2 : Scope} {cl : List (Str × Addr)} {C : Addr} {fp : List Addr} {N : List Str} {sc : Scope} {own : List (Str × Nat)} (hN : X.N = N) (hs : X.env.scope = sc) (h : blkC N (relabelS scope1 sc) scope2 own = true) :
    BlkOk (X.blk s H scope1 (compEnvC scope1 cl C X.env) fp).N (X.blk s H scope1 (compEnvC scope1 cl C X.env) fp).env.scope scope2 own := by
  subst hN
  subst hs
  exact blkOk_by h
/-- numbers below n -/
def Bel (n : Nat) (r : List Int) : Prop := ∀ a ∈ r, 0 ≤ a ∧ a < (n : Int)
end Dn
/-! DnZc: a comprehension over a list of the store. -/
namespace Dn
open PySem PySem.Spec PyProof.Rows L2
section
variable {S : Type} {W : Wd S} {fr : Sto} {Γ : List Sl} {α β : Type} {e : α → D} {enc : β → D} {gf : D → Rho → M Rho} {mt : Rho → M Bool} {me : Rho → M D} {vs js : List Nat} {G : α → List Sl} {i : Nat}
theorem lcL_TM {f : α → Mt S (Option β)} {ρ : Rho} {l : Nat} {zs : List D} (hi : Γ[i]? = some (.mut (.lst zs))) (hρ : ρ[i]? = some (some (.ref l))) (hf : ∀ x s st, Has W fr s Γ ρ st → OR W fr (fun _ => Γ) ρ (fun o : Option β => o.map enc) (lcF gf mt me (wipeD ρ vs) (e x) st) (f x s)) :
    ∀ (xs : List α) s st, Has W fr s Γ ρ st → OR W fr (fun _ => Γ) ρ (fun ys : List β => ys.map enc) (lcL [(l, zs)] (lcF gf mt me (wipeD ρ vs)) (xs.map e) st) (compT f xs s) := by
  have held : ∀ s st, Has W fr s Γ ρ st → heldOk [(l, zs)] st := fun s st H => by
    obtain ⟨l', q1, _, q3⟩ := H.mt i _ hi
    rw [hρ] at q1
    cases q1
    exact (heldOk_one _ _ _).mpr q3
  intro xs
  induction xs with
  | nil =>
    intro s st H
    rw [List.map_nil]
    unfold lcL
    rw [if_pos (held s st H)]
    exact ⟨st, rfl, H⟩
  | cons x xs ih =>
    intro s st H
    rw [List.map_cons]
    unfold lcL
    rw [if_pos (held s st H)]
    refine OR.bind (hf x s st H) fun o s1 st1 H1 => ?_
    refine OR.bind (ih s1 st1 H1) fun ys s2 st2 H2 => ?_
    refine ⟨st2, ?_, H2⟩
    cases o <;> simp
theorem ht_compGL {xs : List α} {c : α → Mt S Bool} {f : α → Mt S β} {Γw : List Sl} (hi : Γ[i]? = some (.mut (.lst (xs.map e)))) (hw : wipeG Γ vs = Γw) (hg : ∀ x, GT1 W fr Γw gf (e x) (G x) js) (hjs : ∀ j, j ∈ js → j ∈ vs) (hk : ∀ x, Kp vs Γ (G x))
    (hc : ∀ x, HT W fr (G x) mt (c x) id fun _ => G x) (hf : ∀ x, HT W fr (G x) me (f x) enc fun _ => G x) : HT W fr Γ (lLc (iSeq (mVar i)) gf mt me vs) (calmly (compG c f xs)) (fun ys : List β => ys.map enc) fun _ => Γ := fun s ρ st H => by
  obtain ⟨l, q1, _, q3⟩ := H.mt i _ hi
  have es : iSeq (mVar i) ρ st = .ok ⟨xs.map e, [(l, xs.map e)]⟩ st := by
    unfold iSeq mVar
    rw [q1]
    show lift (srcOf st (.ref l)) st = _
    unfold srcOf
    dsimp only
    rw [q3] <;> rfl
  unfold lLc
  rw [es, Out.bind_ok]
  dsimp only
  show OR W fr _ ρ _ (if (xs.map e).length ≤ SZ then nox (lcL [(l, xs.map e)] (lcF gf mt me (wipeD ρ vs)) (xs.map e) st) else .bad) (rcalm (compG c f xs s))
  unfold compG
  rw [List.length_map]
  by_cases hl : xs.length ≤ 100000
  · rw [if_pos hl, if_pos (show xs.length ≤ SZ from hl)]
    exact calm_OR (lcL_TM hi q1 (fun x s st H => lcF_T hw (hg x) hjs (hk x) (hc x) (hf x) s ρ st H) xs s st H)
  · rw [if_neg hl, if_neg (show ¬ xs.length ≤ SZ from hl)]
    trivial
theorem ht_compVL {xs : List α} {c : α → Bool} {f : α → β} {Γw : List Sl} (hi : Γ[i]? = some (.mut (.lst (xs.map e)))) (hw : wipeG Γ vs = Γw) (hg : ∀ x, GT1 W fr Γw gf (e x) (G x) js) (hjs : ∀ j, j ∈ js → j ∈ vs) (hk : ∀ x, Kp vs Γ (G x))
    (hc : ∀ x, HV W fr (G x) mt (c x)) (hf : ∀ x, HV W fr (G x) me (enc (f x))) : HT W fr Γ (lLc (iSeq (mVar i)) gf mt me vs) (compV c f xs) (fun ys : List β => ys.map enc) fun _ => Γ := by
  have h := ht_compGL (c := fun x => mpure (c x)) (f := fun x => mpure (f x)) hi hw hg hjs hk (fun x => ht_ofV (enc := id) (hc x)) fun x => ht_ofV (hf x)
  have e1 : calmly (compG (S := S) (fun x => mpure (c x)) (fun x => mpure (f x)) xs) = compV c f xs := by
    unfold compG compV
    split
    · rw [compT_V] <;> rfl
    · rfl
  rw [e1] at h
  exact h
end
/-! ### count -/
section
variable {S : Type} {W : Wd S} {fr : Sto} {Γ : List Sl} {α : Type} [DecidableEq α] {e : α → D} {n : Nat}
theorem toPs_map' {α : Type} (e : α → D) : ∀ xs : List α, toPs (xs.map e) = xs.map fun x => toP (e x)
  | [] => rfl
  | x :: xs => by rw [List.map_cons, toPs, toPs_map' e xs] <;> rfl
theorem dep_all [Ev e n] : ∀ xs : List α, PyData.depthAll (toPs (xs.map e)) ≤ n
  | [] => Nat.zero_le _
  | x :: xs => by
    rw [List.map_cons, toPs, PyData.depthAll]
    exact Nat.max_le.mpr ⟨Ev.dep x, dep_all xs⟩
def mcountD (e : α → D) (xs : List α) (y : α) : Mt S Int := if PyData.canLayAll0 (toPs (xs.map e)) = true ∧ (toP (e y)).canLay0 = true then mpure (xs.count y : Nat) else mbad
theorem countD_e [Ev e n] (hn : n < 60) {xs : List α} {y : α} (h1 : PyData.canLayAll0 (toPs (xs.map e)) = true) (h2 : (toP (e y)).canLay0 = true) : countD (xs.map e) (e y) = some (.int (xs.count y : Nat)) := by
  unfold countD
  have hd := dep_all (e := e) xs
  have hy := Ev.dep (e := e) y
  rw [if_pos ⟨isPs_of Ev.p xs, Ev.p y, shaped_of (by rw [PyData.canLay0]; exact h1) (by rw [PyData.depth]; omega), shaped_of h2 (by omega)⟩, toPs_map', List.countP_map]
  have : ((fun z => PyData.eqv z (toP (e y))) ∘ fun x => toP (e x)) = fun b => decide (b = y) := by
    funext b
    exact Ev.eq b y
  rw [this]
  congr 2
theorem ht_countT [Ev e n] {mo m : Rho → M D} {xs : List α} {y : α} (hn : n < 60) (h1 : HV W fr Γ mo (eT e xs)) (h2 : HV W fr Γ m (e y)) : HT W fr Γ (mMethT pCountT mo (mCons m mNil)) (mcountD e xs y) eI fun _ => Γ := fun s ρ st H => by
  unfold mcountD
  split
  · rename_i hl
    refine ⟨st, ?_, H⟩
    unfold mMethT mCons mNil
    rw [h1 s ρ st H, Out.bind_ok]
    show ((m ρ st).bind _).bind _ = _
    rw [h2 s ρ st H]
    show nox (lift (countD (xs.map e) (e y)) st) = _
    rw [countD_e hn hl.1 hl.2] <;> rfl
  · trivial
theorem mcount_ok {xs : List α} {y : α} (h : ∀ x ∈ y :: xs, (toP (e x)).canLay0 = true) : mcountD (S := S) e xs y = mpure ((xs.count y : Nat) : Int) := by
  unfold mcountD
  rw [if_pos]
  refine ⟨?_, h y (by simp)⟩
  have h2 : ∀ x ∈ xs, (toP (e x)).canLay0 = true := fun x hx => h x (by simp [hx])
  clear h
  induction xs with
  | nil => rfl
  | cons x xs ih => rw [List.map_cons, toPs, PyData.canLayAll0, h2 x (by simp), ih fun z hz => h2 z (by simp [hz])] <;> rfl
end
/-! ### nothing, then .. -/
section
variable {S : Type} {W : Wd S} {fr : Sto} {Γ : List Sl} {σ β : Type} {J : σ → List Sl} {enc : β → D} {c : Rho → Sto → Fl}
theorem tl_nextR {q : Mt S (Lp σ β)} (h : TL W fr Γ c q J enc) : TL W fr Γ (sSeq sNext c) q J enc := fun s ρ st H => h s ρ st H
theorem tr_nextR {q : Mt S β} (h : TR W fr Γ c q enc) : TR W fr Γ (sSeq sNext c) q enc := fun s ρ st H => h s ρ st H
theorem tn_nextR {q : Mt S σ} (h : TN W fr Γ c q J) : TN W fr Γ (sSeq sNext c) q J := fun s ρ st H => h s ρ st H
end
section
variable {S : Type} {W : Wd S} {fr : Sto} {Γ : List Sl}
theorem ht_oSomeM {m : Rho → M D} {q : Mt S Int} (h : HT W fr Γ m q eI fun _ => Γ) : HT W fr Γ (oSome m) (mbind q fun x => mpure (some x)) id fun _ => Γ := fun s ρ st H => by
  have := h s ρ st H
  show OR W fr _ ρ _ _ (rbind (q s) _)
  unfold oSome
  revert this
  cases q s with
  | ok b s' => rintro ⟨st', e, h2⟩; exact ⟨st', by rw [e] <;> rfl, h2⟩
  | exc x s' => rintro ⟨st', e, h2⟩; exact ⟨st', by rw [e] <;> rfl, h2⟩
  | bad => intro _; trivial
end
/-! ### texts -/
section
variable {S : Type} {W : Wd S} {fr : Sto} {Γ : List Sl}
def mfmtS (y : Str) : Mt S Str := if y.length ≤ 100000 then mpure y else mbad
def mjoin (a : Str) (ys : List Str) : Mt S Str := if (ys.map (·.length)).sum + ys.length * a.length ≤ 1000000 then mpure (Txt.join a ys) else mbad
def mcatS (x y : Str) : Mt S Str := if x.length + y.length ≤ 100000 then mpure (x ++ y) else mbad
def mglue (acc y : Str) (k : Mt S Str) : Mt S Str := if (acc ++ y).length ≤ 100000 then k else mbad
theorem ht_fmtS {m : Rho → M D} {q : Mt S Str} (h : HT W fr Γ m q eS fun _ => Γ) : HT W fr Γ (mFmt m) (mbind q fun y => mfmtS y) eS fun _ => Γ := fun s ρ st H => by
  unfold mFmt
  refine OR.bind (h s ρ st H) fun y s1 st1 H1 => ?_
  unfold mfmtS
  split
  · rename_i hy
    refine ⟨st1, ?_, H1⟩
    show lift ((if y.length ≤ SZ then some y else none).map D.str) st1 = _
    rw [if_pos (show y.length ≤ SZ from hy)] <;> rfl
  · trivial
theorem ht_fmtI {m : Rho → M D} {q : Mt S Int} (h : HT W fr Γ m q eI fun _ => Γ) : HT W fr Γ (mFmt m) (mbind q fun y => mstr y) eS fun _ => Γ := fun s ρ st H => by
  unfold mFmt
  refine OR.bind (h s ρ st H) fun y s1 st1 H1 => ?_
  unfold mstr
  split
  · rename_i hy
    refine ⟨st1, ?_, H1⟩
    show lift ((if y.natAbs.log2 < 1920 then some (toString y : Str) else none).map D.str) st1 = _
    rw [if_pos hy] <;> rfl
  · trivial
theorem hfs_nil {acc : Str} : HT W fr Γ (fsD [] acc) (mpure acc) eS fun _ => Γ := fun s ρ st H => ⟨st, rfl, H⟩
theorem hfs_cons {m : Rho → M D} {ms : List (Rho → M D)} {acc : Str} {q : Mt S Str} {k : Str → Mt S Str} (h : HT W fr Γ m q eS fun _ => Γ) (hr : ∀ y, HT W fr Γ (fsD ms (acc ++ y)) (k y) eS fun _ => Γ) : HT W fr Γ (fsD (m :: ms) acc) (mbind q fun y => mglue acc y (k y)) eS fun _ => Γ := fun s ρ st H => by
  unfold fsD
  refine OR.bind (h s ρ st H) fun y s1 st1 H1 => ?_
  unfold mglue
  show OR W fr _ ρ _ (if (acc ++ y).length ≤ SZ then fsD ms (acc ++ y) ρ st1 else .bad) _
  by_cases hy : (acc ++ y).length ≤ 100000
  · rw [if_pos hy, if_pos (show (acc ++ y).length ≤ SZ from hy)]
    exact hr y s1 ρ st1 H1
  · rw [if_neg hy, if_neg (show ¬ (acc ++ y).length ≤ SZ from hy)]
    trivial
theorem strsOf_eS : ∀ ys : List Str, strsOf (ys.map eS) = some ys
  | [] => rfl
  | y :: ys => by
    show (strsOf (ys.map eS)).map (y :: ·) = _
    rw [strsOf_eS ys] <;> rfl
theorem ht_join {mo m : Rho → M D} {a : Str} {q : Mt S (List Str)} {en : List Str → D} (he : ∀ ys st, seqOf st (en ys) = some (ys.map eS)) (ho : HV W fr Γ mo (eS a)) (h : HT W fr Γ m q en fun _ => Γ) : HT W fr Γ (mJoin mo m) (mbind q fun ys => mjoin a ys) eS fun _ => Γ := fun s ρ st H => by
  unfold mJoin
  rw [ho s ρ st H, Out.bind_ok]
  show OR W fr _ ρ _ ((m ρ st).bind _) _
  refine OR.bind (h s ρ st H) fun ys s1 st1 H1 => ?_
  rw [he ys st1]
  show OR W fr _ ρ _ (match strsOf (ys.map eS) with
    | some ys => if (ys.map (·.length)).sum + ys.length * a.length ≤ 1000000 then (Out.ok (D.str (Txt.join a ys)) st1 : Out D) else .bad
    | none => .bad) _
  rw [strsOf_eS]
  unfold mjoin
  dsimp only
  split
  · exact ⟨st1, rfl, H1⟩
  · trivial
theorem af_catS (x y : Str) : AC W fr Γ mNil (fun ds => F2 pAdd (eS x :: eS y :: ds)) (mcatS x y) eS fun _ => Γ := ac_if fun h st => by
  show lift (if x.length + y.length ≤ sizeLine then some (D.str (x ++ y)) else none) st = _
  rw [if_pos (sz_le h)] <;> rfl
end
/-! ### values of any kind -/
theorem eL_any {α : Type} (e : α → D) (xs : List α) : eL e xs = eL eD (xs.map e) := by
  unfold eL
  rw [List.map_map] <;> rfl
theorem eT_any {α : Type} (e : α → D) (xs : List α) : eT e xs = eT eD (xs.map e) := by
  unfold eT
  rw [List.map_map] <;> rfl
section
variable {S : Type} {W : Wd S} {fr : Sto} {Γ : List Sl}
def meqD (a b : D) : Mt S Bool := if isP a = true ∧ isP b = true ∧ (toP a).depth ≤ 64 then mpure (PyData.eqv (toP a) (toP b)) else mbad
theorem af_eqD (a b : D) : AC W fr Γ mNil (fun ds => F2 pEq (eD a :: eD b :: ds)) (meqD a b) eB fun _ => Γ := ac_if fun h st => by
  show lift (pEq st a b) st = _
  rw [pEq_dat (dat_P h.1) (dat_P h.2.1) (by omega)] <;> rfl
end
end Dn
/-! DnZd: what repr shows of a text. -/
namespace Dn
open PySem PySem.Spec PyProof.Rows L2
theorem mreprS_ok {S : Type} {y : Str} (h1 : (PyData.str y).canLay0 = true) (h2 : (PyData.str y).shown.length ≤ sizeLine) : mrepr (S := S) (eS y) = mpure (PyData.str y).shown := by
  unfold mrepr
  rw [if_pos]
  · rfl
  · refine ⟨rfl, shaped_of h1 (by show PyData.depth (.str y) ≤ 64; rw [PyData.depth]; decide), ?_, h2⟩
    show (PyData.str y).showable = true
    rw [PyData.showable]
end Dn
/-! DnZe: dicts by tuples of numbers, typed. -/
namespace Dn
open PySem PySem.Spec PyProof.Rows L2
abbrev Kv (α : Type) := List (List Int × α)
section
variable {α : Type}
def eK (kv : Kv α) : List (List Int) := kv.map Prod.fst
def eW (e : α → D) (kv : Kv α) : List D := kv.map fun p => e p.2
def eDc (e : α → D) (kv : Kv α) : D := .fd (eK kv) (eW e kv)
def hasP (kv : Kv α) (k : List Int) : Bool := decide (k ∈ eK kv)
def getP : Kv α → List Int → Option α
  | [], _ => none
  | p :: ps, k => if p.1 = k then some p.2 else getP ps k
def setP (kv : Kv α) (k : List Int) (x : α) : Kv α := kv.map fun p => (p.1, if p.1 = k then x else p.2)
def putP (kv : Kv α) (k : List Int) (x : α) : Kv α := if k ∈ eK kv then setP kv k x else kv ++ [(k, x)]
def mputD {S : Type} (kv : Kv α) (k : List Int) (x : α) : Mt S (Kv α) := if kv.length ≤ SZ then mpure (putP kv k x) else mbad
def mkeys {S : Type} (kv : Kv α) : Mt S (List (List Int)) := if kv.length ≤ SZ then mpure (eK kv) else mbad
theorem keyOf_e (k : List Int) : keyOf (eT eI k) = some k := intsOf_eI k
theorem getK_e (e : α → D) (k : List Int) : ∀ kv : Kv α, getK (eK kv) (eW e kv) k = (getP kv k).map e
  | [] => rfl
  | p :: ps => by
    show (if p.1 = k then some (e p.2) else getK (eK ps) (eW e ps) k) = _
    unfold getP
    by_cases h : p.1 = k
    · rw [if_pos h, if_pos h] <;> rfl
    · rw [if_neg h, if_neg h, getK_e e k ps]
theorem setK_e (e : α → D) (k : List Int) (x : α) : ∀ kv : Kv α, setK (eK kv) (eW e kv) k (e x) = eW e (setP kv k x)
  | [] => rfl
  | p :: ps => by
    show (if p.1 = k then e x else e p.2) :: setK (eK ps) (eW e ps) k (e x) = e (if p.1 = k then x else p.2) :: eW e (setP ps k x)
    rw [setK_e e k x ps]
    by_cases h : p.1 = k
    · rw [if_pos h, if_pos h]
    · rw [if_neg h, if_neg h]
theorem eK_set (kv : Kv α) (k : List Int) (x : α) : eK (setP kv k x) = eK kv := by
  unfold eK setP
  rw [List.map_map] <;> rfl
theorem putKs_e (kv : Kv α) (k : List Int) (x : α) : putKs (eK kv) k = eK (putP kv k x) := by
  unfold putKs putP
  by_cases h : k ∈ eK kv
  · rw [if_pos h, if_pos h, eK_set]
  · rw [if_neg h, if_neg h]
    show _ = (kv ++ [(k, x)]).map Prod.fst
    rw [List.map_append] <;> rfl
theorem putVs_e (e : α → D) (kv : Kv α) (k : List Int) (x : α) : putVs (eK kv) (eW e kv) k (e x) = eW e (putP kv k x) := by
  unfold putVs putP
  by_cases h : k ∈ eK kv
  · rw [if_pos h, if_pos h, setK_e]
  · rw [if_neg h, if_neg h]
    show _ = (kv ++ [(k, x)]).map fun p => e p.2
    rw [List.map_append] <;> rfl
theorem eK_len (kv : Kv α) : (eK kv).length = kv.length := List.length_map ..
theorem eW_len (e : α → D) (kv : Kv α) : (eW e kv).length = kv.length := List.length_map ..
theorem keysD_e (ks : List (List Int)) : keysD ks = ks.map (eT eI) := rfl
theorem dct_e (e : α → D) (kv : Kv α) (st : Sto) : dctOf st (eDc e kv) = some (eK kv, eW e kv) := rfl
theorem dct_ref {st : Sto} {l : Nat} {ks : List (List Int)} {ds : List D} (h : st[l]? = some (.dct ks ds)) : dctOf st (.ref l) = some (ks, ds) := by
  unfold dctOf
  dsimp only
  rw [h]
theorem low_eW {e : α → D} (he : ∀ x n, (e x).low n = true) (n : Nat) : ∀ kv : Kv α, D.lows n (eW e kv) = true
  | [] => by show D.lows n [] = true; simp only [D.lows]
  | p :: ps => by
    show D.lows n (e p.2 :: eW e ps) = true
    simp only [D.lows, Bool.and_eq_true]
    exact ⟨he _ _, low_eW he n ps⟩
end
/-- a value that names no object of the store -/
class Lo {α : Type} (e : α → D) : Prop where
  lo : ∀ x n, (e x).low n = true
instance (priority := low) {α : Type} {e : α → D} [Pl e] : Lo e := ⟨fun x n => low_of_isP n _ (Pl.p x)⟩
instance {α : Type} {e : α → D} [Lo e] : Lo (eDc e) := ⟨fun x n => by
  unfold eDc
  rw [D.low]
  exact low_eW Lo.lo n x⟩
section
variable {S : Type} {W : Wd S} {fr : Sto} {Γ : List Sl} {α : Type} {e : α → D} {i : Nat} {m mi mk mv : Rho → M D}
/-! in -/
theorem t_inDc (kv : Kv α) (k : List Int) (st : Sto) : pInD st (eT eI k) (eDc e kv) = some (.bl (hasP kv k)) := by
  unfold pInD
  rw [keyOf_e, dct_e] <;> rfl
theorem t_ninDc (kv : Kv α) (k : List Int) (st : Sto) : pNotInD st (eT eI k) (eDc e kv) = some (.bl (!hasP kv k)) := by
  unfold pNotInD
  rw [keyOf_e, dct_e] <;> rfl
theorem hv_inDM {kv : Kv α} {k : List Int} (h : HV W fr Γ m (eT eI k)) (hi : Γ[i]? = some (.mut (.dct (eK kv) (eW e kv)))) : HV W fr Γ (mOp pInD m (mVar i)) (eB (hasP kv k)) := fun s ρ st H => by
  obtain ⟨l, q1, q2, q3⟩ := H.mt i _ hi
  have e1 : mVar i ρ st = .ok (.ref l) st := by unfold mVar; rw [q1]
  unfold mOp
  rw [h s ρ st H, Out.bind_ok, e1, Out.bind_ok]
  unfold pInD
  rw [keyOf_e, dct_ref q3] <;> rfl
theorem hv_ninDM {kv : Kv α} {k : List Int} (h : HV W fr Γ m (eT eI k)) (hi : Γ[i]? = some (.mut (.dct (eK kv) (eW e kv)))) : HV W fr Γ (mOp pNotInD m (mVar i)) (eB (!hasP kv k)) := fun s ρ st H => by
  obtain ⟨l, q1, q2, q3⟩ := H.mt i _ hi
  have e1 : mVar i ρ st = .ok (.ref l) st := by unfold mVar; rw [q1]
  unfold mOp
  rw [h s ρ st H, Out.bind_ok, e1, Out.bind_ok]
  unfold pNotInD
  rw [keyOf_e, dct_ref q3] <;> rfl
theorem ht_inDM {kv : Kv α} {q : Mt S (List Int)} (h : HT W fr Γ m q (eT eI) fun _ => Γ) (hi : Γ[i]? = some (.mut (.dct (eK kv) (eW e kv)))) : HT W fr Γ (mOp pInD m (mVar i)) (mbind q fun k => mpure (hasP kv k)) eB fun _ => Γ := fun s ρ st H => by
  unfold mOp
  refine OR.bind (h s ρ st H) fun k s1 st1 H1 => ?_
  obtain ⟨l, q1, q2, q3⟩ := H1.mt i _ hi
  have e1 : mVar i ρ st1 = .ok (.ref l) st1 := by unfold mVar; rw [q1]
  rw [e1, Out.bind_ok]
  refine ⟨st1, ?_, H1⟩
  unfold pInD
  rw [keyOf_e, dct_ref q3] <;> rfl
theorem ht_ninDM {kv : Kv α} {q : Mt S (List Int)} (h : HT W fr Γ m q (eT eI) fun _ => Γ) (hi : Γ[i]? = some (.mut (.dct (eK kv) (eW e kv)))) : HT W fr Γ (mOp pNotInD m (mVar i)) (mbind q fun k => mpure (!hasP kv k)) eB fun _ => Γ := fun s ρ st H => by
  unfold mOp
  refine OR.bind (h s ρ st H) fun k s1 st1 H1 => ?_
  obtain ⟨l, q1, q2, q3⟩ := H1.mt i _ hi
  have e1 : mVar i ρ st1 = .ok (.ref l) st1 := by unfold mVar; rw [q1]
  rw [e1, Out.bind_ok]
  refine ⟨st1, ?_, H1⟩
  unfold pNotInD
  rw [keyOf_e, dct_ref q3] <;> rfl
/-! d[k] -/
theorem ht_getDM {kv : Kv α} {q : Mt S (List Int)} (hi : Γ[i]? = some (.mut (.dct (eK kv) (eW e kv)))) (h : HT W fr Γ m q (eT eI) fun _ => Γ) : HT W fr Γ (mOp pGetD (mVar i) m) (mbind q fun k => mopt (getP kv k)) e fun _ => Γ := fun s ρ st H => by
  obtain ⟨l, q1, q2, q3⟩ := H.mt i _ hi
  have e1 : mVar i ρ st = .ok (.ref l) st := by unfold mVar; rw [q1]
  unfold mOp
  rw [e1, Out.bind_ok]
  refine OR.bind (h s ρ st H) fun k s1 st1 H1 => ?_
  obtain ⟨l', p1, p2, p3⟩ := H1.mt i _ hi
  rw [q1] at p1
  injection p1 with p1
  injection p1 with p1
  injection p1 with p1
  subst p1
  cases eg : getP kv k with
  | none => trivial
  | some x =>
    refine ⟨st1, ?_, H1⟩
    unfold pGetD
    rw [keyOf_e, dct_ref p3]
    show lift (getK (eK kv) (eW e kv) k) st1 = _
    rw [getK_e, eg] <;> rfl
theorem af_getDc (kv : Kv α) (k : List Int) : AC W fr Γ mNil (fun ds => F2 pGetD (eDc e kv :: eT eI k :: ds)) (mopt (getP kv k)) e fun _ => Γ := ac_opt fun b h st => by
  show lift (pGetD st (eDc e kv) (eT eI k)) st = _
  unfold pGetD
  rw [keyOf_e, dct_e]
  show lift (getK (eK kv) (eW e kv) k) st = _
  rw [getK_e, h] <;> rfl
/-! d.get(k), d.get(k, None) -/
theorem ht_get1 {q : Mt S (Kv α)} {qi : Mt S (List Int)} (h : HT W fr Γ m q (eDc e) fun _ => Γ) (hi : HT W fr Γ mi qi (eT eI) fun _ => Γ) : HT W fr Γ (mGet1 m mi) (mbind q fun kv => mbind qi fun k => mpure (getP kv k)) (eO e) fun _ => Γ := fun s ρ st H => by
  unfold mGet1
  refine OR.bind (h s ρ st H) fun kv s1 st1 H1 => ?_
  rw [if_pos (by rw [dct_e]; rfl)]
  refine OR.bind (hi s1 ρ st1 H1) fun k s2 st2 H2 => ⟨st2, ?_, H2⟩
  rw [keyOf_e, dct_e]
  show lift (if (eK kv).length = (eW e kv).length then some ((getK (eK kv) (eW e kv) k).getD .non) else none) st2 = _
  rw [eK_len, eW_len, if_pos rfl, getK_e]
  cases getP kv k <;> rfl
theorem ht_get2 {me : Rho → M D} {q : Mt S (Kv α)} {qi : Mt S (List Int)} (h : HT W fr Γ m q (eDc e) fun _ => Γ) (hi : HT W fr Γ mi qi (eT eI) fun _ => Γ) (he : HV W fr Γ me .non) : HT W fr Γ (mGet2 m mi me) (mbind q fun kv => mbind qi fun k => mpure (getP kv k)) (eO e) fun _ => Γ := fun s ρ st H => by
  unfold mGet2
  refine OR.bind (h s ρ st H) fun kv s1 st1 H1 => ?_
  rw [if_pos (by rw [dct_e]; rfl)]
  refine OR.bind (hi s1 ρ st1 H1) fun k s2 st2 H2 => ?_
  rw [he s2 ρ st2 H2, Out.bind_ok]
  refine ⟨st2, ?_, H2⟩
  rw [keyOf_e, dct_e]
  show lift (if (eK kv).length = (eW e kv).length then some ((getK (eK kv) (eW e kv) k).getD .non) else none) st2 = _
  rw [eK_len, eW_len, if_pos rfl, getK_e]
  cases getP kv k <;> rfl
/-! d[k] = v -/
theorem tn_dput {kv : Kv α} {q : Mt S α} {qi : Mt S (List Int)} (hi : Γ[i]? = some (.mut (.dct (eK kv) (eW e kv)))) (h : HT W fr Γ m q e fun _ => Γ) (hj : HT W fr Γ mi qi (eT eI) fun _ => Γ) :
    TN W fr Γ (sDPut (mVar i) mi m) (mbind q fun x => mbind qi fun k => mputD kv k x) fun z => Γ.set i (.mut (.dct (eK z) (eW e z))) := fun s ρ st H => by
  refine OR.fl (h s ρ st H) fun x s1 st1 H1 => ?_
  obtain ⟨l, q1, q2, q3⟩ := H1.mt i _ hi
  have e1 : mVar i ρ st1 = .ok (.ref l) st1 := by unfold mVar; rw [q1]
  rw [e1, Out.fl_ok]
  refine OR.fl (hj s1 ρ st1 H1) fun k s2 st2 H2 => ?_
  obtain ⟨l', p1, p2, p3⟩ := H2.mt i _ hi
  rw [q1] at p1
  injection p1 with p1
  injection p1 with p1
  injection p1 with p1
  subst p1
  show NR W fr _ (match st2[l]? with
    | some (.dct ks ds) => match keyOf (eT eI k) with
      | some j => if ks.length ≤ SZ then .next ρ (st2.set l (.dct (putKs ks j) (putVs ks ds j (e x)))) else .bad
      | none => .bad
    | _ => .bad) _
  rw [p3]
  dsimp only
  rw [keyOf_e]
  dsimp only
  rw [eK_len]
  unfold mputD
  by_cases hc : kv.length ≤ SZ
  · rw [if_pos hc, if_pos hc]
    refine ⟨ρ, _, rfl, ?_⟩
    rw [putKs_e kv k x, putVs_e]
    exact H2.write _ hi q1
  · rw [if_neg hc, if_neg hc]
    trivial
/-! {k: v}, {} -/
theorem tn_newD1 {q : Mt S α} {qi : Mt S (List Int)} (hk : HT W fr Γ mk qi (eT eI) fun _ => Γ) (hv : HT W fr Γ mv q e fun _ => Γ) : TN W fr Γ (sAsg (gN i) (mNewD1 mk mv)) (mbind qi fun k => mbind q fun x => mpure [(k, x)]) fun z => Γ.set i (.mut (.dct (eK z) (eW e z))) := fun s ρ st H => by
  have e2 : sAsg (gN i) (mNewD1 mk mv) ρ st = (mk ρ st).fl ρ fun k st1 => (mv ρ st1).fl ρ fun v st2 => match keyOf k with
    | some j => .next (ρ.set i (some (.ref st2.length))) (st2 ++ [.dct [j] [v]])
    | none => .bad := by
    unfold sAsg mNewD1
    cases mk ρ st with
    | ok k st1 =>
      simp only [Out.bind_ok, Out.fl_ok]
      cases mv ρ st1 with
      | ok v st2 =>
        simp only [Out.bind_ok, Out.fl_ok]
        cases keyOf k <;> rfl
      | exc x s' => rfl
      | bad => rfl
    | exc x s' => rfl
    | bad => rfl
  rw [e2]
  refine OR.fl (hk s ρ st H) fun k s1 st1 H1 => ?_
  refine OR.fl (hv s1 ρ st1 H1) fun x s2 st2 H2 => ?_
  rw [keyOf_e]
  exact ⟨_, _, rfl, H2.setNew i (.dct [k] [e x])⟩
theorem tn_newD0 : TN W fr Γ (sAsg (gN i) mNewD0) (mpure ([] : Kv α)) fun z => Γ.set i (.mut (.dct (eK z) (eW e z))) := fun s ρ st H => ⟨_, _, rfl, H.setNew i (.dct [] [])⟩
/-- a new dict among the values of a parallel assignment -/
theorem ap_NewD {σ : Type} {pd : List (D × Sl)} {r : Rho → M (List D)} {F : Rho → List D → Sto → Fl} {k : List Int} {x : α} {q : Mt S σ} {J : σ → List Sl} (hk : HV W fr Γ mk (eT eI k)) (hv : HV W fr Γ mv (e x))
    (hr : ∀ a, AP W fr Γ (pd ++ [(.ref a, .mut (.dct (eK [(k, x)]) (eW e [(k, x)])))]) r (fun ρ ds => F ρ (.ref a :: ds)) q J) : AP W fr Γ pd (mCons (mNewD1 mk mv) r) F q J := fun s ρ st H hρ => by
  have e1 : (mCons (mNewD1 mk mv) r ρ st).fl ρ (F ρ) = (r ρ (st ++ [.dct [k] [e x]])).fl ρ fun ds st2 => F ρ (.ref st.length :: ds) st2 := by
    unfold mCons mNewD1
    rw [hk s ρ st (H.front hρ), Out.bind_ok, hv s ρ st (H.front hρ), Out.bind_ok, keyOf_e]
    dsimp only
    rw [Out.bind_ok]
    cases r ρ (st ++ [.dct [k] [e x]]) <;> rfl
  rw [e1]
  refine hr st.length s ρ _ ?_ hρ
  have := H.snocNew (.dct [k] [e x])
  rw [List.append_assoc, List.append_assoc] at this
  rw [List.map_append, List.map_append]
  exact this
/-! sorted(d), list(d) -/
theorem af_sortDc (kv : Kv α) : AC W fr Γ mNil (fun ds => FB pSortedD (eDc e kv :: ds)) (msort (lexB ltI) (eK kv)) (fun zs => zs.map (eT eI)) fun _ => Γ := ac_if fun h st => by
  have h1 := t_sorted (e := eT eI) (lt := lexB ltI) (by decide) (eK kv) h (st := st) (d := .lst ((eK kv).map (eT eI))) rfl
  show lift (pSortedD st [eDc e kv]) st = _
  unfold pSortedD
  dsimp only
  rw [dct_e]
  dsimp only
  unfold pSorted at h1
  dsimp only at h1
  rw [show seqOf st (.lst ((eK kv).map (eT eI))) = some ((eK kv).map (eT eI)) from rfl] at h1
  dsimp only at h1
  rw [List.length_map] at h1
  rw [keysD_e]
  by_cases hc : (eK kv).length ≤ SZ ∧ (∀ x ∈ (eK kv).map (eT eI), isP x = true ∧ (toP x).depth ≤ 50) ∧ PySem.W.AllAlike (((eK kv).map (eT eI)).map toP) ∧ SortableX (((eK kv).map (eT eI)).map toP)
  · rw [if_pos hc] at h1 ⊢
    rw [h1] <;> rfl
  · rw [if_neg hc] at h1
    cases h1
theorem af_listDc (kv : Kv α) : AC W fr Γ mNil (fun ds => FB pListD (eDc e kv :: ds)) (mkeys kv) (fun zs => zs.map (eT eI)) fun _ => Γ := ac_if fun h st => by
  show lift (pListD st [eDc e kv]) st = _
  unfold pListD
  dsimp only
  rw [dct_e]
  dsimp only
  rw [eK_len, if_pos h] <;> rfl
/-! a dict changed no more -/
theorem Has.fzD {s : S} {ρ : Rho} {st : Sto} {ks : List (List Int)} {xs : List D} (H : Has W fr s Γ ρ st) (h : Γ[i]? = some (.mut (.dct ks xs))) : ∃ l, ρ[i]? = some (some (.ref l)) ∧ st[l]? = some (.dct ks xs) ∧ Has W fr s (Γ.set i (.val (.fd ks xs))) (ρ.set i (some (.fd ks xs))) (st.set l .gone) := by
  obtain ⟨l, q1, q2, q3⟩ := H.mt i _ h
  refine ⟨l, q1, q3, ?_⟩
  have := (H.write .gone h q1).setVal i (.fd ks xs)
  rwa [List.set_set] at this
theorem sFzD_eq {ρ : Rho} {st : Sto} {l : Nat} {ks : List (List Int)} {xs : List D} {m : Rho → Sto → Fl} (q1 : ρ[i]? = some (some (.ref l))) (q3 : st[l]? = some (.dct ks xs)) : sFzD i m ρ st = m (ρ.set i (some (.fd ks xs))) (st.set l .gone) := by
  unfold sFzD
  rw [q1]
  dsimp only
  rw [q3]
section
variable {σ β : Type} {enc : β → D} {J : σ → List Sl} {ks : List (List Int)} {xs : List D} {m : Rho → Sto → Fl}
theorem tn_fzd {q : Mt S σ} (h : Γ[i]? = some (.mut (.dct ks xs))) (hm : TN W fr (Γ.set i (.val (.fd ks xs))) m q J) : TN W fr Γ (sFzD i m) q J := fun s ρ st H => by
  obtain ⟨l, q1, q2, H1⟩ := H.fzD h
  rw [sFzD_eq q1 q2]
  exact hm s _ _ H1
theorem tr_fzd {q : Mt S β} (h : Γ[i]? = some (.mut (.dct ks xs))) (hm : TR W fr (Γ.set i (.val (.fd ks xs))) m q enc) : TR W fr Γ (sFzD i m) q enc := fun s ρ st H => by
  obtain ⟨l, q1, q2, H1⟩ := H.fzD h
  rw [sFzD_eq q1 q2]
  exact hm s _ _ H1
theorem tl_fzd {q : Mt S (Lp σ β)} (h : Γ[i]? = some (.mut (.dct ks xs))) (hm : TL W fr (Γ.set i (.val (.fd ks xs))) m q J enc) : TL W fr Γ (sFzD i m) q J enc := fun s ρ st H => by
  obtain ⟨l, q1, q2, H1⟩ := H.fzD h
  rw [sFzD_eq q1 q2]
  exact hm s _ _ H1
end
theorem clean_preL {s s' : S} {st' : Sto} {d : D} (hd : ∀ n, d.low n = true) (h : Pre W fr s' st') : clean (W.st s ++ fr) (.ok d st') = .ok d (W.st s' ++ fr) := by
  obtain ⟨loc, rfl⟩ := h
  have hl : (W.st s).length = W.n := W.len s
  have hl' : (W.st s').length = W.n := W.len s'
  have ht : Tidy (W.st s ++ fr) (W.st s' ++ (fr ++ loc)) := by
    refine ⟨by simp only [List.length_append, hl, hl']; omega, fun l m hlt e => ?_⟩
    rw [List.length_append, hl] at hlt
    by_cases h1 : l < W.n
    · rw [List.getElem?_append_left (by omega)] at e
      right
      exact mo_low_mono (W.low s' l m e) (by rw [List.length_append, hl]; omega)
    · left
      rw [List.getElem?_append_right (by omega), List.getElem?_append_left (by omega)] at e
      rw [List.getElem?_append_right (by omega)]
      rw [hl]
      rw [hl'] at e
      exact e
  rw [clean_drop (hd _) ht]
  congr 1
  rw [← List.append_assoc, List.take_append_of_le_length (by simp [hl, hl']), List.take_of_length_le (by simp [hl, hl'])]
theorem fnT_ofL {β : Type} {enc : β → D} {np nN : Nat} {m : Rho → Sto → Fl} {ds : List D} {q : Mt S β} [Lo enc] (hn : ds.length = np) (hl : ds.length ≤ nN) (h : ∀ fr, TR W fr (ds.map .val ++ List.replicate (nN - ds.length) .any) m q enc) : FN W (fnD np nN m) ds q enc := fun fr s => by
  have := h fr s _ _ (has_start (W := W) (np := np) (s := s) (fr := fr) hl)
  unfold fnD
  rw [if_pos hn]
  revert this
  show RR W fr enc _ (q s) → FO W fr enc _ (q s)
  generalize q s = r
  cases r with
  | ok b s' =>
    rintro ⟨st', e, h2⟩
    rw [e]
    exact clean_preL (Lo.lo b) h2
  | exc x s' =>
    rintro ⟨ρ', st', e, h2, h3⟩
    rw [e]
    exact ⟨clean_preX h3 h2, h3⟩
  | bad => intro _; trivial
end
theorem rok_non : ROk 0 0 .non := ⟨rfl, by decide, Nat.le_refl _, by decide, by decide, by decide⟩
end Dn
/-! DnZf: errors, typed. -/
namespace Dn
open PySem PySem.Spec PyProof.Rows L2
/-! words for the printer -/
def ErrX (K : PySem.W.Frag) (mg : Str → Option Value) (x : Str) : Prop := ∃ C, ErrN K mg x C
def RaX (K : PySem.W.Frag) (mg : Str → Option Value) (x : Str) : Prop := ∃ C, ErrN K mg x C ∧ PySem.W.excIn K C [.type "ValueError", .type "Exception", .type "BaseException", .type "object"] "ValueError.__new__" = true
theorem al_nil {α : Type} {P : α → Prop} : ∀ z ∈ ([] : List α), P z := fun _ h => nomatch h
theorem al_cons {α : Type} {P : α → Prop} {a : α} {l : List α} (h : P a) (hl : ∀ z ∈ l, P z) : ∀ z ∈ a :: l, P z := fun z hz => by
  rcases List.mem_cons.mp hz with rfl | q
  · exact h
  · exact hl z q
theorem ds_raiseX {X : Cx} {W : WX} {x : Str} {p pos pos' : Pos} (hc : X.calm = true) (tk : Takes X W) (T : RaX X.K X.mg x) (hg : Gl X x) (hdb : (x == ("__debug__" : Str)) = false := by decide) :
    DS X W (.Raise (some (.Call (.Name x p) [] [] pos)) none pos') (sRaise x) := by
  obtain ⟨C, T, q⟩ := T
  exact ds_raise0 hc tk T q hg hdb
theorem ds_tryX {X : Cx} {W : WX} {k : Nat} {y n : Str} {i : Nat} {body suite : List Stmt} {b₀ : Stmt} {np pos pos' : Pos} {mb : Rho → Sto → Fl} {mh : Xc → D → Rho → Sto → Fl} {yes no : List Str} (bd : Bd X W k) (hs : X.stack = X.env :: X.outer) (hf : X.env.frame = some X.env.locals) (hi : X.N[i]? = some n) (hln : X.env.kindOf n = some .local) (hg : Gl X y) (T : ErrX X.K X.mg y)
    (hE1 : ∀ z ∈ yes, ErrX X.K X.mg z) (hE2 : ∀ z ∈ no, ErrX X.K X.mg z) (hyes : ∀ z ∈ yes, ExmB X.K z y true) (hno : ∀ z ∈ no, ExmB X.K z y false)
    (hb : ∀ (W' : WX) (pn : List (Addr × Obj)) (xe : Value → Shared → Prop), Takes (X.tr pn xe) W' → PassesOwn (model X.prog X.w) X.A X.env xe → DSs (X.tr pn xe) W' body mb)
    (hh : ∀ (x : Xc) (e : D) (a : Addr) (oe : Obj) (pn : List (Addr × Obj)), x.nm ∈ yes → HC X x e a oe → DSs (X.suite a ((a, oe) :: pn)) wN (b₀ :: suite) (mh x e))
    (hu : ∀ (x : Xc) (e e' : D) (st : Sto), x.nm ∈ yes → EvX x e → EvX x e' → tidyF i (mh x e (envH X.N.length i e) st) = tidyF i (mh x e' (envH X.N.length i e') st))
    (hdb : (y == ("__debug__" : Str)) = false := by decide) :
    DS X W (.Try body [.ExceptHandler (some (.Name y np)) (some n) (b₀ :: suite) pos'] [] [] pos) (sTry i yes no mb mh) := by
  obtain ⟨C, T⟩ := T
  exact ds_try hs hf bd.nd hi hln hg T bd.tk (fun z hz => by
    rcases List.mem_append.mp hz with q | q
    · exact hE1 z q
    · exact hE2 z q) hyes hno hb hh hu hdb
section
variable {X : Cx} {x : Xc} {e : D} {a : Addr} {oe : Obj} {pn : List (Addr × Obj)} {i : Nat} {p p2 p3 p4 p5 pos : Pos} {yes no : List Str} {y z ev : Str} {kk : Nat}
theorem de_isX (c : HC X x e a oe) (hg : Gl (X.suite a ((a, oe) :: pn)) "isinstance") (hm : X.mg "isinstance" = none) (hv : DE (X.suite a ((a, oe) :: pn)) wN (.Name ev p2) (mVar i)) (T : ErrX X.K X.mg y) (hgy : Gl (X.suite a ((a, oe) :: pn)) y)
    (hy : ∀ z ∈ yes, KitB X.K z y true) (hn : ∀ z ∈ no, KitB X.K z y false) (hdb : (y == ("__debug__" : Str)) = false := by decide)
    (hs : starEach [.Name ev p2, .Name y p3] X.env = (false, eval (.Name ev p2) X.env) :: starEach [.Name y p3] X.env := by rfl) (hs2 : starEach [.Name y p3] X.env = (false, eval (.Name y p3) X.env) :: starEach [] X.env := by rfl) (hpl : (backTo pos (starEach [.Name y p3] X.env)).any (·.1) = false := by rfl) :
    DE (X.suite a ((a, oe) :: pn)) wN (.Call (.Name "isinstance" p) [.Name ev p2, .Name y p3] [] pos) (mXis i x e yes no) := by
  obtain ⟨C, T⟩ := T
  exact de_isE c hg hm hv T hgy hy hn hdb hs hs2 hpl
theorem de_isX2 (c : HC X x e a oe) (hg : Gl (X.suite a ((a, oe) :: pn)) "isinstance") (hm : X.mg "isinstance" = none) (hv : DE (X.suite a ((a, oe) :: pn)) wN (.Name ev p2) (mVar i)) (Ty : ErrX X.K X.mg y) (hgy : Gl (X.suite a ((a, oe) :: pn)) y) (Tz : ErrX X.K X.mg z) (hgz : Gl (X.suite a ((a, oe) :: pn)) z)
    (hy : ∀ n ∈ yes, KitB X.K n y true ∨ (KitB X.K n y false ∧ KitB X.K n z true)) (hn : ∀ n ∈ no, KitB X.K n y false ∧ KitB X.K n z false) (hdb : (y == ("__debug__" : Str)) = false := by decide) (hdb2 : (z == ("__debug__" : Str)) = false := by decide)
    (hs : starEach [.Name ev p2, .Tuple [.Name y p3, .Name z p4] kk p5] X.env = (false, eval (.Name ev p2) X.env) :: starEach [.Tuple [.Name y p3, .Name z p4] kk p5] X.env := by rfl) (hs2 : starEach [.Tuple [.Name y p3, .Name z p4] kk p5] X.env = (false, eval (.Tuple [.Name y p3, .Name z p4] kk p5) X.env) :: starEach [] X.env := by rfl) (hpl : (backTo pos (starEach [.Tuple [.Name y p3, .Name z p4] kk p5] X.env)).any (·.1) = false := by rfl)
    (hs3 : starEach [.Name y p3, .Name z p4] X.env = (false, eval (.Name y p3) X.env) :: starEach [.Name z p4] X.env := by rfl) (hs4 : starEach [.Name z p4] X.env = (false, eval (.Name z p4) X.env) :: starEach [] X.env := by rfl) :
    DE (X.suite a ((a, oe) :: pn)) wN (.Call (.Name "isinstance" p) [.Name ev p2, .Tuple [.Name y p3, .Name z p4] kk p5] [] pos) (mXis i x e yes no) := by
  obtain ⟨C, Ty⟩ := Ty
  obtain ⟨C2, Tz⟩ := Tz
  exact de_isE2 c hg hm hv Ty hgy Tz hgz hy hn hdb hdb2 hs hs2 hpl hs3 hs4
end
/-! the suite's meaning does not name the error -/
def flT {α : Type} (r : Out α) (f : α → Sto → Fl) : Fl := match r with
  | .ok a st => f a st
  | _ => .bad
theorem tidy_fl {α : Type} (i : Nat) (r : Out α) (ρ : Rho) (f : α → Sto → Fl) : tidyF i (r.fl ρ f) = flT r fun a st => tidyF i (f a st) := by cases r <;> rfl
theorem tidy_ite (i : Nat) (c : Prop) [Decidable c] (a b : Fl) : tidyF i (if c then a else b) = if c then tidyF i a else tidyF i b := by split <;> rfl
theorem tidy_ret (i : Nat) (d : D) (st : Sto) : tidyF i (.ret d st) = .ret d st := rfl
theorem tidy_next (i n : Nat) (e : D) (st : Sto) : tidyF i (.next (envH n i e) st) = .next ((List.replicate n none).set i none) st := by
  show Fl.next ((envH n i e).set i none) st = _
  rw [envH_set]
/-! ### typed -/
def mtry {S β : Type} (yes no : List Str) (q : Mt S β) (h : Xc → Mt S β) : Mt S β := fun s => match q s with
  | .ok b s' => .ok b s'
  | .exc x s' => if x.nm ∈ yes then rcalm (h x s') else if x.nm ∈ no then .exc x s' else .bad
  | .bad => .bad
def mtryF {S β : Type} (yes no : List Str) (q : Mt S β) (h : Xc → Mt S (Unit ⊕ β)) : Mt S (Unit ⊕ β) := fun s => match q s with
  | .ok b s' => .ok (.inr b) s'
  | .exc x s' => if x.nm ∈ yes then rcalm (h x s') else if x.nm ∈ no then .exc x s' else .bad
  | .bad => .bad
def misE {S : Type} (x : Xc) (yes no : List Str) : Mt S Bool := if x.nm ∈ yes then mpure true else if x.nm ∈ no then mpure false else mbad
def mflE {S : Type} (x : Xc) (f : Str) : Mt S D := match x.fld with
  | some (g, d) => if g = f then mpure d else mbad
  | none => mbad
def mplain {S : Type} (d : D) : Mt S D := if isP d = true then mpure d else mbad
theorem mtry_pure {S β : Type} {yes no : List Str} (b : β) (h : Xc → Mt S β) : mtry yes no (mpure b) h = mpure b := rfl
theorem mtry_raise {S β : Type} {yes no : List Str} {x : Xc} (h : Xc → Mt S β) (hx : x.nm ∈ yes) : mtry yes no (mraise x) h = calmly (h x) := by
  funext s
  show (if x.nm ∈ yes then rcalm (h x s) else _) = _
  rw [if_pos hx] <;> rfl
theorem mtryF_pure {S β : Type} {yes no : List Str} (b : β) (h : Xc → Mt S (Unit ⊕ β)) : mtryF yes no (mpure b) h = mpure (.inr b) := rfl
theorem mtryF_raise {S β : Type} {yes no : List Str} {x : Xc} (h : Xc → Mt S (Unit ⊕ β)) (hx : x.nm ∈ yes) : mtryF yes no (mraise x) h = calmly (h x) := by
  funext s
  show (if x.nm ∈ yes then rcalm (h x s) else _) = _
  rw [if_pos hx] <;> rfl
section
variable {S : Type} {W : Wd S} {fr : Sto} {Γ : List Sl} {β : Type} {enc : β → D}
theorem tr_raise {x : Str} : TR W fr Γ (sRaise x) (mraise ⟨x, none⟩ : Mt S β) enc := fun s ρ st H => ⟨ρ, st, rfl, H.pre, trivial⟩
theorem tr_never : TR W fr Γ sNever (mbad : Mt S β) enc := fun s ρ st H => trivial
/-- the suite's slots -/
abbrev anyG (n : Nat) : List Sl := List.replicate n .any
theorem has_env {s : S} {st : Sto} (h : Pre W fr s st) (n i : Nat) (e : D) : Has W fr s ((anyG n).set i (.val e)) (envH n i e) st := by
  have g : ∀ (j : Nat) a, ((anyG n).set i (.val e))[j]? = some a → a = .any ∨ (i = j ∧ j < n ∧ a = .val e) := fun j a q => by
    by_cases hj : i = j
    · subst hj
      have hl : i < n := by have := (List.getElem?_eq_some_iff.mp q).1; simpa using this
      rw [List.getElem?_set_self (by simpa using hl)] at q
      cases q
      exact .inr ⟨rfl, hl, rfl⟩
    · rw [List.getElem?_set_ne hj, List.getElem?_replicate] at q
      split at q
      · cases q; exact .inl rfl
      · cases q
  refine ⟨by unfold envH; simp, h, fun j d q => ?_, fun j m q => ?_, fun j k m1 m2 q => ?_⟩
  · rcases g j _ q with q | ⟨rfl, hl, q⟩
    · cases q
    · cases q
      unfold envH
      rw [List.getElem?_set_self (by simpa using hl)]
  · rcases g j _ q with q | ⟨_, _, q⟩ <;> cases q
  · rcases g j _ q with q | ⟨_, _, q⟩ <;> cases q
theorem tr_try {i : Nat} {yes no : List Str} {mb : Rho → Sto → Fl} {mh : Xc → D → Rho → Sto → Fl} {q : Mt S β} {qh : Xc → Mt S β} (hm : TR W fr Γ mb q enc) (hh : ∀ x, TR W fr ((anyG Γ.length).set i (.val (e0 x))) (mh x (e0 x)) (qh x) enc) : TR W fr Γ (sTry i yes no mb mh) (mtry yes no q qh) enc := fun s ρ st H => by
  have := hm s ρ st H
  unfold sTry mtry
  revert this
  show RR W fr enc _ (q s) → RR W fr enc _ _
  cases q s with
  | bad => intro _; trivial
  | ok b s' => rintro ⟨st', e, h2⟩; rw [e]; exact ⟨st', rfl, h2⟩
  | exc x s' =>
    rintro ⟨ρ', st', e, h2, h3⟩
    rw [e]
    dsimp only
    by_cases h1 : x.nm ∈ yes
    · rw [if_pos h1, if_pos h1, H.len]
      have := hh x s' _ _ (has_env h2 Γ.length i (e0 x))
      revert this
      cases qh x s' with
      | bad => intro _; trivial
      | ok b s2 => rintro ⟨st2, e2, h4⟩; exact ⟨st2, by rw [e2] <;> rfl, h4⟩
      | exc x2 s2 => intro _; trivial
    · rw [if_neg h1, if_neg h1]
      by_cases h4 : x.nm ∈ no
      · rw [if_pos h4, if_pos h4]
        exact ⟨ρ', st', rfl, h2, h3⟩
      · rw [if_neg h4, if_neg h4]
        trivial
theorem tf_try {i : Nat} {yes no : List Str} {mb : Rho → Sto → Fl} {mh : Xc → D → Rho → Sto → Fl} {q : Mt S β} {qh : Xc → Mt S (Unit ⊕ β)} (hm : TR W fr Γ mb q enc) (hh : ∀ x, TF W fr ((anyG Γ.length).set i (.val (e0 x))) (mh x (e0 x)) (qh x) (fun _ => anyG Γ.length) enc) :
    TF W fr Γ (sTry i yes no mb mh) (mtryF yes no q qh) (fun _ => anyG Γ.length) enc := fun s ρ st H => by
  have := hm s ρ st H
  unfold sTry mtryF
  revert this
  show RR W fr enc _ (q s) → FR W fr _ enc _ _
  cases q s with
  | bad => intro _; trivial
  | ok b s' => rintro ⟨st', e, h2⟩; rw [e]; exact ⟨st', rfl, h2⟩
  | exc x s' =>
    rintro ⟨ρ', st', e, h2, h3⟩
    rw [e]
    dsimp only
    by_cases h1 : x.nm ∈ yes
    · rw [if_pos h1, if_pos h1, H.len]
      have := hh x s' _ _ (has_env h2 Γ.length i (e0 x))
      revert this
      cases qh x s' with
      | bad => intro _; trivial
      | ok b s2 =>
        cases b with
        | inl z =>
          rintro ⟨ρ2, st2, e2, h4⟩
          refine ⟨ρ2.set i none, st2, by rw [e2] <;> rfl, ?_⟩
          have := h4.unset i
          have eg : (anyG Γ.length).set i .any = anyG Γ.length := by
            apply List.ext_getElem?
            intro j
            by_cases hj : i = j
            · subst hj
              by_cases hl : i < Γ.length
              · rw [List.getElem?_set_self (by simpa using hl), List.getElem?_replicate, if_pos hl]
              · rw [List.getElem?_eq_none (by simpa using hl), List.getElem?_eq_none (by simpa using hl)]
            · rw [List.getElem?_set_ne hj]
          rwa [eg] at this
        | inr b => rintro ⟨st2, e2, h4⟩; exact ⟨st2, by rw [e2] <;> rfl, h4⟩
      | exc x2 s2 => intro _; trivial
    · rw [if_neg h1, if_neg h1]
      by_cases h4 : x.nm ∈ no
      · rw [if_pos h4, if_pos h4]
        exact ⟨ρ', st', rfl, h2, h3⟩
      · rw [if_neg h4, if_neg h4]
        trivial
theorem tf_ofR {σ : Type} {J : σ → List Sl} {m : Rho → Sto → Fl} {q : Mt S β} (h : TR W fr Γ m q enc) : TF W fr Γ m (mbind q fun b => mpure (.inr b)) J enc := fun s ρ st H => by
  have := h s ρ st H
  revert this
  show RR W fr enc _ _ → FR W fr J enc _ (rbind (q s) _)
  cases q s with
  | ok z s' => exact id
  | exc x s' => exact id
  | bad => exact id
theorem tf_next {J : Unit → List Sl} (w : Wk Γ (J ())) : TF W fr Γ sNext (mpure (.inl ()) : Mt S (Unit ⊕ β)) J enc := fun s ρ st H => ⟨ρ, st, rfl, H.wk w⟩
theorem tf_if {σ : Type} {J : σ → List Sl} {t : Rho → M Bool} {a b : Rho → Sto → Fl} {qt : Mt S Bool} {qa qb : Mt S (σ ⊕ β)} (ht : HT W fr Γ t qt id fun _ => Γ) (ha : TF W fr Γ a qa J enc) (hb : TF W fr Γ b qb J enc) : TF W fr Γ (sIf t a b) (mbind qt fun c => if c = true then qa else qb) J enc := fun s ρ st H => by
  have := ht s ρ st H
  revert this
  show OR W fr _ ρ id _ (qt s) → FR W fr J enc _ (rbind (qt s) _)
  unfold sIf
  cases qt s with
  | ok c s1 =>
    rintro ⟨st1, e, H1⟩
    rw [e, Out.fl_ok]
    cases c
    · exact hb s1 ρ st1 H1
    · exact ha s1 ρ st1 H1
  | exc x s1 => rintro ⟨st1, e, h2⟩; exact ⟨ρ, st1, by rw [e] <;> rfl, h2⟩
  | bad => intro _; trivial
theorem ht_isE {i : Nat} {x : Xc} {e : D} {yes no : List Str} (hi : Γ[i]? = some (.val e)) : HT W fr Γ (mXis i x e yes no) (misE x yes no) eB fun _ => Γ := fun s ρ st H => by
  unfold mXis misE mVar
  rw [H.val i _ hi]
  dsimp only
  rw [Out.bind_ok, if_pos rfl]
  by_cases h1 : x.nm ∈ yes
  · rw [if_pos h1, if_pos h1]
    exact ⟨st, rfl, H⟩
  · rw [if_neg h1, if_neg h1]
    by_cases h2 : x.nm ∈ no
    · rw [if_pos h2, if_pos h2]
      exact ⟨st, rfl, H⟩
    · rw [if_neg h2, if_neg h2]
      trivial
theorem ht_flE {i : Nat} {x : Xc} {e : D} {f : Str} (hi : Γ[i]? = some (.val e)) : HT W fr Γ (mXfl i x e f) (mflE x f) eD fun _ => Γ := fun s ρ st H => by
  unfold mXfl mflE mVar
  rw [H.val i _ hi]
  dsimp only
  rw [Out.bind_ok, if_pos rfl]
  cases x.fld with
  | none => trivial
  | some p =>
    dsimp only
    by_cases h : p.1 = f
    · rw [if_pos h, if_pos h]
      exact ⟨st, rfl, H⟩
    · rw [if_neg h, if_neg h]
      trivial
/-- a def that gives what is told by D itself -/
theorem fnT_ofD {np nN : Nat} {m : Rho → Sto → Fl} {ds : List D} {q : Mt S D} (hn : ds.length = np) (hl : ds.length ≤ nN) (h : ∀ fr, TR W fr (ds.map .val ++ List.replicate (nN - ds.length) .any) m q eD) : FN W (fnD np nN m) ds (mbind q mplain) eD := fun fr s => by
  have := h fr s _ _ (has_start (W := W) (np := np) (s := s) (fr := fr) hl)
  unfold fnD
  rw [if_pos hn]
  revert this
  show RR W fr eD _ (q s) → FO W fr eD _ (rbind (q s) mplain)
  generalize q s = r
  cases r with
  | ok b s' =>
    rintro ⟨st', e, h2⟩
    rw [e]
    show FO W fr eD _ (mplain b s')
    unfold mplain
    by_cases hb : isP b = true
    · rw [if_pos hb]
      exact clean_pre hb h2
    · rw [if_neg hb]
      trivial
  | exc x s' =>
    rintro ⟨ρ', st', e, h2, h3⟩
    rw [e]
    exact ⟨clean_preX h3 h2, h3⟩
  | bad => intro _; trivial
/-! list(zip(a, b)) -/
def mzipL {α γ : Type} (xs : List α) (ys : List γ) : Mt S (List (α × γ)) := if min xs.length ys.length ≤ 100000 then mpure (xs.zip ys) else mbad
theorem zipTD_e {α γ : Type} (e : α → D) (f : γ → D) (xs : List α) (ys : List γ) : zipTD (xs.map e) (ys.map f) = (xs.zip ys).map (eP e f) := by
  unfold zipTD
  rw [List.zip_map, List.map_map] <;> rfl
theorem ht_lstZip {α γ : Type} {e : α → D} {f : γ → D} {m1 m2 : Rho → M D} {q1 : Mt S (List α)} {q2 : Mt S (List γ)} (h1 : HT W fr Γ m1 q1 (eT e) fun _ => Γ) (h2 : HT W fr Γ m2 q2 (eT f) fun _ => Γ) : HT W fr Γ (lLstZip m1 m2) (mbind q1 fun xs => mbind q2 fun ys => mzipL xs ys) (fun zs => zs.map (eP e f)) fun _ => Γ := fun s ρ st H => by
  unfold lLstZip
  refine OR.bind (h1 s ρ st H) fun xs s1 st1 H1 => ?_
  refine OR.bind (h2 s1 ρ st1 H1) fun ys s2 st2 H2 => ?_
  show OR W fr _ ρ _ (if min (xs.map e).length (ys.map f).length ≤ 100000 then .ok (zipTD (xs.map e) (ys.map f)) st2 else .bad) (mzipL xs ys s2)
  rw [List.length_map, List.length_map]
  unfold mzipL
  by_cases h : min xs.length ys.length ≤ 100000
  · rw [if_pos h, if_pos h]
    exact ⟨st2, by rw [zipTD_e], H2⟩
  · rw [if_neg h, if_neg h]
    trivial
end
theorem eT_some {α : Type} (e : α → D) (xs : List α) : eT e xs = eT (eO e) (xs.map some) := by
  unfold eT
  rw [List.map_map] <;> rfl
theorem eL_some {α : Type} (e : α → D) (xs : List α) : eL e xs = eL (eO e) (xs.map some) := by
  unfold eL
  rw [List.map_map] <;> rfl
/-! a list of two things of unlike kinds -/
def eQ {α β : Type} (e : α → D) (f : β → D) (z : α × β) : D := .lst [e z.1, f z.2]
instance {α β : Type} {e : α → D} {f : β → D} [Pl e] [Pl f] : Pl (eQ e f) := ⟨fun z => by unfold eQ; simp only [isP, isPs, Pl.p, Bool.and_self]⟩
instance {α β : Type} [DecidableEq α] [DecidableEq β] {e : α → D} {f : β → D} {n m : Nat} [Ev e n] [Ev f m] : Ev (eQ e f) (max n m + 1) := ⟨fun z => by unfold eQ; simp only [isP, isPs, Ev.p, Bool.and_self], fun z => by
  unfold eQ
  have h1 := Ev.dep (e := e) z.1
  have h2 := Ev.dep (e := f) z.2
  simp only [toP, toPs, PyData.depth, PyData.depthAll]
  omega, fun x y => by
  unfold eQ
  simp only [toP, toPs, PyData.eqv, PyData.eqvAll, Ev.eq]
  rw [Bool.eq_iff_iff]
  simp [Prod.ext_iff]⟩
end Dn
/-! DnZg: objects by value, typed. -/
namespace Dn
open PySem PySem.Spec PyProof.Rows L2
section
variable {S : Type} {W : Wd S} {fr : Sto} {Γ : List Sl} {α β : Type}
theorem hv_fld {nm f : Str} {m : Rho → M D} {d d' : D} (hm : HV W fr Γ m d) (h : ∀ st, (insOf nm st d).bind (fun fs => fs.lookup f) = some d') : HV W fr Γ (mFld nm f m) d' := fun s ρ st H => by
  unfold mFld
  rw [hm s ρ st H, Out.bind_ok, h st]
  rfl
theorem ht_methO {nm f : Str} {spec : List D → M D} {mo : Rho → M D} {am : Rho → M (List D)} {d : D} {q : Mt S β} {enc : β → D} {Γ' : β → List Sl} (hm : HV W fr Γ mo d) (h : ∀ st, ((insOf nm st d).bind fun fs => fs.lookup f).isNone = true ∧ (insOf nm st d).isSome = true) (hc : HT W fr Γ (mCall spec (mCons mo am)) q enc Γ') : HT W fr Γ (mMethO nm f spec mo am) q enc Γ' := fun s ρ st H => by
  have hc := hc s ρ st H
  have e : mMethO nm f spec mo am ρ st = mCall spec (mCons mo am) ρ st := by
    unfold mMethO mCall mCons
    rw [hm s ρ st H, Out.bind_ok, Out.bind_ok, if_pos (h st), Out.bind_assoc] <;> rfl
  rw [e]
  exact hc
/-- an item of any value -/
def midxD (d : D) (i : Int) : Mt S D := match d with
  | .tup xs => midx xs i
  | _ => mbad
theorem af_idxD (d : D) (i : Int) : AC W fr Γ mNil (fun ds => F2 pIdx (eD d :: eI i :: ds)) (midxD d i) eD fun _ => Γ := by
  cases d with
  | tup xs =>
    have := af_idxT (W := W) (fr := fr) (Γ := Γ) (e := eD) xs i
    have e : eT eD xs = eD (.tup xs) := by
      show D.tup (xs.map fun d => d) = D.tup xs
      rw [List.map_id']
    rw [e] at this
    exact this
  | _ => exact fun s ρ st H => trivial
theorem ht_countM {n : Nat} [DecidableEq α] {e : α → D} [Ev e n] {i : Nat} {m : Rho → M D} {q : Mt S α} {xs : List α} (hn : n < 60) (hi : Γ[i]? = some (.mut (.lst (xs.map e)))) (h : HT W fr Γ m q e fun _ => Γ) :
    HT W fr Γ (mMeth "list" pCountL (mVar i) (mCons m mNil)) (mbind q fun y => mcountD e xs y) eI fun _ => Γ := fun s ρ st H => by
  obtain ⟨l, q1, q2, q3⟩ := H.mt i _ hi
  have h1 := h s ρ st H
  show OR W fr _ ρ _ _ (rbind (q s) _)
  revert h1
  cases q s with
  | ok x s1 =>
    rintro ⟨st1, e1, H1⟩
    rw [mMeth_one q1 q3 e1]
    obtain ⟨l', p1, p2, p3⟩ := H1.mt i _ hi
    rw [q1] at p1
    injection p1 with p1
    injection p1 with p1
    injection p1 with p1
    subst p1
    show OR W fr _ ρ _ _ (mcountD e xs x s1)
    unfold mcountD
    split
    · rename_i hl
      refine ⟨st1, ?_, H1⟩
      unfold pCountL
      have : lstOf st1 (.ref l) = some (xs.map e) := by
        unfold lstOf; dsimp only
        rw [p3]
      rw [this]
      show nox (lift (countD (xs.map e) (e x)) st1) = _
      rw [countD_e hn hl.1 hl.2] <;> rfl
    · trivial
  | exc x s1 =>
    rintro ⟨st1, e1, H1⟩
    refine ⟨st1, ?_, H1⟩
    have e1' : mVar i ρ st = .ok (.ref l) st := by unfold mVar; rw [q1]
    unfold mMeth
    rw [e1', Out.bind_ok, if_pos (isTy_ref q3)]
    unfold mCons
    rw [e1] <;> rfl
  | bad => intro _; trivial
theorem t_isB (a b : Bool) (st : Sto) : pIsB st (eB a) (eB b) = some (.bl (a == b)) := rfl
theorem t_isNotB (a b : Bool) (st : Sto) : pIsNotB st (eB a) (eB b) = some (.bl (!(a == b))) := rfl
theorem t_addI (a b : Int) (st : Sto) : pAddI st (eI a) (eI b) = some (eI (a + b)) := rfl
end
/-! ### a word with one list, or with a number and a list -/
inductive CV where
  | two (w : Str) (xs : List Int) | three (w : Str) (b : Int) (ms : List Int)
def eCV : CV → D
  | .two w xs => eP eS (eT eI) (w, xs)
  | .three w b ms => eP3 eS eI (eT eI) (w, b, ms)
def CV.w : CV → Str
  | .two w _ => w
  | .three w _ _ => w
def CV.len : CV → Int
  | .two _ _ => 2
  | .three _ _ _ => 3
def CV.xs? : CV → Option (List Int)
  | .two _ xs => some xs
  | .three _ _ _ => none
def CV.b? : CV → Option Int
  | .two _ _ => none
  | .three _ b _ => some b
def CV.ms? : CV → Option (List Int)
  | .two _ _ => none
  | .three _ _ ms => some ms
instance : Pl eCV := ⟨fun v => by
  cases v with
  | two w xs => exact Pl.p (e := eP eS (eT eI)) (w, xs)
  | three w b ms => exact Pl.p (e := eP3 eS eI (eT eI)) (w, b, ms)⟩
theorem t_lenCV (v : CV) (st : Sto) : pLen st [eCV v] = some (eI v.len) := by cases v <;> rfl
theorem t_cv0 (v : CV) (st : Sto) : pIdx st (eCV v) (eI 0) = some (eS v.w) := by cases v <;> rfl
theorem ty_cv (v : CV) (st : Sto) : tyD st (eCV v) = some "tuple" := by cases v <;> rfl
section
variable {S : Type} {W : Wd S} {fr : Sto} {Γ : List Sl}
theorem af_cv_xs (v : CV) : AC W fr Γ mNil (fun ds => F2 pIdx (eCV v :: eI 1 :: ds)) (mopt v.xs?) (eT eI) fun _ => Γ := ac_opt fun b h st => by
  cases v with
  | two w xs => cases h; rfl
  | three w b ms => cases h
theorem af_cv_b (v : CV) : AC W fr Γ mNil (fun ds => F2 pIdx (eCV v :: eI 1 :: ds)) (mopt v.b?) eI fun _ => Γ := ac_opt fun b h st => by
  cases v with
  | two w xs => cases h
  | three w b ms => cases h; rfl
theorem af_cv_ms (v : CV) : AC W fr Γ mNil (fun ds => F2 pIdx (eCV v :: eI 2 :: ds)) (mopt v.ms?) (eT eI) fun _ => Γ := ac_opt fun b h st => by
  cases v with
  | two w xs => cases h
  | three w b ms => cases h; rfl
end
section
variable {S : Type} {W : Wd S} {fr : Sto} {Γ : List Sl} {β γ : Type} {enc : β → D} {enc' : γ → D}
/-- a def with *args -/
theorem fnV {d : List D → M D} {args : List D} {q : Mt S β} (h : FN W d [.tup args] q enc) (hz : args.length ≤ SZ) : FN W (varD d) args q enc := fun fr s => by
  unfold varD
  rw [if_pos hz]
  exact h fr s
theorem tr_raiseF {nm f : Str} {m : Rho → M D} {q : Mt S β} {Γ' : β → List Sl} [Pl enc] (h : HT W fr Γ m q enc Γ') : TR W fr Γ (sRaiseF nm f m) (mbind q fun b => (mraise ⟨nm, some (f, enc b)⟩ : Mt S γ)) enc' := fun s ρ st H => by
  have := h s ρ st H
  unfold sRaiseF mbind
  revert this
  show OR W fr Γ' ρ enc _ _ → RR W fr enc' _ _
  cases q s with
  | ok b s' => rintro ⟨st', e, h2⟩; exact ⟨ρ, st', by rw [e]; rfl, h2.pre, Pl.p b⟩
  | exc x s' => rintro ⟨st', e, h2⟩; exact ⟨ρ, st', by rw [e]; rfl, h2⟩
  | bad => intro _; trivial
end
section
variable {S : Type} {W : Wd S} {fr : Sto} {Γ : List Sl}
def mneD (a b : D) : Mt S Bool := if isP a = true ∧ isP b = true ∧ (toP a).depth ≤ 64 then mpure (!PyData.eqv (toP a) (toP b)) else mbad
theorem af_neD (a b : D) : AC W fr Γ mNil (fun ds => F2 pNe (eD a :: eD b :: ds)) (mneD a b) eB fun _ => Γ := ac_if fun h st => by
  show lift (pNe st a b) st = _
  rw [pNe_dat (dat_P h.1) (dat_P h.2.1) (by omega)] <;> rfl
end
end Dn
/-! DnZh: sorted(set(..)) of a list or a tuple of fewer than 1200 tuples of numbers. -/
namespace Dn
open PySem PySem.Spec PyProof.Rows L2
/-! ### larger tables: the round of i -> 5 i + 1 meets every slot -/
/-- the slots met from i on, as bits -/
def orb (m : Nat) : Nat → Nat → Nat → Nat
  | 0, _, acc => acc
  | k + 1, i, acc => if acc = 0 then orb m k ((i * 5 + 1) % (m + 1)) (acc ||| 1 <<< i) else orb m k ((i * 5 + 1) % (m + 1)) (acc ||| 1 <<< i)
def MaskB (m : Nat) : Prop := m = 7 ∨ m = 31 ∨ m = 127 ∨ m = 511 ∨ m = 2047
theorem lcgI_succ' (m : Nat) : ∀ (k i : Nat), lcgI m ((i * 5 + 1) % (m + 1)) k = lcgI m i (k + 1)
  | 0, _ => rfl
  | k + 1, i => by
    show (lcgI m ((i * 5 + 1) % (m + 1)) k * 5 + 1) % (m + 1) = (lcgI m i (k + 1) * 5 + 1) % (m + 1)
    rw [lcgI_succ' m k i]
theorem orb_bit (m j : Nat) : ∀ (k i acc : Nat), (orb m k i acc).testBit j = true → acc.testBit j = true ∨ ∃ b, b < k ∧ lcgI m i b = j
  | 0, _, _, h => .inl h
  | k + 1, i, acc, h => by
    have e : orb m (k + 1) i acc = orb m k ((i * 5 + 1) % (m + 1)) (acc ||| 1 <<< i) := by
      conv => lhs; unfold orb
      split <;> rfl
    rw [e] at h
    rcases orb_bit m j k _ _ h with q | ⟨b, hb, q⟩
    · rw [Nat.testBit_or, Bool.or_eq_true] at q
      rcases q with q | q
      · exact .inl q
      · rw [Nat.one_shiftLeft, Nat.testBit_two_pow, decide_eq_true_eq] at q
        exact .inr ⟨0, Nat.succ_pos _, q⟩
    · exact .inr ⟨b + 1, Nat.succ_lt_succ hb, by rw [← lcgI_succ']; exact q⟩
theorem orb_511 : orb 511 512 0 0 = 2 ^ 512 - 1 := by decide +kernel
theorem orb_2047 : orb 2047 2048 0 0 = 2 ^ 2048 - 1 := by decide +kernel
theorem orb_127 : orb 127 128 0 0 = 2 ^ 128 - 1 := by decide +kernel
theorem orb_31 : orb 31 32 0 0 = 2 ^ 32 - 1 := by decide +kernel
theorem orb_7 : orb 7 8 0 0 = 2 ^ 8 - 1 := by decide +kernel
theorem roundB_of {m : Nat} (h : orb m (m + 1) 0 0 = 2 ^ (m + 1) - 1) {j : Nat} (hj : j ≤ m) : ∃ b, b ≤ m ∧ lcgN m b = j := by
  have q : (orb m (m + 1) 0 0).testBit j = true := by
    rw [h, Nat.testBit_two_pow_sub_one, decide_eq_true_eq]
    omega
  rcases orb_bit m j (m + 1) 0 0 q with z | ⟨b, hb, e⟩
  · rw [Nat.zero_testBit] at z; cases z
  · refine ⟨b, by omega, ?_⟩
    rw [← e]
    have := lcgN_add m 0 b
    rw [Nat.zero_add] at this
    exact this.symm
theorem roundB {m : Nat} (hm : MaskB m) {j : Nat} (hj : j ≤ m) : ∃ b, b ≤ m ∧ lcgN m b = j := by
  rcases hm with rfl | rfl | rfl | rfl | rfl
  · exact roundB_of orb_7 hj
  · exact roundB_of orb_31 hj
  · exact roundB_of orb_127 hj
  · exact roundB_of orb_511 hj
  · exact roundB_of orb_2047 hj
theorem backB {m : Nat} (hm : MaskB m) : lcgN m (m + 1) = 0 := by
  rcases hm with rfl | rfl | rfl | rfl | rfl <;> decide +kernel
theorem cycB {m : Nat} (hm : MaskB m) (k : Nat) : lcgN m (k + (m + 1)) = lcgN m k := by
  have h1 := lcgN_add m (m + 1) k
  have h2 := lcgN_add m 0 k
  rw [backB hm] at h1
  rw [Nat.add_comm k, ← h1, ← Nat.zero_add k, ← h2, Nat.zero_add]
  rfl
theorem meetB {m : Nat} (hm : MaskB m) {i j : Nat} (hi : i ≤ m) (hj : j ≤ m) : ∃ k, k ≤ m ∧ lcgI m i k = j := by
  obtain ⟨a, ha, rfl⟩ := roundB hm hi
  obtain ⟨b, hb, rfl⟩ := roundB hm hj
  by_cases c : a ≤ b
  · exact ⟨b - a, by omega, by rw [lcgN_add, Nat.add_sub_cancel' c]⟩
  · refine ⟨b + (m + 1) - a, by omega, ?_⟩
    rw [lcgN_add, ← cycB hm b, Nat.add_sub_cancel' (by omega)]
theorem runB {m : Nat} (hm : MaskB m) (h : Int) {j : Nat} (hj : j ≤ m) : ∃ n, n ≤ m + 12 ∧ runI m (SetTable.bits h) n = j := by
  obtain ⟨k, hk, e⟩ := meetB hm (runI_le m (SetTable.bits h) 12) hj
  refine ⟨12 + k, by omega, ?_⟩
  rw [runI_tail (bits_lt h)]
  exact e
theorem wayB {m : Nat} (hm : MaskB m) (h : Int) {j : Nat} (hj : j ≤ m) : ∃ k, k < 10 * SetTable.turns m ∧ way m h k = j := by
  obtain ⟨n, hn, e⟩ := runB hm h hj
  obtain ⟨k, hk, e2⟩ := run_nth m (SetTable.bits h) n
  have ht : SetTable.turns m = m + 15 := rfl
  exact ⟨k, by omega, by show (nth _ _ _).j = j; rw [e2]; exact e⟩
theorem inB_way (m : Nat) (h : Int) (k : Nat) : way m h k ≤ m := by
  have hi : SetTable.bits h % (m + 1) < m + 1 := Nat.mod_lt _ (Nat.succ_pos _)
  have r := runEnd_bd (Nat.le_of_lt_succ hi)
  refine Nat.le_trans (Nat.le_add_right _ _) (nth_in k (runAt m (SetTable.bits h % (m + 1)) (SetTable.bits h)) ?_)
  show SetTable.bits h % (m + 1) + (SetTable.runEnd m (SetTable.bits h % (m + 1)) - SetTable.bits h % (m + 1)) ≤ m
  omega
theorem mask2B {m : Nat} (h : MaskB m) : m % 2 = 1 ∧ m ≤ 2047 := by
  rcases h with rfl | rfl | rfl | rfl | rfl <;> decide

/-! ### a table that finds again what it holds -/
structure TbB (t : SetTable) (hs : List Int) : Prop where
  ris : Ris t.place.toList
  dm : t.dummies = #[]
  len : t.place.toList.length = hs.length
  mask : MaskB t.mask
  bd : ∀ x ∈ t.place.toList, x ≤ t.mask
  met : ∀ q ∈ hs.zip t.place.toList, ∃ k, way t.mask q.1 k = q.2 ∧ ∀ k', k' < k → way t.mask q.1 k' ∈ t.place.toList
theorem zip_ix {α β : Type} {A : List α} {B : List β} {i : Nat} {a : α} {b : β} (h1 : A[i]? = some a) (h2 : B[i]? = some b) : (a, b) ∈ A.zip B := by
  refine List.mem_of_getElem? (i := i) ?_
  rw [List.getElem?_zip_eq_some]
  exact ⟨h1, h2⟩
theorem TbB.emptyB {t : SetTable} {hs : List Int} (T : TbB t hs) (hl : hs.length ≤ t.mask) (h : Int) : ∃ K, K < 10 * SetTable.turns t.mask ∧ way t.mask h K ∉ t.place.toList ∧ ∀ k, k < K → way t.mask h k ∈ t.place.toList := by
  obtain ⟨j, hj, hn⟩ := st_missing t.place.toList (t.mask + 1) (by rw [T.len]; omega)
  obtain ⟨k, hk, e⟩ := wayB T.mask h (Nat.le_of_lt_succ hj)
  obtain ⟨K, h1, h2, h3⟩ := st_least (p := fun c => way t.mask h c ∉ t.place.toList) k (by rw [e]; exact hn)
  exact ⟨K, by omega, h2, fun c hc => Classical.byContradiction fun q => h3 c hc q⟩
theorem zip_cut {α β : Type} {A : List α} {B : List β} (hl : A.length = B.length) {p : Nat} {x : α} {y : β} {q : α × β} (h : q ∈ (A.take p ++ x :: A.drop p).zip (B.take p ++ y :: B.drop p)) : q = (x, y) ∨ q ∈ A.zip B := by
  have e : (A.take p).length = (B.take p).length := by rw [List.length_take, List.length_take, hl]
  have z : A.zip B = (A.take p).zip (B.take p) ++ (A.drop p).zip (B.drop p) := by
    rw [← List.zip_append e, List.take_append_drop, List.take_append_drop]
  rw [List.zip_append e, List.zip_cons_cons, List.mem_append, List.mem_cons] at h
  rw [z, List.mem_append]
  rcases h with h | h | h
  · exact .inr (.inl h)
  · exact .inl h
  · exact .inr (.inr h)
/-- one more is put in, at its first free slot -/
theorem TbB.more {t : SetTable} {hs : List Int} (T : TbB t hs) {h : Int} {K j p : Nat} (ej : way t.mask h K = j) (ep : SetTable.below t.place j = p) (hK : j ∉ t.place.toList) (hb : ∀ k, k < K → way t.mask h k ∈ t.place.toList) :
    (t.put j).2 = p ∧ TbB (t.put j).1 (hs.take p ++ h :: hs.drop p) ∧ (t.put j).1.mask = t.mask ∧ (t.put j).1.led = t.led ∧ (t.put j).1.plain = t.plain := by
  have e1 : (t.put j).1.place.toList = t.place.toList.take p ++ j :: t.place.toList.drop p := by
    rw [put_place, ep]
  have hno : ¬ t.place[SetTable.below t.place j]? = some j := fun z => hK (by rw [← Array.getElem?_toList] at z; exact List.mem_of_getElem? z)
  have old : ∀ x ∈ t.place.toList, x ∈ (t.put j).1.place.toList := fun x hx => by
    rw [e1]
    exact mem_ins.mpr (.inr hx)
  have hpl : p ≤ t.place.toList.length := by
    rw [← ep, Array.length_toList]
    exact (below_cut T.ris j).1
  refine ⟨ep, { ris := ris_insert T.ris hno, dm := put_dm T.dm j, len := ?_, mask := T.mask, bd := fun x hx => ?_, met := fun q hq => ?_ }, rfl, rfl, rfl⟩
  · rw [e1, len_ins _ hpl, len_ins _ (by rw [← T.len]; exact hpl), T.len]
  · rw [e1] at hx
    rcases mem_ins.mp hx with rfl | hx
    · rw [← ej]; exact inB_way _ _ _
    · exact T.bd x hx
  · rw [e1] at hq
    rcases zip_cut T.len.symm hq with rfl | hq
    · exact ⟨K, ej, fun k hk => old _ (hb k hk)⟩
    · obtain ⟨k, a1, a2⟩ := T.met q hq
      exact ⟨k, a1, fun k' hk' => old _ (a2 k' hk')⟩

/-! ### all laid anew -/
theorem filled {o : Option Nat} (h : o ≠ none) : o.isNone = false := by
  cases o with
  | none => exact absurd rfl h
  | some _ => rfl
theorem nextB {m : Nat} (hm : MaskB m) {done : List Int} {ow : Array (Option Nat)} (W : Own m done ow) (hl : done.length ≤ m) (h : Int) : ∃ K, SetTable.layClean.free m ow (SetTable.turns m) (SetTable.bits h % (m + 1)) (SetTable.bits h) = some (way m h K) ∧ oAt ow (way m h K) = none ∧ ∀ k, k < K → oAt ow (way m h k) ≠ none := by
  obtain ⟨ps, h1, h2⟩ := W.ps
  obtain ⟨j, hj, hn⟩ := st_missing ps (m + 1) (by omega)
  have hj := Nat.le_of_lt_succ hj
  have hfree : oAt ow j = none := Classical.byContradiction fun q => hn (h2 j hj q)
  obtain ⟨n, hn, e⟩ := runB hm h hj
  obtain ⟨c, ec⟩ : ∃ c, off m (SetTable.bits h % (m + 1)) (SetTable.bits h) n = c := ⟨_, rfl⟩
  have ew : way m h c = j := by
    show (nth m (runAt m (SetTable.bits h % (m + 1)) (SetTable.bits h)) c).j = j
    rw [← ec, nth_off, itL_run]
    exact e
  obtain ⟨K, k1, k2, k3⟩ := st_least (p := fun k => oAt ow (way m h k) = none) c (by rw [ew]; exact hfree)
  have ht : SetTable.turns m = m + 15 := rfl
  exact ⟨K, free_spec m ow _ n _ _ K (by omega) (by omega) (fun k hk => filled (k3 k hk)) (by rw [show oAt ow (nth m (runAt m (SetTable.bits h % (m + 1)) (SetTable.bits h)) K).j = none from k2] <;> rfl), k2, k3⟩
theorem layB {m : Nat} (hm : MaskB m) {done : List Int} {ow : Array (Option Nat)} (W : Own m done ow) (h : Int) {K : Nat} (hK : oAt ow (way m h K) = none) (hb : ∀ k, k < K → oAt ow (way m h k) ≠ none) : Own m (done ++ [h]) (ow.setIfInBounds (way m h K) (some done.length)) := by
  have hin := inB_way m h K
  have hsz : way m h K < ow.size := by
    rw [W.sz]
    omega
  obtain ⟨j, ej⟩ : ∃ j, way m h K = j := ⟨_, rfl⟩
  rw [ej] at hK hin hsz ⊢
  have new := oAt_set_self (some done.length) hsz
  have keep : ∀ {i : Nat}, i ≠ j → oAt (ow.setIfInBounds j (some done.length)) i = oAt ow i := fun h => oAt_set_ne _ h
  have up : ∀ {i : Nat}, oAt ow i ≠ none → oAt (ow.setIfInBounds j (some done.length)) i ≠ none := fun {i} hi => by
    by_cases q : i = j
    · rw [q, new]; simp
    · rwa [keep q]
  obtain ⟨ps, p1, p2⟩ := W.ps
  refine { sz := by rw [Array.size_setIfInBounds, W.sz], at_ := fun i k hi e => ?_, all := fun k hk => ?_, ps := ⟨j :: ps, by simp [p1], fun i hi e => ?_⟩ }
  · by_cases q : i = j
    · subst q
      rw [new] at e
      cases e
      exact ⟨h, K, by simp, ej, fun k hk => up (hb k hk)⟩
    · rw [keep q] at e
      obtain ⟨g, G, g1, g2, g3⟩ := W.at_ i k hi e
      have hlt : k < done.length := (List.getElem?_eq_some_iff.mp g1).1
      exact ⟨g, G, by rw [List.getElem?_append_left hlt, g1], g2, fun k' hk' => up (g3 k' hk')⟩
  · rw [List.length_append, List.length_singleton] at hk
    by_cases c : k = done.length
    · exact ⟨j, hin, by rw [c, new]⟩
    · obtain ⟨i, hi, e⟩ := W.all k (by omega)
      refine ⟨i, hi, ?_⟩
      rw [keep (by rintro rfl; rw [hK] at e; cases e), e]
  · by_cases q : i = j
    · exact List.mem_cons.mpr (.inl q)
    · rw [keep q] at e
      exact List.mem_cons_of_mem _ (p2 i hi e)
theorem layAllB {m : Nat} (hm : MaskB m) : ∀ (todo done : List Int) (ow : Array (Option Nat)), Own m done ow → done.length + todo.length ≤ m → ∃ o2, todo.foldl (stepF m) (some (ow, done.length)) = some (o2, done.length + todo.length) ∧ Own m (done ++ todo) o2
  | [], done, ow, W, _ => ⟨ow, rfl, by rwa [List.append_nil]⟩
  | h :: todo, done, ow, W, hl => by
    have hl : done.length + (todo.length + 1) ≤ m := hl
    obtain ⟨K, a1, a2, a3⟩ := nextB hm W (by omega) h
    have e : (done ++ [h]).length = done.length + 1 := List.length_append
    obtain ⟨o2, b1, b2⟩ := layAllB hm todo (done ++ [h]) _ (layB hm W h a2 a3) (by omega)
    refine ⟨o2, ?_, by rw [← List.append_cons] at b2; exact b2⟩
    rw [List.foldl_cons, stepF_some a1, ← e, b1, e, List.length_cons, Nat.add_assoc, Nat.add_comm 1]
theorem anewB (t : SetTable) {hs : Array Int} {wanted M : Nat} (hw : SetTable.sizeAbove wanted - 1 = M) (hM : MaskB M) (hn : hs.size ≤ M) :
    ∃ t' order, t.relaid hs wanted = some (t', order) ∧ order.toList.Perm (List.range hs.size) ∧ TbB t' (order.toList.map fun i => hs.getD i 0) ∧ t'.mask = M ∧ t'.led = t.led ∧ t'.plain = t.plain := by
  obtain ⟨ow, a1, W⟩ := layAllB hM hs.toList [] _ (Own.init M) (by rw [Array.length_toList]; simpa using hn)
  rw [List.nil_append] at W
  have e : t.relaid hs wanted = some (tabOf t M ow, ((liveOf M ow).map (·.2)).toArray) := by
    rw [relaid_eq, hw, layClean_eq]
    rw [show hs.toList.foldl (stepF M) (some (Array.replicate (M + 1) none, 0)) = _ from a1] <;> rfl
  obtain ⟨LV, eLV⟩ : ∃ LV, liveOf M ow = LV := ⟨_, rfl⟩
  have mem : ∀ {j k : Nat}, (j, k) ∈ LV ↔ j ≤ M ∧ oAt ow j = some k := by
    rw [← eLV]
    exact mem_live W.sz
  have rs := ris_live (fun j => ow.getD j none) (List.range (M + 1)) List.pairwise_lt_range
  have r1 : Ris (LV.map (·.1)) := by rw [← eLV]; exact rs.1
  have cnt : LV.length = hs.size := by
    obtain ⟨ps, p1, p2⟩ := W.ps
    refine Nat.le_antisymm ?_ ?_
    · have := nat_nodup_len (LV.map (·.1)) ps (show (LV.map (·.1)).Nodup from r1.imp fun {a b} h => Nat.ne_of_lt h) fun x hx => by
        obtain ⟨⟨j, k⟩, hq, rfl⟩ := List.mem_map.mp hx
        have := mem.mp hq
        exact p2 j this.1 (by rw [this.2]; simp)
      rwa [List.length_map, p1] at this
    · have := nat_nodup_len (List.range hs.size) (LV.map (·.2)) List.nodup_range fun k hk => by
        obtain ⟨j, hj, ej⟩ := W.all k (List.mem_range.mp hk)
        exact List.mem_map.mpr ⟨(j, k), mem.mpr ⟨hj, ej⟩, rfl⟩
      rwa [List.length_map, List.length_range] at this
  refine ⟨_, _, e, ?_, ?_, rfl, rfl, rfl⟩
  · rw [eLV]
    refine perm_range _ _ (by show (LV.map (·.2)).length = _; rw [List.length_map, cnt]) fun k hk => ?_
    obtain ⟨j, hj, ej⟩ := W.all k hk
    exact List.mem_map.mpr ⟨(j, k), mem.mpr ⟨hj, ej⟩, rfl⟩
  · have pl : (tabOf t M ow).place.toList = LV.map (·.1) := by
      show (liveOf M ow).map (·.1) = _
      rw [eLV]
    rw [eLV]
    refine { ris := by rw [pl]; exact r1, dm := rfl, len := by rw [pl]; simp, mask := hM, bd := fun x hx => ?_, met := fun q hq => ?_ }
    · rw [pl] at hx
      obtain ⟨⟨j, k⟩, hq, rfl⟩ := List.mem_map.mp hx
      exact (mem.mp hq).1
    · rw [pl] at hq ⊢
      have hq : q ∈ (((LV.map (·.2)).map fun i => hs.getD i 0).zip (LV.map (·.1))) := hq
      rw [List.map_map, List.zip_map', List.mem_map] at hq
      obtain ⟨⟨j, k⟩, hm, rfl⟩ := hq
      obtain ⟨h1, h2⟩ := mem.mp hm
      obtain ⟨h, K, c1, c2, c3⟩ := W.at_ j k h1 h2
      have eh : hs.getD k 0 = h := by rw [Array.getD_eq_getD_getElem?, ← Array.getElem?_toList, c1] <;> rfl
      refine ⟨K, by show way M (hs.getD k 0) K = j; rw [eh]; exact c2, fun k' hk' => ?_⟩
      show way M (hs.getD k 0) k' ∈ _
      rw [eh]
      obtain ⟨z, ez⟩ := Option.ne_none_iff_exists'.mp (c3 k' hk')
      exact List.mem_map.mpr ⟨(_, z), mem.mpr ⟨inB_way _ _ _, ez⟩, rfl⟩
/-- a set of up to 1199 tuples of numbers, with its table -/
structure SetB (P : Program) (w : World) (h : Heap) (a : Addr) (L : List (Addr × List Int)) (es : Array (Int × Value)) (ep : Nat) (t : SetTable) : Prop where
  ob : ∃ o, h.get? a = some o ∧ o.ExactSet ∧ o.data = .set es ep t
  rw_ : es.toList = rowsOf P w L
  tb : TbB t (L.map fun p => thash P w p.2)
  once : (L.map (·.2)).Nodup
  tups : ∀ p ∈ L, IsT P w h p.2 p.1
  pv : t.plain = true
  lead : w.params.followText "set-order" = true ∨ t.led = true
  gap : L.length * 5 < t.mask * 3
  lim : L.length < 1200
section
variable {P : Program} {w : World} {A : Around} {E : Value → Shared → Prop} {s : Shared} {a : Addr} {L : List (Addr × List Int)} {es : Array (Int × Value)} {ep : Nat} {t : SetTable}
theorem rows_size {L : List (Addr × List Int)} {es : Array (Int × Value)} (h : es.toList = rowsOf P w L) : es.size = L.length := by
  rw [← Array.length_toList, h]
  exact List.length_map ..
theorem rows_at {L : List (Addr × List Int)} {es : Array (Int × Value)} (h : es.toList = rowsOf P w L) {i : Nat} {p : Addr × List Int} (hp : L[i]? = some p) : es[i]? = some (thash P w p.2, Value.ref p.1) := by
  rw [← Array.getElem?_toList, h]
  show (L.map _)[i]? = _
  rw [List.getElem?_map, hp] <;> rfl
theorem fitB {t : SetTable} {n : Nat} (h1 : t.place.size = n) (h2 : t.dummies = #[]) (h3 : n ≤ t.mask) : t.fits n = true := by
  unfold SetTable.fits SetTable.fill
  rw [h2, h1]
  simpa using h3
theorem SetB.placed (R : SetB P w s.heap a L es ep t) : t.place.toList.length = L.length := by
  rw [R.tb.len, List.length_map]
theorem SetB.fit (R : SetB P w s.heap a L es ep t) : t.fits es.size = true := by
  have := R.gap
  have hp := R.placed
  rw [Array.length_toList] at hp
  rw [rows_size R.rw_]
  exact fitB hp R.tb.dm (by omega)
theorem SetB.odd (R : SetB P w s.heap a L es ep t) : ¬ t.gaveWay = true := by
  unfold SetTable.gaveWay
  rw [(mask2B R.tb.mask).1]
  decide
theorem nth_dummy (m : Nat) : ∀ (n : Nat) (p : SetTable.Probe), p.dummy = none → (nth m p n).dummy = none
  | 0, _, h => h
  | n + 1, p, h => nth_dummy m n _ (by unfold adv; split <;> exact h)
/-- the search for k, from the c-th step of its way on -/
theorem seekB (R : SetB P w s.heap a L es ep t) {x : Addr} {k : List Int} (hx : IsT P w s.heap k x) (hu : A.units < cLine) {H : Int} (eH : thash P w k = H) {r0 : SetTable.Probe} (er : runAt t.mask (SetTable.bits H % (t.mask + 1)) (SetTable.bits H) = r0)
    {K : Nat} (hKf : K < 10 * SetTable.turns t.mask) (hK : (nth t.mask r0 K).j ∉ t.place.toList) (hKb : ∀ c, c < K → (nth t.mask r0 c).j ∈ t.place.toList) {Q : SetFound → Shared → Prop}
    (hin : k ∈ L.map (·.2) → Q (.there none) s) (hout : k ∉ L.map (·.2) → Q (.free (nth t.mask r0 K).j false) s) :
    ∀ (f c : Nat) (st : Option SetTable.Probe), st.getD (t.probeStart H) = nth t.mask r0 c → c ≤ K → K < c + f →
      (∀ (i : Nat) p, L[i]? = some p → p.2 = k → ∃ g, c ≤ g ∧ g < K ∧ t.place.toList[i]? = some (nth t.mask r0 g).j) → wpAny (model P w) A (setSearchFrom a (.ref x) H true f st) Q E s
  | 0, _, _, _, h1, h2, _ => by omega
  | f + 1, c, st, hst, hc, hf, hre => by
    obtain ⟨ob, gob, xob, dob⟩ := R.ob
    have hfit := R.fit
    have hodd := R.odd
    have hris := R.tb.ris
    have hz : ∀ q, nth t.mask (nth t.mask r0 c) q = nth t.mask r0 (c + q) := fun q => (nth_add t.mask c r0 q).symm
    have hsum : c + (K - c) = K := by omega
    have hd0 : r0.dummy = none := by rw [← er] <;> rfl
    have hashes : ∀ (i : Nat) p, L[i]? = some p → ((es[i]?.map (·.1)).getD 0) = thash P w p.2 := fun i p hp => by rw [rows_at R.rw_ hp] <;> rfl
    have G := go_spec t hris R.tb.dm (fun i => (es[i]?.map (·.1)).getD 0) H (10 * SetTable.turns t.mask) (K - c) (nth t.mask r0 c) (nth_dummy _ _ _ hd0) (by omega)
      (fun q hq => by rw [hz]; exact hKb _ (by omega)) (by rw [hz, hsum]; exact hK)
    -- an entry with k is not passed over
    have first : ∀ (i : Nat) p, L[i]? = some p → p.2 = k → ∃ g, g < K - c ∧ t.place.toList[i]? = some (nth t.mask (nth t.mask r0 c) g).j ∧ ((es[i]?.map (·.1)).getD 0) = H := fun i p hp hk => by
      obtain ⟨g, g1, g2, g3⟩ := hre i p hp hk
      refine ⟨g - c, by omega, by rw [hz, Nat.add_sub_cancel' g1]; exact g3, ?_⟩
      rw [hashes i p hp, hk, eH]
    rw [setSearchFrom_succ]
    refine wpAny_bind (wpAny_setState_of gob dob hfit ?_)
    dsimp only
    refine wp_if_neg hodd ?_
    try refine wpAny_bind (wpAny_pure ?_)
    rw [hst]
    rcases G with ⟨q, i, hq, hi, hh, hno, hpr⟩ | ⟨hno, hpr⟩
    · rw [show t.probe (fun i => (es[i]?.map (·.1)).getD 0) H (nth t.mask r0 c) = _ from hpr]
      dsimp only
      have hil : i < L.length := by rw [← R.placed]; exact (List.getElem?_eq_some_iff.mp hi).1
      obtain ⟨p, ep'⟩ : ∃ p, L[i]? = some p := ⟨_, List.getElem?_eq_getElem hil⟩
      have hpm := List.mem_of_getElem? ep'
      have hslot := slot_live hris hi
      have go : wpAny (model P w) A (searchRest a (.ref x) H true f es t (nth t.mask (nth t.mask r0 c) q).j i (nth t.mask (nth t.mask r0 c) (q + 1))) Q E s := by
        unfold searchRest
        rw [rows_at R.rw_ ep']
        dsimp only
        refine wpAny_bind (wpAny_holding (wpAny_eqBool_tuple hu (R.tups p hpm) hx ?_))
        refine wpAny_bind (wpAny_setState_of gob dob hfit ?_)
        dsimp only
        by_cases same : p.2 = k
        · refine wp_if_pos (by simp [same]) (wpAny_pure (hin ?_))
          rw [← same]
          exact List.mem_map_of_mem hpm
        · refine wp_if_neg (by simp [same]) ?_
          try refine wpAny_bind (wpAny_pure ?_)
          rw [sameMem]
          dsimp only
          simp only [if_true, hslot, rows_at R.rw_ ep']
          refine wpAny_bind (wpAny_isSame_ref_self (wpAny_bind (wpAny_pure ?_)))
          simp only [if_true]
          refine wp_if_neg (by simp [same]) ?_
          refine seekB R hx hu eH er hKf hK hKb hin hout f (c + (q + 1)) (some _) (hz (q + 1)) (by omega) (by omega) fun i0 p0 h0 hk0 => ?_
          obtain ⟨g, g1, g2, g3⟩ := hre i0 p0 h0 hk0
          refine ⟨g, ?_, g2, g3⟩
          obtain ⟨d, d1⟩ : ∃ d, g = c + d := ⟨g - c, by omega⟩
          subst d1
          rw [← hz] at g3
          rcases Nat.lt_trichotomy d q with z | z | z
          · exact absurd ((hashes i0 p0 h0).trans (by rw [hk0, eH])) (hno d i0 z g3)
          · subst z
            have e1 := slot_live hris g3
            rw [hslot] at e1
            cases e1
            rw [ep'] at h0
            cases h0
            exact absurd hk0 same
          · omega
      by_cases hl : t.led = true
      · refine wp_if_neg (by simp [hl]) ?_
        try refine wpAny_bind (wpAny_pure ?_)
        exact go
      · refine wp_if_pos (by simp [hl]) (wpAny_bind (seen_tup hx (fun y hy => ?_) ?_))
        · obtain ⟨e, he, rfl⟩ := List.mem_map.mp hy
          have he : e ∈ es ∧ e.1 = H := by simpa using he
          have he : e ∈ es.toList := by simpa using he.1
          rw [R.rw_] at he
          obtain ⟨z, hz, rfl⟩ := List.mem_map.mp he
          exact ⟨z.2, z.1, rfl, R.tups z hz⟩
        · refine wp_if_neg (by decide) ?_
          try refine wpAny_bind (wpAny_pure ?_)
          exact go
    · rw [show t.probe (fun i => (es[i]?.map (·.1)).getD 0) H (nth t.mask r0 c) = _ from hpr, hz, hsum]
      refine wpAny_pure (hout fun hm => ?_)
      obtain ⟨p, hp, hk⟩ := List.mem_map.mp hm
      obtain ⟨i, hi⟩ := List.getElem?_of_mem hp
      obtain ⟨g, g1, g2, g3⟩ := first i p hi hk
      exact hno g i g1 g2 g3
theorem findB (R : SetB P w s.heap a L es ep t) {x : Addr} {k : List Int} (hx : IsT P w s.heap k x) (hu : A.units < cLine) {Q : SetFound → Shared → Prop}
    (hin : k ∈ L.map (·.2) → Q (.there none) s)
    (hout : ∀ K, k ∉ L.map (·.2) → way t.mask (thash P w k) K ∉ t.place.toList → (∀ c, c < K → way t.mask (thash P w k) c ∈ t.place.toList) → Q (.free (way t.mask (thash P w k) K) false) s) :
    wpAny (model P w) A (setSearch a (.ref x) (thash P w k) true) Q E s := by
  have hgap := R.gap
  have hm := (mask2B R.tb.mask).2
  have ht : SetTable.turns t.mask = t.mask + 15 := rfl
  obtain ⟨K, hKf, hK, hKb⟩ := R.tb.emptyB (by rw [List.length_map]; omega) (thash P w k)
  unfold setSearch
  refine seekB R hx hu rfl rfl hKf hK hKb hin (fun hn => hout K hn hK hKb) 100000 0 none rfl (Nat.zero_le _) (by omega) fun i p hp hk => ?_
  have hil : i < t.place.toList.length := by
    rw [R.placed]
    exact (List.getElem?_eq_some_iff.mp hp).1
  have hj := List.getElem?_eq_getElem hil
  obtain ⟨g, g1, g2⟩ := R.tb.met (thash P w k, t.place.toList[i]) (zip_ix (by rw [List.getElem?_map, hp, ← hk] <;> rfl) hj)
  refine ⟨g, Nat.zero_le _, ?_, by rw [hj]; exact congrArg some g1.symm⟩
  apply Classical.byContradiction
  intro hge
  rcases Nat.lt_or_ge K g with z | z
  · exact hK (g2 K z)
  · have : K = g := by omega
    subst this
    have g1 : way t.mask (thash P w k) K = t.place.toList[i] := g1
    rw [g1] at hK
    exact hK (List.getElem_mem hil)
/-- laid anew -/
theorem relB {o : Obj} (go : s.heap.get? a = some o) (xo : o.ExactSet) (do_ : o.data = .set es ep t) (hr : es.toList = rowsOf P w L) (hf : t.fits es.size = true)
    (nd : (L.map (·.2)).Nodup) (tup : ∀ p ∈ L, IsT P w s.heap p.2 p.1) (pl : t.plain = true) (ld : w.params.followText "set-order" = true ∨ t.led = true) (few : L.length < 1200) {wanted M : Nat}
    (hw : SetTable.sizeAbove wanted - 1 = M) (hM : MaskB M) (hn : L.length * 5 < M * 3) {Q : Unit → Shared → Prop}
    (hQ : ∀ h' L' es' ep' t', Heap.SameBut a s.heap h' → SetB P w h' a L' es' ep' t' → L'.Perm L → Q () { s with heap := h' }) : wpAny (model P w) A (setRelay a wanted) Q E s := by
  have hsz := rows_size hr
  have hm := (mask2B hM).2
  have e24 : sizeLine = 16777216 := by rw [sizeLine_eq]
  obtain ⟨t', order, e1, pm, T, em, el, epl⟩ := anewB t (hs := es.map (·.1)) hw hM (by rw [Array.size_map]; omega)
  rw [Array.size_map, hsz] at pm
  obtain ⟨L2, r1, r2, r3⟩ := order_rows L es order hr pm
  have hl2 : L2.length = L.length := r2.length_eq
  have hs2 := rows_size r1
  rw [setRelay_eq]
  refine wpAny_bind (wpAny_setState_of go do_ hf ?_)
  dsimp only
  refine wp_if_neg (by omega) ?_
  try refine wpAny_bind (wpAny_pure ?_)
  rw [e1]
  dsimp only
  refine wpAny_bind (wp_if_neg (by rw [hs2, hl2, hsz]; simp) ?_)
  try refine wpAny_bind (wpAny_pure ?_)
  refine wpAny_pure ?_
  dsimp only
  refine wpAny_storeSet_of go do_ ?_ (by omega)
  have but : Heap.SameBut a s.heap (s.heap.update a (Obj.putSet (order.filterMap (es[·]?)) t')) := Heap.SameBut.update ..
  refine hQ _ L2 _ _ t' but { ob := ⟨_, store_at go do_, ⟨xo.1, xo.2.1, xo.2.2⟩, rfl⟩, rw_ := r1, tb := by rw [r3]; exact T, once := (r2.map (·.2)).nodup_iff.mpr nd, tups := fun p hp => isT_same (tup p (r2.mem_iff.mp hp)) go do_ but, pv := epl.trans pl, lead := by rw [el]; exact ld, gap := by rw [hl2, em]; exact hn, lim := by rw [hl2]; exact few } r2
theorem size_308 : SetTable.sizeAbove (SetTable.grown 77) = 512 := by decide +kernel
theorem size_1228 : SetTable.sizeAbove (SetTable.grown 307) = 2048 := by decide +kernel
/-- one more tuple -/
theorem addB (R : SetB P w s.heap a L es ep t) {x : Addr} {k : List Int} (hx : IsT P w s.heap k x) (hu : A.units < cLine) (hlim : L.length + 1 < 1200) {Q : Bool → Shared → Prop}
    (hQ : ∀ b h' L' es' ep' t', Heap.SameBut a s.heap h' → SetB P w h' a L' es' ep' t' → (k ∈ L.map (·.2) → L' = L) → (k ∉ L.map (·.2) → L'.Perm ((x, k) :: L)) → Q b { s with heap := h' }) :
    wpAny (model P w) A (setAddHashed a (.ref x) (thash P w k)) Q E s := by
  obtain ⟨ob, gob, xob, dob⟩ := R.ob
  have hsz := rows_size R.rw_
  have hgap := R.gap
  have hfit := R.fit
  have e24 : sizeLine = 16777216 := by rw [sizeLine_eq]
  unfold setAddHashed
  refine wpAny_holding ?_
  rw [show (100000 : Nat) = 99999 + 1 from rfl, setAddHashedIn_succ]
  refine wpAny_bind (wpAny_setState_of gob dob hfit ?_)
  dsimp only
  refine wp_if_neg (by simp [byScan, Value.scannable]) ?_
  try refine wpAny_bind (wpAny_pure ?_)
  refine wpAny_bind (findB R hx hu (fun hm => wpAny_pure (hQ false s.heap L es ep t (Heap.SameBut.refl a s.heap) R (fun _ => rfl) fun z => absurd hm z)) fun K hm hK hb => ?_)
  dsimp only
  refine wpAny_bind (wpAny_setState_of gob dob hfit ?_)
  dsimp only
  obtain ⟨j, ej⟩ : ∃ j, way t.mask (thash P w k) K = j := ⟨_, rfl⟩
  obtain ⟨p, ep'⟩ : ∃ p, SetTable.below t.place j = p := ⟨_, rfl⟩
  rw [ej] at hK ⊢
  have hpl : p ≤ L.length := by
    rw [← R.placed, ← ep', Array.length_toList]
    exact (below_cut R.tb.ris j).1
  obtain ⟨q1, q3, q4, q5, q6⟩ := R.tb.more ej ep' hK hb
  have pv1 : (t.put j).1.plain = true := q6.trans R.pv
  have hm1 : MaskB (t.put j).1.mask := q3.mask
  have sz1 := q3.len
  obtain ⟨⟨t1, p'⟩, et⟩ : ∃ z, t.put j = z := ⟨_, rfl⟩
  rw [et] at q1 q3 q4 q5 q6 pv1 hm1 sz1 ⊢
  dsimp only at q1 q3 q4 q5 q6 pv1 hm1 sz1 ⊢
  subst q1
  first
    | (refine wpAny_bind (wp_if_pos pv1 (hashBy_tup hx ?_)))
    | refine wp_if_pos pv1 (wpAny_bind (hashBy_tup hx ?_))
  simp only [if_true]
  obtain ⟨L1, eL1⟩ : ∃ L1, L.take p' ++ (x, k) :: L.drop p' = L1 := ⟨_, rfl⟩
  obtain ⟨es1, ees⟩ : ∃ es1, SetTable.insertAt es p' (thash P w k, Value.ref x) = es1 := ⟨_, rfl⟩
  have pm : L1.Perm ((x, k) :: L) := by rw [← eL1]; exact put_perm L p' (x, k)
  have hl1 : L1.length = L.length + 1 := pm.length_eq
  have r1 : es1.toList = rowsOf P w L1 := by rw [← ees, SetTable.toList_insertAt, ← eL1, rows_put, R.rw_]
  have s1 := rows_size r1
  have T1 : TbB t1 (L1.map fun p => thash P w p.2) := by
    rw [← eL1, List.map_append, List.map_cons, List.map_take, List.map_drop]
    exact q3
  rw [ees]
  have nd1 : (L1.map (·.2)).Nodup := by
    rw [(pm.map (·.2)).nodup_iff, List.map_cons]
    exact List.nodup_cons.mpr ⟨hm, R.once⟩
  refine wpAny_bind (wpAny_storeSet_of gob dob ?_ (by omega))
  have but : Heap.SameBut a s.heap (s.heap.update a (Obj.putSet es1 t1)) := Heap.SameBut.update ..
  have gob1 := store_at (es' := es1) (t' := t1) gob dob
  obtain ⟨h1, eh⟩ : ∃ h1, s.heap.update a (Obj.putSet es1 t1) = h1 := ⟨_, rfl⟩
  rw [eh] at but gob1 ⊢
  have tup1 : ∀ q ∈ L1, IsT P w h1 q.2 q.1 := fun q hq => by
    rcases List.mem_cons.mp (pm.mem_iff.mp hq) with rfl | hq
    · exact isT_same hx gob dob but
    · exact isT_same (R.tups q hq) gob dob but
  have ld1 : w.params.followText "set-order" = true ∨ t1.led = true := by rw [q5]; exact R.lead
  have pls : t1.place.size = L.length + 1 := by
    have := T1.len
    rw [List.length_map, Array.length_toList] at this
    omega
  have fill1 : t1.fill = L.length + 1 := by
    unfold SetTable.fill
    rw [T1.dm, pls] <;> rfl
  have full : t1.tooFull = decide ((L.length + 1) * 5 ≥ t1.mask * 3) := by
    unfold SetTable.tooFull
    rw [fill1]
  by_cases hf : (L.length + 1) * 5 ≥ t1.mask * 3
  · have hf1 : t1.tooFull = true := by rw [full]; exact decide_eq_true hf
    have grow : ∃ M, SetTable.sizeAbove (SetTable.grown (L.length + 1)) - 1 = M ∧ MaskB M ∧ (L.length + 1) * 5 < M * 3 := by
      rw [q4] at hf
      rcases R.tb.mask with e | e | e | e | e <;> rw [e] at hf hgap
      · obtain e2 : L.length = 4 := by omega
        exact ⟨31, by rw [e2, size_20], .inr (.inl rfl), by omega⟩
      · obtain e2 : L.length = 18 := by omega
        exact ⟨127, by rw [e2, size_76], .inr (.inr (.inl rfl)), by omega⟩
      · obtain e2 : L.length = 76 := by omega
        exact ⟨511, by rw [e2, size_308], .inr (.inr (.inr (.inl rfl))), by omega⟩
      · obtain e2 : L.length = 306 := by omega
        exact ⟨2047, by rw [e2, size_1228], .inr (.inr (.inr (.inr rfl))), by omega⟩
      · omega
    obtain ⟨M, m1, m2, m3⟩ := grow
    have go : wpAny (model P w) A (setRelay a (SetTable.grown (L.length + 1))) (fun _ s' => wpAny (model P w) A (pure true) Q E s') E { s with heap := h1 } := by
      refine relB (s := { s with heap := h1 }) gob1 ⟨xob.1, xob.2.1, xob.2.2⟩ rfl r1 (by rw [s1, hl1]; exact fitB pls T1.dm (by rw [q4]; omega)) nd1 tup1 pv1 ld1 (by omega) m1 m2 (by rw [hl1]; exact m3) fun h2 L2 es2 ep2 t2 but2 R2 pm2 => ?_
      exact wpAny_pure (hQ true h2 L2 es2 ep2 t2 (but.trans but2) R2 (fun z => absurd z hm) fun _ => pm2.trans pm)
    rw [hsz]
    first
      | (refine wpAny_bind (wp_if_pos (by simp [hf1]) ?_); exact go)
      | (refine wp_if_pos (by simp [hf1]) (wpAny_bind ?_); exact go)
  · have hf1 : t1.tooFull = false := by rw [full]; exact decide_eq_false hf
    first
      | refine wp_if_neg (by simp [hf1]) ?_
      | (refine wpAny_bind (wp_if_neg (by simp [hf1]) (wpAny_pure ?_)))
    exact wpAny_pure (hQ true h1 L1 es1 (ep + 1) t1 but { ob := ⟨_, gob1, ⟨xob.1, xob.2.1, xob.2.2⟩, rfl⟩, rw_ := r1, tb := T1, once := nd1, tups := tup1, pv := pv1, lead := ld1, gap := by rw [hl1]; omega, lim := by omega } (fun z => absurd z hm) fun _ => pm)
end
section
variable {P : Program} {w : World} {A : Around} {E : Value → Shared → Prop}
theorem SetB.stay {h h' : Heap} {a : Addr} {L : List (Addr × List Int)} {es : Array (Int × Value)} {ep : Nat} {t : SetTable} (R : SetB P w h a L es ep t) (ha : ∀ o, h.get? a = some o → h'.get? a = some o) (ht : ∀ p ∈ L, IsT P w h' p.2 p.1) : SetB P w h' a L es ep t :=
  { R with ob := by obtain ⟨o, go, r⟩ := R.ob; exact ⟨o, ha o go, r⟩, tups := ht }
theorem setB_new {h : Heap} {a : Addr} (ho : h.get? a = some (bareSet w)) : SetB P w h a [] #[] 0 (.fresh 0 0 (!w.params.followText "set-order")) where
  ob := ⟨_, ho, ⟨rfl, rfl, rfl⟩, rfl⟩
  rw_ := rfl
  tb := { ris := List.Pairwise.nil, dm := rfl, len := rfl, mask := .inl rfl, bd := fun _ h => (nomatch h), met := fun _ h => (nomatch h) }
  once := List.nodup_nil
  tups := fun _ h => nomatch h
  pv := rfl
  lead := by
    show _ ∨ (!w.params.followText "set-order") = true
    cases w.params.followText "set-order"
    · exact .inr rfl
    · exact .inl rfl
  gap := by show 0 * 5 < 7 * 3; decide
  lim := by show 0 < 1200; decide
/-- the loop that puts the items in -/
theorem fillB {I : Addr} {fp wr : List Addr} {G : Array GenState → Array GenState → Prop} {n : Nat} {Pv : Nat → Value → Prop} {St : Nat → Shared → Prop} {R : Result → Shared → Prop}
    (W : WalksS P w A.in1 I fp wr G n Pv St) {S : Addr} (hSf : S ∉ fp) {ks : List (Addr × List Int)} (hn : n = ks.length) (hlim : ks.length < 1200) (hval : ∀ i v, Pv i v → ∃ p, ks[i]? = some p ∧ v = .ref p.1)
    {h0 : Heap} (hk : ∀ p ∈ ks, IsT P w h0 p.2 p.1) (hS0 : h0.get? S = none) (hw0 : ∀ b ∈ wr, h0.get? b = none) (hu : A.in1.units < cLine) :
    ∀ (left i : Nat) (s : Shared), i + left = n → St i s → (∀ b o, h0.get? b = some o → s.heap.get? b = some o) → (∃ L es ep t, SetB P w s.heap S L es ep t ∧ Got ks i L) →
      (∀ s' L es ep t, Moved (S :: wr) G s s' → SetB P w s'.heap S L es ep t → Got ks n L → (∀ b o, h0.get? b = some o → s'.heap.get? b = some o) → R (.ok (.ret .none)) s') →
      codeAny (model P w) A (.builtin "set.update.loop" ⟨[.ref S, .ref I], []⟩) R s := by
  have notW : S ∉ wr := fun h => hSf (W.sub _ h)
  have up : ∀ b ∈ wr, b ∈ S :: wr := fun b hb => List.mem_cons_of_mem _ hb
  -- what the walk itself changes touches neither the tuples nor the set
  have carry : ∀ {s s' : Shared} {i : Nat} {L : List (Addr × List Int)} {es : Array (Int × Value)} {ep : Nat} {t : SetTable}, Moved wr G s s' → (∀ b o, h0.get? b = some o → s.heap.get? b = some o) → SetB P w s.heap S L es ep t → Got ks i L →
      (∀ b o, h0.get? b = some o → s'.heap.get? b = some o) ∧ SetB P w s'.heap S L es ep t := fun {s s' i L es ep t} mv kp R0 g => by
    have kp' : ∀ b o, h0.get? b = some o → s'.heap.get? b = some o := fun b o e => mv.heap b o (fun hb => absurd (hw0 b hb) (by rw [e]; simp)) (kp b o e)
    exact ⟨kp', R0.stay (fun o e => mv.heap S o notW e) fun p hp => isT_keep (hk p (List.mem_of_mem_take (g.sub p hp))) kp'⟩
  intro left
  induction left with
  | zero =>
    rintro i s rfl hst kp ⟨L, es, ep, t, R0, g⟩ done
    refine codeAny_builtin F.entry_set_update_loop ?_
    rw [Around.under_plainId F.plain_set_update_loop _]
    show wpAny _ A.in1 (pyNext (.ref I) >>= _) _ _ s
    refine wpAny_bind (W.done s _ _ hst fun s' mv => ?_)
    obtain ⟨kp', R1⟩ := carry mv kp R0 g
    show wpAny _ A.in1 (ret Value.none) _ _ s'
    exact wpAny_pure (done s' L es ep t (mv.mono up) R1 g kp')
  | succ left ih =>
    rintro i s hi hst kp ⟨L, es, ep, t, R0, g⟩ done
    have hlt : i < n := by omega
    refine codeAny_builtin F.entry_set_update_loop ?_
    rw [Around.under_plainId F.plain_set_update_loop _]
    show wpAny _ A.in1 (pyNext (.ref I) >>= _) _ _ s
    refine wpAny_bind (W.item i s _ _ hlt hst fun v s1 hP hst1 mv => ?_)
    obtain ⟨⟨x, k⟩, hp, rfl⟩ := hval i v hP
    obtain ⟨kp1, R1⟩ := carry mv kp R0 g
    have hx : IsT P w s1.heap k x := isT_keep (hk (x, k) (List.mem_of_getElem? hp)) kp1
    have hgl := g.len
    show wpAny _ A.in1 (holding [Value.ref x] (setAdd S (.ref x)) >>= _) _ _ s1
    refine wpAny_bind (wpAny_holding ?_)
    unfold setAdd
    refine wpAny_holding (wpAny_bind (wpAny_pyHash_tuple hu hx ?_))
    refine addB (s := { s1 with toks := s1.toks + (k.length + 1) }) R1 hx hu (by omega) fun b h2 L2 es2 ep2 t2 but R2 c1 c2 => ?_
    have g2 : Got ks (i + 1) L2 := by
      by_cases c : k ∈ L.map (·.2)
      · rw [c1 c]
        exact g.same hp c
      · exact g.more hp (c2 c)
    have kp2 : ∀ b o, h0.get? b = some o → h2.get? b = some o := fun b o e => by
      rw [but.2 b (by rintro rfl; rw [hS0] at e; cases e)]
      exact kp1 b o e
    have fr : ∀ b, b ≠ S → ∀ o, s1.heap.get? b = some o → h2.get? b = some o := fun b hb o e => by
      rw [but.2 b hb]
      exact e
    refine wpAny_pure ⟨plainId_quiet F.plain_set_update_loop _, ih (i + 1) _ (by omega) (W.frame _ s1 _ _ hst1 (Nat.le_add_right _ _) fun b hb => fr b (by rintro rfl; exact hSf hb)) kp2 ⟨L2, es2, ep2, t2, R2, g2⟩ fun s3 L3 es3 ep3 t3 mv3 R3 g3 kp3 => ?_⟩
    exact done s3 L3 es3 ep3 t3 (Moved.trans W.gtrans ((mv.mono up).then_heap (Nat.le_add_right _ _) fun b o hb => fr b (by rintro rfl; exact hb List.mem_cons_self) o) mv3) R3 g3 kp3
end
section
variable {P : Program} {w : World} {A : Around} {E : Value → Shared → Prop} {s : Shared}
/-- set(xs), xs a tuple of tuples of numbers -/
theorem set_tupB {l : Addr} {items : Array Value} (ks : List (Addr × List Int)) {Q : Value → Shared → Prop} (hh : A.handled = none) (hl : s.heap.IsTuple l items) (hit : items.toList = ks.map fun p => Value.ref p.1)
    (hk : ∀ p ∈ ks, IsT P w s.heap p.2 p.1) (hfew : ks.length < 1200) (hu : A.units + 3 < cLine)
    (h : ∀ (h' : Heap) (tk : Nat) L es ep t, SetB P w h' s.heap.objs.size L es ep t → Got ks ks.length L → (∀ b o, s.heap.get? b = some o → h'.get? b = some o) → Q (.ref s.heap.objs.size) { s with heap := h', toks := tk }) :
    wpAny (model P w) A (call (.type "set") [.ref l]) Q E s := by
  have sz : items.size = ks.length := by rw [← Array.length_toList, hit, List.length_map]
  obtain ⟨c, tl, mro⟩ := F.called_set.mro
  have made := F.called_set.made
  have sub := F.called_set.sub
  refine wpAny_call (codeAny_of_tree ?_)
  show wpAny _ _ (callAny (.type "set") _) _ _ _
  refine wpAny_pure ⟨Code.quiet_builtin _ (by decide +kernel), codeAny_builtin F.entry_type_call ?_⟩
  rw [Around.under_plain (weight_type_call_type "set" [.ref l] []) rfl]
  have n1 := F.called_set.notType
  have n2 := F.called_set.canCreate
  have n3 := F.typeCall_set_1 (.ref l)
  repeat (any_goals (first | assumption | wp_step))
  -- the empty set is laid
  refine codeAny_mono (code_set_led1 (.ref l) (E := E) (Q₁ := fun u t => u = .ref s.heap.objs.size ∧ t = { s with heap := s.heap.push (bareSet w) }) ⟨rfl, rfl⟩) fun r t hr => ?_
  cases r with
  | error e => exact hr
  | ok fl =>
    cases fl with
    | next => exact hr.elim
    | brk => exact hr.elim
    | cont => exact hr.elim
    | ret u =>
      obtain ⟨rfl, rfl⟩ := hr
      have gS : (s.heap.push (bareSet w)).get? s.heap.objs.size = some (bareSet w) := Heap.get?_push_size _ rfl
      have tS : Shared.TypeIs { s with heap := s.heap.push (bareSet w) } (.ref s.heap.objs.size) "set" := ⟨_, gS, rfl⟩
      have i1 := F.called_set.init.lookup
      have i2 := F.called_set.init.bind (.ref s.heap.objs.size)
      repeat (any_goals (first | assumption | wp_step))
      -- its items are put in
      refine codeAny_mono (codeAny_call_builtin (R := wants (fun r t => r = .none ∧ ∃ h' tk L es ep tb, t = { s with heap := h', toks := tk } ∧ SetB P w h' s.heap.objs.size L es ep tb ∧ Got ks ks.length L ∧
          (∀ b o, s.heap.get? b = some o → h'.get? b = some o)) E) F.called_set.init.plain F.entry_set_init (check_set_init_1 tS ?_)) fun r t hr => ?_
      · obtain ⟨⟨oc, od, odt, osl⟩, go, hc, n, hd⟩ := hl
        simp only at hc hd
        subst hc hd
        have gl : (s.heap.push (bareSet w)).get? l = some { cls := .type "tuple", dict := od, data := .seq items n, slots := osl } := Heap.get?_push_of_some _ go
        have j1 := F.sub_tuple_set
        have j2 := F.sub_tuple_frozenset
        have j3 : (Value.type "tuple" == Value.type "dict") = false := by decide
        have il : (s.heap.push (bareSet w)).IsTuple l items := ⟨_, gl, rfl, n, rfl⟩
        unfold Builtin.«set.__init__» noKeywords Builtin.Frozenset.updateFrom
        generalize hPI : pyIter = PI
        wp_walk
        subst hPI
        refine wpAny_pyIter_tuple il (wpAny_bind (wpAny_runValue ?_))
        have lS : l < s.heap.objs.size := Heap.lt_size go
        have z1 : (s.heap.push (bareSet w)).objs.size = s.heap.objs.size + 1 := Heap.size_push ..
        have nI : l ≠ (s.heap.push (bareSet w)).objs.size := fun q => Nat.ne_of_lt (Nat.lt_succ_of_lt lS) (q.trans z1)
        have nS : s.heap.objs.size ∉ [(s.heap.push (bareSet w)).objs.size, l] := by
          intro q
          rcases List.mem_cons.mp q with q | q
          · exact Nat.ne_of_lt (Nat.lt_succ_self _) (q.trans z1)
          · exact Nat.ne_of_gt lS (List.mem_singleton.mp q)
        have none_of : ∀ b, s.heap.objs.size ≤ b → s.heap.get? b = none := fun b hb => by
          cases q : s.heap.get? b with
          | none => rfl
          | some o => exact absurd (Nat.lt_of_lt_of_le (Heap.lt_size q) hb) (Nat.lt_irrefl _)
        refine fillB ((Walks.tuple (by simp [hh]) _ l nI items).toS) nS sz hfew (fun i v hv => ?_) hk (none_of _ (Nat.le_refl _)) (fun b hb => none_of b (by rw [List.mem_singleton.mp hb, z1]; exact Nat.le_succ _)) hu items.size 0 _ (by omega) ⟨⟨_, Heap.get?_push_size _ rfl, rfl, rfl⟩, il.push _⟩ (fun b o e => Heap.get?_push_of_some _ (Heap.get?_push_of_some _ e)) ⟨[], #[], 0, _, setB_new (Heap.get?_push_of_some _ gS), Got.zero ks⟩ fun t L es ep tb mv R2 g2 kp => ?_
        · have q : items.toList[i]? = some v := by rw [Array.getElem?_toList]; exact hv
          rw [hit, List.getElem?_map] at q
          cases hq : ks[i]? with
          | none => rw [hq] at q; cases q
          | some p =>
            rw [hq] at q
            exact ⟨p, rfl, (Option.some.inj q).symm⟩
        · obtain ⟨h', g3, d', tk', os'⟩ := t
          obtain rfl : g3 = s.gens := mv.gens
          obtain rfl : d' = s.drawn := mv.drawn
          obtain rfl : os' = s.os := mv.os
          show wpAny _ _ _ _ _ _
          refine wpAny_pure ?_
          show wpAny _ _ (ret Value.none) _ _ _
          rw [sz] at g2
          exact wpAny_pure ⟨rfl, h', tk', L, es, ep, tb, rfl, R2, g2, kp⟩
      · cases r with
        | error e => exact hr
        | ok fl =>
          cases fl with
          | ret r =>
            obtain ⟨rfl, h', tk, L, es, ep, tb, rfl, R2, g2, k⟩ := hr
            repeat (any_goals (first | assumption | wp_step))
            exact h _ _ _ _ _ _ R2 g2 k
          | next => exact hr.elim
          | brk => exact hr.elim
          | cont => exact hr.elim
/-- set(xs), xs a list of tuples of numbers -/
theorem set_listB {l : Addr} {items : Array Value} (ks : List (Addr × List Int)) {Q : Value → Shared → Prop} (hh : A.handled = none) (hl : s.heap.IsList l items) (hit : items.toList = ks.map fun p => Value.ref p.1)
    (hk : ∀ p ∈ ks, IsT P w s.heap p.2 p.1) (hfew : ks.length < 1200) (hu : A.units + 3 < cLine)
    (h : ∀ (h' : Heap) (tk : Nat) L es ep t, SetB P w h' s.heap.objs.size L es ep t → Got ks ks.length L → (∀ b o, s.heap.get? b = some o → h'.get? b = some o) → Q (.ref s.heap.objs.size) { s with heap := h', toks := tk }) :
    wpAny (model P w) A (call (.type "set") [.ref l]) Q E s := by
  have sz : items.size = ks.length := by rw [← Array.length_toList, hit, List.length_map]
  obtain ⟨c, tl, mro⟩ := F.called_set.mro
  have made := F.called_set.made
  have sub := F.called_set.sub
  refine wpAny_call (codeAny_of_tree ?_)
  show wpAny _ _ (callAny (.type "set") _) _ _ _
  refine wpAny_pure ⟨Code.quiet_builtin _ (by decide +kernel), codeAny_builtin F.entry_type_call ?_⟩
  rw [Around.under_plain (weight_type_call_type "set" [.ref l] []) rfl]
  have n1 := F.called_set.notType
  have n2 := F.called_set.canCreate
  have n3 := F.typeCall_set_1 (.ref l)
  repeat (any_goals (first | assumption | wp_step))
  -- the empty set is laid
  refine codeAny_mono (code_set_led1 (.ref l) (E := E) (Q₁ := fun u t => u = .ref s.heap.objs.size ∧ t = { s with heap := s.heap.push (bareSet w) }) ⟨rfl, rfl⟩) fun r t hr => ?_
  cases r with
  | error e => exact hr
  | ok fl =>
    cases fl with
    | next => exact hr.elim
    | brk => exact hr.elim
    | cont => exact hr.elim
    | ret u =>
      obtain ⟨rfl, rfl⟩ := hr
      have gS : (s.heap.push (bareSet w)).get? s.heap.objs.size = some (bareSet w) := Heap.get?_push_size _ rfl
      have tS : Shared.TypeIs { s with heap := s.heap.push (bareSet w) } (.ref s.heap.objs.size) "set" := ⟨_, gS, rfl⟩
      have i1 := F.called_set.init.lookup
      have i2 := F.called_set.init.bind (.ref s.heap.objs.size)
      repeat (any_goals (first | assumption | wp_step))
      -- its items are put in
      refine codeAny_mono (codeAny_call_builtin (R := wants (fun r t => r = .none ∧ ∃ h' tk L es ep tb, t = { s with heap := h', toks := tk } ∧ SetB P w h' s.heap.objs.size L es ep tb ∧ Got ks ks.length L ∧
          (∀ b o, s.heap.get? b = some o → h'.get? b = some o)) E) F.called_set.init.plain F.entry_set_init (check_set_init_1 tS ?_)) fun r t hr => ?_
      · obtain ⟨⟨oc, od, odt, osl⟩, go, hc, n, hd⟩ := hl
        simp only at hc hd
        subst hc hd
        have gl : (s.heap.push (bareSet w)).get? l = some { cls := .type "list", dict := od, data := .seq items n, slots := osl } := Heap.get?_push_of_some _ go
        have j1 := F.sub_list_set
        have j2 := F.sub_list_frozenset
        have j3 : (Value.type "list" == Value.type "dict") = false := by decide
        have il : (s.heap.push (bareSet w)).IsList l items := ⟨_, gl, rfl, n, rfl⟩
        unfold Builtin.«set.__init__» noKeywords Builtin.Frozenset.updateFrom
        generalize hPI : pyIter = PI
        wp_walk
        subst hPI
        refine wpAny_pyIter_list il (wpAny_bind (wpAny_runValue ?_))
        have lS : l < s.heap.objs.size := Heap.lt_size go
        have z1 : (s.heap.push (bareSet w)).objs.size = s.heap.objs.size + 1 := Heap.size_push ..
        have nI : l ≠ (s.heap.push (bareSet w)).objs.size := fun q => Nat.ne_of_lt (Nat.lt_succ_of_lt lS) (q.trans z1)
        have nS : s.heap.objs.size ∉ [(s.heap.push (bareSet w)).objs.size, l] := by
          intro q
          rcases List.mem_cons.mp q with q | q
          · exact Nat.ne_of_lt (Nat.lt_succ_self _) (q.trans z1)
          · exact Nat.ne_of_gt lS (List.mem_singleton.mp q)
        have none_of : ∀ b, s.heap.objs.size ≤ b → s.heap.get? b = none := fun b hb => by
          cases q : s.heap.get? b with
          | none => rfl
          | some o => exact absurd (Nat.lt_of_lt_of_le (Heap.lt_size q) hb) (Nat.lt_irrefl _)
        refine fillB ((Walks.list (by simp [hh]) _ l nI items).toS) nS sz hfew (fun i v hv => ?_) hk (none_of _ (Nat.le_refl _)) (fun b hb => none_of b (by rw [List.mem_singleton.mp hb, z1]; exact Nat.le_succ _)) hu items.size 0 _ (by omega) ⟨⟨_, Heap.get?_push_size _ rfl, rfl, rfl⟩, il.push _⟩ (fun b o e => Heap.get?_push_of_some _ (Heap.get?_push_of_some _ e)) ⟨[], #[], 0, _, setB_new (Heap.get?_push_of_some _ gS), Got.zero ks⟩ fun t L es ep tb mv R2 g2 kp => ?_
        · have q : items.toList[i]? = some v := by rw [Array.getElem?_toList]; exact hv
          rw [hit, List.getElem?_map] at q
          cases hq : ks[i]? with
          | none => rw [hq] at q; cases q
          | some p =>
            rw [hq] at q
            exact ⟨p, rfl, (Option.some.inj q).symm⟩
        · obtain ⟨h', g3, d', tk', os'⟩ := t
          obtain rfl : g3 = s.gens := mv.gens
          obtain rfl : d' = s.drawn := mv.drawn
          obtain rfl : os' = s.os := mv.os
          show wpAny _ _ _ _ _ _
          refine wpAny_pure ?_
          show wpAny _ _ (ret Value.none) _ _ _
          rw [sz] at g2
          exact wpAny_pure ⟨rfl, h', tk', L, es, ep, tb, rfl, R2, g2, kp⟩
      · cases r with
        | error e => exact hr
        | ok fl =>
          cases fl with
          | ret r =>
            obtain ⟨rfl, h', tk, L, es, ep, tb, rfl, R2, g2, k⟩ := hr
            repeat (any_goals (first | assumption | wp_step))
            exact h _ _ _ _ _ _ R2 g2 k
          | next => exact hr.elim
          | brk => exact hr.elim
          | cont => exact hr.elim
end
end Dn
/-! DnZh: sorted(set(..)) of a list or a tuple of fewer than 1200 tuples of numbers. -/
namespace Dn
open PySem PySem.Spec PyProof.Rows L2
theorem Tlex_trans : ∀ a b c : List Int, leOf (lexB ltI) a b = true → leOf (lexB ltI) b c = true → leOf (lexB ltI) a c = true
  | [], _, c, _, _ => by cases c <;> rfl
  | x :: a, [], c, h, _ => by cases h
  | x :: a, y :: b, [], _, h => by cases h
  | x :: a, y :: b, z :: c, h1, h2 => by
    unfold leOf ltI at h1 h2 ⊢
    unfold lexB at h1 h2 ⊢
    by_cases e1 : y = x
    · subst e1
      rw [if_pos rfl] at h1
      by_cases e2 : z = y
      · subst e2
        rw [if_pos rfl] at h2 ⊢
        exact Tlex_trans a b c h1 h2
      · rw [if_neg e2] at h2 ⊢
        exact h2
    · rw [if_neg e1] at h1
      by_cases e2 : z = y
      · subst e2
        rw [if_neg e1]
        exact h1
      · rw [if_neg e2] at h2
        simp only [Bool.not_eq_true', decide_eq_false_iff_not] at h1 h2 ⊢
        rw [if_neg (by omega)]
        simp only [decide_eq_false_iff_not]
        omega
theorem Tlex_total : ∀ a b : List Int, (leOf (lexB ltI) a b || leOf (lexB ltI) b a) = true
  | [], b => by cases b <;> rfl
  | x :: a, [] => rfl
  | x :: a, y :: b => by
    unfold leOf ltI
    unfold lexB
    by_cases e : y = x
    · subst e
      rw [if_pos rfl, if_pos rfl]
      exact Tlex_total a b
    · rw [if_neg e, if_neg (fun q => e q.symm)]
      by_cases h : x < y
      · have : ¬ y < x := by omega
        simp [this]
      · simp [h]
theorem Tlex_sorted (L : List (List Int)) : (L.mergeSort (leOf (lexB ltI))).Pairwise fun a b => leOf (lexB ltI) a b = true := List.pairwise_mergeSort Tlex_trans Tlex_total L
theorem Tlex_anti : ∀ a b : List Int, leOf (lexB ltI) a b = true → leOf (lexB ltI) b a = true → a = b
  | [], [], _, _ => rfl
  | [], y :: b, _, h => by cases h
  | x :: a, [], h, _ => by cases h
  | x :: a, y :: b, h1, h2 => by
    unfold leOf ltI at h1 h2
    unfold lexB at h1 h2
    by_cases e : y = x
    · subst e
      rw [if_pos rfl] at h1 h2
      rw [Tlex_anti a b h1 h2]
    · rw [if_neg e] at h1
      rw [if_neg fun q => e q.symm] at h2
      simp only [Bool.not_eq_true', decide_eq_false_iff_not] at h1 h2
      omega
theorem Tperm_le_eq {α : Type} {le : α → α → Prop} (an : ∀ a b, le a b → le b a → a = b) : ∀ {l1 l2 : List α}, l1.Pairwise le → l2.Pairwise le → l1.Perm l2 → l1 = l2
  | [], l2, _, _, h => (List.nil_perm.mp h).symm
  | a :: l1, [], _, _, h => by have := h.length_eq; simp at this
  | a :: l1, b :: l2, h1, h2, h => by
    have p1 := List.pairwise_cons.mp h1
    have p2 := List.pairwise_cons.mp h2
    have e : a = b := by
      rcases List.mem_cons.mp (h.mem_iff.mp (show a ∈ a :: l1 by simp)) with q | q
      · exact q
      · rcases List.mem_cons.mp (h.mem_iff.mpr (show b ∈ b :: l2 by simp)) with z | z
        · exact z.symm
        · exact an a b (p1.1 b z) (p2.1 a q)
    subst e
    rw [Tperm_le_eq an p1.2 p2.2 ((List.perm_cons a).mp h)]
theorem Tlex_eq {l1 l2 : List (List Int)} (h1 : l1.Pairwise fun a b => leOf (lexB ltI) a b = true) (h2 : l2.Pairwise fun a b => leOf (lexB ltI) a b = true) (n1 : l1.Nodup) (n2 : l2.Nodup) (h : ∀ a, a ∈ l1 ↔ a ∈ l2) : l1 = l2 :=
  Tperm_le_eq Tlex_anti h1 h2 ((List.perm_ext_iff_of_nodup n1 n2).mpr h)

/-! ### sorted(set(..)) -/
theorem perm_map_ex {α β : Type} (f : α → β) : ∀ (vs : List β) (L : List α), vs.Perm (L.map f) → ∃ L1 : List α, L1.Perm L ∧ vs = L1.map f
  | [], L, h => by
    have := h.length_eq
    rw [List.length_map] at this
    have e : L = [] := List.eq_nil_of_length_eq_zero this.symm
    subst e
    exact ⟨[], .nil, rfl⟩
  | v :: vs, L, h => by
    obtain ⟨x, hx, ex⟩ := List.mem_map.mp (h.mem_iff.mp List.mem_cons_self)
    obtain ⟨A, B, rfl⟩ := List.append_of_mem hx
    have h2 : (v :: vs).Perm (v :: (A ++ B).map f) := by
      refine h.trans ?_
      rw [List.map_append, List.map_append, List.map_cons, ex]
      exact List.perm_middle
    obtain ⟨L1, p1, e1⟩ := perm_map_ex f vs (A ++ B) (List.Perm.cons_inv h2)
    exact ⟨x :: L1, (p1.cons x).trans List.perm_middle.symm, by rw [List.map_cons, ex, e1]⟩
/-- once each -/
def setT (kss : List (List Int)) : List (List Int) := kss.foldr (fun k acc => if k ∈ acc then acc else k :: acc) []
theorem mem_setT {a : List Int} : ∀ {kss : List (List Int)}, a ∈ setT kss ↔ a ∈ kss
  | [] => Iff.rfl
  | n :: ns => by
    show a ∈ (if n ∈ setT ns then setT ns else n :: setT ns) ↔ _
    have ih := mem_setT (a := a) (kss := ns)
    by_cases h : n ∈ setT ns
    · rw [if_pos h, ih, List.mem_cons]
      refine ⟨.inr, fun q => ?_⟩
      rcases q with e | q
      · rw [e]; exact mem_setT.mp h
      · exact q
    · rw [if_neg h, List.mem_cons, ih, List.mem_cons]
theorem nodup_setT (kss : List (List Int)) : (setT kss).Nodup := by
  induction kss with
  | nil => exact List.nodup_nil
  | cons n ns ih =>
    show (if n ∈ setT ns then setT ns else n :: setT ns).Nodup
    split
    · exact ih
    · rename_i h
      exact List.nodup_cons.mpr ⟨h, ih⟩
def sortT (kss : List (List Int)) : List (List Int) := (setT kss).mergeSort (leOf (lexB ltI))
theorem mem_sortT {a : List Int} {kss : List (List Int)} : a ∈ sortT kss ↔ a ∈ kss := by
  unfold sortT
  rw [(List.mergeSort_perm _ _).mem_iff, mem_setT]
theorem sortT_nodup (kss : List (List Int)) : (sortT kss).Nodup := (List.mergeSort_perm _ _).nodup_iff.mpr (nodup_setT kss)
theorem sortT_sorted (kss : List (List Int)) : (sortT kss).Pairwise fun a b => leOf (lexB ltI) a b = true := Tlex_sorted _
theorem sortT_eq {kss l : List (List Int)} (hs : l.Pairwise fun a b => leOf (lexB ltI) a b = true) (hn : l.Nodup) (h : ∀ k, k ∈ l ↔ k ∈ kss) : l = sortT kss :=
  Tlex_eq hs (sortT_sorted kss) hn (sortT_nodup kss) fun a => by rw [h, mem_sortT]
def tupsOf : List D → Option (List (List Int))
  | [] => some []
  | .tup xs :: r => match intsOf xs, tupsOf r with
    | some k, some ks => some (k :: ks)
    | _, _ => none
  | _ => none
def tupsAt (st : Sto) (d : D) : Option (List (List Int)) := (seqOf st d).bind tupsOf
def lSortSetT (m : Rho → M D) : Rho → M (List D) := fun ρ st => (m ρ st).bind fun d st1 => match tupsAt st1 d with
  | some kss => if kss.length < 1200 then .ok ((sortT kss).map (eT eI)) st1 else .bad
  | none => .bad
theorem tupsOf_some : ∀ {xs : List D} {kss : List (List Int)}, tupsOf xs = some kss → xs = kss.map (eT eI)
  | [], kss, h => by cases h; rfl
  | x :: xs, kss, h => by
    unfold tupsOf at h
    split at h
    · cases ‹_ :: _ = []›
    · rename_i ys r e
      cases e
      split at h
      · rename_i k ks h1 h2
        cases h
        rw [List.map_cons, ← tupsOf_some h2, intsOf_some h1]
        rfl
      · cases h
    · cases h
theorem tupsOf_e : ∀ kss : List (List Int), tupsOf (kss.map (eT eI)) = some kss
  | [] => rfl
  | k :: kss => by
    show (match intsOf (k.map eI), tupsOf (kss.map (eT eI)) with
      | some k, some ks => some (k :: ks)
      | _, _ => none) = _
    rw [intsOf_eI, tupsOf_e kss]
/-- the tuples' places -/
theorem reps_tups {K : PySem.W.Frag} {F : Hp} {ι : List Addr} : ∀ {kss : List (List Int)} {vs : List V}, Reps K F ι (kss.map (eT eI)) vs → ∃ ps : List (Addr × List Int), ps.map (·.2) = kss ∧ vs = ps.map (fun p => V.ref p.1) ∧ ∀ p ∈ ps, SqP K F p.1 (p.2.map V.int) ∧ Rep K F ι (eT eI p.2) (.ref p.1)
  | [], vs, h => by
    simp only [List.map_nil, Reps] at h
    exact ⟨[], rfl, h, fun p hp => nomatch hp⟩
  | k :: kss, vs, h => by
    simp only [List.map_cons, Reps] at h
    obtain ⟨v, r, rfl, h1, h2⟩ := h
    obtain ⟨ps, e1, e2, e3⟩ := reps_tups h2
    have h0 := h1
    unfold eT at h1
    simp only [Rep] at h1
    obtain ⟨a, ws, rfl, hq, rs⟩ := h1
    have hw : ws = k.map V.int := reps_ints_vs rs
    subst hw
    refine ⟨(a, k) :: ps, by rw [List.map_cons, e1], by rw [List.map_cons, e2], fun p hp => ?_⟩
    rcases List.mem_cons.mp hp with rfl | hp
    · exact ⟨hq, h0⟩
    · exact e3 p hp
section
variable {X : Cx} {W : WX} {a : Expr} {m : Rho → M D} {p p2 q pos : Pos}
/-- set(x), whatever comes then -/
theorem setT_any {pins : List (Addr × Obj)} {σ : L2.St} {H : Hp} {s : Shared} {F : Hp} {ι : List Addr} {st : Sto} {d : D} {x : V} {v : Value} {kss : List (List Int)} {Q : Value → Shared → Prop} {E : Value → Shared → Prop} (hc : X.calm = true) (hu : X.A.units + 70 < cLine) (I : Inv X pins σ H s) (S : Sim X.K F ι st H) (r : Rep X.K F ι d x) (rv : RelV x v) (e : tupsAt st d = some kss) (hl : kss.length < 1200)
    (h : ∀ (h' : Heap) (tk : Nat) (L : List (Addr × List Int)) es ep t, SetB X.prog X.w h' s.heap.objs.size L es ep t → (∀ p ∈ L, p.2 ∈ kss) → (∀ k ∈ kss, k ∈ L.map (·.2)) → (∀ p ∈ L, SqP X.K F p.1 (p.2.map V.int) ∧ Rep X.K F ι (eT eI p.2) (.ref p.1)) → (∀ b o, s.heap.get? b = some o → h'.get? b = some o) → Q (.ref s.heap.objs.size) { s with heap := h', toks := tk }) :
    wpAny (model X.prog X.w) X.A (call (.type "set") [v]) Q E s := by
  unfold tupsAt at e
  cases e1 : seqOf st d with
  | none => rw [e1] at e; cases e
  | some xs =>
    rw [e1] at e
    have e : tupsOf xs = some kss := e
    obtain ⟨l, vs, rfl, hq, rr⟩ := S.seq r e1
    obtain rfl := tupsOf_some e
    obtain rfl : v = .ref l := rv
    obtain ⟨ps, ek, hv, hps⟩ := reps_tups rr
    have hk : ∀ p ∈ ps, IsT X.prog X.w s.heap p.2 p.1 := fun p hp => I.isT (S.sqT (hps p hp).1)
    have hn : ps.length < 1200 := by rw [← ek, List.length_map] at hl; exact hl
    have fin : ∀ (h' : Heap) (tk : Nat) (L : List (Addr × List Int)) es ep t, SetB X.prog X.w h' s.heap.objs.size L es ep t → Got ps ps.length L → (∀ b o, s.heap.get? b = some o → h'.get? b = some o) → Q (.ref s.heap.objs.size) { s with heap := h', toks := tk } := fun h' tk L es ep t R g k => by
      refine h h' tk L es ep t R (fun p hp => ?_) (fun k hk => ?_) (fun p hp => hps p (List.mem_of_mem_take (g.sub p hp))) k
      · rw [← ek]
        exact List.mem_map.mpr ⟨p, List.mem_of_mem_take (g.sub p hp), rfl⟩
      · rw [← ek] at hk
        obtain ⟨p, hp, rfl⟩ := List.mem_map.mp hk
        exact g.all p (by rw [List.take_length]; exact hp)
    rcases hq with hq | hq
    · obtain ⟨its, ri, pl, hz⟩ := I.list hq
      rw [hv] at ri
      exact set_listB ps (I.ok.hd hc) pl.isList (by simpa using refs_of_vals ri) hk hn (by omega) fin
    · obtain ⟨its, ri, pt, hz⟩ := I.tuple hq
      rw [hv] at ri
      exact set_tupB ps (I.ok.hd hc) (show s.heap.IsTuple l its.toArray from pt) (by simpa using refs_of_vals ri) hk hn (by omega) fin
/-- sorted(the set) -/
theorem sortedT_any {pins : List (Addr × Obj)} {σ : L2.St} {H : Hp} {s : Shared} {F : Hp} {ι : List Addr} {st : Sto} {b : Addr} {kss : List (List Int)} {L : List (Addr × List Int)} {es : Array (Int × Value)} {ep : Nat} {t : SetTable} {Q : V → Hp → Prop} {E : Value → Shared → Prop} (hc : X.calm = true) (hu : X.A.units + 70 < cLine) (I : Inv X pins σ H s) (S : Sim X.K F ι st H)
    (R : SetB X.prog X.w s.heap b L es ep t) (h1 : ∀ p ∈ L, p.2 ∈ kss) (h2 : ∀ k ∈ kss, k ∈ L.map (·.2)) (h3 : ∀ p ∈ L, SqP X.K F p.1 (p.2.map V.int) ∧ Rep X.K F ι (eT eI p.2) (.ref p.1)) (q : post X.K W σ F ι H (pL X.K) (.ok ((sortT kss).map (eT eI)) st) Q) :
    wpAny (model X.prog X.w) X.A (call (.builtin "sorted") [.ref b]) (EP X pins σ Q) E s := by
  obtain ⟨o, ho, hex, hd⟩ := R.ob
  have hsz := rows_size R.rw_
  have hfew := R.lim
  refine Calls.call_function_entry PyProof.Rows.kind_sorted PyProof.Rows.plain_sorted PyProof.Rows.entry_sorted (PyProof.Rows.args_sorted1 _) ?_
  unfold Builtin.«sorted»
  refine wpAny_bind (m := checkCount "sorted" 1 1 _) (wpAny_pure ?_)
  refine wpAny_bind (collect_set (A := X.A.in1) (I.ok.hd hc) ⟨o, ho, hex.1, hd⟩ R.fit (by unfold scanBound; omega) R.tb.ris R.lead fun s1 vs k1 hz g1 o1 pm => ?_)
  have hes : es.toList.map (·.2) = L.map fun q => Value.ref q.1 := by
    rw [R.rw_]
    unfold rowsOf
    rw [List.map_map] <;> rfl
  rw [hes] at pm
  obtain ⟨L1, p1, e1⟩ := perm_map_ex (fun q : Addr × List Int => Value.ref q.1) vs L pm
  have hl1 : L1.length = L.length := p1.length_eq
  subst e1
  refine wpAny_bind (wpAny_newList ?_ (by rw [sizeLine_eq, List.length_map]; omega))
  have hoL : (s1.heap.push (seqObj "list" (L1.map fun q => Value.ref q.1).toArray 0)).get? s1.heap.objs.size = some (seqObj "list" (L1.map fun q => Value.ref q.1).toArray 0) := Heap.get?_push_size _ rfl
  have ee : ∀ l : List (Addr × List Int), PySem.W.EachIs (fun u (b : Addr × List Int) => u = Value.ref b.1) (l.map fun q => Value.ref q.1) l := by
    intro l
    induction l with
    | nil => exact .nil
    | cons x l ih => exact .cons rfl ih
  have er : ∀ l : List (Addr × List Int), (∀ x ∈ l, x ∈ L) → PySem.W.EachIs (fun u (b : Addr × List Int) => ∃ as, Reads (s1.heap.push (seqObj "list" (L1.map fun q => Value.ref q.1).toArray 0)) u (toP (eT eI b.2)) as ∧ s1.heap.objs.size ∉ as) (l.map fun q => Value.ref q.1) l := by
    intro l
    induction l with
    | nil => intro _; exact .nil
    | cons x l ih =>
      intro hl
      refine .cons ?_ (ih fun y hy => hl y (List.mem_cons_of_mem _ hy))
      obtain ⟨as, r⟩ := Dp.reads I _ _ _ (rep_dp S (h3 x (hl x List.mem_cons_self)).2 (Pl.p (e := eT eI) x.2)) (show RelV (V.ref x.1) (Value.ref x.1) from rfl)
      have r1 := PyProof.Rows.Reads.keeps k1 r
      refine ⟨as, PyProof.Rows.Reads.keeps (fun _ _ => Heap.get?_push_of_some _) r1, fun hm => ?_⟩
      exact absurd (reads_lt _ _ _ (Or.al (e := eT eI) x.2 x.2) r1 _ hm) (Nat.lt_irrefl _)
  refine wpAny_bind (wpAny_holding (list_sort_dataX (s := { s1 with heap := s1.heap.push (seqObj "list" (L1.map fun q => Value.ref q.1).toArray 0) }) (enc := fun b : Addr × List Int => toP (eT eI b.2)) (bs := L1) hoL (ee L1) (er L1 fun x hx => p1.mem_iff.mp hx) ?_ ?_ ?_ ?_ fun out hout eout => ?_))
  · intro x hx y hy
    obtain ⟨a, _, rfl⟩ := List.mem_map.mp hx
    obtain ⟨c, _, rfl⟩ := List.mem_map.mp hy
    exact Or.al (e := eT eI) a.2 c.2
  · refine .inl fun d hd => ?_
    obtain ⟨a, _, rfl⟩ := List.mem_map.mp hd
    rcases Sb.sb (e := eT eI) with z | z
    · exact z a.2
    · have := (z a.2).2
      unfold eT at this
      rw [toP] at this
      exact absurd rfl (this _)
  · rw [sizeLine_eq]; omega
  · intro x hx
    have := Ev.dep (e := eT eI) x.2
    show X.A.units + 1 + 1 + (toP (eT eI x.2)).depth < cLine
    omega
  obtain ⟨L2, el2⟩ : ∃ L2, L1.mergeSort (PySem.W.dataLe false fun b : Addr × List Int => toP (eT eI b.2)) = L2 := ⟨_, rfl⟩
  rw [el2] at eout
  have p2 : L2.Perm L := by rw [← el2]; exact (List.mergeSort_perm _ _).trans p1
  have eo : out = L2.map fun q => Value.ref q.1 := by
    clear el2 p2 hout
    induction eout with
    | nil => rfl
    | cons h _ ih => rw [List.map_cons, ← h, ← ih]
  have es2 : L2.map (·.2) = sortT kss := by
    refine sortT_eq ?_ ((p2.map (·.2)).nodup_iff.mpr R.once) fun k => ?_
    · have e2 := List.map_mergeSort (r := PySem.W.dataLe false fun b : Addr × List Int => toP (eT eI b.2)) (s := leOf (lexB ltI)) (f := Prod.snd) (l := L1) (fun a _ b _ => by
        show (!PySem.W.dataLt (toP (eT eI b.2)) (toP (eT eI a.2))) = !lexB ltI b.2 a.2
        rw [Or.lt])
      rw [← el2, e2]
      exact Tlex_sorted _
    · constructor
      · intro hk
        obtain ⟨x, hx, rfl⟩ := List.mem_map.mp hk
        exact h1 x (p2.mem_iff.mp hx)
      · intro hk
        obtain ⟨x, hx, rfl⟩ := List.mem_map.mp (h2 k hk)
        exact List.mem_map.mpr ⟨x, p2.mem_iff.mpr hx, rfl⟩
  obtain ⟨c', hc'⟩ := PyProof.Rows.sortedHeap_at (vs := L1.map fun q => Value.ref q.1) (out := out.toArray) hoL
  have hn : H s1.heap.objs.size = none := I.hok.fresh hz
  have hl2 : L2.length = L.length := p2.length_eq
  have kk : ∀ b o, s.heap.get? b = some o → (PyProof.Rows.sortedHeap (s1.heap.push (seqObj "list" (L1.map fun q => Value.ref q.1).toArray 0)) s1.heap.objs.size (L1.map fun q => Value.ref q.1) out.toArray).get? b = some o := fun b u e => by
    have q := k1 b u e
    have hlt := Heap.lt_size q
    rw [PyProof.Rows.sortedHeap_old (Nat.ne_of_lt hlt) (by rw [size_push']; exact Nat.lt_succ_of_lt hlt)]
    exact Heap.get?_push_of_some _ q
  have hlen2 : (L2.map fun q => V.ref q.1).length ≤ sizeLine := by rw [List.length_map, sizeLine_eq]; omega
  have hv : Vals (L2.map fun q => V.ref q.1) out := by rw [eo]; exact vals_of_refs L2
  have J := I.call' (s' := { s1 with heap := PyProof.Rows.sortedHeap (s1.heap.push (seqObj "list" (L1.map fun q => Value.ref q.1).toArray 0)) s1.heap.objs.size (L1.map fun q => Value.ref q.1) out.toArray }) (ch := []) (show s1.os = s.os from o1) (Un.laid kk hz hn) (I.hok.laid (o := .lst (L2.map fun q => V.ref q.1)) kk hz ⟨hlen2, out, c', hv, by simpa using hc'⟩) (by show AllBare s1.gens; rw [g1]; exact I.bare) (fun _ z => nomatch z)
  have reps : ∀ l : List (Addr × List Int), (∀ x ∈ l, x ∈ L) → Reps X.K F ι ((l.map (·.2)).map (eT eI)) (l.map fun q => V.ref q.1) := by
    intro l
    induction l with
    | nil => intro _; simp only [List.map_nil, Reps]
    | cons x l ih =>
      intro hl
      simp only [List.map_cons, Reps]
      exact ⟨_, _, rfl, (h3 x (hl x List.mem_cons_self)).2, ih fun y hy => hl y (List.mem_cons_of_mem _ hy)⟩
  have rr := reps L2 fun x hx => p2.mem_iff.mp hx
  rw [es2] at rr
  exact wpAny_pure ⟨_, rfl, .ref s1.heap.objs.size, _, J, rfl, q F ι _ _ (Ext.laid hn) (S.laid hn) (pL_new S hn rr)⟩
theorem dl_sortSetT (hc : X.calm = true) (hu : X.A.units + 70 < cLine) (hg : Gl X "sorted") (hm : X.mg "sorted" = none) (hg2 : Gl X "set") (hm2 : X.mg "set" = none) (ha : DE X W a m)
    (na : starEach [a] X.env = (false, eval a X.env) :: starEach [] X.env := by rfl) : DL X W (.Call (.Name "sorted" p) [.Call (.Name "set" p2) [a] [] q] [] pos) (lSortSetT m) := by
  refine ⟨fun pins s σ H Q I ⟨F, ι, ρ, st, S, R, qq⟩ => ?_⟩
  refine Call_ (ld_blt I hg hm PyProof.Rows.boot_sorted ?_)
  refine PyProof.Rows.callWith_builtin1 (PyProof.Rows.args_cons ?_ rfl) rfl rfl
  refine Call_ (ld_blt I hg2 hm2 PyProof.Rows.boot_set ?_)
  refine PyProof.Rows.callWith_type1 (PyProof.Rows.args_cons (thn (ha.run pins s σ H (fun x H1 => ∃ F1 ι1 st1 d kss, Sim X.K F1 ι1 st1 H1 ∧ Rep X.K F1 ι1 d x ∧ tupsAt st1 d = some kss ∧ kss.length < 1200 ∧ post X.K W σ F1 ι1 H1 (pL X.K) (.ok ((sortT kss).map (eT eI)) st1) Q) I ?_) fun v s1 ⟨x, H1, I1, r1, q1⟩ => PyProof.Rows.args_nil ?_) na) na rfl
  · refine tG_seq back_L S R qq fun d st1 F1 ι1 H1 x x1 S1 R1 r1 q1 => ?_
    split at q1
    · rename_i kss e
      split at q1
      · rename_i hl
        exact ⟨F1, ι1, st1, d, kss, S1, r1, e, hl, q1⟩
      · exact (q1 : False).elim
    · exact (q1 : False).elim
  · obtain ⟨F1, ι1, st1, d, kss, S1, rd, e, hl, q1⟩ := q1
    refine setT_any hc hu I1 S1 rd r1 e hl fun h' tk L es ep t R2 a1 a2 a3 k2 => PyProof.Rows.args_nil ?_
    have I2 : Inv X pins σ H1 { s1 with heap := h', toks := tk } := I1.kept k2
    exact sortedT_any (W := W) hc hu I2 S1 R2 a1 a2 a3 q1
end
section
variable {S : Type} {W : Wd S} {fr : Sto} {Γ : List Sl}
def msetT {S : Type} (kss : List (List Int)) : Mt S (List (List Int)) := if kss.length < 1200 then mpure (sortT kss) else mbad
theorem iTT (kss : List (List Int)) (st : Sto) : tupsAt st (eT (eT eI) kss) = some kss := tupsOf_e kss
theorem iLT (kss : List (List Int)) (st : Sto) : tupsAt st (eL (eT eI) kss) = some kss := tupsOf_e kss
theorem ht_sortSetT {m : Rho → M D} {q : Mt S (List (List Int))} {en : List (List Int) → D} (hs : ∀ xs st, tupsAt st (en xs) = some xs) (h : HT W fr Γ m q en fun _ => Γ) : HT W fr Γ (lSortSetT m) (mbind q fun xs => msetT xs) (fun zs => zs.map (eT eI)) fun _ => Γ := fun s ρ st H => by
  unfold lSortSetT
  refine OR.bind (h s ρ st H) fun xs s1 st1 H1 => ?_
  rw [hs xs st1]
  dsimp only
  unfold msetT
  split
  · exact ⟨st1, rfl, H1⟩
  · trivial
end
/-! ### membership of tuples -/
def inB {α : Type} [DecidableEq α] (x : α) (xs : List α) : Bool := decide (x ∈ xs)
theorem inB_iff {α : Type} [DecidableEq α] {x : α} {xs : List α} : inB x xs = true ↔ x ∈ xs := by unfold inB; simp
section
variable {α : Type} [DecidableEq α] {e : α → D} {n : Nat}
theorem t_inTB [Ev e n] (x : α) (xs : List α) (h : n ≤ 64) (st : Sto) : pIn st (e x) (eT e xs) = some (.bl (inB x xs)) := t_inT x xs h st
theorem t_inLB [Ev e n] (x : α) (xs : List α) (h : n ≤ 64) (st : Sto) : pIn st (e x) (eL e xs) = some (.bl (inB x xs)) := t_inL x xs h st
theorem t_ninTB [Ev e n] (x : α) (xs : List α) (h : n ≤ 64) (st : Sto) : pNotIn st (e x) (eT e xs) = some (.bl (!inB x xs)) := t_ninT x xs h st
theorem t_ninLB [Ev e n] (x : α) (xs : List α) (h : n ≤ 64) (st : Sto) : pNotIn st (e x) (eL e xs) = some (.bl (!inB x xs)) := t_ninL x xs h st
end
section
variable {S : Type} {W : Wd S} {fr : Sto} {Γ : List Sl}
/-- no slot holds an own object -/
def noMut : List Sl → Bool
  | [] => true
  | .mut _ :: _ => false
  | _ :: r => noMut r
theorem noMut_not : ∀ {Γ : List Sl}, noMut Γ = true → ∀ m, Sl.mut m ∉ Γ
  | [], _, _, h => nomatch h
  | .any :: r, h, m, q => by
    rcases List.mem_cons.mp q with q | q
    · cases q
    · exact noMut_not (Γ := r) h m q
  | .val _ :: r, h, m, q => by
    rcases List.mem_cons.mp q with q | q
    · cases q
    · exact noMut_not (Γ := r) h m q
  | .mut _ :: _, h, _, _ => nomatch h
/-- what waits is left alone by a step that knows only the plain slots -/
theorem ap_TF {σ γ : Type} {pd : List (D × Sl)} {m : Rho → M D} {r : Rho → M (List D)} {F : Rho → List D → Sto → Fl} {q1 : Mt S γ} {e1 : γ → D} {k : γ → Mt S σ} {J : σ → List Sl} (hn : noMut Γ = true) (h : ∀ fr', HT W fr' Γ m q1 e1 fun _ => Γ)
    (hr : ∀ x, AP W fr Γ (pd ++ [(e1 x, .val (e1 x))]) r (fun ρ ds => F ρ (e1 x :: ds)) (k x) J) : AP W fr Γ pd (mCons m r) F (mbind q1 k) J := fun s ρ st H hρ => by
  rw [mCons_fl]
  obtain ⟨loc, e⟩ := H.pre
  have hno := noMut_not hn
  have plain : ∀ (g : Sto) (s' : S) (st' : Sto), Pre W g s' st' → Has W fr s Γ ρ st → Has W g s' Γ ρ st' := fun g s' st' hp H0 =>
    ⟨H0.len, hp, H0.val, fun i m q => absurd (List.mem_of_getElem? q) (hno m), fun i j m1 m2 q => absurd (List.mem_of_getElem? q) (hno m1)⟩
  have h1 := h (fr ++ loc) s ρ st (plain _ s st ⟨[], by rw [e, List.append_nil]⟩ (H.front hρ))
  have lenW := W.len
  have h2 : OR W fr (fun _ => Γ ++ pd.map (·.2)) (ρ ++ pd.map fun p => some p.1) e1 (m ρ st) (q1 s) := by
    revert h1
    cases q1 s with
    | ok b s1 =>
      rintro ⟨st1, e2, H1⟩
      refine ⟨st1, e2, ?_⟩
      obtain ⟨loc1, e3⟩ := H1.pre
      have old : ∀ (l : Nat) (x : MO), W.n + fr.length ≤ l → st[l]? = some x → st1[l]? = some x := fun l x hl hx => by
        rw [e, ← List.append_assoc, List.getElem?_append_right (by rw [List.length_append, lenW]; exact hl)] at hx
        have hlt := (List.getElem?_eq_some_iff.mp hx).1
        rw [e3, List.append_assoc fr, ← List.append_assoc, List.getElem?_append_right (by rw [List.length_append, lenW]; exact hl)]
        rw [List.length_append, lenW] at hx hlt ⊢
        rw [List.getElem?_append_left hlt]
        exact hx
      refine ⟨H.len, ⟨loc ++ loc1, by rw [e3, List.append_assoc fr]⟩, H.val, fun i m q => ?_, H.nal⟩
      obtain ⟨l, q1, q2, q3⟩ := H.mt i m q
      exact ⟨l, q1, q2, old l m q2 q3⟩
    | exc x s1 =>
      rintro ⟨st1, e2, ⟨loc1, e3⟩, hx⟩
      exact ⟨st1, e2, ⟨loc ++ loc1, by rw [e3, List.append_assoc fr]⟩, hx⟩
    | bad => exact id
  show NR W fr J (((m ρ st).fl ρ fun d st1 => (r ρ st1).fl ρ fun ds st2 => F ρ (d :: ds) st2)) (rbind (q1 s) k)
  revert h2
  cases q1 s with
  | ok b s1 =>
    rintro ⟨st1, e2, H1⟩
    rw [e2]
    refine hr b s1 ρ st1 ?_ hρ
    have := H1.snocVal (e1 b)
    rw [List.append_assoc, List.append_assoc] at this
    rw [List.map_append, List.map_append]
    exact this
  | exc x s1 =>
    rintro ⟨st1, e2, hp⟩
    rw [e2]
    exact ⟨ρ, st1, rfl, hp⟩
  | bad => exact id
end
section
variable {S : Type} {W : Wd S} {fr : Sto} {Γ : List Sl} {α : Type} [DecidableEq α] {e : α → D} {n : Nat}
/-- t.count(y), t not a plain value -/
theorem ht_countX [Ev e n] {mo m : Rho → M D} {q : Mt S (List α)} {y : α} (hn : n < 60) (h1 : HT W fr Γ mo q (eT e) fun _ => Γ) (h2 : HV W fr Γ m (e y)) : HT W fr Γ (mMethT pCountT mo (mCons m mNil)) (mbind q fun xs => mcountD e xs y) eI fun _ => Γ := fun s ρ st H => by
  unfold mMethT
  exact OR.bind (h1 s ρ st H) fun xs s1 st1 H1 => ht_countT (mo := fun _ st => .ok (eT e xs) st) hn (fun _ _ _ _ => rfl) h2 s1 ρ st1 H1
end
end Dn

namespace Lw
open PySem PySem.Spec PyProof.Rows L2 Dn
-- ### the text by places
def top (i : Nat) : Stmt := PySem.Challenge.pw_pressrelease_k38_whole_sets_of_states.main.body.getD i (.Pass ⟨0, 0, 0, 0⟩)
abbrev s_changed_word : Stmt := top 8
abbrev N_changed_word : List Str := ["panel", "pressed", "button", "word"]
abbrev s_effect_after : Stmt := top 9
abbrev N_effect_after : List Str := ["panel", "effect", "pressed", "button", "word"]
abbrev s_effect_of : Stmt := top 10
abbrev N_effect_of : List Str := ["panel", "row", "effect", "button"]
abbrev s_is_reset : Stmt := top 17
abbrev N_is_reset : List Str := ["panel", "row"]
abbrev s_press_button : Stmt := top 13
abbrev N_press_button : List Str := ["panel", "state", "button", "kept", "other"]
abbrev s_is_number : Stmt := top 12
abbrev N_is_number : List Str := ["value", "low", "high"]
abbrev s_row_error : Stmt := top 14
abbrev N_row_error : List Str := ["panel", "value", "wrong", "index", "item"]
abbrev s_run : Stmt := top 15
abbrev N_run : List Str := ["panel", "state", "value", "wrong", "button"]
abbrev s_states_after : Stmt := top 18
abbrev N_states_after : List Str := ["panel", "states", "row", "state"]
abbrev s__law_deck : Stmt := top 20
abbrev N__law_deck : List Str := ["_law_script", "_law_cell"]
abbrev s__law_draw : Stmt := top 21
abbrev N__law_draw : List Str := ["_law_deck_here", "_law_bound", "_law_at", "_law_cell", "_law_mixed"]
abbrev s__law_panel : Stmt := top 22
abbrev N__law_panel : List Str := ["_law_deck_here", "_law_most", "_law_n", "_law_way", "_law_found", "_law_button", "_law_own", "_law_other"]
abbrev s__law_row : Stmt := top 23
abbrev N__law_row : List Str := ["_law_deck_here", "_law_n", "_law_most", "_law_few", "_law_way", "_law_k"]
abbrev s__law_all : Stmt := top 24
abbrev N__law_all : List Str := ["_law_n", "_law_found", "_law_button", "_law_state_here"]
abbrev s__law_state : Stmt := top 25
abbrev N__law_state : List Str := ["_law_deck_here", "_law_n", "_law_button"]
abbrev s__law_some : Stmt := top 26
abbrev N__law_some : List Str := ["_law_deck_here", "_law_n", "_law_k"]
abbrev s__law_sets_right : Stmt := top 27
abbrev N__law_sets_right : List Str := ["_law_deck_here", "_law_panel_here", "_law_row_here", "_law_other", "_law_one", "_law_more", "_law_both", "_law_first", "_law_second", "_law_joined"]
abbrev s_law : Stmt := top 28
abbrev N_law : List Str := ["_law_script", "_law_deck_here", "_law_turn", "_law_panel_here", "_law_n", "_law_every", "_law_row_here", "_law_other", "_law_some_here", "_law_after"]
-- ### what the defs mean
noncomputable def m_changed_word : Rho → Sto → Fl := (sSeq (sIf (isB (mOp pEq (mVar 2) (mVar 1))) (sRet (mLit (.str ("on" : Str)))) sNext)
  (sRet (mIf (isB (mOp pIn (mVar 2) (mOp pIdx (mVar 0) (mVar 1)))) (mLit (.str ("off" : Str))) (mVar 3))))
noncomputable def d_changed_word : List D → M D := fnD 4 4 m_changed_word
theorem nn_changed_word : NeedN 4 d_changed_word := needN_fnD
noncomputable def c_effect_after_1 : Rho → M (List D) := lLc (iEnumD (mVar 1)) (gT 2 (gsCons (gN 3) (gsCons (gN 4) gsNil))) bYes (mCall d_changed_word (mCons (mVar 0) (mCons (mVar 2) (mCons (mVar 3) (mCons (mVar 4) mNil))))) [3, 4]
noncomputable def m_effect_after : Rho → Sto → Fl := (sRet (mB pTuple (mCons (mFrz c_effect_after_1) mNil)))
noncomputable def d_effect_after : List D → M D := fnD 3 5 m_effect_after
theorem nn_effect_after : NeedN 3 d_effect_after := needN_fnD
noncomputable def l_effect_of_1 : Rho → Sto → Fl := (sAsg (gN 2) (mCall d_effect_after (mCons (mVar 0) (mCons (mVar 2) (mCons (mVar 3) mNil)))))
noncomputable def m_effect_of : Rho → Sto → Fl := (sSeq (sAsg (gN 2) (mOp pMul (mTup (mCons (mLit (.str ("same" : Str))) mNil)) (mB pLen (mCons (mVar 0) mNil))))
  (sSeq (sFor (iSeq (mVar 1)) (gN 3) l_effect_of_1)
  (sRet (mVar 2))))
noncomputable def d_effect_of : List D → M D := fnD 2 4 m_effect_of
theorem nn_effect_of : NeedN 2 d_effect_of := needN_fnD
noncomputable def m_is_reset : Rho → Sto → Fl := (sRet (mOp pNotIn (mLit (.str ("same" : Str))) (mCall d_effect_of (mCons (mVar 0) (mCons (mVar 1) mNil)))))
noncomputable def d_is_reset : List D → M D := fnD 2 2 m_is_reset
theorem nn_is_reset : NeedN 2 d_is_reset := needN_fnD
noncomputable def c_press_button_1 : Rho → M (List D) := lLc (iSeq (mVar 1)) (gN 4) (bAnd (isB (mOp pNotIn (mVar 4) (mOp pIdx (mVar 0) (mVar 2)))) (isB (mOp pNe (mVar 4) (mVar 2)))) (mVar 4) [4]
noncomputable def m_press_button : Rho → Sto → Fl := (sSeq (sAsg (gN 3) (mFrz c_press_button_1))
  (sRet (mB pTuple (mCons (mFrz (lB pSorted (mCons (mFrz (lDisp (mStar (mVar 3) (mCons (mVar 2) mNil)))) mNil))) mNil))))
noncomputable def d_press_button : List D → M D := fnD 3 5 m_press_button
theorem nn_press_button : NeedN 3 d_press_button := needN_fnD
noncomputable def m_is_number : Rho → Sto → Fl := (sRet (mAndV (mIsi "int" (mVar 0)) (mAndV (mNotV (mIsi "bool" (mVar 0))) (mChain pLe pLe (mVar 1) (mVar 0) (mVar 2)))))
noncomputable def d_is_number : List D → M D := fnD 3 3 m_is_number
theorem nn_is_number : NeedN 3 d_is_number := needN_fnD
noncomputable def c_row_error_1 : Rho → M (List D) := lLc (iEnumD (mVar 1)) (gT 2 (gsCons (gN 3) (gsCons (gN 4) gsNil))) (bNot (mTru (mCall d_is_number (mCons (mVar 4) (mCons (mLit (.int 0)) (mCons (mOp pSub (mB pLen (mCons (mVar 0) mNil)) (mLit (.int 1))) mNil)))))) (mVar 3) [3, 4]
noncomputable def m_row_error : Rho → Sto → Fl := (sSeq (sIf (bOr (bNot (mTru (mIsi "tuple" (mVar 1)))) (isB (mOp pGt (mB pLen (mCons (mVar 1) mNil)) (mLit (.int 60))))) (sRet (mTup (mCons (mLit .non) mNil))) sNext)
  (sSeq (sAsg (gN 2) (mFrz c_row_error_1))
  (sRet (mB pTuple (mCons (mFrz (lSlL (mVar 2) oNone (oSome (mLit (.int 1))))) mNil)))))
noncomputable def d_row_error : List D → M D := fnD 2 5 m_row_error
theorem nn_row_error : NeedN 2 d_row_error := needN_fnD
noncomputable def l_run_1 : Rho → Sto → Fl := (sAsg (gN 1) (mCall d_press_button (mCons (mVar 0) (mCons (mVar 1) (mCons (mVar 4) mNil)))))
noncomputable def m_run : Rho → Sto → Fl := (sSeq (sAsg (gN 3) (mCall d_row_error (mCons (mVar 0) (mCons (mVar 2) mNil))))
  (sSeq (sIf (isB (mOp pNe (mVar 3) (mTup mNil))) sNever sNext)
  (sSeq (sFor (iSeq (mVar 2)) (gN 4) l_run_1)
  (sRet (mVar 1)))))
noncomputable def d_run : List D → M D := fnD 3 5 m_run
theorem nn_run : NeedN 3 d_run := needN_fnD
noncomputable def c_states_after_1 : Rho → M (List D) := lLc (iSeq (mVar 1)) (gN 3) bYes (mCall d_run (mCons (mVar 0) (mCons (mVar 3) (mCons (mVar 2) mNil)))) [3]
noncomputable def m_states_after : Rho → Sto → Fl := (sRet (mB pTuple (mCons (mFrz (lSortSetT (mFrz c_states_after_1))) mNil)))
noncomputable def d_states_after : List D → M D := fnD 3 4 m_states_after
theorem nn_states_after : NeedN 3 d_states_after := needN_fnD
noncomputable def c__law_deck_1 : Rho → M (List D) := lLc (iSeq (mFrz (lSlL (mVar 0) oNone (oSome (mLit (.int 60)))))) (gN 1) bYes (mB pAbs (mCons (mVar 1) mNil)) [1]
noncomputable def m__law_deck : Rho → Sto → Fl := (sRet (mNew (lDisp (mCons (mNew c__law_deck_1) (mCons (mLit (.int 0)) mNil)))))
noncomputable def d__law_deck : List D → M D := fnD 1 2 m__law_deck
theorem nn__law_deck : NeedN 1 d__law_deck := needN_fnD
noncomputable def m__law_draw : Rho → Sto → Fl := (sSeq (sAsg (gSubD (mVar 0) (mLit (.int 1))) (mOp pAdd (mOp pIdx (mVar 0) (mLit (.int 1))) (mLit (.int 1))))
  (sSeq (sAsg (gN 2) (mOp pMod (mOp pIdx (mVar 0) (mLit (.int 1))) (mB pMax2 (mCons (mLit (.int 1)) (mCons (mB pLen (mCons (mOp pIdx (mVar 0) (mLit (.int 0))) mNil)) mNil)))))
  (sSeq (sAsg (gN 3) (mOp pIdx (mFrz (lOp pCat (mOp pIdx (mVar 0) (mLit (.int 0))) (mFrz (lDisp (mCons (mLit (.int 0)) mNil))))) (mVar 2)))
  (sSeq (sIf (isB (mOp pGe (mVar 3) (mOp pPow (mLit (.int 10)) (mLit (.int 18))))) (sSeq (sAsg (gSubD (mOp pIdx (mVar 0) (mLit (.int 0))) (mVar 2)) (mOp pDiv (mVar 3) (mVar 1)))
    (sRet (mOp pMod (mVar 3) (mVar 1)))) sNext)
  (sSeq (sAsg (gN 4) (mOp pMod (mOp pPow (mOp pAdd (mOp pAdd (mOp pMod (mVar 3) (mLit (.int 2147483563))) (mOp pMul (mLit (.int 104729)) (mOp pIdx (mVar 0) (mLit (.int 1))))) (mLit (.int 7))) (mLit (.int 4))) (mLit (.int 2147483629))))
  (sRet (mOp pMod (mOp pAdd (mOp pDiv (mVar 4) (mLit (.int 8))) (mOp pMul (mLit (.int 31)) (mOp pIdx (mVar 0) (mLit (.int 1))))) (mVar 1))))))))
noncomputable def d__law_draw : List D → M D := fnD 2 5 m__law_draw
theorem nn__law_draw : NeedN 2 d__law_draw := needN_fnD
noncomputable def c__law_panel_1 : Rho → M (List D) := lLc (iRng1D (mVar 2)) (gN 7) (bAnd (isB (mOp pNe (mVar 7) (mVar 5))) (isB (mOp pEq (mCall d__law_draw (mCons (mVar 0) (mCons (mOp pIdx (mFrz (lDisp (mCons (mLit (.int 2)) (mCons (mLit (.int 5)) (mCons (mLit (.int 9)) (mCons (mLit (.int 7)) (mCons (mLit (.int 1)) mNil))))))) (mVar 3)) mNil))) (mLit (.int 0))))) (mVar 7) [7]
noncomputable def c__law_panel_2 : Rho → M (List D) := lLc (iRng1D (mVar 2)) (gN 7) (bAnd (isB (mOp pNe (mVar 7) (mVar 5))) (isB (mOp pNotIn (mVar 7) (mVar 6)))) (mVar 7) [7]
noncomputable def l__law_panel_1 : Rho → Sto → Fl := (sSeq (sAsg (gN 6) (mFrz c__law_panel_1))
    (sSeq (sIf (isB (mOp pEq (mVar 3) (mLit (.int 2)))) (sAsg (gN 6) (mFrz c__law_panel_2)) sNext)
    (sSeq (sIf (bAnd (isB (mOp pEq (mVar 3) (mLit (.int 3)))) (isB (mOp pGt (mVar 2) (mLit (.int 1))))) (sAsg (gN 6) (mFrz (lOp pCat (mVar 6) (mFrz (lDisp (mCons (mOp pMod (mOp pAdd (mVar 5) (mLit (.int 1))) (mVar 2)) mNil)))))) sNext)
    (sDrop (mMeth "list" pAppend (mVar 4) (mCons (mB pTuple (mCons (mFrz (lSortSet (mFrz (lOp pRepL (mVar 6) (mB pInt (mCons (mOp pNe (mVar 3) (mLit (.int 4))) mNil)))))) mNil)) mNil))))))
noncomputable def m__law_panel : Rho → Sto → Fl := (sSeq (sAsg (gT 3 (gsCons (gN 2) (gsCons (gN 3) (gsCons (gN 4) gsNil)))) (mTup (mCons (mOp pAdd (mLit (.int 1)) (mCall d__law_draw (mCons (mVar 0) (mCons (mVar 1) mNil)))) (mCons (mCall d__law_draw (mCons (mVar 0) (mCons (mLit (.int 5)) mNil))) (mCons (mNew (lDisp mNil)) mNil)))))
  (sSeq (sFor (iRng1D (mVar 2)) (gN 5) l__law_panel_1)
  (sFz 4 (sRet (mB pTuple (mCons (mVar 4) mNil))))))
noncomputable def d__law_panel : List D → M D := fnD 2 8 m__law_panel
theorem nn__law_panel : NeedN 2 d__law_panel := needN_fnD
noncomputable def c__law_row_1 : Rho → M (List D) := lLc (iRng1D (mCall d__law_draw (mCons (mVar 0) (mCons (mOp pAdd (mVar 2) (mLit (.int 1))) mNil)))) (gN 5) bYes (mOp pIdx (mFrz (lDisp (mCons (mCall d__law_draw (mCons (mVar 0) (mCons (mVar 1) mNil))) (mCons (mOp pIdx (mVar 3) (mOp pMod (mVar 5) (mLit (.int 3)))) mNil)))) (mVar 4)) [5]
noncomputable def m__law_row : Rho → Sto → Fl := (sSeq (sAsg (gN 3) (mFrz (lDisp (mCons (mCall d__law_draw (mCons (mVar 0) (mCons (mVar 1) mNil))) (mCons (mCall d__law_draw (mCons (mVar 0) (mCons (mVar 1) mNil))) (mCons (mCall d__law_draw (mCons (mVar 0) (mCons (mVar 1) mNil))) mNil))))))
  (sSeq (sAsg (gN 4) (mCall d__law_draw (mCons (mVar 0) (mCons (mLit (.int 2)) mNil))))
  (sRet (mB pTuple (mCons (mFrz c__law_row_1) mNil)))))
noncomputable def d__law_row : List D → M D := fnD 3 6 m__law_row
theorem nn__law_row : NeedN 3 d__law_row := needN_fnD
noncomputable def c__law_all_1 : Rho → M (List D) := lLc (iSeq (mVar 1)) (gN 3) bYes (mOp pAdd (mVar 3) (mTup (mCons (mVar 2) mNil))) [3]
noncomputable def l__law_all_1 : Rho → Sto → Fl := (sAsg (gN 1) (mFrz (lOp pCat (mVar 1) (mFrz c__law_all_1))))
noncomputable def m__law_all : Rho → Sto → Fl := (sSeq (sAsg (gN 1) (mFrz (lDisp (mCons (mTup mNil) mNil))))
  (sSeq (sFor (iRng1D (mVar 0)) (gN 2) l__law_all_1)
  (sRet (mFrz (lB pSorted (mCons (mVar 1) mNil))))))
noncomputable def d__law_all : List D → M D := fnD 1 4 m__law_all
theorem nn__law_all : NeedN 1 d__law_all := needN_fnD
noncomputable def c__law_state_1 : Rho → M (List D) := lLc (iRng1D (mVar 1)) (gN 2) (isB (mOp pEq (mCall d__law_draw (mCons (mVar 0) (mCons (mLit (.int 2)) mNil))) (mLit (.int 0)))) (mVar 2) [2]
noncomputable def m__law_state : Rho → Sto → Fl := (sRet (mB pTuple (mCons (mFrz c__law_state_1) mNil)))
noncomputable def d__law_state : List D → M D := fnD 2 3 m__law_state
theorem nn__law_state : NeedN 2 d__law_state := needN_fnD
noncomputable def c__law_some_1 : Rho → M (List D) := lLc (iRng1D (mOp pAdd (mLit (.int 1)) (mCall d__law_draw (mCons (mVar 0) (mCons (mLit (.int 9)) mNil))))) (gN 2) bYes (mCall d__law_state (mCons (mVar 0) (mCons (mVar 1) mNil))) [2]
noncomputable def m__law_some : Rho → Sto → Fl := (sRet (mB pTuple (mCons (mFrz (lSortSetT (mFrz c__law_some_1))) mNil)))
noncomputable def d__law_some : List D → M D := fnD 2 3 m__law_some
theorem nn__law_some : NeedN 2 d__law_some := needN_fnD
noncomputable def m__law_sets_right : Rho → Sto → Fl := (sSeq (sPar 4 5 (mCons (mCall d__law_some (mCons (mVar 0) (mCons (mB pLen (mCons (mVar 1) mNil)) mNil))) (mCons (mCall d__law_some (mCons (mVar 0) (mCons (mB pLen (mCons (mVar 1) mNil)) mNil))) mNil)))
  (sSeq (sAsg (gN 6) (mB pTuple (mCons (mFrz (lSortSetT (mOp pAdd (mVar 4) (mVar 5)))) mNil)))
  (sSeq (sAsg (gN 7) (mCall d_states_after (mCons (mVar 1) (mCons (mVar 4) (mCons (mVar 2) mNil)))))
  (sSeq (sAsg (gN 8) (mCall d_states_after (mCons (mVar 1) (mCons (mVar 5) (mCons (mVar 2) mNil)))))
  (sSeq (sIf (isB (mOp pNe (mCall d_states_after (mCons (mVar 1) (mCons (mVar 6) (mCons (mVar 2) mNil)))) (mB pTuple (mCons (mFrz (lSortSetT (mOp pAdd (mVar 7) (mVar 8)))) mNil)))) (sRet (mLit (.bl false))) sNext)
  (sSeq (sAsg (gN 9) (mCall d_states_after (mCons (mVar 1) (mCons (mVar 4) (mCons (mOp pAdd (mVar 2) (mVar 3)) mNil)))))
  (sSeq (sIf (bOr (isB (mOp pGt (mB pLen (mCons (mVar 7) mNil)) (mB pLen (mCons (mVar 4) mNil)))) (isB (mOp pNe (mCall d_states_after (mCons (mVar 1) (mCons (mVar 7) (mCons (mVar 3) mNil)))) (mVar 9)))) (sRet (mLit (.bl false))) sNext)
  (sRet (mAndV (mOp pEq (mCall d_states_after (mCons (mVar 1) (mCons (mVar 7) (mCons (mTup mNil) mNil)))) (mVar 7)) (mOp pEq (mCall d_states_after (mCons (mVar 1) (mCons (mTup mNil) (mCons (mVar 2) mNil)))) (mTup mNil)))))))))))
noncomputable def d__law_sets_right : List D → M D := fnD 4 10 m__law_sets_right
theorem nn__law_sets_right : NeedN 4 d__law_sets_right := needN_fnD
noncomputable def l_law_1 : Rho → Sto → Fl := (sSeq (sAsg (gN 9) (mCall d_states_after (mCons (mVar 3) (mCons (mVar 5) (mCons (mVar 8) mNil)))))
      (sSeq (sIf (isB (mOp pNe (mB pLen (mCons (mVar 9) mNil)) (mOp pIdx (mFrz (lDisp (mCons (mLit (.int 1)) (mCons (mLit (.int 2)) (mCons (mLit (.int 4)) (mCons (mLit (.int 8)) (mCons (mLit (.int 16)) (mCons (mLit (.int 32)) (mCons (mLit (.int 64)) (mCons (mLit (.int 128)) mNil)))))))))) (mMethT pCountT (mCall d_effect_of (mCons (mVar 3) (mCons (mVar 8) mNil))) (mCons (mLit (.str ("same" : Str))) mNil))))) (sRet (mLit (.bl false))) sNext)
      (sIf (isB (mOp pNe (mCall d_is_reset (mCons (mVar 3) (mCons (mVar 8) mNil))) (mOp pEq (mB pLen (mCons (mVar 9) mNil)) (mLit (.int 1))))) (sRet (mLit (.bl false))) sNext)))
noncomputable def l_law_2 : Rho → Sto → Fl := (sSeq (sAsg (gN 3) (mCall d__law_panel (mCons (mVar 1) (mCons (mOp pIdx (mFrz (lDisp (mCons (mLit (.int 7)) (mCons (mLit (.int 6)) (mCons (mLit (.int 5)) (mCons (mLit (.int 5)) (mCons (mLit (.int 4)) mNil))))))) (mVar 2)) mNil))))
    (sSeq (sAsg (gN 4) (mB pLen (mCons (mVar 3) mNil)))
    (sSeq (sAsg (gN 5) (mB pTuple (mCons (mCall d__law_all (mCons (mVar 4) mNil)) mNil)))
    (sSeq (sPar 6 7 (mCons (mCall d__law_row (mCons (mVar 1) (mCons (mVar 4) (mCons (mLit (.int 10)) mNil)))) (mCons (mCall d__law_row (mCons (mVar 1) (mCons (mVar 4) (mCons (mLit (.int 10)) mNil)))) mNil)))
    (sSeq (sFor (iSeq (mTup (mCons (mVar 6) (mCons (mVar 7) (mCons (mOp pAdd (mVar 6) (mVar 7)) (mCons (mSlT (mVar 6) oNone (oSome (mLit (.int 2)))) (mCons (mTup mNil) mNil))))))) (gN 8) l_law_1)
    (sSeq (sIf (bNot (mTru (mCall d__law_sets_right (mCons (mVar 1) (mCons (mVar 3) (mCons (mVar 6) (mCons (mVar 7) mNil))))))) (sRet (mLit (.bl false))) sNext)
    (sIf (bNot (mTru (mCall d__law_sets_right (mCons (mVar 1) (mCons (mVar 3) (mCons (mVar 7) (mCons (mVar 6) mNil))))))) (sRet (mLit (.bl false))) sNext)))))))
noncomputable def rest_law_1 : Rho → Sto → Fl := (sSeq (sFor (iRng1D (mLit (.int 5))) (gN 2) l_law_2)
  (sRet (mLit (.bl true))))
noncomputable def m_law : Rho → Sto → Fl := (sSeq (sAsg (gN 1) (mCall d__law_deck (mCons (mVar 0) mNil))) rest_law_1)
noncomputable def d_law : List D → M D := fnD 1 10 m_law
theorem nn_law : NeedN 1 d_law := needN_fnD

/-! ### the deck -/
def dk (cells : List Int) (k : Nat) (rest : Sto) : Sto := .lst (cells.map .int) :: .lst [.ref 0, nI k] :: rest
def Good (cells : List Int) : Prop := ∀ z ∈ cells, 0 ≤ z
theorem good_set {cells : List Int} (g : Good cells) {j : Nat} {z : Int} (h : 0 ≤ z) : Good (cells.set j z) := fun y hy => by
  rcases List.mem_or_eq_of_mem_set hy with q | q
  · exact g y q
  · rw [q]; exact h
section
variable (c : List Int) (k : Nat) (r : Sto)
theorem dk_idx1 : pIdx (dk c k r) (.ref 1) (.int 1) = some (.int (k : Int)) := by rw [pIdx_ref (xs := [.ref 0, nI k]) rfl] <;> rfl
theorem dk_idx0 : pIdx (dk c k r) (.ref 1) (.int 0) = some (.ref 0) := by rw [pIdx_ref (xs := [.ref 0, nI k]) rfl] <;> rfl
theorem dk_len : pLen (dk c k r) [.ref 0] = some (.int (c.length : Int)) := by rw [pLen_ref (xs := c.map .int) rfl, List.length_map]
theorem dk_cell {j : Nat} (h : j < c.length) : pIdx (dk c k r) (.ref 0) (.int (j : Int)) = some (.int c[j]) := by
  rw [pIdx_ref (xs := c.map .int) rfl, atI_cast, List.getElem?_map, List.getElem?_eq_getElem h] <;> rfl
theorem dk_put (ρ : Rho) : gSubD (mVar 0) (mLit (.int 1)) (.int ((k : Int) + 1)) (some (.ref 1) :: ρ) (dk c k r) = .ok (some (.ref 1) :: ρ) (dk c (k + 1) r) := by
  rw [gSubD_ref (l := 1) (j := 1) (xs := [.ref 0, nI k]) rfl rfl rfl rfl] <;> rfl
theorem dk_setD {j : Nat} {z : Int} {a b c4 : Option D} (h : j < c.length) : gSubD (mOp pIdx (mVar 0) (mLit (.int 0))) (mVar 2) (.int z) [some (.ref 1), a, some (.int (j : Int)), b, c4] (dk c k r) = .ok [some (.ref 1), a, some (.int (j : Int)), b, c4] (dk (c.set j z) k r) := by
  rw [gSubD_ref (l := 0) (j := j) (xs := c.map .int) (s1 := dk c k r) (s2 := dk c k r) (k := (j : Int)) (by simp only [mOp_ap, mVar_ap, mLit_ap, List.getElem?_cons_zero, Out.bind_ok, dk_idx0, lift_some]) rfl rfl ?_]
  · show Out.ok _ _ = Out.ok _ _
    unfold dk
    rw [List.map_set]
    rfl
  · rw [List.length_map]
    unfold ixN
    rw [if_pos (by omega), if_pos (by omega), Int.toNat_natCast]
end
theorem mix_ok (c : Int) (k m : Nat) (h0 : 0 ≤ c) (hk : k ≤ 1000000001) (hm : 1 ≤ m) : ∃ z : Nat, z < m ∧
    ((c % 2147483563 + 104729 * (k : Int) + 7) ^ 4 % 2147483629 / 8 + 31 * (k : Int)) % (m : Int) = (z : Int) ∧ 0 ≤ c % 2147483563 + 104729 * (k : Int) + 7 ∧ c % 2147483563 + 104729 * (k : Int) + 7 < 18446744073709551616 := by
  have e1 : 0 ≤ c % 2147483563 := Int.emod_nonneg _ (by decide)
  have e2 : c % 2147483563 < 2147483563 := Int.emod_lt_of_pos _ (by decide)
  have e3 : 0 ≤ ((c % 2147483563 + 104729 * (k : Int) + 7) ^ 4 % 2147483629 / 8 + 31 * (k : Int)) % (m : Int) := Int.emod_nonneg _ (by omega)
  have e4 : ((c % 2147483563 + 104729 * (k : Int) + 7) ^ 4 % 2147483629 / 8 + 31 * (k : Int)) % (m : Int) < m := Int.emod_lt_of_pos _ (by omega)
  exact ⟨(((c % 2147483563 + 104729 * (k : Int) + 7) ^ 4 % 2147483629 / 8 + 31 * (k : Int)) % (m : Int)).toNat, by omega, by omega, by omega, by omega⟩
theorem draw_ok {cells : List Int} {k m : Nat} (g : Good cells) (hcl : cells.length + 1 ≤ 100000) (hk : k ≤ 1000000000) (h1 : 1 ≤ m) (h2 : m < 1073741824) :
    ∃ z cells', z < m ∧ Good cells' ∧ cells'.length = cells.length ∧ ∀ rest, d__law_draw [.ref 1, nI m] (dk cells k rest) = .ok (nI z) (dk cells' (k + 1) rest) := by
  have hm : (0 : Int) < (m : Int) := by omega
  have hm2 : (m : Int) < 1073741824 := by omega
  have hu : ∀ z cells' rest, m__law_draw [some (.ref 1), some (nI m), none, none, none] (dk cells k rest) = .ret (nI z) (dk cells' (k + 1) rest) → d__law_draw [.ref 1, nI m] (dk cells k rest) = .ok (nI z) (dk cells' (k + 1) rest) := fun z c2 rest e => by
    show clean _ (flOut (m__law_draw [some (.ref 1), some (nI m), none, none, none] (dk cells k rest))) = _
    rw [e, flOut_ret]
    exact clean_same rfl
  have p18 : ∀ s : Sto, pPow s (.int 10) (.int 18) = some (.int 1000000000000000000) := fun s => by rw [pPow_int _ _ _ (by decide)] <;> rfl
  have e4 : (4 : Int).toNat = 4 := rfl
  -- where the cell stands
  obtain ⟨j, ej⟩ : ∃ j : Nat, (k + 1) % (max 1 cells.length) = j := ⟨_, rfl⟩
  have hj : j < max 1 cells.length := by rw [← ej]; exact Nat.mod_lt _ (by omega)
  obtain ⟨c, ec, hc0⟩ : ∃ c : Int, (cells ++ [0])[j]? = some c ∧ 0 ≤ c := by
    by_cases hl : j < cells.length
    · exact ⟨cells[j], by rw [List.getElem?_append_left hl, List.getElem?_eq_getElem hl], g _ (List.getElem_mem hl)⟩
    · have : j = cells.length := by omega
      exact ⟨0, by rw [List.getElem?_append_right (by omega), this]; simp, by decide⟩
  have hmax : ∀ s : Sto, pMax2 s [.int 1, .int (cells.length : Int)] = some (.int ((max 1 cells.length : Nat) : Int)) := fun s => by
    have := t_max 1 (cells.length : Int) s
    have e2 : max (1 : Int) (cells.length : Int) = ((max 1 cells.length : Nat) : Int) := by omega
    rw [e2] at this
    exact this
  have em : ∀ s : Sto, pMod s (.int ((k : Int) + 1)) (.int ((max 1 cells.length : Nat) : Int)) = some (.int (j : Int)) := fun s => by
    rw [pMod_int _ _ _ (by omega)]
    have : ((k : Int) + 1) % ((max 1 cells.length : Nat) : Int) = (j : Int) := by rw [← ej]; simp
    rw [this]
  have hcat : ∀ (k : Nat) (rest : Sto), cells.length + 1 ≤ 100000 → pCat (dk cells k rest) (.ref 0) (.lst [.int 0]) = some ((cells ++ [0]).map .int) := fun k rest hl => by
    show (match lstOf (dk cells k rest) (.ref 0), lstOf (dk cells k rest) (.lst [.int 0]) with
      | some xs, some ys => if xs.length + ys.length ≤ SZ then some (xs ++ ys) else none
      | _, _ => none) = _
    rw [lst_of_ref (xs := cells.map .int) rfl, lstOf_lst]
    dsimp only
    rw [if_pos (by rw [List.length_map]; exact hl), List.map_append] <;> rfl
  · have hidx : ∀ s : Sto, pIdx s (.lst ((cells ++ [0]).map .int)) (.int (j : Int)) = some (.int c) := fun s => by
      have := pIdx_lst s ((cells ++ [0]).map .int) j
      rw [List.getElem?_map, ec] at this
      exact this
    by_cases hb : (1000000000000000000 : Int) ≤ c
    · have hjl : j < cells.length := by
        by_cases hl : j < cells.length
        · exact hl
        · have : j = cells.length := by omega
          rw [List.getElem?_append_right (by omega), this] at ec
          simp at ec
          omega
      obtain ⟨z, ez⟩ : ∃ z : Nat, c % (m : Int) = z := ⟨(c % (m : Int)).toNat, by have := Int.emod_nonneg c (Int.ne_of_gt hm); omega⟩
      have hz : z < m := by have := Int.emod_lt_of_pos c hm; omega
      refine ⟨z, cells.set j (c / (m : Int)), hz, good_set g (Int.ediv_nonneg hc0 (by omega)), List.length_set, fun rest => hu z _ rest ?_⟩
      have dv : ∀ s : Sto, pDiv s (.int c) (nI m) = some (.int (c / (m : Int))) := fun s => pDiv_int _ _ _ ⟨hm, hm2⟩
      have md : ∀ s : Sto, pMod s (.int c) (nI m) = some (nI z) := fun s => by unfold nI; rw [pMod_int _ _ _ hm, ez]
      unfold m__law_draw
      simp [mVar_ap, dk_idx1, dk_idx0, dk_len, dk_put, p18, hmax, em, hcat _ _ hcl, hidx, hb, dv, md, dk_setD _ _ _ hjl, -List.map_append]
    · obtain ⟨z, hz, e, b1, b2⟩ := mix_ok c (k + 1) m hc0 (by omega) h1
      refine ⟨z, cells, hz, g, rfl, fun rest => hu z _ rest ?_⟩
      have q1 : ∀ s : Sto, pMod s (.int c) (.int 2147483563) = some (.int (c % 2147483563)) := fun s => pMod_int _ _ _ (by decide)
      have q2 : ∀ s : Sto, pMul s (.int 104729) (.int ((k : Int) + 1)) = some (.int (104729 * ((k : Int) + 1))) := fun s => pMul_int _ _ _ (.inl (by decide))
      have e' : ((k + 1 : Nat) : Int) = (k : Int) + 1 := by omega
      rw [e'] at e b1 b2
      have q3 : ∀ s : Sto, pPow s (.int (c % 2147483563 + 104729 * ((k : Int) + 1) + 7)) (.int 4) = some (.int ((c % 2147483563 + 104729 * ((k : Int) + 1) + 7) ^ 4)) := fun s => by rw [pPow_int _ _ _ ⟨by decide, by decide, by omega⟩] <;> rfl
      have q4 : ∀ (s : Sto) (x : Int), pMod s (.int x) (.int 2147483629) = some (.int (x % 2147483629)) := fun s x => pMod_int _ _ _ (by decide)
      have q5 : ∀ (s : Sto) (x : Int), pDiv s (.int x) (.int 8) = some (.int (x / 8)) := fun s x => pDiv_int _ _ _ (by decide)
      have q6 : ∀ s : Sto, pMul s (.int 31) (.int ((k : Int) + 1)) = some (.int (31 * ((k : Int) + 1))) := fun s => pMul_int _ _ _ (.inl (by decide))
      have q7 : ∀ s : Sto, pMod s (.int ((c % 2147483563 + 104729 * ((k : Int) + 1) + 7) ^ 4 % 2147483629 / 8 + 31 * ((k : Int) + 1))) (nI m) = some (nI z) := fun s => by unfold nI; rw [pMod_int _ _ _ hm, e]
      unfold m__law_draw
      simp [mVar_ap, dk_idx1, dk_idx0, dk_len, dk_put, p18, hmax, em, hcat _ _ hcl, hidx, hb, q1, q2, q3, q4, q5, q6, q7, -List.map_append]
theorem cutD_map {α β : Type} (f : α → β) (xs : List α) (lo hi : Option Int) : Dn.cutD (xs.map f) lo hi = (Dn.cutD xs lo hi).map f := by
  unfold Dn.cutD
  rw [List.length_map, List.map_take, List.map_drop]
theorem cutD_len {α : Type} (xs : List α) (lo hi : Option Int) : (Dn.cutD xs lo hi).length ≤ xs.length := by
  unfold Dn.cutD
  rw [List.length_take, List.length_drop]
  omega
theorem deck_ok (ns : List Int) (h : ns.length ≤ 63) : ∃ cells, Good cells ∧ cells.length ≤ 63 ∧ d__law_deck [.scr (ns.map .int)] [] = .ok (.ref 1) (dk cells 0 []) := by
  obtain ⟨ms, em⟩ : ∃ ms, Dn.cutD ns none (some 60) = ms := ⟨_, rfl⟩
  have hl : ms.length ≤ 63 := by rw [← em]; exact Nat.le_trans (cutD_len _ _ _) h
  refine ⟨ms.map fun i => if i < 0 then -i else i, fun z hz => ?_, by rw [List.length_map]; exact hl, ?_⟩
  · obtain ⟨i, _, rfl⟩ := List.mem_map.mp hz
    split <;> omega
  have key : lcL [] (lcF (gN 1) bYes (mB pAbs (mCons (mVar 1) mNil)) (wipeD [some (.scr (ns.map .int)), none] [1])) (ms.map .int) [] = .ok (((ms.map fun i => if i < 0 then -i else i)).map .int) [] := by
    rw [lcL_pure (g := fun d => match d with | .int i => some (.int (if i < 0 then -i else i)) | _ => none) (by simp)]
    · congr 1
      clear em hl
      induction ms with
      | nil => rfl
      | cons a ms ih => rw [List.map_cons, List.filterMap_cons, ih] <;> rfl
    · intro d hd
      obtain ⟨i, _, rfl⟩ := List.mem_map.mp hd
      simp [lcF, wipeD, mVar_ap, pAbs]
  have hs : iSeq (mFrz (lSlL (mVar 0) oNone (oSome (mLit (.int 60))))) [some (.scr (ns.map .int)), none] [] = .ok ⟨ms.map .int, []⟩ [] := by
    simp [iSeq_ap, mFrz_ap, lSlL, mVar_ap, oSome, cutD_map, em]
  show clean [] (flOut (m__law_deck [some (.scr (ns.map .int)), none] [])) = _
  have hm : m__law_deck [some (.scr (ns.map .int)), none] [] = .ret (.ref 1) (dk (ms.map fun i => if i < 0 then -i else i) 0 []) := by
    unfold m__law_deck c__law_deck_1
    simp only [sRet_ap, mNew_ap, lDisp_ap, mCons_ap, mNil_ap, lLc_ap, hs, Out.bind_ok]
    rw [if_pos (by simp; omega), key]
    simp [dk, nI]
  rw [hm, flOut_ret]
  unfold clean
  dsimp only
  rw [if_neg]
  rintro ⟨h1, _⟩
  simp [D.low] at h1
/-! ### the drawn numbers as a world -/
def Dk : Type := { x : List Int × Nat // Good x.1 ∧ x.1.length ≤ 63 }
def Dk.k (s : Dk) : Nat := s.1.2
def WDk : Wd Dk where
  st s := dk s.1.1 s.1.2 []
  n := 2
  len _ := rfl
  low s l m h := by
    match l, h with
    | 0, h =>
      obtain rfl := Option.some.inj h
      exact lows_of_isPs _ _ (isPs_of (e := eI) (fun _ => rfl) _)
    | 1, h =>
      obtain rfl := Option.some.inj h
      rfl
    | l + 2, h => nomatch h
open Classical in
noncomputable def draw (m : Int) : Mt Dk Int := fun s => if h : ∃ z s', (0 ≤ z ∧ z < m ∧ s'.k = s.k + 1) ∧ ∀ r, d__law_draw [.ref 1, eI m] (WDk.st s ++ r) = .ok (eI z) (WDk.st s' ++ r) then .ok h.choose h.choose_spec.choose else .bad
theorem fn_draw (m : Int) : FN WDk d__law_draw [.ref 1, eI m] (draw m) eI := fun fr s => by
  unfold draw
  split
  · rename_i h
    exact h.choose_spec.choose_spec.2 fr
  · trivial
theorem draw_run {m : Int} {s : Dk} (h1 : 1 ≤ m) (h2 : m < 1073741824) (hk : s.k ≤ 10000000) : ∃ z s', draw m s = .ok z s' ∧ 0 ≤ z ∧ z < m ∧ s'.k = s.k + 1 := by
  have h : ∃ z s', (0 ≤ z ∧ z < m ∧ s'.k = s.k + 1) ∧ ∀ r, d__law_draw [.ref 1, eI m] (WDk.st s ++ r) = .ok (eI z) (WDk.st s' ++ r) := by
    obtain ⟨⟨c, k⟩, g⟩ := s
    have hk' : k ≤ 10000000 := hk
    have g2 : c.length ≤ 63 := g.2
    obtain ⟨z, e', hz, g', hl', hd⟩ := draw_ok (m := m.toNat) g.1 (by show c.length + 1 ≤ 100000; omega) (by show k ≤ 1000000000; omega) (by omega) (by omega)
    have em : (m.toNat : Int) = m := by omega
    have hl2 : e'.length = c.length := hl'
    refine ⟨z, ⟨(e', k + 1), ⟨g', by show e'.length ≤ 63; omega⟩⟩, ⟨by omega, by omega, rfl⟩, fun r => ?_⟩
    have := hd r
    unfold nI at this
    rw [em] at this
    exact this
  refine ⟨h.choose, h.choose_spec.choose, ?_, h.choose_spec.choose_spec.1⟩
  unfold draw
  rw [dif_pos h]
/-! ### what is drawn: whatever the cells are -/
def Runs {α : Type} (n : Nat) (q : Mt Dk α) (Q : α → Prop) : Prop := ∀ s : Dk, s.k + n ≤ 10000000 → ∃ a s', q s = .ok a s' ∧ s'.k ≤ s.k + n ∧ Q a
section
variable {α β σ : Type}
theorem runs_pure {a : α} {Q : α → Prop} (h : Q a) : Runs 0 (mpure a) Q := fun s _ => ⟨a, s, rfl, Nat.le_refl _, h⟩
theorem runs_bind {n m : Nat} {q : Mt Dk α} {k : α → Mt Dk β} {Q : α → Prop} {R : β → Prop} (h : Runs n q Q) (hk : ∀ a, Q a → Runs m (k a) R) : Runs (n + m) (mbind q k) R := fun s hs => by
  obtain ⟨a, s1, e1, h1, ha⟩ := h s (by omega)
  obtain ⟨b, s2, e2, h2, hb⟩ := hk a ha s1 (by omega)
  exact ⟨b, s2, by unfold mbind; rw [e1]; exact e2, by omega, hb⟩
theorem runs_mono {n m : Nat} {q : Mt Dk α} {Q R : α → Prop} (h : Runs n q Q) (hn : n ≤ m) (hq : ∀ a, Q a → R a) : Runs m q R := fun s hs => by
  obtain ⟨a, s1, e1, h1, ha⟩ := h s (by omega)
  exact ⟨a, s1, e1, by omega, hq a ha⟩
theorem runs_le {n m : Nat} {q : Mt Dk α} {Q : α → Prop} (h : Runs n q Q) (hn : n ≤ m) : Runs m q Q := runs_mono h hn fun _ h => h
theorem runs_draw {m : Int} (h1 : 1 ≤ m) (h2 : m < 1073741824) : Runs 1 (draw m) fun z => 0 ≤ z ∧ z < m := fun s hs => by
  obtain ⟨z, s', e, h3, h4, h5⟩ := draw_run h1 h2 (s := s) (by omega)
  exact ⟨z, s', e, by omega, h3, h4⟩
theorem runs_calm {n : Nat} {q : Mt Dk α} {Q : α → Prop} (h : Runs n q Q) : Runs n (calmly q) Q := fun s hs => by
  obtain ⟨a, s1, e1, h1, ha⟩ := h s hs
  exact ⟨a, s1, by unfold calmly; rw [e1] <;> rfl, h1, ha⟩
/-- a loop, its state told by the items behind it -/
theorem runs_forU {c : Nat} {body : α → σ → Mt Dk σ} (I : List α → σ → Prop) (xs : List α) (hb : ∀ pre x post z, xs = pre ++ x :: post → I pre z → Runs c (body x z) (I (pre ++ [x]))) :
    ∀ (post pre : List α) (z : σ), xs = pre ++ post → I pre z → Runs (post.length * c) (forU body post z) (I xs)
  | [], pre, z, e, h => by
    rw [List.append_nil] at e
    subst e
    exact runs_le (runs_pure h) (Nat.zero_le _)
  | x :: post, pre, z, e, h => by
    unfold forU
    refine runs_le (runs_bind (hb pre x post z e h) fun z' h' => runs_forU I xs hb post (pre ++ [x]) z' (by rw [e]; simp) h') ?_
    rw [List.length_cons, Nat.succ_mul]
    omega
theorem runs_for {c : Nat} {body : α → σ → Mt Dk σ} (I : List α → σ → Prop) {xs : List α} {z : σ} (h : I [] z) (hb : ∀ pre x post z, xs = pre ++ x :: post → I pre z → Runs c (body x z) (I (pre ++ [x]))) : Runs (xs.length * c) (forU body xs z) (I xs) := runs_forU I xs hb xs [] z rfl h
/-- a loop in which nothing returns -/
theorem runs_forX {c : Nat} {body : α → σ → Mt Dk (Lp σ β)} (I : σ → Prop) : ∀ (xs : List α) (z : σ), I z → (∀ x ∈ xs, ∀ z, I z → Runs c (body x z) fun r => ∃ z', r = .nx z' ∧ I z') → Runs (xs.length * c) (forX body xs z) fun r => ∃ z', r = .inl z' ∧ I z'
  | [], z, h, _ => runs_le (runs_pure ⟨z, rfl, h⟩) (Nat.zero_le _)
  | x :: xs, z, h, hb => by
    unfold forX
    refine runs_le (runs_bind (m := xs.length * c) (hb x (by simp) z h) ?_) ?_
    · rintro r ⟨z', rfl, h'⟩
      exact runs_forX I xs z' h' fun y hy => hb y (by simp [hy])
    · rw [List.length_cons, Nat.succ_mul]
      omega
theorem runs_mapT {c : Nat} {f : α → Mt Dk β} (P : α → β → Prop) : ∀ (xs : List α), (∀ x ∈ xs, Runs c (f x) (P x)) → Runs (xs.length * c) (mapT f xs) fun ys => ys.length = xs.length ∧ ∀ y ∈ ys, ∃ x ∈ xs, P x y
  | [], _ => runs_le (runs_pure ⟨rfl, fun _ h => nomatch h⟩) (Nat.zero_le _)
  | x :: xs, hf => by
    unfold mapT
    refine runs_le (runs_bind (m := xs.length * c + 0) (hf x (by simp)) fun y hy => runs_bind (runs_mapT P xs fun z hz => hf z (by simp [hz])) fun ys hys => runs_pure ⟨by simp [hys.1], fun z hz => ?_⟩) ?_
    · rcases List.mem_cons.mp hz with e | e
      · exact ⟨x, by simp, by rw [e]; exact hy⟩
      · obtain ⟨w, hw, hp⟩ := hys.2 z e
        exact ⟨w, by simp [hw], hp⟩
    · rw [List.length_cons, Nat.succ_mul]
      omega
theorem runs_compM {c : Nat} {p : α → Bool} {f : α → Mt Dk β} (P : α → β → Prop) {xs : List α} (hl : xs.length ≤ 100000) (hf : ∀ x ∈ xs, Runs c (f x) (P x)) : Runs (xs.length * c) (compM p f xs) fun ys => ys.length = (xs.filter p).length ∧ ∀ y ∈ ys, ∃ x ∈ xs, P x y := by
  unfold compM
  rw [if_pos hl]
  refine runs_mono (runs_mapT P (xs.filter p) fun x hx => hf x (List.mem_filter.mp hx).1) (Nat.mul_le_mul_right _ (List.length_filter_le _ _)) ?_
  rintro ys ⟨h1, h2⟩
  exact ⟨h1, fun y hy => let ⟨x, hx, hp⟩ := h2 y hy; ⟨x, (List.mem_filter.mp hx).1, hp⟩⟩
/-- a drawn part of a list -/
theorem runs_sub {c : Nat} {p : α → Mt Dk Bool} {xs : List α} (hl : xs.length ≤ 100000) (hp : ∀ x ∈ xs, Runs c (p x) fun _ => True) : Runs (xs.length * c) (compG p (fun x => mpure x) xs) fun ys => ys.Sublist xs := by
  unfold compG
  rw [if_pos hl]
  clear hl
  induction xs with
  | nil => exact runs_le (runs_pure (List.Sublist.refl _)) (Nat.zero_le _)
  | cons x xs ih =>
    unfold compT
    refine runs_le (runs_bind (n := c + 0) (m := xs.length * c + 0) (Q := fun o => o = none ∨ o = some x) ?_ fun o ho => runs_bind (ih fun y hy => hp y (by simp [hy])) fun ys hys => runs_pure ?_) ?_
    · refine runs_bind (hp x (by simp)) fun b _ => ?_
      cases b
      · exact runs_pure (.inl rfl)
      · exact runs_pure (.inr rfl)
    · rcases ho with rfl | rfl
      · exact hys.cons x
      · exact hys.cons_cons x
    · rw [List.length_cons, Nat.succ_mul]
      omega
/-- .. with another item for each -/
theorem runs_subF {c : Nat} {p : α → Mt Dk Bool} {f : α → β} {xs : List α} (hl : xs.length ≤ 100000) (hp : ∀ x ∈ xs, Runs c (p x) fun _ => True) : Runs (xs.length * c) (compG p (fun x => mpure (f x)) xs) fun ys => ∃ zs : List α, ys = zs.map f ∧ zs.Sublist xs := by
  unfold compG
  rw [if_pos hl]
  clear hl
  induction xs with
  | nil => exact runs_le (runs_pure ⟨[], rfl, List.Sublist.refl _⟩) (Nat.zero_le _)
  | cons x xs ih =>
    unfold compT
    refine runs_le (runs_bind (n := c + 0) (m := xs.length * c + 0) (Q := fun o => o = none ∨ o = some (f x)) ?_ fun o ho => runs_bind (ih fun y hy => hp y (by simp [hy])) fun ys hys => runs_pure ?_) ?_
    · refine runs_bind (hp x (by simp)) fun b _ => ?_
      cases b
      · exact runs_pure (.inl rfl)
      · exact runs_pure (.inr rfl)
    · obtain ⟨zs, e, hz⟩ := hys
      rcases ho with rfl | rfl
      · exact ⟨zs, e, hz.cons x⟩
      · exact ⟨x :: zs, by rw [e]; rfl, hz.cons_cons x⟩
    · rw [List.length_cons, Nat.succ_mul]
      omega
end
/-! ### the law's end -/
theorem deck_start (ns : List Int) (h : ns.length ≤ 63) : ∃ s : Dk, s.k = 0 ∧ d__law_deck [.scr (ns.map .int)] [] = .ok (.ref 1) (WDk.st s) := by
  obtain ⟨cells, g, hl, e⟩ := deck_ok ns h
  exact ⟨⟨(cells, 0), ⟨g, hl⟩⟩, rfl, e⟩
theorem law_end {c : Nat} {nN : Nat} {rest : Rho → Sto → Fl} {p : Mt Dk Bool} (ht : TR WDk [] (.any :: .val (.ref 1) :: List.replicate nN .any) rest p eB) (hr : Runs c p fun b => b = true) (hc : c ≤ 10000000) (ns : List Int) (hl : ns.length ≤ 63) :
    ∃ st', fnD 1 (nN + 2) (sSeq (sAsg (gN 1) (mCall d__law_deck (mCons (mVar 0) mNil))) rest) [.scr (ns.map .int)] [] = .ok (.bl true) st' := by
  obtain ⟨s, h0, e⟩ := deck_start ns hl
  obtain ⟨b, s', e2, _, hb⟩ := hr s (by omega)
  subst hb
  have h1 := ht s (some (.scr (ns.map .int)) :: some (.ref 1) :: List.replicate nN none) (WDk.st s) ⟨by simp, ⟨[], by simp⟩, fun i d h => ?_, fun i m h => ?_, fun i j m1 m2 h => ?_⟩
  · rw [e2] at h1
    obtain ⟨st', e3, _⟩ := h1
    have hm : sSeq (sAsg (gN 1) (mCall d__law_deck (mCons (mVar 0) mNil))) rest (rho0 (nN + 2) [.scr (ns.map .int)]) [] = .ret (.bl true) st' := by
      have er : rho0 (nN + 2) [.scr (ns.map .int)] = some (.scr (ns.map .int)) :: none :: List.replicate nN none := rfl
      rw [er]
      simp [mVar_ap, e]
      exact e3
    obtain ⟨st2, hc⟩ := clean_some [] (.bl true) st'
    refine ⟨st2, ?_⟩
    show clean [] (flOut (sSeq (sAsg (gN 1) (mCall d__law_deck (mCons (mVar 0) mNil))) rest (rho0 (nN + 2) [.scr (ns.map .int)]) [])) = _
    rw [hm, flOut_ret, hc]
  · match i, h with
    | 0, h => simp at h
    | 1, h => simp at h; subst h; rfl
    | i + 2, h =>
      rw [List.getElem?_cons_succ, List.getElem?_cons_succ, List.getElem?_replicate] at h
      split at h <;> cases h
  · match i, h with
    | 0, h => simp at h
    | 1, h => simp at h
    | i + 2, h =>
      rw [List.getElem?_cons_succ, List.getElem?_cons_succ, List.getElem?_replicate] at h
      split at h <;> cases h
  · match i, h with
    | 0, h => simp at h
    | 1, h => simp at h
    | i + 2, h =>
      rw [List.getElem?_cons_succ, List.getElem?_cons_succ, List.getElem?_replicate] at h
      split at h <;> cases h
noncomputable def p_changed_word {S : Type} (vpanel : (List (List Int))) (vpressed : Int) (vbutton : Int) (vword : Str) : Mt S Str := mbind (mpure (decide (vbutton = vpressed))) fun vb1 => if vb1 = true then (mpure ("on" : Str)) else (mbind (mbind (midx vpanel vpressed) fun vx2 => mpure (decide (vbutton ∈ vx2))) fun vb3 => if vb3 = true then mpure ("off" : Str) else mpure vword)
theorem fn_changed_word {S : Type} {W : Wd S} (vpanel : (List (List Int))) (vpressed : Int) (vbutton : Int) (vword : Str) : FN W d_changed_word [(eT (eT eI)) vpanel, eI vpressed, eI vbutton, eS vword] (p_changed_word vpanel vpressed vbutton vword) eS := fnT_of (fun b => Pl.p b) rfl (le_c rfl) fun fr => (tr_ifseq (ht_ofV (enc := id) (hv_isB (hv_op (hv_var rfl) (hv_var rfl) (t_eq (e := eI) _ _ (by decide))))) (tr_seqR (tr_ret (ht_ofV hv_lit))) (tr_nextR (tr_ret (ht_if (ht_isB (ht_op (ac_V (hv_var rfl) (ac_T (ht_op (ac_V (hv_var rfl) (ac_V (hv_var rfl) (af_idxT (e := (eT eI)) vpanel vpressed)))) fun vx2 => (af_op (enc := eB) (t_inT (e := eI) vbutton vx2 (by decide))))))) (ht_ofV hv_lit) (ht_ofV (hv_var rfl))))))
noncomputable def p_effect_after {S : Type} (vpanel : (List (List Int))) (veffect : (List Str)) (vpressed : Int) : Mt S (List Str) := mbind (mbind (mbind (mpure veffect) fun vxs1 => mpure (enumZ 0 vxs1)) fun vxs3 => calmly (compM (fun (vx2 : (Int × Str)) => true) (fun (vx2 : (Int × Str)) => p_changed_word vpanel vpressed vx2.1 vx2.2) vxs3)) fun vx4 => mpure vx4
theorem fn_effect_after {S : Type} {W : Wd S} (vpanel : (List (List Int))) (veffect : (List Str)) (vpressed : Int) : FN W d_effect_after [(eT (eT eI)) vpanel, (eT eS) veffect, eI vpressed] (p_effect_after vpanel veffect vpressed) (eT eS) := fnT_of (fun b => Pl.p b) rfl (le_c rfl) fun fr => (tr_ret (ht_b (ac_T (ht_frz (ht_compM (enc := eS) (c := (fun (vx2 : (Int × Str)) => true)) (f := (fun (vx2 : (Int × Str)) => p_changed_word vpanel vpressed vx2.1 vx2.2)) (src_enum (sT (e := eS)) (ht_ofV (hv_var rfl))) rfl (fun vx2 => (gt1_T (gts_cons (gt1_N 3 _) (gts_cons (gt1_N 4 _) gts_nil)) rfl)) (by decide) (fun _ => (kp_of trivial)) (fun vx2 => hv_yes) (fun vx2 => (ht_call (ac_V (hv_var rfl) (ac_V (hv_var rfl) (ac_V (hv_var rfl) (ac_V (hv_var rfl) (ac_fn (fn_changed_word vpanel vpressed vx2.1 vx2.2)))))))))) fun vx4 => (af_b1 (enc := (eT eS)) (t_tupL (e := eS) _)))))
noncomputable def p_effect_of {S : Type} (vpanel : (List (List Int))) (vrow : (List Int)) : Mt S (List Str) := mbind (mrepT ([("same" : Str)]) (vpanel.length : Int)) fun veffect1 => mbind (mbind (mpure vrow) fun vxs5 => forU (fun (vx3 : Int) (vz2 : (List Str)) => mbind (p_effect_after vpanel vz2 vx3) fun veffect4 => mpure veffect4) vxs5 veffect1) fun vz2 => mpure vz2
theorem fn_effect_of {S : Type} {W : Wd S} (vpanel : (List (List Int))) (vrow : (List Int)) : FN W d_effect_of [(eT (eT eI)) vpanel, (eT eI) vrow] (p_effect_of vpanel vrow) (eT eS) := fnT_of (fun b => Pl.p b) rfl (le_c rfl) fun fr => (tr_seqN (tn_asg (ht_op (ac_V (hv_tup (hv_cons hv_lit hv_nil) (le_c rfl)) (ac_V (hv_b (A := D) (hv_cons (hv_var rfl) hv_nil) (t_lenT (e := (eT eI)) _)) (af_repT (e := eS) ([("same" : Str)]) (vpanel.length : Int)))))) fun veffect1 => (tr_seqN (tn_for (J := fun (vz2 : (List Str)) => [.val ((eT (eT eI)) vpanel), .val ((eT eI) vrow), .val ((eT eS) vz2), .any]) (z0 := veffect1) (src_seq (sT (e := eI)) (ht_ofV (hv_var rfl))) (fun _ => (.same (.same (.same (.any .nil))))) (fun vx3 vz2 => (gt1_N 3 _)) (fun vx3 vz2 => (tn_map (f := fun (veffect4 : (List Str)) => veffect4) (tn_asg (ht_call (ac_V (hv_var rfl) (ac_V (hv_var rfl) (ac_V (hv_var rfl) (ac_fn (fn_effect_after vpanel vz2 vx3))))))) (fun veffect4 => (.same (.same (.same (.any .nil)))))))) fun vz2 => (tr_ret (ht_ofV (hv_var rfl)))))
noncomputable def p_is_reset {S : Type} (vpanel : (List (List Int))) (vrow : (List Int)) : Mt S Bool := mbind (p_effect_of vpanel vrow) fun vx1 => mpure (!decide (("same" : Str) ∈ vx1))
theorem fn_is_reset {S : Type} {W : Wd S} (vpanel : (List (List Int))) (vrow : (List Int)) : FN W d_is_reset [(eT (eT eI)) vpanel, (eT eI) vrow] (p_is_reset vpanel vrow) eB := fnT_of (fun b => Pl.p b) rfl (le_c rfl) fun fr => (tr_ret (ht_op (ac_V hv_lit (ac_T (ht_call (ac_V (hv_var rfl) (ac_V (hv_var rfl) (ac_fn (fn_effect_of vpanel vrow))))) fun vx1 => (af_op (enc := eB) (t_ninT (e := eS) ("same" : Str) vx1 (by decide)))))))
noncomputable def p_press_button {S : Type} (vpanel : (List (List Int))) (vstate : (List Int)) (vbutton : Int) : Mt S (List Int) := mbind (mbind (mpure vstate) fun vxs4 => calmly (compG (fun (vx1 : Int) => mbind (mbind (midx vpanel vbutton) fun vx2 => mpure (!decide (vx1 ∈ vx2))) fun vb3 => if vb3 = true then mpure (!decide (vx1 = vbutton)) else mpure false) (fun (vx1 : Int) => mpure vx1) vxs4)) fun vkept5 => mbind (mbind (mdisp (vkept5 ++ [vbutton])) fun vx6 => msort ltI vx6) fun vx7 => mpure vx7
theorem fn_press_button {S : Type} {W : Wd S} (vpanel : (List (List Int))) (vstate : (List Int)) (vbutton : Int) : FN W d_press_button [(eT (eT eI)) vpanel, (eT eI) vstate, eI vbutton] (p_press_button vpanel vstate vbutton) (eT eI) := fnT_of (fun b => Pl.p b) rfl (le_c rfl) fun fr => (tr_seqN (tn_asg (ht_frz (ht_compG (enc := eI) (c := (fun (vx1 : Int) => mbind (mbind (midx vpanel vbutton) fun vx2 => mpure (!decide (vx1 ∈ vx2))) fun vb3 => if vb3 = true then mpure (!decide (vx1 = vbutton)) else mpure false)) (f := (fun (vx1 : Int) => mpure vx1)) (src_seq (sT (e := eI)) (ht_ofV (hv_var rfl))) rfl (fun vx1 => (gt1_N 4 _)) (by decide) (fun _ => (kp_of trivial)) (fun vx1 => (ht_and (ht_isB (ht_op (ac_V (hv_var rfl) (ac_T (ht_op (ac_V (hv_var rfl) (ac_V (hv_var rfl) (af_idxT (e := (eT eI)) vpanel vbutton)))) fun vx2 => (af_op (enc := eB) (t_ninT (e := eI) vx1 vx2 (by decide))))))) (ht_ofV (enc := id) (hv_isB (hv_op (hv_var rfl) (hv_var rfl) (t_ne (e := eI) _ _ (by decide))))))) (fun vx1 => (ht_ofV (hv_var rfl)))))) fun vkept5 => (tr_ret (ht_b (ac_T (ht_frz (ht_bL (ac_T (ht_frz (ht_disp (ac_starV (hv_var rfl) (fun _ => rfl) (ac_V (hv_var rfl) (af_dispE (e := eI) (vkept5 ++ [vbutton]) (by first | rfl | (simp only [List.map_append, List.map_cons, List.map_nil, List.append_nil, List.nil_append, List.append_assoc] <;> rfl))))))) fun vx6 => (af_sortL (e := eI) (by decide) _)))) fun vx7 => (af_b1 (enc := (eT eI)) (t_tupL (e := eI) _))))))
noncomputable def p_is_number {S : Type} (vvalue : Int) (vlow : Int) (vhigh : Int) : Mt S Bool := mpure (true && ((!false) && (decide (vlow ≤ vvalue) && decide (vvalue ≤ vhigh))))
theorem fn_is_number {S : Type} {W : Wd S} (vvalue : Int) (vlow : Int) (vhigh : Int) : FN W d_is_number [eI vvalue, eI vlow, eI vhigh] (p_is_number vvalue vlow vhigh) eB := fnT_of (fun b => Pl.p b) rfl (le_c rfl) fun fr => (tr_ret (ht_ofV (hv_andV (hv_isi (hv_var rfl) (t_isi kb_int_int (fun _ => rfl))) (hv_andV (hv_notV (hv_isi (hv_var rfl) (t_isi kb_int_bool (fun _ => rfl))) (tr_B _)) (hv_chain (hv_var rfl) (hv_var rfl) (hv_var rfl) (t_le _ _) (t_le _ _))))))
noncomputable def p_row_error {S : Type} (vpanel : (List (List Int))) (vvalue : (List Int)) : Mt S (List (Option Int)) := mbind (mpure ((!true) || (decide ((vvalue.length : Int) > (60 : Int))))) fun vb1 => if vb1 = true then (mpure ([(none : Option Int)])) else (mbind (mbind (mbind (mpure vvalue) fun vxs2 => mpure (enumZ 0 vxs2)) fun vxs6 => calmly (compG (fun (vx3 : (Int × Int)) => mbind (mbind (p_is_number vx3.2 (0 : Int) ((vpanel.length : Int) - (1 : Int))) fun vx4 => mpure vx4) fun vb5 => mpure (!vb5)) (fun (vx3 : (Int × Int)) => mpure vx3.1) vxs6)) fun vwrong7 => mpure (List.map some (cutD vwrong7 none (some (1 : Int)))))
theorem fn_row_error {S : Type} {W : Wd S} (vpanel : (List (List Int))) (vvalue : (List Int)) : FN W d_row_error [(eT (eT eI)) vpanel, (eT eI) vvalue] (p_row_error vpanel vvalue) (eT (eO eI)) := fnT_of (fun b => Pl.p b) rfl (le_c rfl) fun fr => (tr_ifseq (ht_ofV (enc := id) (hv_or (hv_not (hv_tru (hv_isi (hv_var rfl) (t_isi kb_tuple_tuple (fun _ => rfl))) (tr_B _))) (hv_isB (hv_op (hv_b (A := D) (hv_cons (hv_var rfl) hv_nil) (t_lenT (e := eI) _)) hv_lit (t_gt _ _))))) (tr_seqR (tr_ret (ht_ofV (hv_tup (hv_cons hv_lit hv_nil) (le_c rfl))))) (tr_nextR (tr_seqN (tn_asg (ht_frz (ht_compG (enc := eI) (c := (fun (vx3 : (Int × Int)) => mbind (mbind (p_is_number vx3.2 (0 : Int) ((vpanel.length : Int) - (1 : Int))) fun vx4 => mpure vx4) fun vb5 => mpure (!vb5))) (f := (fun (vx3 : (Int × Int)) => mpure vx3.1)) (src_enum (sT (e := eI)) (ht_ofV (hv_var rfl))) rfl (fun vx3 => (gt1_T (gts_cons (gt1_N 3 _) (gts_cons (gt1_N 4 _) gts_nil)) rfl)) (by decide) (fun _ => (kp_of trivial)) (fun vx3 => (ht_not (ht_tru (ht_call (ac_V (hv_var rfl) (ac_V hv_lit (ac_V (hv_op (hv_b (A := D) (hv_cons (hv_var rfl) hv_nil) (t_lenT (e := (eT eI)) _)) hv_lit (t_sub _ _)) (ac_fn (fn_is_number vx3.2 (0 : Int) ((vpanel.length : Int) - (1 : Int)))))))) (fun x => tr_B x)))) (fun vx3 => (ht_ofV (hv_var rfl)))))) fun vwrong7 => (tr_ret (ht_ofV (hv_eq (hv_b (A := D) (hv_cons (hv_frz (hv_slL (hv_var rfl) hv_oNone (hv_oSome hv_lit))) hv_nil) (t_tupL (e := eI) _)) (eT_some eI _)))))))
noncomputable def p_run {S : Type} (vpanel : (List (List Int))) (vstate : (List Int)) (vvalue : (List Int)) : Mt S (List Int) := mbind (p_row_error vpanel vvalue) fun vwrong1 => mbind (mpure (!decide (vwrong1 = ([] : (List (Option Int)))))) fun vb2 => if vb2 = true then mbad else (mbind (mbind (mpure vvalue) fun vxs6 => forU (fun (vx4 : Int) (vz3 : (List Int)) => mbind (p_press_button vpanel vz3 vx4) fun vstate5 => mpure vstate5) vxs6 vstate) fun vz3 => mpure vz3)
theorem fn_run {S : Type} {W : Wd S} (vpanel : (List (List Int))) (vstate : (List Int)) (vvalue : (List Int)) : FN W d_run [(eT (eT eI)) vpanel, (eT eI) vstate, (eT eI) vvalue] (p_run vpanel vstate vvalue) (eT eI) := fnT_of (fun b => Pl.p b) rfl (le_c rfl) fun fr => (tr_seqN (tn_asg (ht_call (ac_V (hv_var rfl) (ac_V (hv_var rfl) (ac_fn (fn_row_error vpanel vvalue)))))) fun vwrong1 => (tr_ifseq (ht_ofV (enc := id) (hv_isB (hv_op (hv_var rfl) (hv_tup hv_nil (le_c rfl)) (t_ne (e := (eT (eO eI))) vwrong1 ([] : (List (Option Int))) (by decide))))) (tr_seqR tr_never) (tr_nextR (tr_seqN (tn_for (J := fun (vz3 : (List Int)) => [.val ((eT (eT eI)) vpanel), .val ((eT eI) vz3), .val ((eT eI) vvalue), .val ((eT (eO eI)) vwrong1), .any]) (z0 := vstate) (src_seq (sT (e := eI)) (ht_ofV (hv_var rfl))) (fun _ => (.same (.same (.same (.same (.any .nil)))))) (fun vx4 vz3 => (gt1_N 4 _)) (fun vx4 vz3 => (tn_map (f := fun (vstate5 : (List Int)) => vstate5) (tn_asg (ht_call (ac_V (hv_var rfl) (ac_V (hv_var rfl) (ac_V (hv_var rfl) (ac_fn (fn_press_button vpanel vz3 vx4))))))) (fun vstate5 => (.same (.same (.same (.same (.any .nil))))))))) fun vz3 => (tr_ret (ht_ofV (hv_var rfl)))))))
noncomputable def p_states_after {S : Type} (vpanel : (List (List Int))) (vstates : (List (List Int))) (vrow : (List Int)) : Mt S (List (List Int)) := mbind (mbind (mbind (mpure vstates) fun vxs2 => calmly (compM (fun (vx1 : (List Int)) => true) (fun (vx1 : (List Int)) => p_run vpanel vx1 vrow) vxs2)) fun vxs3 => msetT vxs3) fun vx4 => mpure vx4
theorem fn_states_after {S : Type} {W : Wd S} (vpanel : (List (List Int))) (vstates : (List (List Int))) (vrow : (List Int)) : FN W d_states_after [(eT (eT eI)) vpanel, (eT (eT eI)) vstates, (eT eI) vrow] (p_states_after vpanel vstates vrow) (eT (eT eI)) := fnT_of (fun b => Pl.p b) rfl (le_c rfl) fun fr => (tr_ret (ht_b (ac_T (ht_frz (ht_sortSetT iLT (ht_frz (ht_compM (enc := (eT eI)) (c := (fun (vx1 : (List Int)) => true)) (f := (fun (vx1 : (List Int)) => p_run vpanel vx1 vrow)) (src_seq (sT (e := (eT eI))) (ht_ofV (hv_var rfl))) rfl (fun vx1 => (gt1_N 3 _)) (by decide) (fun _ => (kp_of trivial)) (fun vx1 => hv_yes) (fun vx1 => (ht_call (ac_V (hv_var rfl) (ac_V (hv_var rfl) (ac_V (hv_var rfl) (ac_fn (fn_run vpanel vx1 vrow))))))))))) fun vx4 => (af_b1 (enc := (eT (eT eI))) (t_tupL (e := (eT eI)) _)))))
noncomputable def p__law_panel (vmost : Int) : Mt Dk (List (List Int)) := mbind (mbind (mbind (draw vmost) fun vx1 => mpure ((1 : Int) + vx1)) fun vx2 => mbind (draw (5 : Int)) fun vx3 => mpure (vx2, vx3, ([] : (List (List Int))))) fun vp4 => mbind (mbind (mbind (mpure vp4.1) fun vn6 => mrng (0 : Int) vn6) fun vxs30 => forU (fun (vx7 : Int) (vz5 : (List (List Int))) => mbind (mbind (mbind (mpure vp4.1) fun vn8 => mrng (0 : Int) vn8) fun vxs13 => calmly (compG (fun (vx9 : Int) => mbind (mpure (!decide (vx9 = vx7))) fun vb12 => if vb12 = true then mbind (mbind (midx ([(2 : Int), (5 : Int), (9 : Int), (7 : Int), (1 : Int)]) vp4.2.1) fun vx10 => draw vx10) fun vx11 => mpure (decide (vx11 = (0 : Int))) else mpure false) (fun (vx9 : Int) => mpure vx9) vxs13)) fun vown14 => mbind (mbind (mpure (decide (vp4.2.1 = (2 : Int)))) fun vb20 => if vb20 = true then (mbind (mbind (mbind (mpure vp4.1) fun vn16 => mrng (0 : Int) vn16) fun vxs18 => compV (fun (vx17 : Int) => ((!decide (vx17 = vx7)) && (!decide (vx17 ∈ vown14)))) (fun (vx17 : Int) => vx17) vxs18) fun vown19 => mpure vown19) else (mpure vown14)) fun vz15 => mbind (mbind (mpure ((decide (vp4.2.1 = (3 : Int))) && (decide (vp4.1 > (1 : Int))))) fun vb25 => if vb25 = true then (mbind (mbind (mbind (mmod (vx7 + (1 : Int)) vp4.1) fun vx22 => mpure [vx22]) fun vx23 => mcat vz15 vx23) fun vown24 => mpure vown24) else (mpure vz15)) fun vz21 => mbind (mbind (mbind (mbind (mrepL vz21 (b2z (!decide (vp4.2.1 = (4 : Int))))) fun vxs27 => msetS vxs27) fun vx28 => mpure vx28) fun vx29 => mapp vz5 vx29) fun vfound26 => mpure vfound26) vxs30 vp4.2.2) fun vz5 => mpure vz5
theorem fn__law_panel (vmost : Int) : FN WDk d__law_panel [.ref 1, eI vmost] (p__law_panel vmost) (eT (eT eI)) := fnT_of (fun b => Pl.p b) rfl (le_c rfl) fun fr => (tr_seqN (tn_tup3 (J := fun (vp4 : Int × Int × (List (List Int))) => [.val (.ref 1), .val (eI vmost), .val (eI vp4.1), .val (eI vp4.2.1), .mut (.lst (List.map (eT eI) vp4.2.2)), .any, .any, .any]) (ap_T (ht_op (ac_V hv_lit (ac_T (ht_call (ac_V (hv_var rfl) (ac_V (hv_var rfl) (ac_fn (fn_draw vmost))))) fun vx1 => (af_op (t_add _ _))))) (fun _ => rfl) fun vx2 => (ap_T1 (ht_call (ac_V (hv_var rfl) (ac_V hv_lit (ac_fn (fn_draw (5 : Int)))))) fun vx3 => (ap_New (hv_disp hv_nil (le_c rfl)) fun _ => (ap_three (lt_c rfl) (lt_c rfl) (lt_c rfl)))))) fun vp4 => (tr_seqN (tn_for (J := fun (vz5 : (List (List Int))) => [.val (.ref 1), .val (eI vmost), .val (eI vp4.1), .val (eI vp4.2.1), .mut (.lst (List.map (eT eI) vz5)), .any, .any, .any]) (z0 := vp4.2.2) (src_rng1 (ht_ofV (hv_var rfl))) (fun _ => (.same (.same (.same (.same (.same (.any (.any (.any .nil))))))))) (fun vx7 vz5 => (gt1_N 5 _)) (fun vx7 vz5 => (tn_seq (tn_asg (ht_frz (ht_compG (enc := eI) (c := (fun (vx9 : Int) => mbind (mpure (!decide (vx9 = vx7))) fun vb12 => if vb12 = true then mbind (mbind (midx ([(2 : Int), (5 : Int), (9 : Int), (7 : Int), (1 : Int)]) vp4.2.1) fun vx10 => draw vx10) fun vx11 => mpure (decide (vx11 = (0 : Int))) else mpure false)) (f := (fun (vx9 : Int) => mpure vx9)) (src_rng1 (ht_ofV (hv_var rfl))) rfl (fun vx9 => (gt1_N 7 _)) (by decide) (fun _ => (kp_of ⟨by decide, rfl, trivial⟩)) (fun vx9 => (ht_and (ht_ofV (enc := id) (hv_isB (hv_op (hv_var rfl) (hv_var rfl) (t_ne (e := eI) _ _ (by decide))))) (ht_isB (ht_op (ac_T (ht_call (ac_V (hv_var rfl) (ac_T (ht_op (ac_V (hv_frz (hv_disp (hv_cons hv_lit (hv_cons hv_lit (hv_cons hv_lit (hv_cons hv_lit (hv_cons hv_lit hv_nil))))) (le_c rfl))) (ac_V (hv_var rfl) (af_idxL (e := eI) ([(2 : Int), (5 : Int), (9 : Int), (7 : Int), (1 : Int)]) vp4.2.1)))) fun vx10 => (ac_fn (fn_draw vx10))))) fun vx11 => (ac_V hv_lit (af_op (enc := eB) (t_eq (e := eI) _ _ (by decide))))))))) (fun vx9 => (ht_ofV (hv_var rfl)))))) fun vown14 => (tn_seq (tn_if (J := fun (vz15 : (List Int)) => [.val (.ref 1), .val (eI vmost), .val (eI vp4.1), .val (eI vp4.2.1), .mut (.lst (List.map (eT eI) vz5)), .val (eI vx7), .val ((eL eI) vz15), .any]) (ht_ofV (enc := id) (hv_isB (hv_op (hv_var rfl) hv_lit (t_eq (e := eI) _ _ (by decide))))) (tn_map (f := fun (vown19 : (List Int)) => vown19) (tn_asg (ht_frz (ht_compV (enc := eI) (c := (fun (vx17 : Int) => ((!decide (vx17 = vx7)) && (!decide (vx17 ∈ vown14))))) (f := (fun (vx17 : Int) => vx17)) (src_rng1 (ht_ofV (hv_var rfl))) rfl (fun vx17 => (gt1_N 7 _)) (by decide) (fun _ => (kp_of ⟨by decide, rfl, trivial⟩)) (fun vx17 => (hv_and (hv_isB (hv_op (hv_var rfl) (hv_var rfl) (t_ne (e := eI) _ _ (by decide)))) (hv_isB (hv_op (hv_var rfl) (hv_var rfl) (t_ninL (e := eI) vx17 vown14 (by decide)))))) (fun vx17 => (hv_var rfl))))) (fun vown19 => (.same (.same (.same (.same (.same (.same (.same (.any .nil)))))))))) (tn_skip (.same (.same (.same (.same (.same (.same (.same (.any .nil)))))))))) fun vz15 => (tn_seq (tn_if (J := fun (vz21 : (List Int)) => [.val (.ref 1), .val (eI vmost), .val (eI vp4.1), .val (eI vp4.2.1), .mut (.lst (List.map (eT eI) vz5)), .val (eI vx7), .val ((eL eI) vz21), .any]) (ht_ofV (enc := id) (hv_and (hv_isB (hv_op (hv_var rfl) hv_lit (t_eq (e := eI) _ _ (by decide)))) (hv_isB (hv_op (hv_var rfl) hv_lit (t_gt _ _))))) (tn_map (f := fun (vown24 : (List Int)) => vown24) (tn_asg (ht_frz (ht_opL (ac_V (hv_var rfl) (ac_T (ht_frz (ht_disp (enc := fun (zs : List Int) => List.map eI zs) (ac_T (ht_op (ac_V (hv_op (hv_var rfl) hv_lit (t_add _ _)) (ac_V (hv_var rfl) (af_mod _ _)))) fun vx22 => (ac_ret fun _ => rfl)))) fun vx23 => (af_catL (e := eI) vz15 vx23)))))) (fun vown24 => (.same (.same (.same (.same (.same (.same (.same (.any .nil)))))))))) (tn_skip (.same (.same (.same (.same (.same (.same (.same (.any .nil)))))))))) fun vz21 => (tn_map (f := fun (vfound26 : (List (List Int))) => vfound26) (tn_drop (ht_append rfl (ht_b (ac_T (ht_frz (ht_sortSet iL (ht_frz (ht_opL (ac_V (hv_var rfl) (ac_V (hv_b (A := D) (hv_cons (hv_op (hv_var rfl) hv_lit (t_ne (e := eI) _ _ (by decide))) hv_nil) (t_intB _)) (af_repL (e := eI) vz21 (b2z (!decide (vp4.2.1 = (4 : Int))))))))))) fun vx28 => (af_b1 (enc := (eT eI)) (t_tupL (e := eI) _)))))) (fun vfound26 => (.same (.same (.same (.same (.same (.any (.any (.any .nil))))))))))))))) fun vz5 => (tr_fz rfl (tr_ret (ht_ofV (hv_b (A := D) (hv_cons (hv_var rfl) hv_nil) (t_tupL (e := (eT eI)) _)))))))
noncomputable def p__law_row (vn : Int) (vmost : Int) : Mt Dk (List Int) := mbind (mbind (draw vn) fun vx1 => mbind (draw vn) fun vx2 => mbind (draw vn) fun vx3 => mpure [vx1, vx2, vx3]) fun vfew4 => mbind (draw (2 : Int)) fun vway5 => mbind (mbind (mbind (draw (vmost + (1 : Int))) fun vn6 => mrng (0 : Int) vn6) fun vxs12 => calmly (compM (fun (vx7 : Int) => true) (fun (vx7 : Int) => mbind (mbind (draw vn) fun vx9 => mbind (mbind (mmod vx7 (3 : Int)) fun vx8 => midx vfew4 vx8) fun vx10 => mpure [vx9, vx10]) fun vx11 => midx vx11 vway5) vxs12)) fun vx13 => mpure vx13
theorem fn__law_row (vn : Int) (vmost : Int) : FN WDk d__law_row [.ref 1, eI vn, eI vmost] (p__law_row vn vmost) (eT eI) := fnT_of (fun b => Pl.p b) rfl (le_c rfl) fun fr => (tr_seqN (tn_asg (ht_frz (ht_disp (enc := fun (zs : List Int) => List.map eI zs) (ac_T (ht_call (ac_V (hv_var rfl) (ac_V (hv_var rfl) (ac_fn (fn_draw vn))))) fun vx1 => (ac_T (ht_call (ac_V (hv_var rfl) (ac_V (hv_var rfl) (ac_fn (fn_draw vn))))) fun vx2 => (ac_T (ht_call (ac_V (hv_var rfl) (ac_V (hv_var rfl) (ac_fn (fn_draw vn))))) fun vx3 => (ac_ret fun _ => rfl))))))) fun vfew4 => (tr_seqN (tn_asg (ht_call (ac_V (hv_var rfl) (ac_V hv_lit (ac_fn (fn_draw (2 : Int))))))) fun vway5 => (tr_ret (ht_b (ac_T (ht_frz (ht_compM (enc := eI) (c := (fun (vx7 : Int) => true)) (f := (fun (vx7 : Int) => mbind (mbind (draw vn) fun vx9 => mbind (mbind (mmod vx7 (3 : Int)) fun vx8 => midx vfew4 vx8) fun vx10 => mpure [vx9, vx10]) fun vx11 => midx vx11 vway5)) (src_rng1 (ht_call (ac_V (hv_var rfl) (ac_V (hv_op (hv_var rfl) hv_lit (t_add _ _)) (ac_fn (fn_draw (vmost + (1 : Int)))))))) rfl (fun vx7 => (gt1_N 5 _)) (by decide) (fun _ => (kp_of trivial)) (fun vx7 => hv_yes) (fun vx7 => (ht_op (ac_T (ht_frz (ht_disp (enc := fun (zs : List Int) => List.map eI zs) (ac_T (ht_call (ac_V (hv_var rfl) (ac_V (hv_var rfl) (ac_fn (fn_draw vn))))) fun vx9 => (ac_T (ht_op (ac_V (hv_var rfl) (ac_T (ht_op (ac_V (hv_var rfl) (ac_V hv_lit (af_mod _ _)))) fun vx8 => (af_idxL (e := eI) vfew4 vx8)))) fun vx10 => (ac_ret fun _ => rfl))))) fun vx11 => (ac_V (hv_var rfl) (af_idxL (e := eI) vx11 vway5))))))) fun vx13 => (af_b1 (enc := (eT eI)) (t_tupL (e := eI) _)))))))
noncomputable def p__law_all {S : Type} (vn : Int) : Mt S (List (List Int)) := mbind (mpure ([([] : (List Int))])) fun vfound1 => mbind (mbind (mbind (mpure vn) fun vn3 => mrng (0 : Int) vn3) fun vxs9 => forU (fun (vx4 : Int) (vz2 : (List (List Int))) => mbind (mbind (mbind (mpure vz2) fun vxs6 => calmly (compM (fun (vx5 : (List Int)) => true) (fun (vx5 : (List Int)) => mcat vx5 ([vx4])) vxs6)) fun vx7 => mcat vz2 vx7) fun vfound8 => mpure vfound8) vxs9 vfound1) fun vz2 => msort (lexB ltI) vz2
theorem fn__law_all {S : Type} {W : Wd S} (vn : Int) : FN W d__law_all [eI vn] (p__law_all vn) (eL (eT eI)) := fnT_of (fun b => Pl.p b) rfl (le_c rfl) fun fr => (tr_seqN (tn_asg (ht_ofV (hv_frz (hv_disp (hv_cons (hv_tup hv_nil (le_c rfl)) hv_nil) (le_c rfl))))) fun vfound1 => (tr_seqN (tn_for (J := fun (vz2 : (List (List Int))) => [.val (eI vn), .val ((eL (eT eI)) vz2), .any, .any]) (z0 := vfound1) (src_rng1 (ht_ofV (hv_var rfl))) (fun _ => (.same (.same (.any (.any .nil))))) (fun vx4 vz2 => (gt1_N 2 _)) (fun vx4 vz2 => (tn_map (f := fun (vfound8 : (List (List Int))) => vfound8) (tn_asg (ht_frz (ht_opL (ac_V (hv_var rfl) (ac_T (ht_frz (ht_compM (enc := (eT eI)) (c := (fun (vx5 : (List Int)) => true)) (f := (fun (vx5 : (List Int)) => mcat vx5 ([vx4]))) (src_seq (sL (e := (eT eI))) (ht_ofV (hv_var rfl))) rfl (fun vx5 => (gt1_N 3 _)) (by decide) (fun _ => (kp_of trivial)) (fun vx5 => hv_yes) (fun vx5 => (ht_op (ac_V (hv_var rfl) (ac_V (hv_tup (hv_cons (hv_var rfl) hv_nil) (le_c rfl)) (af_catT (e := eI) vx5 ([vx4])))))))) fun vx7 => (af_catL (e := (eT eI)) vz2 vx7)))))) (fun vfound8 => (.same (.same (.any (.any .nil)))))))) fun vz2 => (tr_ret (ht_frz (ht_bL (ac_V (hv_var rfl) (af_sortL (e := (eT eI)) (by decide) _)))))))
noncomputable def p__law_state (vn : Int) : Mt Dk (List Int) := mbind (mbind (mbind (mpure vn) fun vn1 => mrng (0 : Int) vn1) fun vxs4 => calmly (compG (fun (vx2 : Int) => mbind (draw (2 : Int)) fun vx3 => mpure (decide (vx3 = (0 : Int)))) (fun (vx2 : Int) => mpure vx2) vxs4)) fun vx5 => mpure vx5
theorem fn__law_state (vn : Int) : FN WDk d__law_state [.ref 1, eI vn] (p__law_state vn) (eT eI) := fnT_of (fun b => Pl.p b) rfl (le_c rfl) fun fr => (tr_ret (ht_b (ac_T (ht_frz (ht_compG (enc := eI) (c := (fun (vx2 : Int) => mbind (draw (2 : Int)) fun vx3 => mpure (decide (vx3 = (0 : Int))))) (f := (fun (vx2 : Int) => mpure vx2)) (src_rng1 (ht_ofV (hv_var rfl))) rfl (fun vx2 => (gt1_N 2 _)) (by decide) (fun _ => (kp_of trivial)) (fun vx2 => (ht_isB (ht_op (ac_T (ht_call (ac_V (hv_var rfl) (ac_V hv_lit (ac_fn (fn_draw (2 : Int)))))) fun vx3 => (ac_V hv_lit (af_op (enc := eB) (t_eq (e := eI) _ _ (by decide)))))))) (fun vx2 => (ht_ofV (hv_var rfl))))) fun vx5 => (af_b1 (enc := (eT eI)) (t_tupL (e := eI) _)))))
noncomputable def p__law_some (vn : Int) : Mt Dk (List (List Int)) := mbind (mbind (mbind (mbind (mbind (draw (9 : Int)) fun vx1 => mpure ((1 : Int) + vx1)) fun vn2 => mrng (0 : Int) vn2) fun vxs4 => calmly (compM (fun (vx3 : Int) => true) (fun (vx3 : Int) => p__law_state vn) vxs4)) fun vxs5 => msetT vxs5) fun vx6 => mpure vx6
theorem fn__law_some (vn : Int) : FN WDk d__law_some [.ref 1, eI vn] (p__law_some vn) (eT (eT eI)) := fnT_of (fun b => Pl.p b) rfl (le_c rfl) fun fr => (tr_ret (ht_b (ac_T (ht_frz (ht_sortSetT iLT (ht_frz (ht_compM (enc := (eT eI)) (c := (fun (vx3 : Int) => true)) (f := (fun (vx3 : Int) => p__law_state vn)) (src_rng1 (ht_op (ac_V hv_lit (ac_T (ht_call (ac_V (hv_var rfl) (ac_V hv_lit (ac_fn (fn_draw (9 : Int)))))) fun vx1 => (af_op (t_add _ _)))))) rfl (fun vx3 => (gt1_N 2 _)) (by decide) (fun _ => (kp_of trivial)) (fun vx3 => hv_yes) (fun vx3 => (ht_call (ac_V (hv_var rfl) (ac_V (hv_var rfl) (ac_fn (fn__law_state vn)))))))))) fun vx6 => (af_b1 (enc := (eT (eT eI))) (t_tupL (e := (eT eI)) _)))))
noncomputable def p__law_sets_right (vpanel_here : (List (List Int))) (vrow_here : (List Int)) (vother : (List Int)) : Mt Dk Bool := mbind (mbind (p__law_some (vpanel_here.length : Int)) fun vx1 => mbind (p__law_some (vpanel_here.length : Int)) fun vx2 => mpure (vx1, vx2)) fun vp3 => mbind (mbind (mbind (mcat vp3.1 vp3.2) fun vxs4 => msetT vxs4) fun vx5 => mpure vx5) fun vboth6 => mbind (p_states_after vpanel_here vp3.1 vrow_here) fun vfirst7 => mbind (p_states_after vpanel_here vp3.2 vrow_here) fun vsecond8 => mbind (mbind (p_states_after vpanel_here vboth6 vrow_here) fun vx11 => mbind (mbind (mbind (mcat vfirst7 vsecond8) fun vxs9 => msetT vxs9) fun vx10 => mpure vx10) fun vx12 => mpure (!decide (vx11 = vx12))) fun vb13 => if vb13 = true then (mpure false) else (mbind (mbind (mcat vrow_here vother) fun vx14 => p_states_after vpanel_here vp3.1 vx14) fun vjoined15 => mbind (mbind (mpure (decide ((vfirst7.length : Int) > (vp3.1.length : Int)))) fun vb17 => if vb17 = true then mpure true else mbind (p_states_after vpanel_here vfirst7 vother) fun vx16 => mpure (!decide (vx16 = vjoined15))) fun vb18 => if vb18 = true then (mpure false) else (mbind (mbind (p_states_after vpanel_here vfirst7 ([] : (List Int))) fun vx19 => mpure (decide (vx19 = vfirst7))) fun vb21 => if vb21 = true then mbind (p_states_after vpanel_here ([] : (List (List Int))) vrow_here) fun vx20 => mpure (decide (vx20 = ([] : (List (List Int))))) else mpure false))
theorem fn__law_sets_right (vpanel_here : (List (List Int))) (vrow_here : (List Int)) (vother : (List Int)) : FN WDk d__law_sets_right [.ref 1, (eT (eT eI)) vpanel_here, (eT eI) vrow_here, (eT eI) vother] (p__law_sets_right vpanel_here vrow_here vother) eB := fnT_of (fun b => Pl.p b) rfl (le_c rfl) fun fr => (tr_seqN (tn_par (J := fun (vp3 : (List (List Int)) × (List (List Int))) => [.val (.ref 1), .val ((eT (eT eI)) vpanel_here), .val ((eT eI) vrow_here), .val ((eT eI) vother), .val ((eT (eT eI)) vp3.1), .val ((eT (eT eI)) vp3.2), .any, .any, .any, .any]) (ap_T (ht_call (ac_V (hv_var rfl) (ac_V (hv_b (A := D) (hv_cons (hv_var rfl) hv_nil) (t_lenT (e := (eT eI)) _)) (ac_fn (fn__law_some (vpanel_here.length : Int)))))) (fun _ => rfl) fun vx1 => (ap_T1 (ht_call (ac_V (hv_var rfl) (ac_V (hv_b (A := D) (hv_cons (hv_var rfl) hv_nil) (t_lenT (e := (eT eI)) _)) (ac_fn (fn__law_some (vpanel_here.length : Int)))))) fun vx2 => (ap_two (lt_c rfl) (lt_c rfl))))) fun vp3 => (tr_seqN (tn_asg (ht_b (ac_T (ht_frz (ht_sortSetT iTT (ht_op (ac_V (hv_var rfl) (ac_V (hv_var rfl) (af_catT (e := (eT eI)) vp3.1 vp3.2)))))) fun vx5 => (af_b1 (enc := (eT (eT eI))) (t_tupL (e := (eT eI)) _))))) fun vboth6 => (tr_seqN (tn_asg (ht_call (ac_V (hv_var rfl) (ac_V (hv_var rfl) (ac_V (hv_var rfl) (ac_fn (fn_states_after vpanel_here vp3.1 vrow_here))))))) fun vfirst7 => (tr_seqN (tn_asg (ht_call (ac_V (hv_var rfl) (ac_V (hv_var rfl) (ac_V (hv_var rfl) (ac_fn (fn_states_after vpanel_here vp3.2 vrow_here))))))) fun vsecond8 => (tr_ifseq (ht_isB (ht_op (ac_T (ht_call (ac_V (hv_var rfl) (ac_V (hv_var rfl) (ac_V (hv_var rfl) (ac_fn (fn_states_after vpanel_here vboth6 vrow_here)))))) fun vx11 => (ac_T (ht_b (ac_T (ht_frz (ht_sortSetT iTT (ht_op (ac_V (hv_var rfl) (ac_V (hv_var rfl) (af_catT (e := (eT eI)) vfirst7 vsecond8)))))) fun vx10 => (af_b1 (enc := (eT (eT eI))) (t_tupL (e := (eT eI)) _)))) fun vx12 => (af_op (enc := eB) (t_ne (e := (eT (eT eI))) vx11 vx12 (by decide))))))) (tr_seqR (tr_ret (ht_ofV hv_lit))) (tr_nextR (tr_seqN (tn_asg (ht_call (ac_V (hv_var rfl) (ac_V (hv_var rfl) (ac_T (ht_op (ac_V (hv_var rfl) (ac_V (hv_var rfl) (af_catT (e := eI) vrow_here vother)))) fun vx14 => (ac_fn (fn_states_after vpanel_here vp3.1 vx14))))))) fun vjoined15 => (tr_ifseq (ht_or (ht_ofV (enc := id) (hv_isB (hv_op (hv_b (A := D) (hv_cons (hv_var rfl) hv_nil) (t_lenT (e := (eT eI)) _)) (hv_b (A := D) (hv_cons (hv_var rfl) hv_nil) (t_lenT (e := (eT eI)) _)) (t_gt _ _)))) (ht_isB (ht_op (ac_T (ht_call (ac_V (hv_var rfl) (ac_V (hv_var rfl) (ac_V (hv_var rfl) (ac_fn (fn_states_after vpanel_here vfirst7 vother)))))) fun vx16 => (ac_V (hv_var rfl) (af_op (enc := eB) (t_ne (e := (eT (eT eI))) vx16 vjoined15 (by decide)))))))) (tr_seqR (tr_ret (ht_ofV hv_lit))) (tr_nextR (tr_ret (ht_andV (ht_op (ac_T (ht_call (ac_V (hv_var rfl) (ac_V (hv_var rfl) (ac_V (hv_tup hv_nil (le_c rfl)) (ac_fn (fn_states_after vpanel_here vfirst7 ([] : (List Int)))))))) fun vx19 => (ac_V (hv_var rfl) (af_op (enc := eB) (t_eq (e := (eT (eT eI))) vx19 vfirst7 (by decide)))))) (ht_op (ac_T (ht_call (ac_V (hv_var rfl) (ac_V (hv_tup hv_nil (le_c rfl)) (ac_V (hv_var rfl) (ac_fn (fn_states_after vpanel_here ([] : (List (List Int))) vrow_here)))))) fun vx20 => (ac_V (hv_tup hv_nil (le_c rfl)) (af_op (enc := eB) (t_eq (e := (eT (eT eI))) vx20 ([] : (List (List Int))) (by decide)))))))))))))))))
noncomputable def p_law : Mt Dk Bool := mfin (mbind (mbind (mpure (5 : Int)) fun vn2 => mrng (0 : Int) vn2) fun vxs33 => forX (fun (vx3 : Int) (vz1 : Unit) => mbind (mbind (midx ([(7 : Int), (6 : Int), (5 : Int), (5 : Int), (4 : Int)]) vx3) fun vx4 => p__law_panel vx4) fun vpanel_here5 => mbind (mpure (vpanel_here5.length : Int)) fun vn6 => mbind (mbind (p__law_all vn6) fun vx7 => mpure vx7) fun vevery8 => mbind (mbind (p__law_row vn6 (10 : Int)) fun vx9 => mbind (p__law_row vn6 (10 : Int)) fun vx10 => mpure (vx9, vx10)) fun vp11 => mfinL (mbind (mbind (mcat vp11.1 vp11.2) fun vx13 => mpure [vp11.1, vp11.2, vx13, (cutD vp11.1 none (some (2 : Int))), ([] : (List Int))]) fun vxs24 => forX (fun (vx14 : (List Int)) (vz12 : Unit) => mbind (p_states_after vpanel_here5 vevery8 vx14) fun vafter15 => mbind (mbind (mbind (mbind (p_effect_of vpanel_here5 vx14) fun vy16 => mcountD eS vy16 ("same" : Str)) fun vx17 => midx ([(1 : Int), (2 : Int), (4 : Int), (8 : Int), (16 : Int), (32 : Int), (64 : Int), (128 : Int)]) vx17) fun vx18 => mpure (!decide ((vafter15.length : Int) = vx18))) fun vb19 => if vb19 = true then (mbind (mpure false) fun vr20 => mpure (.rt vr20)) else (mbind (mbind (p_is_reset vpanel_here5 vx14) fun vx21 => mpure (!decide (vx21 = (decide ((vafter15.length : Int) = (1 : Int)))))) fun vb22 => if vb22 = true then (mbind (mpure false) fun vr23 => mpure (.rt vr23)) else (mpure (.nx ())))) vxs24 ()) fun vz12 => mbind (mbind (mbind (p__law_sets_right vpanel_here5 vp11.1 vp11.2) fun vx25 => mpure vx25) fun vb26 => mpure (!vb26)) fun vb27 => if vb27 = true then (mbind (mpure false) fun vr28 => mpure (.rt vr28)) else (mbind (mbind (mbind (p__law_sets_right vpanel_here5 vp11.2 vp11.1) fun vx29 => mpure vx29) fun vb30 => mpure (!vb30)) fun vb31 => if vb31 = true then (mbind (mpure false) fun vr32 => mpure (.rt vr32)) else (mpure (.nx ())))) vxs33 ()) fun vz1 => mpure true
theorem tr_law (fr : Sto) : TR WDk fr [.any, .val (.ref 1), .any, .any, .any, .any, .any, .any, .any, .any] rest_law_1 p_law eB := (tr_seqF (J := _) (tf_for (J := fun (vz1 : Unit) => [.any, .val (.ref 1), .any, .any, .any, .any, .any, .any, .any, .any]) (z0 := ()) (src_rng1 (ht_ofV hv_lit)) (fun _ => (.any (.same (.any (.any (.any (.any (.any (.any (.any (.any .nil))))))))))) (fun vx3 vz1 => (gt1_N 2 _)) (fun vx3 vz1 => (tl_seqN (tn_asg (ht_call (ac_V (hv_var rfl) (ac_T (ht_op (ac_V (hv_frz (hv_disp (hv_cons hv_lit (hv_cons hv_lit (hv_cons hv_lit (hv_cons hv_lit (hv_cons hv_lit hv_nil))))) (le_c rfl))) (ac_V (hv_var rfl) (af_idxL (e := eI) ([(7 : Int), (6 : Int), (5 : Int), (5 : Int), (4 : Int)]) vx3)))) fun vx4 => (ac_fn (fn__law_panel vx4)))))) fun vpanel_here5 => (tl_seqN (tn_asg (ht_ofV (hv_b (A := D) (hv_cons (hv_var rfl) hv_nil) (t_lenT (e := (eT eI)) _)))) fun vn6 => (tl_seqN (tn_asg (ht_b (ac_T (ht_call (ac_V (hv_var rfl) (ac_fn (fn__law_all vn6)))) fun vx7 => (af_b1 (enc := (eT (eT eI))) (t_tupL (e := (eT eI)) _))))) fun vevery8 => (tl_seqN (tn_par (J := fun (vp11 : (List Int) × (List Int)) => [.any, .val (.ref 1), .val (eI vx3), .val ((eT (eT eI)) vpanel_here5), .val (eI vn6), .val ((eT (eT eI)) vevery8), .val ((eT eI) vp11.1), .val ((eT eI) vp11.2), .any, .any]) (ap_T (ht_call (ac_V (hv_var rfl) (ac_V (hv_var rfl) (ac_V hv_lit (ac_fn (fn__law_row vn6 (10 : Int))))))) (fun _ => rfl) fun vx9 => (ap_T1 (ht_call (ac_V (hv_var rfl) (ac_V (hv_var rfl) (ac_V hv_lit (ac_fn (fn__law_row vn6 (10 : Int))))))) fun vx10 => (ap_two (lt_c rfl) (lt_c rfl))))) fun vp11 => (tl_seqF (tf_for (J := fun (vz12 : Unit) => [.any, .val (.ref 1), .val (eI vx3), .val ((eT (eT eI)) vpanel_here5), .val (eI vn6), .val ((eT (eT eI)) vevery8), .val ((eT eI) vp11.1), .val ((eT eI) vp11.2), .any, .any]) (z0 := ()) (src_seq (sT (e := (eT eI))) (ht_tup (enc := (eT (eT eI))) (ac_V (hv_var rfl) (ac_V (hv_var rfl) (ac_T (ht_op (ac_V (hv_var rfl) (ac_V (hv_var rfl) (af_catT (e := eI) vp11.1 vp11.2)))) fun vx13 => (ac_V (hv_slT (hv_var rfl) hv_oNone (hv_oSome hv_lit)) (ac_V (hv_tup hv_nil (le_c rfl)) (ac_ret fun _ => rfl)))))))) (fun _ => (.any (.same (.same (.same (.same (.same (.same (.same (.any (.any .nil))))))))))) (fun vx14 vz12 => (gt1_N 8 _)) (fun vx14 vz12 => (tl_seqN (tn_asg (ht_call (ac_V (hv_var rfl) (ac_V (hv_var rfl) (ac_V (hv_var rfl) (ac_fn (fn_states_after vpanel_here5 vevery8 vx14))))))) fun vafter15 => (tl_ifseq (ht_isB (ht_op (ac_V (hv_b (A := D) (hv_cons (hv_var rfl) hv_nil) (t_lenT (e := (eT eI)) _)) (ac_T (ht_op (ac_V (hv_frz (hv_disp (hv_cons hv_lit (hv_cons hv_lit (hv_cons hv_lit (hv_cons hv_lit (hv_cons hv_lit (hv_cons hv_lit (hv_cons hv_lit (hv_cons hv_lit hv_nil)))))))) (le_c rfl))) (ac_T (ht_countX (by decide) (ht_call (ac_V (hv_var rfl) (ac_V (hv_var rfl) (ac_fn (fn_effect_of vpanel_here5 vx14))))) hv_lit) fun vx17 => (af_idxL (e := eI) ([(1 : Int), (2 : Int), (4 : Int), (8 : Int), (16 : Int), (32 : Int), (64 : Int), (128 : Int)]) vx17)))) fun vx18 => (af_op (enc := eB) (t_ne (e := eI) _ _ (by decide))))))) (tl_seqX (tx_ofR (tr_ret (ht_ofV hv_lit)))) (tl_nextR (tl_if (ht_isB (ht_op (ac_T (ht_call (ac_V (hv_var rfl) (ac_V (hv_var rfl) (ac_fn (fn_is_reset vpanel_here5 vx14))))) fun vx21 => (ac_V (hv_op (hv_b (A := D) (hv_cons (hv_var rfl) hv_nil) (t_lenT (e := (eT eI)) _)) hv_lit (t_eq (e := eI) _ _ (by decide))) (af_op (enc := eB) (t_ne (e := eB) _ _ (by decide))))))) (tl_ofX (tx_ofR (tr_ret (ht_ofV hv_lit)))) (tl_nextR (tl_next (.any (.same (.same (.same (.same (.same (.same (.same (.any (.any .nil)))))))))))))))))) fun vz12 => (tl_ifseq (ht_not (ht_tru (ht_call (ac_V (hv_var rfl) (ac_V (hv_var rfl) (ac_V (hv_var rfl) (ac_V (hv_var rfl) (ac_fn (fn__law_sets_right vpanel_here5 vp11.1 vp11.2))))))) (fun x => tr_B x))) (tl_seqX (tx_ofR (tr_ret (ht_ofV hv_lit)))) (tl_nextR (tl_if (ht_not (ht_tru (ht_call (ac_V (hv_var rfl) (ac_V (hv_var rfl) (ac_V (hv_var rfl) (ac_V (hv_var rfl) (ac_fn (fn__law_sets_right vpanel_here5 vp11.2 vp11.1))))))) (fun x => tr_B x))) (tl_ofX (tx_ofR (tr_ret (ht_ofV hv_lit)))) (tl_nextR (tl_next (.any (.same (.any (.any (.any (.any (.any (.any (.any (.any .nil)))))))))))))))))))))) fun vz1 => (tr_ret (ht_ofV hv_lit)))
/-! ### runs with a budget -/
section
variable {α β σ : Type}
theorem runs_b {N n : Nat} {q : Mt Dk α} {k : α → Mt Dk β} {Q : α → Prop} {R : β → Prop} (h : Runs n q Q) (hn : n ≤ N) (hk : ∀ a, Q a → Runs (N - n) (k a) R) : Runs N (mbind q k) R :=
  runs_le (runs_bind h hk) (by omega)
theorem runs_d {N : Nat} {m : Int} {k : Int → Mt Dk β} {R : β → Prop} (h1 : 1 ≤ m) (h2 : m < 1073741824) (hn : 1 ≤ N) (hk : ∀ a, 0 ≤ a → a < m → Runs (N - 1) (k a) R) : Runs N (mbind (draw m) k) R :=
  runs_b (runs_draw h1 h2) hn fun a ha => hk a ha.1 ha.2
theorem runs_p {N : Nat} {a : α} {Q : α → Prop} (h : Q a) : Runs N (mpure a) Q := runs_le (runs_pure h) (Nat.zero_le _)
theorem runs_forL {N c : Nat} {body : α → σ → Mt Dk σ} (I : List α → σ → Prop) {xs : List α} {z : σ} {k : σ → Mt Dk β} {R : β → Prop} (h : I [] z) (hn : xs.length * c ≤ N) (hb : ∀ pre x post z, xs = pre ++ x :: post → I pre z → Runs c (body x z) (I (pre ++ [x]))) (hk : ∀ z, I xs z → Runs (N - xs.length * c) (k z) R) : Runs N (mbind (forU body xs z) k) R :=
  runs_b (runs_for I h hb) hn hk
/-- a loop with a leaving return that nothing reaches -/
theorem runs_fin {N c : Nat} {body : α → σ → Mt Dk (Lp σ β)} (I : σ → Prop) {xs : List α} {z : σ} {k : σ → Mt Dk β} {R : β → Prop} (h : I z) (hn : xs.length * c ≤ N) (hb : ∀ x ∈ xs, ∀ z, I z → Runs c (body x z) fun r => ∃ z', r = .nx z' ∧ I z') (hk : ∀ z, I z → Runs (N - xs.length * c) (k z) R) : Runs N (mfin (forX body xs z) k) R := by
  unfold mfin
  refine runs_b (runs_forX I xs z h hb) hn ?_
  rintro r ⟨z', rfl, hz⟩
  exact hk z' hz
theorem runs_finL {γ : Type} {N c : Nat} {body : α → σ → Mt Dk (Lp σ β)} (I : σ → Prop) {xs : List α} {z : σ} {k : σ → Mt Dk (Lp γ β)} {R : Lp γ β → Prop} (h : I z) (hn : xs.length * c ≤ N) (hb : ∀ x ∈ xs, ∀ z, I z → Runs c (body x z) fun r => ∃ z', r = .nx z' ∧ I z') (hk : ∀ z, I z → Runs (N - xs.length * c) (k z) R) : Runs N (mfinL (forX body xs z) k) R := by
  unfold mfinL
  refine runs_b (runs_forX I xs z h hb) hn ?_
  rintro r ⟨z', rfl, hz⟩
  exact hk z' hz
end
theorem mfin_bind {S β σ ω : Type} (q : Mt S ω) (l : ω → Mt S (σ ⊕ β)) (k : σ → Mt S β) : mfin (mbind q l) k = mbind q fun a => mfin (l a) k := by
  unfold mfin
  rw [mbind_assoc]
theorem mfinL_bind {S β σ τ ω : Type} (q : Mt S ω) (l : ω → Mt S (σ ⊕ β)) (k : σ → Mt S (Lp τ β)) : mfinL (mbind q l) k = mbind q fun a => mfinL (l a) k := by
  unfold mfinL
  rw [mbind_assoc]
theorem perm_erase {α : Type} : ∀ (l : List α) (i : Nat) (h : i < l.length), (l[i] :: l.eraseIdx i).Perm l
  | x :: l, 0, _ => List.Perm.refl _
  | x :: l, i + 1, h => (List.Perm.swap _ _ _).trans ((perm_erase l i (by simpa using h)).cons x)
theorem compG_id {S α : Type} {c : α → Mt S Bool} (p : α → Bool) {xs : List α} (hl : xs.length ≤ 100000) (hc : ∀ x ∈ xs, c x = mpure (p x)) : compG c (fun x => mpure x) xs = mpure (xs.filter p) := by
  have := compG_pure (f := fun x => mpure x) p id hl hc fun _ _ _ => rfl
  rw [List.map_id] at this
  exact this
/-! ### k18: words of rows -/
def wNew (pan : List (List Int)) (i : Int) (w : Str) (b : Int) : Str := if i = b then "on" else if i ∈ rowAt pan b then "off" else w
def wFrom (pan : List (List Int)) (w : Str) (row : List Int) (i : Int) : Str := row.foldl (wNew pan i) w
abbrev wAft (pan : List (List Int)) (row : List Int) (i : Int) : Str := wFrom pan "same" row i
/-- b concerns i -/
def Tch (pan : List (List Int)) (i b : Int) : Prop := i = b ∨ i ∈ rowAt pan b
def wOf (i z : Int) : Str := if i = z then "on" else "off"
theorem wNew_tch {pan : List (List Int)} {i b : Int} (w : Str) (h : Tch pan i b) : wNew pan i w b = wOf i b := by
  unfold wNew wOf
  by_cases e : i = b
  · rw [if_pos e, if_pos e]
  · rw [if_neg e, if_neg e, if_pos (h.resolve_left e)]
theorem wNew_not {pan : List (List Int)} {i b : Int} (w : Str) (h : ¬ Tch pan i b) : wNew pan i w b = w := by
  unfold wNew
  rw [if_neg fun e => h (.inl e), if_neg fun e => h (.inr e)]
theorem wFrom_not {pan : List (List Int)} {i : Int} : ∀ {row : List Int} (w : Str), (∀ b ∈ row, ¬ Tch pan i b) → wFrom pan w row i = w
  | [], w, _ => rfl
  | b :: row, w, h => by
    show wFrom pan (wNew pan i w b) row i = w
    rw [wNew_not w (h b (by simp)), wFrom_not w fun c hc => h c (by simp [hc])]
theorem wFrom_app (pan : List (List Int)) (w : Str) (r1 r2 : List Int) (i : Int) : wFrom pan w (r1 ++ r2) i = wFrom pan (wFrom pan w r1 i) r2 i := by
  unfold wFrom
  rw [List.foldl_append]
theorem wFrom_at {pan : List (List Int)} {i : Int} {p q : List Int} {z : Int} (w : Str) (hz : Tch pan i z) (hq : ∀ b ∈ q, ¬ Tch pan i b) : wFrom pan w (p ++ z :: q) i = wOf i z := by
  rw [wFrom_app]
  show wFrom pan (wNew pan i _ z) q i = _
  rw [wNew_tch _ hz, wFrom_not _ hq]
/-- the last button of a row that concerns i -/
theorem last_tch (pan : List (List Int)) (i : Int) : ∀ row : List Int, (∀ b ∈ row, ¬ Tch pan i b) ∨ ∃ p z q, row = p ++ z :: q ∧ Tch pan i z ∧ ∀ b ∈ q, ¬ Tch pan i b
  | [] => .inl fun _ h => nomatch h
  | b :: row => by
    rcases last_tch pan i row with h | ⟨p, z, q, e, hz, hq⟩
    · by_cases hb : Tch pan i b
      · exact .inr ⟨[], b, row, rfl, hb, h⟩
      · refine .inl fun c hc => ?_
        rcases List.mem_cons.mp hc with rfl | hc
        · exact hb
        · exact h c hc
    · exact .inr ⟨b :: p, z, q, by rw [e]; rfl, hz, hq⟩
theorem wOf_ne (i z : Int) : wOf i z ≠ "same" := by
  unfold wOf
  split <;> decide
theorem same_iff {pan : List (List Int)} {row : List Int} {i : Int} : wAft pan row i = "same" ↔ ∀ b ∈ row, ¬ Tch pan i b := by
  rcases last_tch pan i row with h | ⟨p, z, q, e, hz, hq⟩
  · exact ⟨fun _ => h, fun _ => wFrom_not _ h⟩
  · have : wAft pan row i = wOf i z := by rw [e]; exact wFrom_at _ hz hq
    rw [this]
    exact ⟨fun h => absurd h (wOf_ne i z), fun h => absurd hz (h z (by rw [e]; simp))⟩
theorem wFrom_any {pan : List (List Int)} {row : List Int} {i : Int} (w : Str) : wFrom pan w row i = if wAft pan row i = "same" then w else wAft pan row i := by
  rcases last_tch pan i row with h | ⟨p, z, q, e, hz, hq⟩
  · rw [if_pos (same_iff.mpr h), wFrom_not w h]
  · have h1 : ∀ w, wFrom pan w row i = wOf i z := fun w => by rw [e]; exact wFrom_at w hz hq
    rw [h1 w, wAft, h1, if_neg (wOf_ne i z)]
theorem wAft_app (pan : List (List Int)) (r1 r2 : List Int) (i : Int) : wAft pan (r1 ++ r2) i = if wAft pan r2 i = "same" then wAft pan r1 i else wAft pan r2 i := by
  rw [wAft, wFrom_app, wFrom_any]
theorem wAft_twice (pan : List (List Int)) (r : List Int) (i : Int) : wAft pan (r ++ r) i = wAft pan r i := by
  rw [wAft_app]
  split <;> rfl
theorem word_cases (pan : List (List Int)) (row : List Int) (i : Int) : wAft pan row i = "on" ∨ wAft pan row i = "off" ∨ wAft pan row i = "same" := by
  rcases last_tch pan i row with h2 | ⟨p, z, q, e, hz, hq⟩
  · exact .inr (.inr (wFrom_not _ h2))
  · rw [e, wAft, wFrom_at _ hz hq]
    unfold wOf
    split
    · exact .inl rfl
    · exact .inr (.inl rfl)
/-! ### panels -/
/-- a panel of ascending lists without the own button -/
structure PanN (pan : List (List Int)) : Prop extends Pan 10 pan where
  self : ∀ (i : Nat) r, pan[i]? = some r → (i : Int) ∉ r
  nd : ∀ r ∈ pan, r.Nodup
theorem rowAt_or (pan : List (List Int)) (z : Int) : rowAt pan z = [] ∨ rowAt pan z ∈ pan := by
  unfold rowAt
  rw [List.getD_eq_getElem?_getD]
  cases h : pan[z.toNat]? with
  | none => exact .inl rfl
  | some r => exact .inr (List.mem_of_getElem? h)
theorem PanN.hself {pan : List (List Int)} (h : PanN pan) (i z : Int) (hi : i ∈ rowAt pan z) : i ≠ z := by
  rintro rfl
  rcases rowAt_or pan i with e | hm
  · rw [e] at hi; exact nomatch hi
  · have hr := h.rng _ hm i hi
    have hl : i.toNat < pan.length := by omega
    have := h.self i.toNat pan[i.toNat] (List.getElem?_eq_getElem hl)
    unfold rowAt at hi
    rw [List.getD_eq_getElem?_getD, List.getElem?_eq_getElem hl] at hi
    rw [show ((i.toNat : Nat) : Int) = i by omega] at this
    exact this hi
theorem PanN.rnd {pan : List (List Int)} (h : PanN pan) (z : Int) : (rowAt pan z).Nodup := by
  rcases rowAt_or pan z with e | hm
  · rw [e]; exact List.nodup_nil
  · exact h.nd _ hm
theorem upto_split {n : Nat} {pre post : List Int} {b : Int} (e : upto n = pre ++ b :: post) : b = (pre.length : Int) ∧ pre.length < n := by
  have h : (upto n)[pre.length]? = some b := by rw [e]; simp
  rw [upto_get] at h
  split at h
  · exact ⟨(Option.some.inj h).symm, by assumption⟩
  · cases h

/-- a state -/
def St (n : Nat) (r : List Int) : Prop := Bel n r ∧ r.Pairwise (· < ·)
theorem St.len {n : Nat} {r : List Int} (h : St n r) : r.length ≤ n := by
  have := nodup_len_sub (h.2.imp fun h => Int.ne_of_lt h) (m := upto n) fun a ha => mem_upto.mpr (h.1 a ha)
  rwa [upto_length] at this
/-! the end of a row, from a state -/
def onIf (b : Bool) : Str := if b = true then "on" else "off"
def fin (pan : List (List Int)) (st row : List Int) : List Int := (upto pan.length).filter fun b => decide (wFrom pan (onIf (decide (b ∈ st))) row b = "on")
def on1 (pan : List (List Int)) (st row : List Int) (b : Int) : Prop := wAft pan row b = "on" ∨ (wAft pan row b = "same" ∧ b ∈ st)
theorem on1_iff {pan : List (List Int)} {st row : List Int} {b : Int} : wFrom pan (onIf (decide (b ∈ st))) row b = "on" ↔ on1 pan st row b := by
  rw [wFrom_any]
  unfold on1 onIf
  by_cases h : wAft pan row b = "same"
  · rw [if_pos h, h]
    by_cases hb : b ∈ st
    · simp [hb]
    · simp only [hb, decide_false, Bool.false_eq_true, if_false, and_false, or_false]
      exact ⟨fun z => absurd z (by decide), fun z => absurd z (by decide)⟩
  · rw [if_neg h]
    simp [h]
theorem fin_ne {pan : List (List Int)} {st r1 r2 : List Int} : fin pan st r1 ≠ fin pan st r2 ↔ ∃ b, (0 ≤ b ∧ b < (pan.length : Int)) ∧ ¬ (on1 pan st r1 b ↔ on1 pan st r2 b) := by
  constructor
  · intro h
    apply Classical.byContradiction
    intro hn
    refine h ?_
    unfold fin
    refine List.filter_congr fun b hb => ?_
    have hb := mem_upto.mp hb
    have : on1 pan st r1 b ↔ on1 pan st r2 b := Classical.byContradiction fun q => hn ⟨b, hb, q⟩
    rw [← on1_iff, ← on1_iff] at this
    exact decide_eq_decide.mpr this
  · rintro ⟨b, hb, h⟩ e
    refine h ?_
    have : b ∈ fin pan st r1 ↔ b ∈ fin pan st r2 := by rw [e]
    unfold fin at this
    rw [List.mem_filter, List.mem_filter] at this
    simp only [mem_upto.mpr hb, true_and, decide_eq_true_eq] at this
    rw [on1_iff, on1_iff] at this
    exact this
def dif (pan : List (List Int)) (r1 r2 : List Int) : List Int := (upto pan.length).filter fun b => !decide (wAft pan r1 b = wAft pan r2 b)
theorem mem_dif {pan : List (List Int)} {r1 r2 : List Int} {b : Int} : b ∈ dif pan r1 r2 ↔ (0 ≤ b ∧ b < (pan.length : Int)) ∧ wAft pan r1 b ≠ wAft pan r2 b := by
  unfold dif
  rw [List.mem_filter, mem_upto]
  simp
def due (pan : List (List Int)) (r1 r2 : List Int) : Option (List Int) := match dif pan r1 r2 with
  | [] => none
  | d :: ds => if (d :: ds).any (fun b => decide (("on" : Str) ∈ [wAft pan r1 b, wAft pan r2 b])) = true then some [] else some (upto (d + 1).toNat)
/-! ### effects -/
theorem changed_ok (pan : List (List Int)) {b : Int} (h0 : 0 ≤ b) (h1 : b < pan.length) (i : Int) (w : Str) :
    p_changed_word (S := Dk) pan b i w = mpure (wNew pan i w b) := by
  unfold p_changed_word wNew
  simp only [midx_row h0 h1, mbind_pure]
  by_cases h : i = b <;> by_cases h2 : i ∈ rowAt pan b <;> simp [h, h2]
def eff (pan : List (List Int)) (row : List Int) : List Str := (upto pan.length).map (wAft pan row)
theorem effect_ok {pan : List (List Int)} (h : PanN pan) {row : List Int} (hr : Bel pan.length row) : p_effect_of (S := Dk) pan row = mpure (eff pan row) := by
  unfold p_effect_of
  have hl := h.le
  rw [mrepT_ok (by omega) (by omega)]
  simp only [mbind_pure, mbind_ret]
  refine forU_inv row _ (fun pre => eff pan pre) ?_ fun pre x post e => ?_
  · show (upto pan.length).map (fun _ => ("same" : Str)) = _
    rw [List.map_const', upto_length, Int.toNat_natCast]
  · have hx := hr x (by rw [e]; simp)
    unfold p_effect_after eff
    simp only [mbind_pure, mbind_ret, enumZ_upto]
    rw [compM_pure (fun p : Int × Str => wNew pan p.1 p.2 x) (by simp [upto_length]; omega) (fun y _ _ => changed_ok pan hx.1 hx.2 _ _), filter_true, List.map_map, calmly_pure']
    congr 2
    funext i
    show wNew pan i (wFrom pan "same" pre i) x = wFrom pan "same" (pre ++ [x]) i
    rw [wFrom_app] <;> rfl
theorem eff_len (pan : List (List Int)) (row : List Int) : (eff pan row).length = pan.length := by
  unfold eff
  rw [List.length_map, upto_length]
theorem lay_word {pan : List (List Int)} {R : List Int} (y : Str) (hy : y = "on" ∨ y = "off" ∨ y = "same") : ∀ x ∈ y :: eff pan R, (toP (eS x)).canLay0 = true := by
  have key : ∀ w : Str, w = "on" ∨ w = "off" ∨ w = "same" → (toP (eS w)).canLay0 = true := by
    rintro w (rfl | rfl | rfl) <;> (show PyData.canLay0 (.str _) = true; rw [PyData.canLay0]; decide +kernel)
  intro x hx
  rcases List.mem_cons.mp hx with rfl | hx
  · exact key x hy
  · unfold eff at hx
    obtain ⟨i, _, rfl⟩ := List.mem_map.mp hx
    exact key _ (word_cases pan R i)
theorem eff_count (pan : List (List Int)) (R : List Int) (y : Str) : (eff pan R).count y = ((upto pan.length).filter fun i => decide (wAft pan R i = y)).length := by
  unfold eff
  rw [List.count_eq_countP, List.countP_map, List.countP_eq_length_filter]
  congr 1
theorem runs_subP {α : Type} {c : Nat} {p : α → Mt Dk Bool} {P : α → Prop} {xs : List α} (hl : xs.length ≤ 100000) (hp : ∀ x ∈ xs, Runs c (p x) fun b => b = true → P x) : Runs (xs.length * c) (compG p (fun x => mpure x) xs) fun ys => ys.Sublist xs ∧ ∀ y ∈ ys, P y := by
  unfold compG
  rw [if_pos hl]
  clear hl
  induction xs with
  | nil => exact runs_le (runs_pure ⟨List.Sublist.refl _, fun _ h => nomatch h⟩) (Nat.zero_le _)
  | cons x xs ih =>
    unfold compT
    refine runs_le (runs_bind (n := c + 0) (m := xs.length * c + 0) (Q := fun o => o = none ∨ (o = some x ∧ P x)) ?_ fun o ho => runs_bind (ih fun y hy => hp y (by simp [hy])) fun ys hys => runs_pure ?_) ?_
    · refine runs_bind (hp x (by simp)) fun b hb => ?_
      cases b
      · exact runs_pure (.inl rfl)
      · exact runs_pure (.inr ⟨rfl, hb rfl⟩)
    · rcases ho with rfl | ⟨rfl, hx⟩
      · exact ⟨hys.1.cons x, hys.2⟩
      · refine ⟨hys.1.cons_cons x, fun y hy => ?_⟩
        rcases List.mem_cons.mp hy with rfl | hy
        · exact hx
        · exact hys.2 y hy
    · rw [List.length_cons, Nat.succ_mul]
      omega
/-! ### what is drawn: a panel, a row -/
theorem panel_runs {M : Int} (h1 : 1 ≤ M) (h2 : M ≤ 10) : Runs 102 (p__law_panel M) fun pan => PanN pan ∧ (pan.length : Int) ≤ M ∧ ∀ r ∈ pan, r.Pairwise (· < ·) := by
  unfold p__law_panel
  simp only [mbind_assoc, mbind_pure]
  refine runs_d h1 (by omega) (by omega) fun x hx1 hx2 => ?_
  refine runs_d (by omega) (by omega) (by omega) fun way hw1 hw2 => ?_
  obtain ⟨n, hn⟩ : ∃ n : Nat, (n : Int) = 1 + x := ⟨(1 + x).toNat, by omega⟩
  simp only [← hn]
  rw [mrng_nat n (by omega), mbind_pure]
  refine runs_forL (c := 10) (fun pre (pan : List (List Int)) => pan.length = pre.length ∧ (∀ r ∈ pan, r.length ≤ 10 ∧ Bel n r ∧ r.Pairwise (· < ·)) ∧ ∀ (i : Nat) r, pan[i]? = some r → (i : Int) ∉ r) ⟨rfl, (fun _ h => nomatch h), fun i r h => by simp at h⟩ (by rw [upto_length]; omega) (fun pre b post pan e hI => ?_) fun pan hI => ?_
  · have hb : b ∈ upto n := by rw [e]; simp
    have hb := mem_upto.mp hb
    have hsp := upto_split e
    have hpl : pre.length ≤ n := by
      have := congrArg List.length e
      rw [upto_length] at this
      simp at this
      omega
    simp only [mbind_pure, mbind_ret]
    refine runs_b (n := 10) (Q := fun ys => (ys.length ≤ 10 ∧ Bel n ys) ∧ b ∉ ys) (runs_calm (runs_mono (runs_subP (c := 1) (P := fun y => y ≠ b) (by rw [upto_length]; omega) fun y hy => ?_) (by rw [upto_length]; omega) ?_)) (by omega) fun own ho => ?_
    · by_cases hy2 : y = b
      · simp only [hy2, decide_true, Bool.not_true, Bool.false_eq_true, if_false]
        exact runs_p fun h => (nomatch h)
      · simp only [hy2, decide_false, Bool.not_false, if_true]
        rw [midx_getD 1 hw1 (by simpa using hw2), mbind_pure]
        have hm := getD_mem (xs := [(2 : Int), 5, 9, 7, 1]) 1 hw1 (by simpa using hw2)
        have hm2 : ∀ z ∈ [(2 : Int), 5, 9, 7, 1], 1 ≤ z ∧ z ≤ 9 := by decide
        have hm3 := hm2 _ hm
        exact runs_d (by omega) (by omega) (by omega) fun a _ _ => runs_p fun _ => hy2
    · rintro ys ⟨hys, hne⟩
      have := hys.length_le
      rw [upto_length] at this
      exact ⟨⟨by omega, fun a ha => mem_upto.mp (hys.subset ha)⟩, fun hm => hne b hm rfl⟩
    · have hk : ∀ {zs : List Int}, zs.length ≤ 11 → Bel n zs → b ∉ zs → Runs (10 - 10) (mbind (mrepL zs (b2z (!decide (way = 4)))) fun xs => mbind (msetS xs) fun x28 => mapp pan x28) fun pan' => pan'.length = (pre ++ [b]).length ∧ (∀ r ∈ pan', r.length ≤ 10 ∧ Bel n r ∧ r.Pairwise (· < ·)) ∧ ∀ (i : Nat) r, pan'[i]? = some r → (i : Int) ∉ r := by
        intro zs hl hz hbz
        have e0 : ∃ ys : List Int, mrepL (S := Dk) zs (b2z (!decide (way = 4))) = mpure ys ∧ ys.length ≤ 11 ∧ Bel n ys ∧ b ∉ ys := by
          by_cases hw : way = 4
          · refine ⟨[], ?_, by simp, (fun _ h => nomatch h), by simp⟩
            simp [hw, b2z, mrepL]
          · refine ⟨zs, ?_, hl, hz, hbz⟩
            have : zs.length ≤ 100000 := by omega
            simp [hw, b2z, mrepL, this]
        obtain ⟨ys, e1, hyl, hyb, hyn⟩ := e0
        rw [e1, mbind_pure, msetS_ok (n := n) (by omega) hyb (by omega), mbind_pure, mapp_ok (by omega)]
        refine runs_p ⟨by simp [hI.1], fun r hr => ?_, fun i r hr => ?_⟩
        · rcases List.mem_append.mp hr with h | h
          · exact hI.2.1 r h
          · rw [List.mem_singleton.mp h]
            have := setI_small hyb
            exact ⟨by rw [sortI_len]; omega, fun a ha => hyb a (mem_sortI.mp ha), sortI_sorted ys⟩
        · by_cases hi : i < pan.length
          · rw [List.getElem?_append_left hi] at hr
            exact hI.2.2 i r hr
          · rw [List.getElem?_append_right (by omega)] at hr
            have hi2 : i - pan.length = 0 := by
              apply Classical.byContradiction
              intro hne
              rw [List.getElem?_eq_none (by simp; omega)] at hr
              cases hr
            rw [hi2] at hr
            cases hr
            have : (i : Int) = b := by rw [hsp.1]; omega
            rw [this]
            exact fun hm => hyn (mem_sortI.mp hm)
      have hk2 : ∀ {zs : List Int}, zs.length ≤ 10 → Bel n zs → b ∉ zs → Runs (10 - 10) (mbind (if (decide (way = 3) && decide ((n : Int) > 1)) = true then mbind (mmod (b + 1) (n : Int)) fun a => mbind (mcat zs [a]) fun a => mpure a else mpure zs) fun a => mbind (mrepL a (b2z (!decide (way = 4)))) fun xs => mbind (msetS xs) fun x28 => mapp pan x28) fun pan' => pan'.length = (pre ++ [b]).length ∧ (∀ r ∈ pan', r.length ≤ 10 ∧ Bel n r ∧ r.Pairwise (· < ·)) ∧ ∀ (i : Nat) r, pan'[i]? = some r → (i : Int) ∉ r := by
        intro zs hl hz hbz
        split
        · rename_i hc
          rw [mmod_ok (by omega), mbind_pure, mcat_ok (by simp; omega), mbind_pure, mbind_pure]
          refine hk (by simp; omega) (fun a ha => ?_) fun hm => ?_
          · rcases List.mem_append.mp ha with h | h
            · exact hz a h
            · rw [List.mem_singleton.mp h]
              exact ⟨Int.emod_nonneg _ (by omega), Int.emod_lt_of_pos _ (by omega)⟩
          · rcases List.mem_append.mp hm with h | h
            · exact hbz h
            · have h := List.mem_singleton.mp h
              simp only [Bool.and_eq_true, decide_eq_true_eq] at hc
              by_cases q : b + 1 = (n : Int)
              · rw [q, Int.emod_self] at h
                omega
              · rw [Int.emod_eq_of_lt (by omega) (by omega)] at h
                omega
        · rw [mbind_pure]
          exact hk (by omega) hz hbz
      simp only [mbind_ret] at hk2 ⊢
      by_cases hw : way = 2
      · simp only [hw, decide_true, if_true]
        rw [compV_ok (by rw [upto_length]; omega), mbind_pure]
        simp only [hw] at hk2
        refine hk2 ?_ (fun a ha => ?_) fun hm => ?_
        · rw [List.length_map]
          refine Nat.le_trans (List.length_filter_le _ _) (by rw [upto_length]; omega)
        · rw [List.map_id'] at ha
          exact mem_upto.mp (List.mem_filter.mp ha).1
        · rw [List.map_id'] at hm
          have := (List.mem_filter.mp hm).2
          simp at this
      · simp only [hw, decide_false, Bool.false_eq_true, if_false, mbind_pure]
        exact hk2 ho.1.1 ho.1.2 ho.2
  · have hl : pan.length = n := by rw [hI.1, upto_length]
    refine runs_p ⟨{ pos := by omega, le := by omega, len := fun r hr => (hI.2.1 r hr).1, rng := fun r hr => ?_, self := hI.2.2, nd := fun r hr => (hI.2.1 r hr).2.2.imp fun h => Int.ne_of_lt h }, by omega, fun r hr => (hI.2.1 r hr).2.2⟩
    rw [hl]
    exact (hI.2.1 r hr).2.1
theorem row_runs {n : Nat} {m : Int} (hn : 1 ≤ n) (hn2 : n ≤ 100) (h0 : 0 ≤ m) (hm : m ≤ 60) : Runs 70 (p__law_row (n : Int) m) fun r => (r.length : Int) ≤ m ∧ Bel n r := by
  unfold p__law_row
  simp only [mbind_assoc, mbind_pure]
  refine runs_d (by omega) (by omega) (by omega) fun a ha1 ha2 => ?_
  refine runs_d (by omega) (by omega) (by omega) fun b hb1 hb2 => ?_
  refine runs_d (by omega) (by omega) (by omega) fun c hc1 hc2 => ?_
  refine runs_d (by omega) (by omega) (by omega) fun way hw1 hw2 => ?_
  refine runs_d (by omega) (by omega) (by omega) fun k hk1 hk2 => ?_
  obtain ⟨t, rfl⟩ : ∃ t : Nat, k = t := ⟨k.toNat, by omega⟩
  rw [mrng_nat t (by omega), mbind_pure]
  refine runs_b (n := 60) (Q := fun r => (r.length : Int) ≤ m ∧ Bel n r) (runs_calm (runs_mono (runs_compM (c := 1) (fun _ y => 0 ≤ y ∧ y < (n : Int)) (by rw [upto_length]; omega) fun y hy => ?_) (by rw [upto_length]; omega) ?_)) (by omega) fun r hr => runs_p hr
  · have hy := mem_upto.mp hy
    refine runs_d (by omega) (by omega) (by omega) fun d hd1 hd2 => ?_
    have e1 := Int.emod_nonneg y (b := 3) (by omega)
    have e2 := Int.emod_lt_of_pos y (b := 3) (by omega)
    rw [mmod_ok (by omega), mbind_pure, midx_getD 0 e1 (by simpa using e2), mbind_pure, midx_getD 0 hw1 (by simpa using hw2)]
    have h1 := getD_mem (xs := [a, b, c]) 0 e1 (by simpa using e2)
    have h2 := getD_mem (xs := [d, [a, b, c].getD (y % 3).toNat 0]) 0 hw1 (by simpa using hw2)
    refine runs_p ?_
    have h3 : 0 ≤ [a, b, c].getD (y % 3).toNat 0 ∧ [a, b, c].getD (y % 3).toNat 0 < (n : Int) := by
      simp only [List.mem_cons, List.not_mem_nil, or_false] at h1
      rcases h1 with h | h | h <;> rw [h] <;> omega
    simp only [List.mem_cons, List.not_mem_nil, or_false] at h2
    rcases h2 with h | h <;> rw [h]
    · omega
    · exact h3
  · rintro ys ⟨h1, h2⟩
    refine ⟨?_, fun a ha => ?_⟩
    · have := List.length_filter_le (fun _ => true) (upto t)
      rw [upto_length] at this
      omega
    · obtain ⟨_, _, h⟩ := h2 a ha
      exact h
/-! ### run -/
theorem sorted_ext {L r : List Int} (hr : r.Pairwise (· < ·)) (hL : L.Pairwise (· < ·)) (h : ∀ a, a ∈ r ↔ a ∈ L) : r = L :=
  List.Perm.eq_of_pairwise (fun a b _ _ h1 h2 => by omega) hr hL ((List.perm_ext_iff_of_nodup (hr.imp fun h => Int.ne_of_lt h) (hL.imp fun h => Int.ne_of_lt h)).mpr h)
theorem fin_st (pan : List (List Int)) (st row : List Int) : St pan.length (fin pan st row) := ⟨fun a ha => mem_upto.mp (List.mem_filter.mp ha).1, (sorted_upto _).sublist List.filter_sublist⟩
theorem mem_fin {pan : List (List Int)} {st row : List Int} {b : Int} : b ∈ fin pan st row ↔ (0 ≤ b ∧ b < (pan.length : Int)) ∧ wFrom pan (onIf (decide (b ∈ st))) row b = "on" := by
  unfold fin
  rw [List.mem_filter, mem_upto]
  simp
theorem num_ok {S : Type} {v lo hi : Int} (h1 : lo ≤ v) (h2 : v ≤ hi) : p_is_number (S := S) v lo hi = mpure true := by
  unfold p_is_number
  simp [h1, h2]
theorem run_ok {pan : List (List Int)} (h : PanN pan) {z : List Int} (hz : St pan.length z) {row : List Int} (hr : Bel pan.length row) (hl : row.length ≤ 60) : p_run (S := Dk) pan z row = mpure (fin pan z row) := by
  have hle := h.le
  have e0 : p_row_error (S := Dk) pan row = mpure [] := by
    unfold p_row_error
    simp only [mbind_pure, mbind_ret]
    rw [if_neg (by simp; omega), compG_pure (xs := enumZ 0 row) (fun _ => false) (fun x => x.1) (by rw [enumZ_length]; omega) (fun x hx => ?_) (fun x _ _ => rfl), calmly_pure', mbind_pure, List.filter_eq_nil_iff.mpr (by simp)]
    · rfl
    · obtain ⟨i, hi, _⟩ := mem_enumZ hx
      have := hr _ (List.mem_of_getElem? hi)
      rw [num_ok (by omega) (by omega), mbind_pure]
      rfl
  unfold p_run
  rw [e0]
  simp only [mbind_pure, mbind_ret]
  rw [if_neg (by simp)]
  refine forU_inv row _ (fun pre => fin pan z pre) ?_ fun pre x post e => ?_
  · refine sorted_ext (fin_st _ _ _).2 hz.2 fun b => ?_
    rw [mem_fin]
    show _ ∧ onIf (decide (b ∈ z)) = "on" ↔ _
    unfold onIf
    constructor
    · rintro ⟨_, h2⟩
      apply Classical.byContradiction
      intro hb
      rw [if_neg (by simpa using hb)] at h2
      exact absurd h2 (by decide)
    · intro hb
      exact ⟨hz.1 b hb, by rw [if_pos (by simpa using hb)]⟩
  · have hx := hr x (by rw [e]; simp)
    have hl := (fin_st pan z pre).len
    unfold p_press_button
    simp only [mbind_pure, mbind_ret]
    rw [compG_id (fun o => !decide (o ∈ rowAt pan x) && !decide (o = x)) (by omega) (fun o _ => ?_), calmly_pure', mbind_pure]
    · have hl2 : ((fin pan z pre).filter fun o => !decide (o ∈ rowAt pan x) && !decide (o = x)).length ≤ (fin pan z pre).length := List.length_filter_le _ _
      rw [mdisp_ok (by rw [List.length_append, List.length_singleton]; omega), mbind_pure, msort_ok (by rw [List.length_append, List.length_singleton]; omega)]
      congr 1
      refine sort_eq ((List.perm_ext_iff_of_nodup ?_ ?_).mpr fun b => ?_) (fin_st _ _ _).2
      · refine List.nodup_append.mpr ⟨(((fin_st pan z pre).2.imp fun h => Int.ne_of_lt h).sublist List.filter_sublist), by simp, fun a ha c hc q => ?_⟩
        rw [List.mem_singleton.mp hc] at q
        have := (List.mem_filter.mp ha).2
        simp [q] at this
      · exact (fin_st _ _ _).2.imp fun h => Int.ne_of_lt h
      · rw [List.mem_append, List.mem_filter, List.mem_singleton, mem_fin, mem_fin, wFrom_app]
        show _ ↔ _ ∧ wNew pan b (wFrom pan (onIf (decide (b ∈ z))) pre b) x = "on"
        unfold wNew
        by_cases h1 : b = x
        · subst h1
          simp [hx]
        · by_cases h2 : b ∈ rowAt pan x
          · rw [if_neg h1, if_pos h2]
            simp [h1, h2]
            exact fun _ _ => by decide
          · rw [if_neg h1, if_neg h2]
            simp [h1, h2]
    · rw [midx_row hx.1 hx.2, mbind_pure]
      by_cases q : o ∈ rowAt pan x <;> simp [q]
/-! ### sets of states -/
def grow : Nat → List (List Int)
  | 0 => [[]]
  | k + 1 => grow k ++ (grow k).map fun r => r ++ [(k : Int)]
theorem grow_len : ∀ k, (grow k).length = 2 ^ k
  | 0 => rfl
  | k + 1 => by
    unfold grow
    rw [List.length_append, List.length_map, grow_len k, Nat.pow_succ]
    omega
theorem grow_mem : ∀ (k : Nat) (r : List Int), r ∈ grow k ↔ St k r
  | 0, r => by
    unfold grow St
    rw [List.mem_singleton]
    constructor
    · rintro rfl
      exact ⟨(fun _ h => nomatch h), List.Pairwise.nil⟩
    · rintro ⟨h, _⟩
      match r, h with
      | [], _ => rfl
      | a :: r, h => have := h a (by simp); omega
  | k + 1, r => by
    unfold grow
    rw [List.mem_append, List.mem_map]
    constructor
    · rintro (h | ⟨q, hq, rfl⟩)
      · have := (grow_mem k r).mp h
        exact ⟨fun a ha => by have := this.1 a ha; omega, this.2⟩
      · have := (grow_mem k q).mp hq
        refine ⟨fun a ha => ?_, List.pairwise_append.mpr ⟨this.2, List.pairwise_singleton _ _, fun a ha b hb => ?_⟩⟩
        · rcases List.mem_append.mp ha with z | z
          · have := this.1 a z; omega
          · rw [List.mem_singleton.mp z]; omega
        · rw [List.mem_singleton.mp hb]
          exact (this.1 a ha).2
    · intro h
      by_cases hk : (k : Int) ∈ r
      · right
        rcases List.eq_nil_or_concat r with rfl | ⟨q, z, rfl⟩
        · exact nomatch hk
        · have hp := List.pairwise_append.mp (by simpa using h.2)
          have hz : z = (k : Int) := by
            have hz2 := h.1 z (by simp)
            have hk2 : (k : Int) ∈ q ∨ (k : Int) = z := by simpa using hk
            rcases hk2 with q1 | q1
            · have := hp.2.2 _ q1 z (by simp)
              omega
            · exact q1.symm
          refine ⟨q, (grow_mem k q).mpr ⟨fun a ha => ?_, hp.1⟩, by rw [hz]; simp⟩
          have h1 := h.1 a (by simp [ha])
          have h2 := hp.2.2 a ha z (by simp)
          omega
      · left
        refine (grow_mem k r).mpr ⟨fun a ha => ?_, h.2⟩
        have := h.1 a ha
        have : a ≠ (k : Int) := fun z => hk (by rw [← z]; exact ha)
        omega
theorem states_ok (n : Nat) (hn : n ≤ 10) : p__law_all (S := Dk) (n : Int) = mpure ((grow n).mergeSort (leOf (lexB ltI))) := by
  have hpow : ∀ k, k ≤ 10 → 2 ^ k ≤ 1024 := fun k hk => Nat.pow_le_pow_right (by decide) hk
  unfold p__law_all
  simp only [mbind_pure, mbind_ret]
  rw [mrng_nat n (by omega), mbind_pure, forU_inv (upto n) [[]] (fun pre => grow pre.length) rfl (fun pre x post e => ?_), mbind_pure, upto_length, msort_ok (by rw [grow_len]; have := hpow n hn; omega)]
  have hsp := upto_split e
  have hg := grow_len pre.length
  have hp := hpow pre.length (by omega)
  have hl : ∀ r ∈ grow pre.length, r.length ≤ 10 := fun r hr => by
    have := ((grow_mem _ r).mp hr).len
    omega
  rw [compM_pure (fun r => r ++ [x]) (by omega) (fun r hr _ => mcat_ok (by have := hl r hr; rw [List.length_singleton]; omega)), filter_true, calmly_pure', mbind_pure, mcat_ok (by rw [List.length_map]; omega)]
  rw [List.length_append, List.length_singleton, hsp.1]
  rfl

theorem bel_app {n : Nat} {a b : List Int} (ha : Bel n a) (hb : Bel n b) : Bel n (a ++ b) := fun x hx => by
  rcases List.mem_append.mp hx with q | q
  · exact ha x q
  · exact hb x q
theorem state_runs {n : Nat} (hn : n ≤ 10) : Runs 10 (p__law_state (n : Int)) (St n) := by
  unfold p__law_state
  simp only [mbind_pure]
  rw [mrng_nat n (by omega)]
  simp only [mbind_pure, mbind_ret]
  refine runs_calm (runs_mono (runs_sub (c := 1) (by rw [upto_length]; omega) fun y _ => ?_) (by rw [upto_length]; omega) fun ys hys => ⟨fun a ha => mem_upto.mp (hys.subset ha), (sorted_upto n).sublist hys⟩)
  exact runs_d (by omega) (by omega) (by omega) fun a _ _ => runs_p trivial
theorem setT_len : ∀ (kss : List (List Int)), (setT kss).length ≤ kss.length
  | [] => Nat.le_refl _
  | k :: kss => by
    show (if k ∈ setT kss then setT kss else k :: setT kss).length ≤ _
    have := setT_len kss
    split
    · rw [List.length_cons]; omega
    · rw [List.length_cons, List.length_cons]; omega
theorem sortT_len (kss : List (List Int)) : (sortT kss).length ≤ kss.length := by
  unfold sortT
  rw [List.length_mergeSort]
  exact setT_len kss
theorem st_all (n : Nat) : St n (upto n) := ⟨fun a ha => mem_upto.mp ha, sorted_upto n⟩
theorem st_nil (n : Nat) : St n [] := ⟨(fun _ h => nomatch h), List.Pairwise.nil⟩

theorem nodup_bel {n : Nat} {l : List Int} (hn : l.Nodup) (h : Bel n l) : l.length ≤ n := by
  have := nodup_len_sub hn (m := upto n) fun a ha => mem_upto.mpr (h a ha)
  rwa [upto_length] at this
/-- press by press, in any order -/
def stp (pan : List (List Int)) (d : List Int) (x : Int) : List Int := (d.filter fun o => !decide (o ∈ rowAt pan x) && !decide (o = x)) ++ [x]
def dn (pan : List (List Int)) (z row : List Int) : List Int := row.foldl (stp pan) z
theorem stp_word (pan : List (List Int)) (d : List Int) (x b : Int) : wNew pan b (onIf (decide (b ∈ d))) x = onIf (decide (b ∈ stp pan d x)) := by
  unfold wNew stp onIf
  by_cases h1 : b = x
  · subst h1
    simp
  · by_cases h2 : b ∈ rowAt pan x <;> by_cases h3 : b ∈ d <;> simp [h1, h2, h3]
theorem dn_word (pan : List (List Int)) (b : Int) : ∀ (row d : List Int), wFrom pan (onIf (decide (b ∈ d))) row b = onIf (decide (b ∈ dn pan d row))
  | [], _ => rfl
  | x :: row, d => by
    show wFrom pan (wNew pan b (onIf (decide (b ∈ d))) x) row b = onIf (decide (b ∈ dn pan (stp pan d x) row))
    rw [stp_word, dn_word pan b row]
theorem on_if {p : Prop} [Decidable p] : onIf (decide p) = "on" ↔ p := by
  unfold onIf
  by_cases h : p
  · simp [h]
  · simp only [h, decide_false, Bool.false_eq_true, if_false, iff_false]
    decide
theorem dn_nd (pan : List (List Int)) : ∀ (row d : List Int), d.Nodup → (dn pan d row).Nodup
  | [], _, h => h
  | x :: row, d, h => dn_nd pan row (stp pan d x) (by
    unfold stp
    refine List.nodup_append.mpr ⟨h.sublist List.filter_sublist, by simp, fun a ha c hc q => ?_⟩
    rw [List.mem_singleton.mp hc] at q
    have := (List.mem_filter.mp ha).2
    simp [q] at this)
theorem dn_bel {n : Nat} (pan : List (List Int)) : ∀ (row d : List Int), Bel n d → Bel n row → Bel n (dn pan d row)
  | [], _, h, _ => h
  | x :: row, d, h, hr => dn_bel pan row (stp pan d x) (fun a ha => by
    rcases List.mem_append.mp ha with q | q
    · exact h a (List.mem_filter.mp q).1
    · rw [List.mem_singleton.mp q]
      exact hr x (by simp)) fun a ha => hr a (by simp [ha])
/-- states of n buttons -/
def Sts (n : Nat) (T : List (List Int)) : Prop := (∀ z ∈ T, St n z) ∧ T.length ≤ 256
def ends (pan : List (List Int)) (T : List (List Int)) (row : List Int) : List (List Int) := sortT (T.map fun z => fin pan z row)
theorem mset_ends (pan : List (List Int)) {T : List (List Int)} (hl : T.length ≤ 256) (row : List Int) : msetT (S := Dk) (T.map fun z => fin pan z row) = mpure (ends pan T row) := if_pos (by rw [List.length_map]; omega)
theorem ends_sts (pan : List (List Int)) {T : List (List Int)} (hl : T.length ≤ 256) (row : List Int) : Sts pan.length (ends pan T row) := by
  refine ⟨fun z hz => ?_, Nat.le_trans (sortT_len _) (by rw [List.length_map]; exact hl)⟩
  obtain ⟨y, _, rfl⟩ := List.mem_map.mp (mem_sortT.mp hz)
  exact fin_st _ _ _
theorem sa_ok {pan : List (List Int)} (h : PanN pan) {T : List (List Int)} (hT : Sts pan.length T) {row : List Int} (hr : Bel pan.length row) (hl : row.length ≤ 60) : p_states_after (S := Dk) pan T row = mpure (ends pan T row) := by
  have := hT.2
  unfold p_states_after
  simp only [mbind_pure, mbind_ret]
  rw [compM_pure (fun z => fin pan z row) (by omega) fun z hz _ => run_ok h (hT.1 z hz) hr hl, filter_true, calmly_pure', mbind_pure, mset_ends pan hT.2]
theorem all_ok {n : Nat} (hn : n ≤ 8) : ∃ T, p__law_all (S := Dk) (n : Int) = mpure T ∧ Sts n T := by
  refine ⟨_, states_ok n (by omega), fun z hz => (grow_mem n z).mp ((List.mergeSort_perm _ _).mem_iff.mp hz), ?_⟩
  rw [List.length_mergeSort, grow_len]
  exact Nat.le_trans (Nat.pow_le_pow_right (by decide) hn) (by decide)
/-! ### k38 -/
theorem sortT_congr {A B : List (List Int)} (h : ∀ k, k ∈ A ↔ k ∈ B) : sortT A = sortT B := sortT_eq (sortT_sorted A) (sortT_nodup A) fun k => by rw [mem_sortT, h]
theorem on_fin {pan : List (List Int)} {z row : List Int} {b : Int} : b ∈ fin pan z row ↔ (0 ≤ b ∧ b < (pan.length : Int)) ∧ on1 pan z row b := by
  rw [mem_fin, on1_iff]
theorem fin_comp (pan : List (List Int)) (z r1 r2 : List Int) : fin pan (fin pan z r1) r2 = fin pan z (r1 ++ r2) := by
  show ((upto pan.length).filter fun b => decide (wFrom pan (onIf (decide (b ∈ fin pan z r1))) r2 b = "on")) = (upto pan.length).filter fun b => decide (wFrom pan (onIf (decide (b ∈ z))) (r1 ++ r2) b = "on")
  refine List.filter_congr fun b hb => ?_
  have hb := mem_upto.mp hb
  have e : onIf (decide (b ∈ fin pan z r1)) = wFrom pan (onIf (decide (b ∈ z))) r1 b := by
    rw [dn_word]
    congr 1
    rw [decide_eq_decide, mem_fin, dn_word, on_if]
    exact ⟨fun q => q.2, fun q => ⟨hb, q⟩⟩
  rw [wFrom_app, e]
theorem fin_nil {pan : List (List Int)} {z : List Int} (hz : St pan.length z) : fin pan z [] = z := by
  refine sorted_ext (fin_st _ _ _).2 hz.2 fun b => ?_
  rw [mem_fin]
  show _ ∧ onIf (decide (b ∈ z)) = "on" ↔ _
  rw [on_if]
  exact ⟨fun q => q.2, fun q => ⟨hz.1 b q, q⟩⟩
/-! choices -/
def subsOf : List Int → List (List Int)
  | [] => [[]]
  | x :: K => subsOf K ++ (subsOf K).map (x :: ·)
theorem subs_len : ∀ K, (subsOf K).length = 2 ^ K.length
  | [] => rfl
  | x :: K => by
    unfold subsOf
    rw [List.length_append, List.length_map, subs_len K, List.length_cons, Nat.pow_succ]
    omega
theorem subs_mem : ∀ {K s : List Int}, s ∈ subsOf K ↔ s.Sublist K
  | [], s => by
    unfold subsOf
    rw [List.mem_singleton, List.sublist_nil]
  | x :: K, s => by
    unfold subsOf
    rw [List.mem_append, List.mem_map, subs_mem]
    constructor
    · rintro (h | ⟨q, hq, rfl⟩)
      · exact h.cons x
      · exact (subs_mem.mp hq).cons_cons x
    · intro h
      cases h with
      | cons _ h => exact .inl h
      | cons_cons _ h => exact .inr ⟨_, subs_mem.mpr h, rfl⟩
theorem subs_nd : ∀ {K : List Int}, K.Nodup → (subsOf K).Nodup
  | [], _ => by simp [subsOf]
  | x :: K, h => by
    obtain ⟨h1, h2⟩ := List.nodup_cons.mp h
    have ih := subs_nd h2
    unfold subsOf
    refine List.nodup_append.mpr ⟨ih, List.pairwise_map.mpr (ih.imp fun {a b} hne e => hne (List.cons.inj e).2), fun a ha c hc e => ?_⟩
    obtain ⟨q, _, rfl⟩ := List.mem_map.mp hc
    rw [e] at ha
    exact h1 ((subs_mem.mp ha).subset (by simp))
def sameOf (pan : List (List Int)) (row : List Int) : List Int := (upto pan.length).filter fun i => decide (wAft pan row i = "same")
theorem mem_same {pan : List (List Int)} {row : List Int} {b : Int} : b ∈ sameOf pan row ↔ (0 ≤ b ∧ b < (pan.length : Int)) ∧ wAft pan row b = "same" := by
  unfold sameOf
  rw [List.mem_filter, mem_upto, decide_eq_true_eq]
theorem same_sorted (pan : List (List Int)) (row : List Int) : (sameOf pan row).Pairwise (· < ·) := (sorted_upto _).sublist List.filter_sublist
theorem fin_same {pan : List (List Int)} {row z : List Int} {b : Int} (hb : b ∈ sameOf pan row) : b ∈ fin pan z row ↔ b ∈ z := by
  have h := mem_same.mp hb
  rw [on_fin]
  unfold on1
  rw [h.2]
  constructor
  · rintro ⟨_, q | q⟩
    · exact absurd q (by decide)
    · exact q.2
  · intro q
    exact ⟨h.1, .inr ⟨rfl, q⟩⟩
theorem fin_part {pan : List (List Int)} {row z : List Int} : fin pan z row = fin pan ((sameOf pan row).filter fun b => decide (b ∈ z)) row := by
  refine sorted_ext (fin_st _ _ _).2 (fin_st _ _ _).2 fun b => ?_
  rw [on_fin, on_fin]
  unfold on1
  constructor
  · rintro ⟨h, q | q⟩
    · exact ⟨h, .inl q⟩
    · exact ⟨h, .inr ⟨q.1, List.mem_filter.mpr ⟨mem_same.mpr ⟨h, q.1⟩, decide_eq_true q.2⟩⟩⟩
  · rintro ⟨h, q | q⟩
    · exact ⟨h, .inl q⟩
    · exact ⟨h, .inr ⟨q.1, of_decide_eq_true (List.mem_filter.mp q.2).2⟩⟩
theorem ends_count {pan : List (List Int)} {T : List (List Int)} (hT : ∀ z, z ∈ T ↔ St pan.length z) (row : List Int) : (ends pan T row).length = 2 ^ (sameOf pan row).length := by
  have hK := same_sorted pan row
  have nd : ((subsOf (sameOf pan row)).map fun s => fin pan s row).Nodup := by
    refine List.pairwise_map.mpr (List.Pairwise.imp_of_mem (fun {a b} ha hb hne e => hne ?_) (subs_nd (hK.imp fun h => Int.ne_of_lt h)))
    have ha := subs_mem.mp ha
    have hb := subs_mem.mp hb
    refine sorted_ext (hK.sublist ha) (hK.sublist hb) fun c => ?_
    constructor
    · intro hc
      have hm := ha.subset hc
      rw [← fin_same hm (z := b), ← e, fin_same hm]
      exact hc
    · intro hc
      have hm := hb.subset hc
      rw [← fin_same hm (z := a), e, fin_same hm]
      exact hc
  have pm : (ends pan T row).Perm ((subsOf (sameOf pan row)).map fun s => fin pan s row) := by
    refine (List.perm_ext_iff_of_nodup (sortT_nodup _) nd).mpr fun x => ?_
    rw [mem_sortT, List.mem_map, List.mem_map]
    constructor
    · rintro ⟨z, _, rfl⟩
      exact ⟨_, subs_mem.mpr List.filter_sublist, fin_part.symm⟩
    · rintro ⟨s, hs, rfl⟩
      have hs := subs_mem.mp hs
      exact ⟨s, (hT s).mpr ⟨fun a ha => (mem_same.mp (hs.subset ha)).1, hK.sublist hs⟩, rfl⟩
  rw [pm.length_eq, List.length_map, subs_len]
theorem every_ok {n : Nat} (hn : n ≤ 8) : ∃ T, p__law_all (S := Dk) (n : Int) = mpure T ∧ Sts n T ∧ ∀ z, z ∈ T ↔ St n z := by
  have hl : (List.mergeSort (grow n) (leOf (lexB ltI))).length ≤ 256 := by
    rw [List.length_mergeSort, grow_len]
    exact Nat.le_trans (Nat.pow_le_pow_right (by decide) hn) (by decide)
  have hm : ∀ z, z ∈ List.mergeSort (grow n) (leOf (lexB ltI)) ↔ St n z := fun z => by rw [(List.mergeSort_perm _ _).mem_iff, grow_mem]
  exact ⟨_, states_ok n (by omega), ⟨fun z hz => (hm z).mp hz, hl⟩, hm⟩
theorem some_runs {n : Nat} (hn : n ≤ 10) : Runs 91 (p__law_some (n : Int)) fun T => Sts n T ∧ T.length ≤ 9 ∧ T = sortT T := by
  unfold p__law_some
  simp only [mbind_pure, mbind_assoc]
  refine runs_d (by omega) (by omega) (by omega) fun k hk1 hk2 => ?_
  obtain ⟨t, ht⟩ : ∃ t : Nat, 1 + k = t := ⟨(1 + k).toNat, by omega⟩
  rw [ht, mrng_nat t (by omega)]
  simp only [mbind_pure, mbind_ret]
  refine runs_b (n := 90) (Q := fun zs => zs.length ≤ 9 ∧ ∀ z ∈ zs, St n z) (runs_calm (runs_mono (runs_compM (c := 10) (fun _ z => St n z) (by rw [upto_length]; omega) fun y _ => state_runs hn) (by rw [upto_length]; omega) ?_)) (by omega) ?_
  · rintro ys ⟨h1, h2⟩
    refine ⟨by rw [h1, filter_true, upto_length]; omega, fun z hz => ?_⟩
    obtain ⟨_, _, q⟩ := h2 z hz
    exact q
  rintro zs ⟨h9, hzs⟩
  have hm : msetT (S := Dk) zs = mpure (sortT zs) := if_pos (by omega)
  rw [hm]
  have hl := sortT_len zs
  exact runs_p ⟨⟨fun z hz => hzs z (mem_sortT.mp hz), by omega⟩, by omega, sortT_congr fun k => mem_sortT.symm⟩
theorem sets_runs {pan : List (List Int)} (h : PanN pan) {r1 r2 : List Int} (b1 : Bel pan.length r1) (l1 : r1.length ≤ 30) (b2 : Bel pan.length r2) (l2 : r2.length ≤ 30) : Runs 200 (p__law_sets_right pan r1 r2) fun b => b = true := by
  have hle := h.le
  unfold p__law_sets_right
  simp only [mbind_pure, mbind_ret, mbind_assoc]
  refine runs_b (some_runs hle) (by omega) ?_
  rintro A ⟨hA, lA, sA⟩
  refine runs_b (some_runs hle) (by omega) ?_
  rintro B ⟨hB, lB, sB⟩
  rw [mcat_ok (by omega)]
  simp only [mbind_pure]
  have lAB : (A ++ B).length ≤ 18 := by rw [List.length_append]; omega
  have hm : msetT (S := Dk) (A ++ B) = mpure (sortT (A ++ B)) := if_pos (by omega)
  rw [hm]
  simp only [mbind_pure]
  have hC : Sts pan.length (sortT (A ++ B)) := by
    refine ⟨fun z hz => ?_, Nat.le_trans (sortT_len _) (by omega)⟩
    rcases List.mem_append.mp (mem_sortT.mp hz) with q | q
    · exact hA.1 z q
    · exact hB.1 z q
  have fA := ends_sts pan hA.2 r1
  have fB := ends_sts pan hB.2 r1
  have lfA : (ends pan A r1).length ≤ A.length := Nat.le_trans (sortT_len _) (by rw [List.length_map]; omega)
  have lfB : (ends pan B r1).length ≤ B.length := Nat.le_trans (sortT_len _) (by rw [List.length_map]; omega)
  have l12 : (r1 ++ r2).length ≤ 60 := by rw [List.length_append]; omega
  have b12 : Bel pan.length (r1 ++ r2) := bel_app b1 b2
  have nl : Bel pan.length ([] : List Int) := fun _ h => nomatch h
  rw [sa_ok h hA b1 (by omega)]
  simp only [mbind_pure]
  rw [sa_ok h hB b1 (by omega)]
  simp only [mbind_pure]
  rw [sa_ok h hC b1 (by omega)]
  simp only [mbind_pure]
  rw [mcat_ok (by omega)]
  simp only [mbind_pure]
  have hm2 : msetT (S := Dk) (ends pan A r1 ++ ends pan B r1) = mpure (sortT (ends pan A r1 ++ ends pan B r1)) := if_pos (by rw [List.length_append]; omega)
  rw [hm2]
  simp only [mbind_pure]
  have e1 : ends pan (sortT (A ++ B)) r1 = sortT (ends pan A r1 ++ ends pan B r1) := by
    unfold ends
    refine sortT_congr fun k => ?_
    simp only [List.mem_append, mem_sortT, List.mem_map]
    constructor
    · rintro ⟨z, hz, rfl⟩
      rcases hz with q | q
      · exact .inl ⟨z, q, rfl⟩
      · exact .inr ⟨z, q, rfl⟩
    · rintro (⟨z, hz, rfl⟩ | ⟨z, hz, rfl⟩)
      · exact ⟨z, .inl hz, rfl⟩
      · exact ⟨z, .inr hz, rfl⟩
  rw [e1]
  simp only [decide_true, Bool.not_true, Bool.false_eq_true, if_false]
  rw [mcat_ok (by omega)]
  simp only [mbind_pure]
  rw [sa_ok h hA b12 l12]
  simp only [mbind_pure]
  rw [if_neg (by rw [decide_eq_true_eq]; omega), sa_ok h fA b2 (by omega)]
  simp only [mbind_pure]
  have e2 : ends pan (ends pan A r1) r2 = ends pan A (r1 ++ r2) := by
    unfold ends
    refine sortT_congr fun k => ?_
    simp only [mem_sortT, List.mem_map]
    constructor
    · rintro ⟨y, ⟨z, hz, rfl⟩, rfl⟩
      exact ⟨z, hz, (fin_comp pan z r1 r2).symm⟩
    · rintro ⟨z, hz, rfl⟩
      exact ⟨_, ⟨z, hz, rfl⟩, fin_comp pan z r1 r2⟩
  rw [e2]
  simp only [decide_true, Bool.not_true, Bool.false_eq_true, if_false]
  rw [sa_ok h fA nl (by simp)]
  simp only [mbind_pure]
  have e3 : ends pan (ends pan A r1) [] = ends pan A r1 := by
    show sortT ((ends pan A r1).map fun z => fin pan z []) = sortT (A.map fun z => fin pan z r1)
    have : (ends pan A r1).map (fun z => fin pan z []) = (ends pan A r1).map id := List.map_congr_left fun z hz => fin_nil (fA.1 z hz)
    rw [this, List.map_id]
    exact sortT_congr fun k => mem_sortT
  rw [e3]
  simp only [decide_true, if_true]
  rw [sa_ok h (T := []) ⟨(fun _ h => nomatch h), by simp⟩ b1 (by omega)]
  simp only [mbind_pure]
  exact runs_p (decide_eq_true (by unfold ends; simp [sortT, setT]))
theorem pow_tab : ∀ k : Nat, k < 8 → [(1 : Int), 2, 4, 8, 16, 32, 64, 128].getD k 0 = ((2 ^ k : Nat) : Int) := by decide
theorem law_runs : Runs 10000 p_law fun b => b = true := by
  unfold p_law
  simp only [mfin_bind, mfinL_bind, mbind_pure, mbind_ret]
  rw [mrng_ok (by omega) (by omega)]
  simp only [mbind_pure]
  refine runs_fin (c := 800) (fun _ => True) trivial (by decide) (fun x hx _ _ => ?_) fun _ _ => runs_p rfl
  have hx := mem_upto.mp hx
  rw [midx_getD 1 hx.1 (by simpa using hx.2)]
  simp only [mbind_pure]
  have hm2 : ∀ z ∈ [(7 : Int), 6, 5, 5, 4], 1 ≤ z ∧ z ≤ 7 := by decide
  have hM := hm2 _ (getD_mem (xs := [(7 : Int), 6, 5, 5, 4]) 1 hx.1 (by simpa using hx.2))
  refine runs_b (panel_runs hM.1 (by omega)) (by omega) ?_
  rintro pan ⟨h, h7, _⟩
  have hle := h.le
  have hpos := h.pos
  obtain ⟨T, eT', hT, hTm⟩ := every_ok (n := pan.length) (by omega)
  rw [eT']
  simp only [mbind_pure, mbind_assoc]
  refine runs_b (row_runs hpos (by omega) (by omega) (by omega)) (by omega) ?_
  rintro r1 ⟨l1, b1⟩
  refine runs_b (row_runs hpos (by omega) (by omega) (by omega)) (by omega) ?_
  rintro r2 ⟨l2, b2⟩
  rw [mcat_ok (by omega)]
  simp only [mbind_pure]
  refine runs_finL (c := 10) (fun _ => True) trivial (by simp) (fun row hrow _ _ => ?_) fun _ _ => ?_
  · have hr : Bel pan.length row ∧ row.length ≤ 60 := by
      simp only [List.mem_cons, List.not_mem_nil, or_false] at hrow
      rcases hrow with rfl | rfl | rfl | rfl | rfl
      · exact ⟨b1, by omega⟩
      · exact ⟨b2, by omega⟩
      · exact ⟨bel_app b1 b2, by rw [List.length_append]; omega⟩
      · refine ⟨fun a ha => b1 a ?_, ?_⟩
        · unfold Dn.cutD at ha
          exact List.mem_of_mem_drop (List.mem_of_mem_take ha)
        · unfold Dn.cutD
          rw [List.length_take, List.length_drop]
          omega
      · exact ⟨(fun _ h => nomatch h), by simp⟩
    have hc : (eff pan row).count ("same" : Str) = (sameOf pan row).length := eff_count pan row "same"
    have hK : (sameOf pan row).length ≤ pan.length := by
      have := List.length_filter_le (fun i => decide (wAft pan row i = "same")) (upto pan.length)
      rw [upto_length] at this
      exact this
    have hk8 : (sameOf pan row).length < 8 := by omega
    rw [sa_ok h hT hr.1 hr.2]
    simp only [mbind_pure]
    rw [effect_ok h hr.1]
    simp only [mbind_pure]
    rw [mcount_ok (lay_word "same" (.inr (.inr rfl))), hc]
    simp only [mbind_pure]
    rw [midx_getD 0 (by omega) (by show ((sameOf pan row).length : Int) < 8; omega), Int.toNat_natCast, pow_tab _ hk8, ends_count hTm]
    simp only [mbind_pure, decide_true, Bool.not_true, Bool.false_eq_true, if_false]
    have er : p_is_reset (S := Dk) pan row = mpure (!decide (("same" : Str) ∈ eff pan row)) := by
      unfold p_is_reset
      rw [effect_ok h hr.1, mbind_pure]
    rw [er]
    simp only [mbind_pure]
    have eq : (!decide (("same" : Str) ∈ eff pan row)) = decide (((2 ^ (sameOf pan row).length : Nat) : Int) = 1) := by
      by_cases q : ("same" : Str) ∈ eff pan row
      · have hp : 0 < (eff pan row).count ("same" : Str) := List.count_pos_iff.mpr q
        have h2 : 2 ^ 1 ≤ 2 ^ (sameOf pan row).length := Nat.pow_le_pow_right (by decide) (by omega)
        rw [decide_eq_true q, decide_eq_false (by omega)]
        rfl
      · have hz : (eff pan row).count ("same" : Str) = 0 := List.count_eq_zero.mpr q
        rw [decide_eq_false q, ← hc, hz]
        rfl
    rw [eq]
    simp only [decide_true, Bool.not_true, Bool.false_eq_true, if_false]
    exact runs_p ⟨_, rfl, trivial⟩
  · refine runs_b (sets_runs h b1 (by omega) b2 (by omega)) (by simp) ?_
    rintro _ rfl
    simp only [Bool.not_true, Bool.false_eq_true, if_false]
    refine runs_b (sets_runs h b2 (by omega) b1 (by omega)) (by simp) ?_
    rintro _ rfl
    simp only [Bool.not_true, Bool.false_eq_true, if_false]
    exact runs_p ⟨_, rfl, trivial⟩
theorem law_true (ns : List Int) (hl : ns.length ≤ 63) (_ : ∀ z ∈ ns, Builtin.Int.intBits z ≤ 1048576) : ∃ st', d_law [.scr (ns.map .int)] [] = .ok (.bl true) st' := law_end (nN := 8) (tr_law []) law_runs (by decide) ns hl
--PROOF
-- ### that they mean so
structure Txt (K : PySem.W.Frag) (mg : Str → Option Value) : Prop where
  m_abs : mg "abs" = none
  m_bool : mg "bool" = none
  m_enumerate : mg "enumerate" = none
  m_int : mg "int" = none
  m_isinstance : mg "isinstance" = none
  m_len : mg "len" = none
  m_max : mg "max" = none
  m_range : mg "range" = none
  m_set : mg "set" = none
  m_sorted : mg "sorted" = none
  m_tuple : mg "tuple" = none
  g_MAX_ROW : ∃ t, mg "MAX_ROW" = some (.int 60 t)
  g_OFF : ∃ t, mg "OFF" = some (.str ("off" : Str) t)
  g_ON : ∃ t, mg "ON" = some (.str ("on" : Str) t)
  g_SAME : ∃ t, mg "SAME" = some (.str ("same" : Str) t)
section
variable {P : Program} {w : World} {K : PySem.W.Frag} {mg : Str → Option Value} {base : Heap}
theorem sc_changed_word : FnScope N_changed_word ["panel", "pressed", "button", "word"] (defScope s_changed_word) := ⟨rfl, rfl, rfl, by decide +kernel, rfl, by decide +kernel, by decide +kernel⟩
theorem b_changed_word (T : Txt K mg)  {f : Addr} {cdv : Value} {B : Around} {fr : List Env} {s : Shared} {H : Hp} {E : XK} (bd : Bd (cxOf (L2.CX P w) P w K mg base N_changed_word "changed_word" (defScope s_changed_word) f cdv B fr s H E) (wE E) 0)
    (hp : PassesOwn (model P w) (B.deeper (envOfC "changed_word" (defScope s_changed_word) s.heap.objs.size f cdv)) (envOfC "changed_word" (defScope s_changed_word) s.heap.objs.size f cdv) (cxOf (L2.CX P w) P w K mg base N_changed_word "changed_word" (defScope s_changed_word) f cdv B fr s H E).xe) :
    DSs (cxOf (L2.CX P w) P w K mg base N_changed_word "changed_word" (defScope s_changed_word) f cdv B fr s H E) (wE E) (defBody s_changed_word) m_changed_word :=
  (dss_cons (ds_if (dt_cmp (op_pEq bd.u64) (vr 2) (vr 1)) (dss_one (ds_ret (de_gs (by rfl) T.g_ON))) dss_nil)
  (dss_one (ds_ret (de_if (dt_cmp (op_pIn bd.u65) (vr 2) (de_idx (vr 0) (vr 1))) (de_gs (by rfl) T.g_OFF) (vr 3)))))
theorem g_changed_word (T : Txt K mg)  {f : Addr} {fd : FuncData} (F : Fun K "changed_word" "changed_word" s_changed_word f fd) : FnG P w K mg base 1 f fd ["panel", "pressed", "button", "word"] (spD K 4 d_changed_word) :=
  fnG_of F sc_changed_word (by decide) fun _ _ _ _ _ _ bd hp => b_changed_word T  bd hp
theorem sc_effect_after : FnScope N_effect_after ["panel", "effect", "pressed"] (defScope s_effect_after) := ⟨rfl, rfl, rfl, by decide +kernel, rfl, by decide +kernel, by decide +kernel⟩
theorem b_effect_after (T : Txt K mg) (C_changed_word : FnC P w K mg base 1 "changed_word" 4 d_changed_word) {f : Addr} {cdv : Value} {B : Around} {fr : List Env} {s : Shared} {H : Hp} {E : XK} (bd : Bd (cxOf (L2.CX P w) P w K mg base N_effect_after "effect_after" (defScope s_effect_after) f cdv B fr s H E) (wE E) 1)
    (hp : PassesOwn (model P w) (B.deeper (envOfC "effect_after" (defScope s_effect_after) s.heap.objs.size f cdv)) (envOfC "effect_after" (defScope s_effect_after) s.heap.objs.size f cdv) (cxOf (L2.CX P w) P w K mg base N_effect_after "effect_after" (defScope s_effect_after) f cdv B fr s H E).xe) :
    DSs (cxOf (L2.CX P w) P w K mg base N_effect_after "effect_after" (defScope s_effect_after) f cdv B fr s H E) (wE E) (defBody s_effect_after) m_effect_after :=
  (dss_one (ds_ret (de_bT call_pTuple (by rfl) T.m_tuple (by rfl) (da_cons (de_frz (dl_lc (own := [("button", 3), ("word", 4)]) bd.calm bd.nd (di_enum (by rfl) T.m_enumerate (vr 1)) (blkOk_by (own := [("button", 3), ("word", 4)]) (N := N_effect_after) (sc := defScope s_effect_after) (by decide +kernel)) (by decide) (fun _ _ _ _ _ => (dg_tup bd.blk.calm (dgs_cons (gn 3 bd.blk) (dgs_cons (gn 4 bd.blk) dgs_nil)))) (fun _ _ _ _ _ => dts_nil) (fun _ _ _ _ _ => (de_call bd.blk C_changed_word (by decide) (by rfl) nn_changed_word (da_cons (vr 0) (da_cons (vr 2) (da_cons (vr 3) (da_cons (vr 4) da_nil)))))))) da_nil))))
theorem g_effect_after (T : Txt K mg) (C_changed_word : FnC P w K mg base 1 "changed_word" 4 d_changed_word) {f : Addr} {fd : FuncData} (F : Fun K "effect_after" "effect_after" s_effect_after f fd) : FnG P w K mg base 2 f fd ["panel", "effect", "pressed"] (spD K 3 d_effect_after) :=
  fnG_of F sc_effect_after (by decide) fun _ _ _ _ _ _ bd hp => b_effect_after T C_changed_word bd hp
theorem sc_effect_of : FnScope N_effect_of ["panel", "row"] (defScope s_effect_of) := ⟨rfl, rfl, rfl, by decide +kernel, rfl, by decide +kernel, by decide +kernel⟩
theorem b_effect_of (T : Txt K mg) (C_effect_after : FnC P w K mg base 2 "effect_after" 3 d_effect_after) {f : Addr} {cdv : Value} {B : Around} {fr : List Env} {s : Shared} {H : Hp} {E : XK} (bd : Bd (cxOf (L2.CX P w) P w K mg base N_effect_of "effect_of" (defScope s_effect_of) f cdv B fr s H E) (wE E) 2)
    (hp : PassesOwn (model P w) (B.deeper (envOfC "effect_of" (defScope s_effect_of) s.heap.objs.size f cdv)) (envOfC "effect_of" (defScope s_effect_of) s.heap.objs.size f cdv) (cxOf (L2.CX P w) P w K mg base N_effect_of "effect_of" (defScope s_effect_of) f cdv B fr s H E).xe) :
    DSs (cxOf (L2.CX P w) P w K mg base N_effect_of "effect_of" (defScope s_effect_of) f cdv B fr s H E) (wE E) (defBody s_effect_of) m_effect_of :=
  (dss_cons (st 2 bd (de_bin op_pMul (de_tup (da_cons (de_gs (by rfl) T.g_SAME) da_nil)) (de_b call_pLen (by rfl) T.m_len (by rfl) (da_cons (vr 0) da_nil))))
  (dss_cons (ds_for hp bd.calm (di_seq (vr 1)) (gn 3 bd) (dss_one (st 2 bd (de_call bd C_effect_after (by decide) (by rfl) nn_effect_after (da_cons (vr 0) (da_cons (vr 2) (da_cons (vr 3) da_nil)))))))
  (dss_one (ds_ret (vr 2)))))
theorem g_effect_of (T : Txt K mg) (C_effect_after : FnC P w K mg base 2 "effect_after" 3 d_effect_after) {f : Addr} {fd : FuncData} (F : Fun K "effect_of" "effect_of" s_effect_of f fd) : FnG P w K mg base 3 f fd ["panel", "row"] (spD K 2 d_effect_of) :=
  fnG_of F sc_effect_of (by decide) fun _ _ _ _ _ _ bd hp => b_effect_of T C_effect_after bd hp
theorem sc_is_reset : FnScope N_is_reset ["panel", "row"] (defScope s_is_reset) := ⟨rfl, rfl, rfl, by decide +kernel, rfl, by decide +kernel, by decide +kernel⟩
theorem b_is_reset (T : Txt K mg) (C_effect_of : FnC P w K mg base 3 "effect_of" 2 d_effect_of) {f : Addr} {cdv : Value} {B : Around} {fr : List Env} {s : Shared} {H : Hp} {E : XK} (bd : Bd (cxOf (L2.CX P w) P w K mg base N_is_reset "is_reset" (defScope s_is_reset) f cdv B fr s H E) (wE E) 3)
    (hp : PassesOwn (model P w) (B.deeper (envOfC "is_reset" (defScope s_is_reset) s.heap.objs.size f cdv)) (envOfC "is_reset" (defScope s_is_reset) s.heap.objs.size f cdv) (cxOf (L2.CX P w) P w K mg base N_is_reset "is_reset" (defScope s_is_reset) f cdv B fr s H E).xe) :
    DSs (cxOf (L2.CX P w) P w K mg base N_is_reset "is_reset" (defScope s_is_reset) f cdv B fr s H E) (wE E) (defBody s_is_reset) m_is_reset :=
  (dss_one (ds_ret (de_cmp (op_pNotIn bd.u65) de_str (de_call bd C_effect_of (by decide) (by rfl) nn_effect_of (da_cons (vr 0) (da_cons (vr 1) da_nil))))))
theorem g_is_reset (T : Txt K mg) (C_effect_of : FnC P w K mg base 3 "effect_of" 2 d_effect_of) {f : Addr} {fd : FuncData} (F : Fun K "is_reset" "is_reset" s_is_reset f fd) : FnG P w K mg base 4 f fd ["panel", "row"] (spD K 2 d_is_reset) :=
  fnG_of F sc_is_reset (by decide) fun _ _ _ _ _ _ bd hp => b_is_reset T C_effect_of bd hp
theorem sc_press_button : FnScope N_press_button ["panel", "state", "button"] (defScope s_press_button) := ⟨rfl, rfl, rfl, by decide +kernel, rfl, by decide +kernel, by decide +kernel⟩
theorem b_press_button (T : Txt K mg)  {f : Addr} {cdv : Value} {B : Around} {fr : List Env} {s : Shared} {H : Hp} {E : XK} (bd : Bd (cxOf (L2.CX P w) P w K mg base N_press_button "press_button" (defScope s_press_button) f cdv B fr s H E) (wE E) 0)
    (hp : PassesOwn (model P w) (B.deeper (envOfC "press_button" (defScope s_press_button) s.heap.objs.size f cdv)) (envOfC "press_button" (defScope s_press_button) s.heap.objs.size f cdv) (cxOf (L2.CX P w) P w K mg base N_press_button "press_button" (defScope s_press_button) f cdv B fr s H E).xe) :
    DSs (cxOf (L2.CX P w) P w K mg base N_press_button "press_button" (defScope s_press_button) f cdv B fr s H E) (wE E) (defBody s_press_button) m_press_button :=
  (dss_cons (ds_setLc (i := 3) (own := [("other", 4)]) true bd.calm bd.nd rfl rfl (sw_true rfl rfl rfl (by decide +kernel)) (di_seq (vr 1)) (blkOk_by (own := [("other", 4)]) (N := N_press_button) (sc := defScope s_press_button) (by decide +kernel)) (by decide) (fun _ _ _ _ _ => (gn 4 bd.blk)) (fun _ _ _ _ _ => (dts1 (dt_w (dw_and (dt_cmp (op_pNotIn bd.blk.u65) (vr 4) (de_idx (vr 0) (vr 2))) (dw_and1 (dt_cmp (op_pNe bd.blk.u64) (vr 4) (vr 2))))))) (fun _ _ _ _ _ => (vr 4)))
  (dss_one (ds_ret (de_bT call_pTuple (by rfl) T.m_tuple (by rfl) (da_cons (de_frz (dl_b (call_pSorted bd.calm bd.u70) (by rfl) T.m_sorted (by rfl) (da_cons (de_frz (dl_disp (da_star (vr 3) (da_cons (vr 2) da_nil)))) da_nil))) da_nil)))))
theorem g_press_button (T : Txt K mg)  {f : Addr} {fd : FuncData} (F : Fun K "press_button" "press_button" s_press_button f fd) : FnG P w K mg base 1 f fd ["panel", "state", "button"] (spD K 3 d_press_button) :=
  fnG_of F sc_press_button (by decide) fun _ _ _ _ _ _ bd hp => b_press_button T  bd hp
theorem sc_is_number : FnScope N_is_number ["value", "low", "high"] (defScope s_is_number) := ⟨rfl, rfl, rfl, by decide +kernel, rfl, by decide +kernel, by decide +kernel⟩
theorem b_is_number (T : Txt K mg)  {f : Addr} {cdv : Value} {B : Around} {fr : List Env} {s : Shared} {H : Hp} {E : XK} (bd : Bd (cxOf (L2.CX P w) P w K mg base N_is_number "is_number" (defScope s_is_number) f cdv B fr s H E) (wE E) 0)
    (hp : PassesOwn (model P w) (B.deeper (envOfC "is_number" (defScope s_is_number) s.heap.objs.size f cdv)) (envOfC "is_number" (defScope s_is_number) s.heap.objs.size f cdv) (cxOf (L2.CX P w) P w K mg base N_is_number "is_number" (defScope s_is_number) f cdv B fr s H E).xe) :
    DSs (cxOf (L2.CX P w) P w K mg base N_is_number "is_number" (defScope s_is_number) f cdv B fr s H E) (wE E) (defBody s_is_number) m_is_number :=
  (dss_one (ds_ret (de_and (de_isi (by rfl) T.m_isinstance (by rfl) T.m_int rfl (vr 0)) (de_and (de_not (de_isi (by rfl) T.m_isinstance (by rfl) T.m_bool rfl (vr 0))) (de_one (de_chain op_pLe op_pLe (vr 1) (vr 0) (vr 2)))))))
theorem g_is_number (T : Txt K mg)  {f : Addr} {fd : FuncData} (F : Fun K "is_number" "is_number" s_is_number f fd) : FnG P w K mg base 1 f fd ["value", "low", "high"] (spD K 3 d_is_number) :=
  fnG_of F sc_is_number (by decide) fun _ _ _ _ _ _ bd hp => b_is_number T  bd hp
theorem sc_row_error : FnScope N_row_error ["panel", "value"] (defScope s_row_error) := ⟨rfl, rfl, rfl, by decide +kernel, rfl, by decide +kernel, by decide +kernel⟩
theorem b_row_error (T : Txt K mg) (C_is_number : FnC P w K mg base 1 "is_number" 3 d_is_number) {f : Addr} {cdv : Value} {B : Around} {fr : List Env} {s : Shared} {H : Hp} {E : XK} (bd : Bd (cxOf (L2.CX P w) P w K mg base N_row_error "row_error" (defScope s_row_error) f cdv B fr s H E) (wE E) 1)
    (hp : PassesOwn (model P w) (B.deeper (envOfC "row_error" (defScope s_row_error) s.heap.objs.size f cdv)) (envOfC "row_error" (defScope s_row_error) s.heap.objs.size f cdv) (cxOf (L2.CX P w) P w K mg base N_row_error "row_error" (defScope s_row_error) f cdv B fr s H E).xe) :
    DSs (cxOf (L2.CX P w) P w K mg base N_row_error "row_error" (defScope s_row_error) f cdv B fr s H E) (wE E) (defBody s_row_error) m_row_error :=
  (dss_cons (ds_if (dt_w (dw_or (dt_not (dt_tru (de_isi (by rfl) T.m_isinstance (by rfl) T.m_tuple rfl (vr 1)))) (dw_or1 (dt_cmp op_pGt (de_b call_pLen (by rfl) T.m_len (by rfl) (da_cons (vr 1) da_nil)) (de_gi (by rfl) T.g_MAX_ROW))))) (dss_one (ds_ret (de_tup (da_cons de_non da_nil)))) dss_nil)
  (dss_cons (ds_setLc (i := 2) (own := [("index", 3), ("item", 4)]) true bd.calm bd.nd rfl rfl (sw_true rfl rfl rfl (by decide +kernel)) (di_enum (by rfl) T.m_enumerate (vr 1)) (blkOk_by (own := [("index", 3), ("item", 4)]) (N := N_row_error) (sc := defScope s_row_error) (by decide +kernel)) (by decide) (fun _ _ _ _ _ => (dg_tup bd.blk.calm (dgs_cons (gn 3 bd.blk) (dgs_cons (gn 4 bd.blk) dgs_nil)))) (fun _ _ _ _ _ => (dts1 (dt_not (dt_tru (de_call bd.blk C_is_number (by decide) (by rfl) nn_is_number (da_cons (vr 4) (da_cons de_int (da_cons (de_bin op_pSub (de_b call_pLen (by rfl) T.m_len (by rfl) (da_cons (vr 0) da_nil)) de_int) da_nil)))))))) (fun _ _ _ _ _ => (vr 3)))
  (dss_one (ds_ret (de_bT call_pTuple (by rfl) T.m_tuple (by rfl) (da_cons (de_frz (dl_slL (vr 2) do_none (do_some de_int))) da_nil))))))
theorem g_row_error (T : Txt K mg) (C_is_number : FnC P w K mg base 1 "is_number" 3 d_is_number) {f : Addr} {fd : FuncData} (F : Fun K "row_error" "row_error" s_row_error f fd) : FnG P w K mg base 2 f fd ["panel", "value"] (spD K 2 d_row_error) :=
  fnG_of F sc_row_error (by decide) fun _ _ _ _ _ _ bd hp => b_row_error T C_is_number bd hp
theorem sc_run : FnScope N_run ["panel", "state", "value"] (defScope s_run) := ⟨rfl, rfl, rfl, by decide +kernel, rfl, by decide +kernel, by decide +kernel⟩
theorem b_run (T : Txt K mg) (C_press_button : FnC P w K mg base 1 "press_button" 3 d_press_button) (C_row_error : FnC P w K mg base 2 "row_error" 2 d_row_error) {f : Addr} {cdv : Value} {B : Around} {fr : List Env} {s : Shared} {H : Hp} {E : XK} (bd : Bd (cxOf (L2.CX P w) P w K mg base N_run "run" (defScope s_run) f cdv B fr s H E) (wE E) 2)
    (hp : PassesOwn (model P w) (B.deeper (envOfC "run" (defScope s_run) s.heap.objs.size f cdv)) (envOfC "run" (defScope s_run) s.heap.objs.size f cdv) (cxOf (L2.CX P w) P w K mg base N_run "run" (defScope s_run) f cdv B fr s H E).xe) :
    DSs (cxOf (L2.CX P w) P w K mg base N_run "run" (defScope s_run) f cdv B fr s H E) (wE E) (defBody s_run) m_run :=
  (dss_cons (st 3 bd (de_call bd C_row_error (by decide) (by rfl) nn_row_error (da_cons (vr 0) (da_cons (vr 2) da_nil))))
  (dss_cons (ds_if (dt_cmp (op_pNe bd.u64) (vr 3) (de_tup da_nil)) (dss_one ds_never) dss_nil)
  (dss_cons (ds_for hp bd.calm (di_seq (vr 2)) (gn 4 bd) (dss_one (st 1 bd (de_call bd C_press_button (by decide) (by rfl) nn_press_button (da_cons (vr 0) (da_cons (vr 1) (da_cons (vr 4) da_nil)))))))
  (dss_one (ds_ret (vr 1))))))
theorem g_run (T : Txt K mg) (C_press_button : FnC P w K mg base 1 "press_button" 3 d_press_button) (C_row_error : FnC P w K mg base 2 "row_error" 2 d_row_error) {f : Addr} {fd : FuncData} (F : Fun K "run" "run" s_run f fd) : FnG P w K mg base 3 f fd ["panel", "state", "value"] (spD K 3 d_run) :=
  fnG_of F sc_run (by decide) fun _ _ _ _ _ _ bd hp => b_run T C_press_button C_row_error bd hp
theorem sc_states_after : FnScope N_states_after ["panel", "states", "row"] (defScope s_states_after) := ⟨rfl, rfl, rfl, by decide +kernel, rfl, by decide +kernel, by decide +kernel⟩
theorem b_states_after (T : Txt K mg) (C_run : FnC P w K mg base 3 "run" 3 d_run) {f : Addr} {cdv : Value} {B : Around} {fr : List Env} {s : Shared} {H : Hp} {E : XK} (bd : Bd (cxOf (L2.CX P w) P w K mg base N_states_after "states_after" (defScope s_states_after) f cdv B fr s H E) (wE E) 3)
    (hp : PassesOwn (model P w) (B.deeper (envOfC "states_after" (defScope s_states_after) s.heap.objs.size f cdv)) (envOfC "states_after" (defScope s_states_after) s.heap.objs.size f cdv) (cxOf (L2.CX P w) P w K mg base N_states_after "states_after" (defScope s_states_after) f cdv B fr s H E).xe) :
    DSs (cxOf (L2.CX P w) P w K mg base N_states_after "states_after" (defScope s_states_after) f cdv B fr s H E) (wE E) (defBody s_states_after) m_states_after :=
  (dss_one (ds_ret (de_bT call_pTuple (by rfl) T.m_tuple (by rfl) (da_cons (de_frz (dl_sortSetT bd.calm bd.u70 (by rfl) T.m_sorted (by rfl) T.m_set (de_frz (dl_lc (own := [("state", 3)]) bd.calm bd.nd (di_seq (vr 1)) (blkOk_by (own := [("state", 3)]) (N := N_states_after) (sc := defScope s_states_after) (by decide +kernel)) (by decide) (fun _ _ _ _ _ => (gn 3 bd.blk)) (fun _ _ _ _ _ => dts_nil) (fun _ _ _ _ _ => (de_call bd.blk C_run (by decide) (by rfl) nn_run (da_cons (vr 0) (da_cons (vr 3) (da_cons (vr 2) da_nil))))))))) da_nil))))
theorem g_states_after (T : Txt K mg) (C_run : FnC P w K mg base 3 "run" 3 d_run) {f : Addr} {fd : FuncData} (F : Fun K "states_after" "states_after" s_states_after f fd) : FnG P w K mg base 4 f fd ["panel", "states", "row"] (spD K 3 d_states_after) :=
  fnG_of F sc_states_after (by decide) fun _ _ _ _ _ _ bd hp => b_states_after T C_run bd hp
theorem sc__law_deck : FnScope N__law_deck ["_law_script"] (defScope s__law_deck) := ⟨rfl, rfl, rfl, by decide +kernel, rfl, by decide +kernel, by decide +kernel⟩
theorem b__law_deck (T : Txt K mg)  {f : Addr} {cdv : Value} {B : Around} {fr : List Env} {s : Shared} {H : Hp} {E : XK} (bd : Bd (cxOf (L2.CX P w) P w K mg base N__law_deck "_law_deck" (defScope s__law_deck) f cdv B fr s H E) (wE E) 0)
    (hp : PassesOwn (model P w) (B.deeper (envOfC "_law_deck" (defScope s__law_deck) s.heap.objs.size f cdv)) (envOfC "_law_deck" (defScope s__law_deck) s.heap.objs.size f cdv) (cxOf (L2.CX P w) P w K mg base N__law_deck "_law_deck" (defScope s__law_deck) f cdv B fr s H E).xe) :
    DSs (cxOf (L2.CX P w) P w K mg base N__law_deck "_law_deck" (defScope s__law_deck) f cdv B fr s H E) (wE E) (defBody s__law_deck) m__law_deck :=
  (dss_one (ds_ret (de_new (dl_disp (da_cons (de_new (dl_lc (own := [("_law_cell", 1)]) bd.calm bd.nd (di_seq (de_frz (dl_slL (vr 0) do_none (do_some de_int)))) (blkOk_by (own := [("_law_cell", 1)]) (N := N__law_deck) (sc := defScope s__law_deck) (by decide +kernel)) (by decide) (fun _ _ _ _ _ => (gn 1 bd.blk)) (fun _ _ _ _ _ => dts_nil) (fun _ _ _ _ _ => (de_b call_pAbs (by rfl) T.m_abs (by rfl) (da_cons (vr 1) da_nil))))) (da_cons de_int da_nil))))))
theorem g__law_deck (T : Txt K mg)  {f : Addr} {fd : FuncData} (F : Fun K "_law_deck" "_law_deck" s__law_deck f fd) : FnG P w K mg base 1 f fd ["_law_script"] (spD K 1 d__law_deck) :=
  fnG_of F sc__law_deck (by decide) fun _ _ _ _ _ _ bd hp => b__law_deck T  bd hp
theorem sc__law_draw : FnScope N__law_draw ["_law_deck_here", "_law_bound"] (defScope s__law_draw) := ⟨rfl, rfl, rfl, by decide +kernel, rfl, by decide +kernel, by decide +kernel⟩
theorem b__law_draw (T : Txt K mg)  {f : Addr} {cdv : Value} {B : Around} {fr : List Env} {s : Shared} {H : Hp} {E : XK} (bd : Bd (cxOf (L2.CX P w) P w K mg base N__law_draw "_law_draw" (defScope s__law_draw) f cdv B fr s H E) (wE E) 0)
    (hp : PassesOwn (model P w) (B.deeper (envOfC "_law_draw" (defScope s__law_draw) s.heap.objs.size f cdv)) (envOfC "_law_draw" (defScope s__law_draw) s.heap.objs.size f cdv) (cxOf (L2.CX P w) P w K mg base N__law_draw "_law_draw" (defScope s__law_draw) f cdv B fr s H E).xe) :
    DSs (cxOf (L2.CX P w) P w K mg base N__law_draw "_law_draw" (defScope s__law_draw) f cdv B fr s H E) (wE E) (defBody s__law_draw) m__law_draw :=
  (dss_cons (ds_asg (de_bin op_pAdd (de_idx (vr 0) de_int) de_int) (dg_sub (vr 0) de_int))
  (dss_cons (st 2 bd (de_bin op_pMod (de_idx (vr 0) de_int) (de_b (call_pMax2 bd.calm) (by rfl) T.m_max (by rfl) (da_cons de_int (da_cons (de_b call_pLen (by rfl) T.m_len (by rfl) (da_cons (de_idx (vr 0) de_int) da_nil)) da_nil)))))
  (dss_cons (st 3 bd (de_idx (de_frz (dl_bin op_pCat (de_idx (vr 0) de_int) (de_frz (dl_disp (da_cons de_int da_nil))))) (vr 2)))
  (dss_cons (ds_if (dt_cmp op_pGe (vr 3) (de_bin op_pPow de_int de_int)) (dss_cons (ds_asg (de_bin op_pDiv (vr 3) (vr 1)) (dg_sub (de_idx (vr 0) de_int) (vr 2)))
    (dss_one (ds_ret (de_bin op_pMod (vr 3) (vr 1))))) dss_nil)
  (dss_cons (st 4 bd (de_bin op_pMod (de_bin op_pPow (de_bin op_pAdd (de_bin op_pAdd (de_bin op_pMod (vr 3) de_int) (de_bin op_pMul de_int (de_idx (vr 0) de_int))) de_int) de_int) de_int))
  (dss_one (ds_ret (de_bin op_pMod (de_bin op_pAdd (de_bin op_pDiv (vr 4) de_int) (de_bin op_pMul de_int (de_idx (vr 0) de_int))) (vr 1)))))))))
theorem g__law_draw (T : Txt K mg)  {f : Addr} {fd : FuncData} (F : Fun K "_law_draw" "_law_draw" s__law_draw f fd) : FnG P w K mg base 1 f fd ["_law_deck_here", "_law_bound"] (spD K 2 d__law_draw) :=
  fnG_of F sc__law_draw (by decide) fun _ _ _ _ _ _ bd hp => b__law_draw T  bd hp
theorem sc__law_panel : FnScope N__law_panel ["_law_deck_here", "_law_most"] (defScope s__law_panel) := ⟨rfl, rfl, rfl, by decide +kernel, rfl, by decide +kernel, by decide +kernel⟩
theorem b__law_panel (T : Txt K mg) (C__law_draw : FnC P w K mg base 1 "_law_draw" 2 d__law_draw) {f : Addr} {cdv : Value} {B : Around} {fr : List Env} {s : Shared} {H : Hp} {E : XK} (bd : Bd (cxOf (L2.CX P w) P w K mg base N__law_panel "_law_panel" (defScope s__law_panel) f cdv B fr s H E) (wE E) 1)
    (hp : PassesOwn (model P w) (B.deeper (envOfC "_law_panel" (defScope s__law_panel) s.heap.objs.size f cdv)) (envOfC "_law_panel" (defScope s__law_panel) s.heap.objs.size f cdv) (cxOf (L2.CX P w) P w K mg base N__law_panel "_law_panel" (defScope s__law_panel) f cdv B fr s H E).xe) :
    DSs (cxOf (L2.CX P w) P w K mg base N__law_panel "_law_panel" (defScope s__law_panel) f cdv B fr s H E) (wE E) (defBody s__law_panel) m__law_panel :=
  (dss_cons (ds_asg (de_tup (da_cons (de_bin op_pAdd de_int (de_call bd C__law_draw (by decide) (by rfl) nn__law_draw (da_cons (vr 0) (da_cons (vr 1) da_nil)))) (da_cons (de_call bd C__law_draw (by decide) (by rfl) nn__law_draw (da_cons (vr 0) (da_cons de_int da_nil))) (da_cons (de_new (dl_disp da_nil)) da_nil)))) (dg_tup bd.calm (dgs_cons (gn 2 bd) (dgs_cons (gn 3 bd) (dgs_cons (gn 4 bd) dgs_nil)))))
  (dss_cons (ds_for hp bd.calm (di_range1 (by rfl) T.m_range (vr 2)) (gn 5 bd) (dss_cons (st 6 bd (de_frz (dl_lc (own := [("_law_other", 7)]) bd.calm bd.nd (di_range1 (by rfl) T.m_range (vr 2)) (blkOk_by (own := [("_law_other", 7)]) (N := N__law_panel) (sc := defScope s__law_panel) (by decide +kernel)) (by decide) (fun _ _ _ _ _ => (gn 7 bd.blk)) (fun _ _ _ _ _ => (dts1 (dt_w (dw_and (dt_cmp (op_pNe bd.blk.u64) (vr 7) (vr 5)) (dw_and1 (dt_cmp (op_pEq bd.blk.u64) (de_call bd.blk C__law_draw (by decide) (by rfl) nn__law_draw (da_cons (vr 0) (da_cons (de_idx (de_frz (dl_disp (da_cons de_int (da_cons de_int (da_cons de_int (da_cons de_int (da_cons de_int da_nil))))))) (vr 3)) da_nil))) de_int)))))) (fun _ _ _ _ _ => (vr 7)))))
    (dss_cons (ds_if (dt_cmp (op_pEq bd.u64) (vr 3) de_int) (dss_one (st 6 bd (de_frz (dl_lc (own := [("_law_other", 7)]) bd.calm bd.nd (di_range1 (by rfl) T.m_range (vr 2)) (blkOk_by (own := [("_law_other", 7)]) (N := N__law_panel) (sc := defScope s__law_panel) (by decide +kernel)) (by decide) (fun _ _ _ _ _ => (gn 7 bd.blk)) (fun _ _ _ _ _ => (dts1 (dt_w (dw_and (dt_cmp (op_pNe bd.blk.u64) (vr 7) (vr 5)) (dw_and1 (dt_cmp (op_pNotIn bd.blk.u65) (vr 7) (vr 6))))))) (fun _ _ _ _ _ => (vr 7)))))) dss_nil)
    (dss_cons (ds_if (dt_w (dw_and (dt_cmp (op_pEq bd.u64) (vr 3) de_int) (dw_and1 (dt_cmp op_pGt (vr 2) de_int)))) (dss_one (st 6 bd (de_frz (dl_bin op_pCat (vr 6) (de_frz (dl_disp (da_cons (de_bin op_pMod (de_bin op_pAdd (vr 5) de_int) (vr 2)) da_nil))))))) dss_nil)
    (dss_one (ds_expr (de_m PySem.F.plainAttrs_list PySem.F.slot_list_append PySem.F.type_list_append mt_pAppend (vr 4) (da_cons (de_bT call_pTuple (by rfl) T.m_tuple (by rfl) (da_cons (de_frz (dl_sortSet bd.calm (by rfl) T.m_sorted (by rfl) T.m_set (de_frz (dl_bin op_pRepL (vr 6) (de_bT call_pInt (by rfl) T.m_int (by rfl) (da_cons (de_cmp (op_pNe bd.u64) (vr 3) de_int) da_nil)))))) da_nil)) da_nil))))))))
  (dss_fz (dss_one (ds_ret (de_bT call_pTuple (by rfl) T.m_tuple (by rfl) (da_cons (vr 4) da_nil)))))))
theorem g__law_panel (T : Txt K mg) (C__law_draw : FnC P w K mg base 1 "_law_draw" 2 d__law_draw) {f : Addr} {fd : FuncData} (F : Fun K "_law_panel" "_law_panel" s__law_panel f fd) : FnG P w K mg base 2 f fd ["_law_deck_here", "_law_most"] (spD K 2 d__law_panel) :=
  fnG_of F sc__law_panel (by decide) fun _ _ _ _ _ _ bd hp => b__law_panel T C__law_draw bd hp
theorem sc__law_row : FnScope N__law_row ["_law_deck_here", "_law_n", "_law_most"] (defScope s__law_row) := ⟨rfl, rfl, rfl, by decide +kernel, rfl, by decide +kernel, by decide +kernel⟩
theorem b__law_row (T : Txt K mg) (C__law_draw : FnC P w K mg base 1 "_law_draw" 2 d__law_draw) {f : Addr} {cdv : Value} {B : Around} {fr : List Env} {s : Shared} {H : Hp} {E : XK} (bd : Bd (cxOf (L2.CX P w) P w K mg base N__law_row "_law_row" (defScope s__law_row) f cdv B fr s H E) (wE E) 1)
    (hp : PassesOwn (model P w) (B.deeper (envOfC "_law_row" (defScope s__law_row) s.heap.objs.size f cdv)) (envOfC "_law_row" (defScope s__law_row) s.heap.objs.size f cdv) (cxOf (L2.CX P w) P w K mg base N__law_row "_law_row" (defScope s__law_row) f cdv B fr s H E).xe) :
    DSs (cxOf (L2.CX P w) P w K mg base N__law_row "_law_row" (defScope s__law_row) f cdv B fr s H E) (wE E) (defBody s__law_row) m__law_row :=
  (dss_cons (st 3 bd (de_frz (dl_disp (da_cons (de_call bd C__law_draw (by decide) (by rfl) nn__law_draw (da_cons (vr 0) (da_cons (vr 1) da_nil))) (da_cons (de_call bd C__law_draw (by decide) (by rfl) nn__law_draw (da_cons (vr 0) (da_cons (vr 1) da_nil))) (da_cons (de_call bd C__law_draw (by decide) (by rfl) nn__law_draw (da_cons (vr 0) (da_cons (vr 1) da_nil))) da_nil))))))
  (dss_cons (st 4 bd (de_call bd C__law_draw (by decide) (by rfl) nn__law_draw (da_cons (vr 0) (da_cons de_int da_nil))))
  (dss_one (ds_ret (de_bT call_pTuple (by rfl) T.m_tuple (by rfl) (da_cons (de_frz (dl_lc (own := [("_law_k", 5)]) bd.calm bd.nd (di_range1 (by rfl) T.m_range (de_call bd C__law_draw (by decide) (by rfl) nn__law_draw (da_cons (vr 0) (da_cons (de_bin op_pAdd (vr 2) de_int) da_nil)))) (blkOk_by (own := [("_law_k", 5)]) (N := N__law_row) (sc := defScope s__law_row) (by decide +kernel)) (by decide) (fun _ _ _ _ _ => (gn 5 bd.blk)) (fun _ _ _ _ _ => dts_nil) (fun _ _ _ _ _ => (de_idx (de_frz (dl_disp (da_cons (de_call bd.blk C__law_draw (by decide) (by rfl) nn__law_draw (da_cons (vr 0) (da_cons (vr 1) da_nil))) (da_cons (de_idx (vr 3) (de_bin op_pMod (vr 5) de_int)) da_nil)))) (vr 4))))) da_nil))))))
theorem g__law_row (T : Txt K mg) (C__law_draw : FnC P w K mg base 1 "_law_draw" 2 d__law_draw) {f : Addr} {fd : FuncData} (F : Fun K "_law_row" "_law_row" s__law_row f fd) : FnG P w K mg base 2 f fd ["_law_deck_here", "_law_n", "_law_most"] (spD K 3 d__law_row) :=
  fnG_of F sc__law_row (by decide) fun _ _ _ _ _ _ bd hp => b__law_row T C__law_draw bd hp
theorem sc__law_all : FnScope N__law_all ["_law_n"] (defScope s__law_all) := ⟨rfl, rfl, rfl, by decide +kernel, rfl, by decide +kernel, by decide +kernel⟩
theorem b__law_all (T : Txt K mg)  {f : Addr} {cdv : Value} {B : Around} {fr : List Env} {s : Shared} {H : Hp} {E : XK} (bd : Bd (cxOf (L2.CX P w) P w K mg base N__law_all "_law_all" (defScope s__law_all) f cdv B fr s H E) (wE E) 0)
    (hp : PassesOwn (model P w) (B.deeper (envOfC "_law_all" (defScope s__law_all) s.heap.objs.size f cdv)) (envOfC "_law_all" (defScope s__law_all) s.heap.objs.size f cdv) (cxOf (L2.CX P w) P w K mg base N__law_all "_law_all" (defScope s__law_all) f cdv B fr s H E).xe) :
    DSs (cxOf (L2.CX P w) P w K mg base N__law_all "_law_all" (defScope s__law_all) f cdv B fr s H E) (wE E) (defBody s__law_all) m__law_all :=
  (dss_cons (st 1 bd (de_frz (dl_disp (da_cons (de_tup da_nil) da_nil))))
  (dss_cons (ds_for hp bd.calm (di_range1 (by rfl) T.m_range (vr 0)) (gn 2 bd) (dss_one (st 1 bd (de_frz (dl_bin op_pCat (vr 1) (de_frz (dl_lc (own := [("_law_state_here", 3)]) bd.calm bd.nd (di_seq (vr 1)) (blkOk_by (own := [("_law_state_here", 3)]) (N := N__law_all) (sc := defScope s__law_all) (by decide +kernel)) (by decide) (fun _ _ _ _ _ => (gn 3 bd.blk)) (fun _ _ _ _ _ => dts_nil) (fun _ _ _ _ _ => (de_bin op_pAdd (vr 3) (de_tup (da_cons (vr 2) da_nil)))))))))))
  (dss_one (ds_ret (de_frz (dl_b (call_pSorted bd.calm bd.u70) (by rfl) T.m_sorted (by rfl) (da_cons (vr 1) da_nil)))))))
theorem g__law_all (T : Txt K mg)  {f : Addr} {fd : FuncData} (F : Fun K "_law_all" "_law_all" s__law_all f fd) : FnG P w K mg base 1 f fd ["_law_n"] (spD K 1 d__law_all) :=
  fnG_of F sc__law_all (by decide) fun _ _ _ _ _ _ bd hp => b__law_all T  bd hp
theorem sc__law_state : FnScope N__law_state ["_law_deck_here", "_law_n"] (defScope s__law_state) := ⟨rfl, rfl, rfl, by decide +kernel, rfl, by decide +kernel, by decide +kernel⟩
theorem b__law_state (T : Txt K mg) (C__law_draw : FnC P w K mg base 1 "_law_draw" 2 d__law_draw) {f : Addr} {cdv : Value} {B : Around} {fr : List Env} {s : Shared} {H : Hp} {E : XK} (bd : Bd (cxOf (L2.CX P w) P w K mg base N__law_state "_law_state" (defScope s__law_state) f cdv B fr s H E) (wE E) 1)
    (hp : PassesOwn (model P w) (B.deeper (envOfC "_law_state" (defScope s__law_state) s.heap.objs.size f cdv)) (envOfC "_law_state" (defScope s__law_state) s.heap.objs.size f cdv) (cxOf (L2.CX P w) P w K mg base N__law_state "_law_state" (defScope s__law_state) f cdv B fr s H E).xe) :
    DSs (cxOf (L2.CX P w) P w K mg base N__law_state "_law_state" (defScope s__law_state) f cdv B fr s H E) (wE E) (defBody s__law_state) m__law_state :=
  (dss_one (ds_ret (de_bT call_pTuple (by rfl) T.m_tuple (by rfl) (da_cons (de_frz (dl_lc (own := [("_law_button", 2)]) bd.calm bd.nd (di_range1 (by rfl) T.m_range (vr 1)) (blkOk_by (own := [("_law_button", 2)]) (N := N__law_state) (sc := defScope s__law_state) (by decide +kernel)) (by decide) (fun _ _ _ _ _ => (gn 2 bd.blk)) (fun _ _ _ _ _ => (dts1 (dt_cmp (op_pEq bd.blk.u64) (de_call bd.blk C__law_draw (by decide) (by rfl) nn__law_draw (da_cons (vr 0) (da_cons de_int da_nil))) de_int))) (fun _ _ _ _ _ => (vr 2)))) da_nil))))
theorem g__law_state (T : Txt K mg) (C__law_draw : FnC P w K mg base 1 "_law_draw" 2 d__law_draw) {f : Addr} {fd : FuncData} (F : Fun K "_law_state" "_law_state" s__law_state f fd) : FnG P w K mg base 2 f fd ["_law_deck_here", "_law_n"] (spD K 2 d__law_state) :=
  fnG_of F sc__law_state (by decide) fun _ _ _ _ _ _ bd hp => b__law_state T C__law_draw bd hp
theorem sc__law_some : FnScope N__law_some ["_law_deck_here", "_law_n"] (defScope s__law_some) := ⟨rfl, rfl, rfl, by decide +kernel, rfl, by decide +kernel, by decide +kernel⟩
theorem b__law_some (T : Txt K mg) (C__law_draw : FnC P w K mg base 1 "_law_draw" 2 d__law_draw) (C__law_state : FnC P w K mg base 2 "_law_state" 2 d__law_state) {f : Addr} {cdv : Value} {B : Around} {fr : List Env} {s : Shared} {H : Hp} {E : XK} (bd : Bd (cxOf (L2.CX P w) P w K mg base N__law_some "_law_some" (defScope s__law_some) f cdv B fr s H E) (wE E) 2)
    (hp : PassesOwn (model P w) (B.deeper (envOfC "_law_some" (defScope s__law_some) s.heap.objs.size f cdv)) (envOfC "_law_some" (defScope s__law_some) s.heap.objs.size f cdv) (cxOf (L2.CX P w) P w K mg base N__law_some "_law_some" (defScope s__law_some) f cdv B fr s H E).xe) :
    DSs (cxOf (L2.CX P w) P w K mg base N__law_some "_law_some" (defScope s__law_some) f cdv B fr s H E) (wE E) (defBody s__law_some) m__law_some :=
  (dss_one (ds_ret (de_bT call_pTuple (by rfl) T.m_tuple (by rfl) (da_cons (de_frz (dl_sortSetT bd.calm bd.u70 (by rfl) T.m_sorted (by rfl) T.m_set (de_frz (dl_lc (own := [("_law_k", 2)]) bd.calm bd.nd (di_range1 (by rfl) T.m_range (de_bin op_pAdd de_int (de_call bd C__law_draw (by decide) (by rfl) nn__law_draw (da_cons (vr 0) (da_cons de_int da_nil))))) (blkOk_by (own := [("_law_k", 2)]) (N := N__law_some) (sc := defScope s__law_some) (by decide +kernel)) (by decide) (fun _ _ _ _ _ => (gn 2 bd.blk)) (fun _ _ _ _ _ => dts_nil) (fun _ _ _ _ _ => (de_call bd.blk C__law_state (by decide) (by rfl) nn__law_state (da_cons (vr 0) (da_cons (vr 1) da_nil)))))))) da_nil))))
theorem g__law_some (T : Txt K mg) (C__law_draw : FnC P w K mg base 1 "_law_draw" 2 d__law_draw) (C__law_state : FnC P w K mg base 2 "_law_state" 2 d__law_state) {f : Addr} {fd : FuncData} (F : Fun K "_law_some" "_law_some" s__law_some f fd) : FnG P w K mg base 3 f fd ["_law_deck_here", "_law_n"] (spD K 2 d__law_some) :=
  fnG_of F sc__law_some (by decide) fun _ _ _ _ _ _ bd hp => b__law_some T C__law_draw C__law_state bd hp
theorem sc__law_sets_right : FnScope N__law_sets_right ["_law_deck_here", "_law_panel_here", "_law_row_here", "_law_other"] (defScope s__law_sets_right) := ⟨rfl, rfl, rfl, by decide +kernel, rfl, by decide +kernel, by decide +kernel⟩
theorem b__law_sets_right (T : Txt K mg) (C_states_after : FnC P w K mg base 4 "states_after" 3 d_states_after) (C__law_some : FnC P w K mg base 3 "_law_some" 2 d__law_some) {f : Addr} {cdv : Value} {B : Around} {fr : List Env} {s : Shared} {H : Hp} {E : XK} (bd : Bd (cxOf (L2.CX P w) P w K mg base N__law_sets_right "_law_sets_right" (defScope s__law_sets_right) f cdv B fr s H E) (wE E) 4)
    (hp : PassesOwn (model P w) (B.deeper (envOfC "_law_sets_right" (defScope s__law_sets_right) s.heap.objs.size f cdv)) (envOfC "_law_sets_right" (defScope s__law_sets_right) s.heap.objs.size f cdv) (cxOf (L2.CX P w) P w K mg base N__law_sets_right "_law_sets_right" (defScope s__law_sets_right) f cdv B fr s H E).xe) :
    DSs (cxOf (L2.CX P w) P w K mg base N__law_sets_right "_law_sets_right" (defScope s__law_sets_right) f cdv B fr s H E) (wE E) (defBody s__law_sets_right) m__law_sets_right :=
  (dss_cons (ds_par (i := 4) (j := 5) bd.calm bd.nd rfl rfl (by decide) rfl rfl (da_cons (de_call bd C__law_some (by decide) (by rfl) nn__law_some (da_cons (vr 0) (da_cons (de_b call_pLen (by rfl) T.m_len (by rfl) (da_cons (vr 1) da_nil)) da_nil))) (da_cons (de_call bd C__law_some (by decide) (by rfl) nn__law_some (da_cons (vr 0) (da_cons (de_b call_pLen (by rfl) T.m_len (by rfl) (da_cons (vr 1) da_nil)) da_nil))) da_nil)) (by rfl))
  (dss_cons (st 6 bd (de_bT call_pTuple (by rfl) T.m_tuple (by rfl) (da_cons (de_frz (dl_sortSetT bd.calm bd.u70 (by rfl) T.m_sorted (by rfl) T.m_set (de_bin op_pAdd (vr 4) (vr 5)))) da_nil)))
  (dss_cons (st 7 bd (de_call bd C_states_after (by decide) (by rfl) nn_states_after (da_cons (vr 1) (da_cons (vr 4) (da_cons (vr 2) da_nil)))))
  (dss_cons (st 8 bd (de_call bd C_states_after (by decide) (by rfl) nn_states_after (da_cons (vr 1) (da_cons (vr 5) (da_cons (vr 2) da_nil)))))
  (dss_cons (ds_if (dt_cmp (op_pNe bd.u64) (de_call bd C_states_after (by decide) (by rfl) nn_states_after (da_cons (vr 1) (da_cons (vr 6) (da_cons (vr 2) da_nil)))) (de_bT call_pTuple (by rfl) T.m_tuple (by rfl) (da_cons (de_frz (dl_sortSetT bd.calm bd.u70 (by rfl) T.m_sorted (by rfl) T.m_set (de_bin op_pAdd (vr 7) (vr 8)))) da_nil))) (dss_one (ds_ret de_bl)) dss_nil)
  (dss_cons (st 9 bd (de_call bd C_states_after (by decide) (by rfl) nn_states_after (da_cons (vr 1) (da_cons (vr 4) (da_cons (de_bin op_pAdd (vr 2) (vr 3)) da_nil)))))
  (dss_cons (ds_if (dt_w (dw_or (dt_cmp op_pGt (de_b call_pLen (by rfl) T.m_len (by rfl) (da_cons (vr 7) da_nil)) (de_b call_pLen (by rfl) T.m_len (by rfl) (da_cons (vr 4) da_nil))) (dw_or1 (dt_cmp (op_pNe bd.u64) (de_call bd C_states_after (by decide) (by rfl) nn_states_after (da_cons (vr 1) (da_cons (vr 7) (da_cons (vr 3) da_nil)))) (vr 9))))) (dss_one (ds_ret de_bl)) dss_nil)
  (dss_one (ds_ret (de_and (de_cmp (op_pEq bd.u64) (de_call bd C_states_after (by decide) (by rfl) nn_states_after (da_cons (vr 1) (da_cons (vr 7) (da_cons (de_tup da_nil) da_nil)))) (vr 7)) (de_one (de_cmp (op_pEq bd.u64) (de_call bd C_states_after (by decide) (by rfl) nn_states_after (da_cons (vr 1) (da_cons (de_tup da_nil) (da_cons (vr 2) da_nil)))) (de_tup da_nil)))))))))))))
theorem g__law_sets_right (T : Txt K mg) (C_states_after : FnC P w K mg base 4 "states_after" 3 d_states_after) (C__law_some : FnC P w K mg base 3 "_law_some" 2 d__law_some) {f : Addr} {fd : FuncData} (F : Fun K "_law_sets_right" "_law_sets_right" s__law_sets_right f fd) : FnG P w K mg base 5 f fd ["_law_deck_here", "_law_panel_here", "_law_row_here", "_law_other"] (spD K 4 d__law_sets_right) :=
  fnG_of F sc__law_sets_right (by decide) fun _ _ _ _ _ _ bd hp => b__law_sets_right T C_states_after C__law_some bd hp
theorem sc_law : FnScope N_law ["_law_script"] (defScope s_law) := ⟨rfl, rfl, rfl, by decide +kernel, rfl, by decide +kernel, by decide +kernel⟩
theorem b_law (T : Txt K mg) (C_effect_of : FnC P w K mg base 3 "effect_of" 2 d_effect_of) (C_is_reset : FnC P w K mg base 4 "is_reset" 2 d_is_reset) (C_states_after : FnC P w K mg base 4 "states_after" 3 d_states_after) (C__law_deck : FnC P w K mg base 1 "_law_deck" 1 d__law_deck) (C__law_panel : FnC P w K mg base 2 "_law_panel" 2 d__law_panel) (C__law_row : FnC P w K mg base 2 "_law_row" 3 d__law_row) (C__law_all : FnC P w K mg base 1 "_law_all" 1 d__law_all) (C__law_sets_right : FnC P w K mg base 5 "_law_sets_right" 4 d__law_sets_right) {f : Addr} {cdv : Value} {B : Around} {fr : List Env} {s : Shared} {H : Hp} {E : XK} (bd : Bd (cxOf (L2.CX P w) P w K mg base N_law "law" (defScope s_law) f cdv B fr s H E) (wE E) 5)
    (hp : PassesOwn (model P w) (B.deeper (envOfC "law" (defScope s_law) s.heap.objs.size f cdv)) (envOfC "law" (defScope s_law) s.heap.objs.size f cdv) (cxOf (L2.CX P w) P w K mg base N_law "law" (defScope s_law) f cdv B fr s H E).xe) :
    DSs (cxOf (L2.CX P w) P w K mg base N_law "law" (defScope s_law) f cdv B fr s H E) (wE E) (defBody s_law) m_law :=
  (dss_cons (st 1 bd (de_call bd C__law_deck (by decide) (by rfl) nn__law_deck (da_cons (vr 0) da_nil)))
  (dss_cons (ds_for hp bd.calm (di_range1 (by rfl) T.m_range de_int) (gn 2 bd) (dss_cons (st 3 bd (de_call bd C__law_panel (by decide) (by rfl) nn__law_panel (da_cons (vr 1) (da_cons (de_idx (de_frz (dl_disp (da_cons de_int (da_cons de_int (da_cons de_int (da_cons de_int (da_cons de_int da_nil))))))) (vr 2)) da_nil))))
    (dss_cons (st 4 bd (de_b call_pLen (by rfl) T.m_len (by rfl) (da_cons (vr 3) da_nil)))
    (dss_cons (st 5 bd (de_bT call_pTuple (by rfl) T.m_tuple (by rfl) (da_cons (de_call bd C__law_all (by decide) (by rfl) nn__law_all (da_cons (vr 4) da_nil)) da_nil)))
    (dss_cons (ds_par (i := 6) (j := 7) bd.calm bd.nd rfl rfl (by decide) rfl rfl (da_cons (de_call bd C__law_row (by decide) (by rfl) nn__law_row (da_cons (vr 1) (da_cons (vr 4) (da_cons de_int da_nil)))) (da_cons (de_call bd C__law_row (by decide) (by rfl) nn__law_row (da_cons (vr 1) (da_cons (vr 4) (da_cons de_int da_nil)))) da_nil)) (by rfl))
    (dss_cons (ds_for hp bd.calm (di_seq (de_tup (da_cons (vr 6) (da_cons (vr 7) (da_cons (de_bin op_pAdd (vr 6) (vr 7)) (da_cons (de_slT (vr 6) do_none (do_some de_int)) (da_cons (de_tup da_nil) da_nil))))))) (gn 8 bd) (dss_cons (st 9 bd (de_call bd C_states_after (by decide) (by rfl) nn_states_after (da_cons (vr 3) (da_cons (vr 5) (da_cons (vr 8) da_nil)))))
      (dss_cons (ds_if (dt_cmp (op_pNe bd.u64) (de_b call_pLen (by rfl) T.m_len (by rfl) (da_cons (vr 9) da_nil)) (de_idx (de_frz (dl_disp (da_cons de_int (da_cons de_int (da_cons de_int (da_cons de_int (da_cons de_int (da_cons de_int (da_cons de_int (da_cons de_int da_nil)))))))))) (de_mT PySem.F.slot_tuple_count PySem.F.type_tuple_count (mt_pCountT bd.u70) (de_call bd C_effect_of (by decide) (by rfl) nn_effect_of (da_cons (vr 3) (da_cons (vr 8) da_nil))) (da_cons de_str da_nil)))) (dss_one (ds_ret de_bl)) dss_nil)
      (dss_one (ds_if (dt_cmp (op_pNe bd.u64) (de_call bd C_is_reset (by decide) (by rfl) nn_is_reset (da_cons (vr 3) (da_cons (vr 8) da_nil))) (de_cmp (op_pEq bd.u64) (de_b call_pLen (by rfl) T.m_len (by rfl) (da_cons (vr 9) da_nil)) de_int)) (dss_one (ds_ret de_bl)) dss_nil)))))
    (dss_cons (ds_if (dt_not (dt_tru (de_call bd C__law_sets_right (by decide) (by rfl) nn__law_sets_right (da_cons (vr 1) (da_cons (vr 3) (da_cons (vr 6) (da_cons (vr 7) da_nil))))))) (dss_one (ds_ret de_bl)) dss_nil)
    (dss_one (ds_if (dt_not (dt_tru (de_call bd C__law_sets_right (by decide) (by rfl) nn__law_sets_right (da_cons (vr 1) (da_cons (vr 3) (da_cons (vr 7) (da_cons (vr 6) da_nil))))))) (dss_one (ds_ret de_bl)) dss_nil)))))))))
  (dss_one (ds_ret de_bl))))
theorem g_law (T : Txt K mg) (C_effect_of : FnC P w K mg base 3 "effect_of" 2 d_effect_of) (C_is_reset : FnC P w K mg base 4 "is_reset" 2 d_is_reset) (C_states_after : FnC P w K mg base 4 "states_after" 3 d_states_after) (C__law_deck : FnC P w K mg base 1 "_law_deck" 1 d__law_deck) (C__law_panel : FnC P w K mg base 2 "_law_panel" 2 d__law_panel) (C__law_row : FnC P w K mg base 2 "_law_row" 3 d__law_row) (C__law_all : FnC P w K mg base 1 "_law_all" 1 d__law_all) (C__law_sets_right : FnC P w K mg base 5 "_law_sets_right" 4 d__law_sets_right) {f : Addr} {fd : FuncData} (F : Fun K "law" "law" s_law f fd) : FnG P w K mg base 6 f fd ["_law_script"] (spD K 1 d_law) :=
  fnG_of F sc_law (by decide) fun _ _ _ _ _ _ bd hp => b_law T C_effect_of C_is_reset C_states_after C__law_deck C__law_panel C__law_row C__law_all C__law_sets_right bd hp
theorem all_mk {h : Heap} {f0 f1 f2 f3 f4 f5 f6 f7 f8 f9 f10 f11 f12 f13 f14 f15 f16 f17 : Addr} (X : K.In h) (G : h.Ns mainGlobals mg) {fa : Addr} (hfa : mg "law" = some (.ref fa))
    {od0 an0 od1 an1 od2 an2 od3 an3 od4 an4 od5 an5 od6 an6 od7 an7 od8 an8 od9 an9 od10 an10 od11 an11 od12 an12 od13 an13 od14 an14 od15 an15 od16 an16 od17 an17 : Option Addr} {sl0 sl1 sl2 sl3 sl4 sl5 sl6 sl7 sl8 sl9 sl10 sl11 sl12 sl13 sl14 sl15 sl16 sl17 : Array (Option Value)} {oc0 kV0 dc0 pm0 cd0 ct0 oc1 kV1 dc1 pm1 cd1 ct1 oc2 kV2 dc2 pm2 cd2 ct2 oc3 kV3 dc3 pm3 cd3 ct3 oc4 kV4 dc4 pm4 cd4 ct4 oc5 kV5 dc5 pm5 cd5 ct5 oc6 kV6 dc6 pm6 cd6 ct6 oc7 kV7 dc7 pm7 cd7 ct7 oc8 kV8 dc8 pm8 cd8 ct8 oc9 kV9 dc9 pm9 cd9 ct9 oc10 kV10 dc10 pm10 cd10 ct10 oc11 kV11 dc11 pm11 cd11 ct11 oc12 kV12 dc12 pm12 cd12 ct12 oc13 kV13 dc13 pm13 cd13 ct13 oc14 kV14 dc14 pm14 cd14 ct14 oc15 kV15 dc15 pm15 cd15 ct15 oc16 kV16 dc16 pm16 cd16 ct16 oc17 kV17 dc17 pm17 cd17 ct17 : Value}
    (a0 : PySem.W.nsIn K mainGlobals "changed_word" = some (some (.ref f0))) (l0 : K.lookup f0 = some ⟨oc0, od0, .func (PySem.W.fnOf "changed_word" "changed_word" (defArgs s_changed_word) (defBody s_changed_word) (defScope s_changed_word) .none kV0 dc0 pm0 an0 cd0 ct0), sl0⟩) (c0 : PySem.W.codeIn K cd0 "changed_word" = true) (k0 : PySem.W.keepIn K (.ref f0) = true)
    (a1 : PySem.W.nsIn K mainGlobals "effect_after" = some (some (.ref f1))) (l1 : K.lookup f1 = some ⟨oc1, od1, .func (PySem.W.fnOf "effect_after" "effect_after" (defArgs s_effect_after) (defBody s_effect_after) (defScope s_effect_after) .none kV1 dc1 pm1 an1 cd1 ct1), sl1⟩) (c1 : PySem.W.codeIn K cd1 "effect_after" = true) (k1 : PySem.W.keepIn K (.ref f1) = true)
    (a2 : PySem.W.nsIn K mainGlobals "effect_of" = some (some (.ref f2))) (l2 : K.lookup f2 = some ⟨oc2, od2, .func (PySem.W.fnOf "effect_of" "effect_of" (defArgs s_effect_of) (defBody s_effect_of) (defScope s_effect_of) .none kV2 dc2 pm2 an2 cd2 ct2), sl2⟩) (c2 : PySem.W.codeIn K cd2 "effect_of" = true) (k2 : PySem.W.keepIn K (.ref f2) = true)
    (a3 : PySem.W.nsIn K mainGlobals "is_reset" = some (some (.ref f3))) (l3 : K.lookup f3 = some ⟨oc3, od3, .func (PySem.W.fnOf "is_reset" "is_reset" (defArgs s_is_reset) (defBody s_is_reset) (defScope s_is_reset) .none kV3 dc3 pm3 an3 cd3 ct3), sl3⟩) (c3 : PySem.W.codeIn K cd3 "is_reset" = true) (k3 : PySem.W.keepIn K (.ref f3) = true)
    (a4 : PySem.W.nsIn K mainGlobals "press_button" = some (some (.ref f4))) (l4 : K.lookup f4 = some ⟨oc4, od4, .func (PySem.W.fnOf "press_button" "press_button" (defArgs s_press_button) (defBody s_press_button) (defScope s_press_button) .none kV4 dc4 pm4 an4 cd4 ct4), sl4⟩) (c4 : PySem.W.codeIn K cd4 "press_button" = true) (k4 : PySem.W.keepIn K (.ref f4) = true)
    (a5 : PySem.W.nsIn K mainGlobals "is_number" = some (some (.ref f5))) (l5 : K.lookup f5 = some ⟨oc5, od5, .func (PySem.W.fnOf "is_number" "is_number" (defArgs s_is_number) (defBody s_is_number) (defScope s_is_number) .none kV5 dc5 pm5 an5 cd5 ct5), sl5⟩) (c5 : PySem.W.codeIn K cd5 "is_number" = true) (k5 : PySem.W.keepIn K (.ref f5) = true)
    (a6 : PySem.W.nsIn K mainGlobals "row_error" = some (some (.ref f6))) (l6 : K.lookup f6 = some ⟨oc6, od6, .func (PySem.W.fnOf "row_error" "row_error" (defArgs s_row_error) (defBody s_row_error) (defScope s_row_error) .none kV6 dc6 pm6 an6 cd6 ct6), sl6⟩) (c6 : PySem.W.codeIn K cd6 "row_error" = true) (k6 : PySem.W.keepIn K (.ref f6) = true)
    (a7 : PySem.W.nsIn K mainGlobals "run" = some (some (.ref f7))) (l7 : K.lookup f7 = some ⟨oc7, od7, .func (PySem.W.fnOf "run" "run" (defArgs s_run) (defBody s_run) (defScope s_run) .none kV7 dc7 pm7 an7 cd7 ct7), sl7⟩) (c7 : PySem.W.codeIn K cd7 "run" = true) (k7 : PySem.W.keepIn K (.ref f7) = true)
    (a8 : PySem.W.nsIn K mainGlobals "states_after" = some (some (.ref f8))) (l8 : K.lookup f8 = some ⟨oc8, od8, .func (PySem.W.fnOf "states_after" "states_after" (defArgs s_states_after) (defBody s_states_after) (defScope s_states_after) .none kV8 dc8 pm8 an8 cd8 ct8), sl8⟩) (c8 : PySem.W.codeIn K cd8 "states_after" = true) (k8 : PySem.W.keepIn K (.ref f8) = true)
    (a9 : PySem.W.nsIn K mainGlobals "_law_deck" = some (some (.ref f9))) (l9 : K.lookup f9 = some ⟨oc9, od9, .func (PySem.W.fnOf "_law_deck" "_law_deck" (defArgs s__law_deck) (defBody s__law_deck) (defScope s__law_deck) .none kV9 dc9 pm9 an9 cd9 ct9), sl9⟩) (c9 : PySem.W.codeIn K cd9 "_law_deck" = true) (k9 : PySem.W.keepIn K (.ref f9) = true)
    (a10 : PySem.W.nsIn K mainGlobals "_law_draw" = some (some (.ref f10))) (l10 : K.lookup f10 = some ⟨oc10, od10, .func (PySem.W.fnOf "_law_draw" "_law_draw" (defArgs s__law_draw) (defBody s__law_draw) (defScope s__law_draw) .none kV10 dc10 pm10 an10 cd10 ct10), sl10⟩) (c10 : PySem.W.codeIn K cd10 "_law_draw" = true) (k10 : PySem.W.keepIn K (.ref f10) = true)
    (a11 : PySem.W.nsIn K mainGlobals "_law_panel" = some (some (.ref f11))) (l11 : K.lookup f11 = some ⟨oc11, od11, .func (PySem.W.fnOf "_law_panel" "_law_panel" (defArgs s__law_panel) (defBody s__law_panel) (defScope s__law_panel) .none kV11 dc11 pm11 an11 cd11 ct11), sl11⟩) (c11 : PySem.W.codeIn K cd11 "_law_panel" = true) (k11 : PySem.W.keepIn K (.ref f11) = true)
    (a12 : PySem.W.nsIn K mainGlobals "_law_row" = some (some (.ref f12))) (l12 : K.lookup f12 = some ⟨oc12, od12, .func (PySem.W.fnOf "_law_row" "_law_row" (defArgs s__law_row) (defBody s__law_row) (defScope s__law_row) .none kV12 dc12 pm12 an12 cd12 ct12), sl12⟩) (c12 : PySem.W.codeIn K cd12 "_law_row" = true) (k12 : PySem.W.keepIn K (.ref f12) = true)
    (a13 : PySem.W.nsIn K mainGlobals "_law_all" = some (some (.ref f13))) (l13 : K.lookup f13 = some ⟨oc13, od13, .func (PySem.W.fnOf "_law_all" "_law_all" (defArgs s__law_all) (defBody s__law_all) (defScope s__law_all) .none kV13 dc13 pm13 an13 cd13 ct13), sl13⟩) (c13 : PySem.W.codeIn K cd13 "_law_all" = true) (k13 : PySem.W.keepIn K (.ref f13) = true)
    (a14 : PySem.W.nsIn K mainGlobals "_law_state" = some (some (.ref f14))) (l14 : K.lookup f14 = some ⟨oc14, od14, .func (PySem.W.fnOf "_law_state" "_law_state" (defArgs s__law_state) (defBody s__law_state) (defScope s__law_state) .none kV14 dc14 pm14 an14 cd14 ct14), sl14⟩) (c14 : PySem.W.codeIn K cd14 "_law_state" = true) (k14 : PySem.W.keepIn K (.ref f14) = true)
    (a15 : PySem.W.nsIn K mainGlobals "_law_some" = some (some (.ref f15))) (l15 : K.lookup f15 = some ⟨oc15, od15, .func (PySem.W.fnOf "_law_some" "_law_some" (defArgs s__law_some) (defBody s__law_some) (defScope s__law_some) .none kV15 dc15 pm15 an15 cd15 ct15), sl15⟩) (c15 : PySem.W.codeIn K cd15 "_law_some" = true) (k15 : PySem.W.keepIn K (.ref f15) = true)
    (a16 : PySem.W.nsIn K mainGlobals "_law_sets_right" = some (some (.ref f16))) (l16 : K.lookup f16 = some ⟨oc16, od16, .func (PySem.W.fnOf "_law_sets_right" "_law_sets_right" (defArgs s__law_sets_right) (defBody s__law_sets_right) (defScope s__law_sets_right) .none kV16 dc16 pm16 an16 cd16 ct16), sl16⟩) (c16 : PySem.W.codeIn K cd16 "_law_sets_right" = true) (k16 : PySem.W.keepIn K (.ref f16) = true)
    (a17 : PySem.W.nsIn K mainGlobals "law" = some (some (.ref f17))) (l17 : K.lookup f17 = some ⟨oc17, od17, .func (PySem.W.fnOf "law" "law" (defArgs s_law) (defBody s_law) (defScope s_law) .none kV17 dc17 pm17 an17 cd17 ct17), sl17⟩) (c17 : PySem.W.codeIn K cd17 "law" = true) (k17 : PySem.W.keepIn K (.ref f17) = true)
    (z_abs : PySem.W.nsIn K mainGlobals "abs" = some none)
    (z_bool : PySem.W.nsIn K mainGlobals "bool" = some none)
    (z_enumerate : PySem.W.nsIn K mainGlobals "enumerate" = some none)
    (z_int : PySem.W.nsIn K mainGlobals "int" = some none)
    (z_isinstance : PySem.W.nsIn K mainGlobals "isinstance" = some none)
    (z_len : PySem.W.nsIn K mainGlobals "len" = some none)
    (z_max : PySem.W.nsIn K mainGlobals "max" = some none)
    (z_range : PySem.W.nsIn K mainGlobals "range" = some none)
    (z_set : PySem.W.nsIn K mainGlobals "set" = some none)
    (z_sorted : PySem.W.nsIn K mainGlobals "sorted" = some none)
    (z_tuple : PySem.W.nsIn K mainGlobals "tuple" = some none)
    {t0 : Tok} (y_MAX_ROW : PySem.W.nsIn K mainGlobals "MAX_ROW" = some (some (.int 60 t0)))
    {t1 : Tok} (y_OFF : PySem.W.nsIn K mainGlobals "OFF" = some (some (.str ("off" : Str) t1)))
    {t2 : Tok} (y_ON : PySem.W.nsIn K mainGlobals "ON" = some (some (.str ("on" : Str) t2)))
    {t3 : Tok} (y_SAME : PySem.W.nsIn K mainGlobals "SAME" = some (some (.str ("same" : Str) t3)))
    : ∃ fd : FuncData, (∀ (s : Shared) (v : Value), BindsTo s fd ⟨[v], []⟩ [("_law_script", v)]) ∧ ∀ base : Heap, K.In base → base.Ns mainGlobals mg → FnG P w K mg base 6 fa fd ["_law_script"] (spD K 1 d_law) := by
  have e := hfa.symm.trans (PySem.W.mg_of X G a17)
  cases e
  have T : Txt K mg := ⟨PySem.W.mg_none_of X G z_abs, PySem.W.mg_none_of X G z_bool, PySem.W.mg_none_of X G z_enumerate, PySem.W.mg_none_of X G z_int, PySem.W.mg_none_of X G z_isinstance, PySem.W.mg_none_of X G z_len, PySem.W.mg_none_of X G z_max, PySem.W.mg_none_of X G z_range, PySem.W.mg_none_of X G z_set, PySem.W.mg_none_of X G z_sorted, PySem.W.mg_none_of X G z_tuple, ⟨_, PySem.W.mg_of X G y_MAX_ROW⟩, ⟨_, PySem.W.mg_of X G y_OFF⟩, ⟨_, PySem.W.mg_of X G y_ON⟩, ⟨_, PySem.W.mg_of X G y_SAME⟩⟩
  have F0 := fun_mk (st := s_changed_word) l0 c0 k0
  have b0 := F0.binds (ps := ["panel", "pressed", "button", "word"]) fun _ _ _ _ _ _ us hl => match us, hl with | [_, _, _, _], _ => rfl
  have F1 := fun_mk (st := s_effect_after) l1 c1 k1
  have b1 := F1.binds (ps := ["panel", "effect", "pressed"]) fun _ _ _ _ _ _ us hl => match us, hl with | [_, _, _], _ => rfl
  have F2 := fun_mk (st := s_effect_of) l2 c2 k2
  have b2 := F2.binds (ps := ["panel", "row"]) fun _ _ _ _ _ _ us hl => match us, hl with | [_, _], _ => rfl
  have F3 := fun_mk (st := s_is_reset) l3 c3 k3
  have b3 := F3.binds (ps := ["panel", "row"]) fun _ _ _ _ _ _ us hl => match us, hl with | [_, _], _ => rfl
  have F4 := fun_mk (st := s_press_button) l4 c4 k4
  have b4 := F4.binds (ps := ["panel", "state", "button"]) fun _ _ _ _ _ _ us hl => match us, hl with | [_, _, _], _ => rfl
  have F5 := fun_mk (st := s_is_number) l5 c5 k5
  have b5 := F5.binds (ps := ["value", "low", "high"]) fun _ _ _ _ _ _ us hl => match us, hl with | [_, _, _], _ => rfl
  have F6 := fun_mk (st := s_row_error) l6 c6 k6
  have b6 := F6.binds (ps := ["panel", "value"]) fun _ _ _ _ _ _ us hl => match us, hl with | [_, _], _ => rfl
  have F7 := fun_mk (st := s_run) l7 c7 k7
  have b7 := F7.binds (ps := ["panel", "state", "value"]) fun _ _ _ _ _ _ us hl => match us, hl with | [_, _, _], _ => rfl
  have F8 := fun_mk (st := s_states_after) l8 c8 k8
  have b8 := F8.binds (ps := ["panel", "states", "row"]) fun _ _ _ _ _ _ us hl => match us, hl with | [_, _, _], _ => rfl
  have F9 := fun_mk (st := s__law_deck) l9 c9 k9
  have b9 := F9.binds (ps := ["_law_script"]) fun _ _ _ _ _ _ us hl => match us, hl with | [_], _ => rfl
  have F10 := fun_mk (st := s__law_draw) l10 c10 k10
  have b10 := F10.binds (ps := ["_law_deck_here", "_law_bound"]) fun _ _ _ _ _ _ us hl => match us, hl with | [_, _], _ => rfl
  have F11 := fun_mk (st := s__law_panel) l11 c11 k11
  have b11 := F11.binds (ps := ["_law_deck_here", "_law_most"]) fun _ _ _ _ _ _ us hl => match us, hl with | [_, _], _ => rfl
  have F12 := fun_mk (st := s__law_row) l12 c12 k12
  have b12 := F12.binds (ps := ["_law_deck_here", "_law_n", "_law_most"]) fun _ _ _ _ _ _ us hl => match us, hl with | [_, _, _], _ => rfl
  have F13 := fun_mk (st := s__law_all) l13 c13 k13
  have b13 := F13.binds (ps := ["_law_n"]) fun _ _ _ _ _ _ us hl => match us, hl with | [_], _ => rfl
  have F14 := fun_mk (st := s__law_state) l14 c14 k14
  have b14 := F14.binds (ps := ["_law_deck_here", "_law_n"]) fun _ _ _ _ _ _ us hl => match us, hl with | [_, _], _ => rfl
  have F15 := fun_mk (st := s__law_some) l15 c15 k15
  have b15 := F15.binds (ps := ["_law_deck_here", "_law_n"]) fun _ _ _ _ _ _ us hl => match us, hl with | [_, _], _ => rfl
  have F16 := fun_mk (st := s__law_sets_right) l16 c16 k16
  have b16 := F16.binds (ps := ["_law_deck_here", "_law_panel_here", "_law_row_here", "_law_other"]) fun _ _ _ _ _ _ us hl => match us, hl with | [_, _, _, _], _ => rfl
  have F17 := fun_mk (st := s_law) l17 c17 k17
  refine ⟨PySem.W.fnOf "law" "law" (defArgs s_law) (defBody s_law) (defScope s_law) .none kV17 dc17 pm17 an17 cd17 ct17, fun s v => .of_eq rfl, fun base _ _ => ?_⟩
  have C_changed_word : FnC P w K mg base 1 "changed_word" 4 d_changed_word := ⟨_, _, _, g_changed_word T  F0, PySem.W.mg_of X G a0, k0, b0⟩
  have C_effect_after : FnC P w K mg base 2 "effect_after" 3 d_effect_after := ⟨_, _, _, g_effect_after T C_changed_word F1, PySem.W.mg_of X G a1, k1, b1⟩
  have C_effect_of : FnC P w K mg base 3 "effect_of" 2 d_effect_of := ⟨_, _, _, g_effect_of T C_effect_after F2, PySem.W.mg_of X G a2, k2, b2⟩
  have C_is_reset : FnC P w K mg base 4 "is_reset" 2 d_is_reset := ⟨_, _, _, g_is_reset T C_effect_of F3, PySem.W.mg_of X G a3, k3, b3⟩
  have C_press_button : FnC P w K mg base 1 "press_button" 3 d_press_button := ⟨_, _, _, g_press_button T  F4, PySem.W.mg_of X G a4, k4, b4⟩
  have C_is_number : FnC P w K mg base 1 "is_number" 3 d_is_number := ⟨_, _, _, g_is_number T  F5, PySem.W.mg_of X G a5, k5, b5⟩
  have C_row_error : FnC P w K mg base 2 "row_error" 2 d_row_error := ⟨_, _, _, g_row_error T C_is_number F6, PySem.W.mg_of X G a6, k6, b6⟩
  have C_run : FnC P w K mg base 3 "run" 3 d_run := ⟨_, _, _, g_run T C_press_button C_row_error F7, PySem.W.mg_of X G a7, k7, b7⟩
  have C_states_after : FnC P w K mg base 4 "states_after" 3 d_states_after := ⟨_, _, _, g_states_after T C_run F8, PySem.W.mg_of X G a8, k8, b8⟩
  have C__law_deck : FnC P w K mg base 1 "_law_deck" 1 d__law_deck := ⟨_, _, _, g__law_deck T  F9, PySem.W.mg_of X G a9, k9, b9⟩
  have C__law_draw : FnC P w K mg base 1 "_law_draw" 2 d__law_draw := ⟨_, _, _, g__law_draw T  F10, PySem.W.mg_of X G a10, k10, b10⟩
  have C__law_panel : FnC P w K mg base 2 "_law_panel" 2 d__law_panel := ⟨_, _, _, g__law_panel T C__law_draw F11, PySem.W.mg_of X G a11, k11, b11⟩
  have C__law_row : FnC P w K mg base 2 "_law_row" 3 d__law_row := ⟨_, _, _, g__law_row T C__law_draw F12, PySem.W.mg_of X G a12, k12, b12⟩
  have C__law_all : FnC P w K mg base 1 "_law_all" 1 d__law_all := ⟨_, _, _, g__law_all T  F13, PySem.W.mg_of X G a13, k13, b13⟩
  have C__law_state : FnC P w K mg base 2 "_law_state" 2 d__law_state := ⟨_, _, _, g__law_state T C__law_draw F14, PySem.W.mg_of X G a14, k14, b14⟩
  have C__law_some : FnC P w K mg base 3 "_law_some" 2 d__law_some := ⟨_, _, _, g__law_some T C__law_draw C__law_state F15, PySem.W.mg_of X G a15, k15, b15⟩
  have C__law_sets_right : FnC P w K mg base 5 "_law_sets_right" 4 d__law_sets_right := ⟨_, _, _, g__law_sets_right T C_states_after C__law_some F16, PySem.W.mg_of X G a16, k16, b16⟩
  exact g_law T C_effect_of C_is_reset C_states_after C__law_deck C__law_panel C__law_row C__law_all C__law_sets_right F17
end
end Lw
open PySem PySem.W PyProof.Rows in
set_option maxRecDepth 100000 in
set_option maxHeartbeats 0 in
theorem PySem.Challenge.cw_pressrelease_k38_whole_sets_of_states_holds : PySem.Challenge.rw_pressrelease_k38_whole_sets_of_states.Holds := by
  w_on; o_law; k_head; (case hw => w_witness2)
  k_fill
  refine Dn.walkG (l := PySem.Challenge.rw_pressrelease_k38_whole_sets_of_states) (k := 6) (spec := Lw.d_law) (x := "_law_script") rfl rfl ⟨rfl, by decide, by decide⟩ Lw.law_true (fun w h Y => PySem.W.kIn_of Y) ?F
  case F =>
    intro w mg fa h KX G hmg
    refine' Lw.all_mk KX G hmg ?a0 ?l0 ?c0 ?k0 ?a1 ?l1 ?c1 ?k1 ?a2 ?l2 ?c2 ?k2 ?a3 ?l3 ?c3 ?k3 ?a4 ?l4 ?c4 ?k4 ?a5 ?l5 ?c5 ?k5 ?a6 ?l6 ?c6 ?k6 ?a7 ?l7 ?c7 ?k7 ?a8 ?l8 ?c8 ?k8 ?a9 ?l9 ?c9 ?k9 ?a10 ?l10 ?c10 ?k10 ?a11 ?l11 ?c11 ?k11 ?a12 ?l12 ?c12 ?k12 ?a13 ?l13 ?c13 ?k13 ?a14 ?l14 ?c14 ?k14 ?a15 ?l15 ?c15 ?k15 ?a16 ?l16 ?c16 ?k16 ?a17 ?l17 ?c17 ?k17 ?z_abs ?z_bool ?z_enumerate ?z_int ?z_isinstance ?z_len ?z_max ?z_range ?z_set ?z_sorted ?z_tuple ?y_MAX_ROW ?y_OFF ?y_ON ?y_SAME
    (case a0 => k_is)
    (case l0 => k_is)
    (case c0 => k_is)
    (case k0 => k_is)
    (case a1 => k_is)
    (case l1 => k_is)
    (case c1 => k_is)
    (case k1 => k_is)
    (case a2 => k_is)
    (case l2 => k_is)
    (case c2 => k_is)
    (case k2 => k_is)
    (case a3 => k_is)
    (case l3 => k_is)
    (case c3 => k_is)
    (case k3 => k_is)
    (case a4 => k_is)
    (case l4 => k_is)
    (case c4 => k_is)
    (case k4 => k_is)
    (case a5 => k_is)
    (case l5 => k_is)
    (case c5 => k_is)
    (case k5 => k_is)
    (case a6 => k_is)
    (case l6 => k_is)
    (case c6 => k_is)
    (case k6 => k_is)
    (case a7 => k_is)
    (case l7 => k_is)
    (case c7 => k_is)
    (case k7 => k_is)
    (case a8 => k_is)
    (case l8 => k_is)
    (case c8 => k_is)
    (case k8 => k_is)
    (case a9 => k_is)
    (case l9 => k_is)
    (case c9 => k_is)
    (case k9 => k_is)
    (case a10 => k_is)
    (case l10 => k_is)
    (case c10 => k_is)
    (case k10 => k_is)
    (case a11 => k_is)
    (case l11 => k_is)
    (case c11 => k_is)
    (case k11 => k_is)
    (case a12 => k_is)
    (case l12 => k_is)
    (case c12 => k_is)
    (case k12 => k_is)
    (case a13 => k_is)
    (case l13 => k_is)
    (case c13 => k_is)
    (case k13 => k_is)
    (case a14 => k_is)
    (case l14 => k_is)
    (case c14 => k_is)
    (case k14 => k_is)
    (case a15 => k_is)
    (case l15 => k_is)
    (case c15 => k_is)
    (case k15 => k_is)
    (case a16 => k_is)
    (case l16 => k_is)
    (case c16 => k_is)
    (case k16 => k_is)
    (case a17 => k_is)
    (case l17 => k_is)
    (case c17 => k_is)
    (case k17 => k_is)
    (case z_abs => k_is)
    (case z_bool => k_is)
    (case z_enumerate => k_is)
    (case z_int => k_is)
    (case z_isinstance => k_is)
    (case z_len => k_is)
    (case z_max => k_is)
    (case z_range => k_is)
    (case z_set => k_is)
    (case z_sorted => k_is)
    (case z_tuple => k_is)
    (case y_MAX_ROW => k_is)
    (case y_OFF => k_is)
    (case y_ON => k_is)
    (case y_SAME => k_is)
