import PyProof.Rows.All
import Wide.All
import OpenK.AllK
import Wide.FinOn
import HandS.ForMost
import HandS.Flow
import HandS.Deep
import HandS.ForExc
import HandS.ExcInit
import HandS.TryMany
import HandS.Star
import HandS.TupMul
import HandS.TupAny
import HandS.TupLe
import HandS.EndBits
import KE.SortData
import KE.DataCmp
import PyProof.ReprRoads
import KE.DataEq
import KE.KRevSl
import HandS.IsInst
import KE.GoesMore
import KE.GoesEnum
import HandS.WordsExc
import HandS.SuiteRaise
import HandS.RaiseFrom
import HandS.SetFor
import HandS.Style
import HandS.Conv
import PyProof.ReprBulk
import KE.DataFind
import HandS.Strs
import HandS.TupSets
import KE.DataMinMax
import HandS.FStr
import HandS.Text
import PyProof.Rows.TupDisplay
import HandS.Dict
import KE.KDictSum
import HandS.ExcOwn
import HandS.ExcIs
import HandS.ExcField
import HandS.Zip0
import HandS.Zip
import HandS.ExcValue
import KE.KDictZip
import KE.KDictItemsList
import KE.KExcInit
import PyProof.FactsAll.set_1
import PyProof.FactsAll.subtypes_5
import PyProof.NeKinds
import HandS.Property
import HandS.Defaults
import HandS.MethStar
import PyProof.RulesMatch
import KE.KCallOwn
import KE.KStar
import OpenK.KOps
import OpenK.KMore
import HandS.Finally
import HandS.Iter
import KE.IntTextLaws
import PyProof.Rows.StrSplitJoin
import PyProof.Rows.StrSplitAre
import PyProof.Rows.StrItems
import PyProof.StrLawsIn
import HandS.GenList
import KE.KSuper
import KE.RegKSuper
import HandS.ClsMeth
import KE.KUnpack
import HandS.OwnEq
import KE.KStateDown
import HandS.Head0
import HandS.Head1
import HandS.Head2
import HandS.HeadHook1
import KE.KWithOwn
import HandS.GenCall
import PySem.Challenge.RW_pressrelease_k13_shortest_rows
set_option Elab.async false
set_option linter.all false
set_option maxRecDepth 100000
set_option maxHeartbeats 4000000
set_option autoImplicit false
namespace Dn
open PySem PySem.Spec PyProof.Rows L2
inductive D where
  | non | bl (b : Bool) | int (i : Int) | str (s : Str) | tup (xs : List D) | lst (xs : List D) | scr (xs : List D) | ref (l : Nat) | adr (a : Addr) | fd (ks : List (List Int)) (xs : List D) | exo (a dd : Addr) (f : Str) (d : D) | obj (nm : Str) (ks : List Str) (xs : List D) | sd (kvs : List (Str × Option Int)) | fnv (nm : Str)
inductive MO where
  | lst (xs : List D) | dct (ks : List (List Int)) (xs : List D) | ins (nm : Str) (fs : List (Str × D)) | gone
abbrev Sto := List MO
abbrev Rho := List (Option D)
structure Xc where
  nm : Str
  fld : Option (Str × D)
inductive Out (α : Type) where
  | ok (a : α) (st : Sto) | exc (x : Xc) (st : Sto) | bad
abbrev M (α : Type) := Sto → Out α
def Out.bind {α β : Type} (r : Out α) (f : α → Sto → Out β) : Out β :=
  match r with
  | .ok a st => f a st
  | .exc x st => .exc x st
  | .bad => .bad
@[simp] theorem Out.bind_ok {α β : Type} (a : α) (st : Sto) (f : α → Sto → Out β) : (Out.ok a st).bind f = f a st := rfl
@[simp] theorem Out.bind_exc {α β : Type} (x : Xc) (st : Sto) (f : α → Sto → Out β) : (Out.exc x st : Out α).bind f = .exc x st := rfl
@[simp] theorem Out.bind_bad {α β : Type} (f : α → Sto → Out β) : (Out.bad : Out α).bind f = .bad := rfl
theorem nodup_at {α : Type} {l : List α} (h : l.Nodup) {i j : Nat} {x : α} (a : l[i]? = some x) (b : l[j]? = some x) : i = j := by
  obtain ⟨h1, e1⟩ := List.getElem?_eq_some_iff.mp a
  obtain ⟨h2, e2⟩ := List.getElem?_eq_some_iff.mp b
  exact (List.getElem_inj h).mp (e1.trans e2.symm)
def SqP (K : PySem.W.Frag) (F : Hp) (a : Addr) (xs : List V) : Prop :=
  (∃ o : Obj, o.dict = none ∧ F a = some (.frz o (.tup xs))) ∨
    ∃ (o : Obj) (its : Array Value) (n : Nat), K.lookup a = some o ∧ o.cls = .type "tuple" ∧ o.dict = none ∧ o.data = .seq its n ∧ its.size ≤ sizeLine ∧ Vals xs its.toList
def hzI (ks : List Int) : Int := reduceHash (Builtin.Tuple.tupleHashOf (ks.map hashInt))
def entI (x : List Int × Addr × Value) : DictEntry := ⟨hzI x.1, .ref x.2.1, x.2.2⟩
def DctH (a : Addr) (xs : List (List Int × Addr × Value)) (h : Heap) : Prop := ∃ o es ep, h.get? a = some o ∧ o.ExactDict ∧ o.data = .dict es ep ∧ es.toList = xs.map entI ∧ (xs.map (·.1)).Nodup
def DctO (a : Addr) (xs : List (List Int × Addr × Value)) : HO := .ext (DctH a xs)
def KeysT (K : PySem.W.Frag) (F : Hp) (ks : List (List Int)) (xs : List (List Int × Addr × Value)) : Prop := xs.map (·.1) = ks ∧ ∀ x ∈ xs, SqP K F x.2.1 (x.1.map V.int)
def oV : Option Int → V
  | none => .non
  | some i => .int i
def sdK (kvs : List (Str × Option Int)) : List (Key × V) := kvs.map fun p => (Sum.inr p.1, oV p.2)
mutual
def Rep (K : PySem.W.Frag) (F : Hp) (ι : List Addr) : D → V → Prop
  | .non, v => v = .non
  | .bl b, v => v = .bl b
  | .int i, v => v = .int i
  | .str s, v => v = .str s
  | .tup xs, v => ∃ a vs, v = .ref a ∧ SqP K F a vs ∧ Reps K F ι xs vs
  | .lst xs, v => ∃ a vs, v = .ref a ∧ F a = some (.lst vs) ∧ Reps K F ι xs vs
  | .scr xs, v => ∃ a vs, v = .ref a ∧ SqL K F a vs ∧ Reps K F ι xs vs
  | .ref l, v => ∃ a, v = .ref a ∧ ι[l]? = some a
  | .adr a, v => v = .ref a
  | .fd ks ds, v => ∃ a xs ws, v = .ref a ∧ (a == sysModules) = false ∧ F a = some (DctO a xs) ∧ KeysT K F ks xs ∧ Vals ws (xs.map (·.2.2)) ∧ Reps K F ι ds ws
  | .exo a dd f d, v => v = .ref a ∧ ∃ u, F dd = some (.xd [(f, u)]) ∧ Rep K F ι d u
  | .obj nm ks ds, v => ∃ a C dx gs, v = .ref a ∧ PySem.W.nsIn K mainGlobals nm = some (some (.ref C)) ∧ F a = some (.ins C dx gs) ∧ gs.map (·.1) = ks ∧ Reps K F ι ds (gs.map (·.2))
  | .sd kvs, v => ∃ a, v = .ref a ∧ F a = some (.dK (sdK kvs))
  | .fnv nm, v => ∃ a, v = .ref a ∧ PySem.W.nsIn K mainGlobals nm = some (some (.ref a))
def Reps (K : PySem.W.Frag) (F : Hp) (ι : List Addr) : List D → List V → Prop
  | [], vs => vs = []
  | d :: ds, vs => ∃ v r, vs = v :: r ∧ Rep K F ι d v ∧ Reps K F ι ds r
end
def Fz : HO → Prop
  | .tup _ => True
  | .lst _ => True
  | .frz _ (.lst _) => True
  | .frz _ (.tup _) => True
  | .ext _ => True
  | .xd _ => True
  | .ins _ _ _ => True
  | .dK _ => True
  | _ => False
def RepF (K : PySem.W.Frag) (F : Hp) (ι : List Addr) : List (Str × D) → List (Str × V) → Prop := Paired fun p q => p.1 = q.1 ∧ Rep K F ι p.2 q.2
def ObjR (K : PySem.W.Frag) (F : Hp) (ι : List Addr) (H : Hp) (a : Addr) : MO → Prop
  | .lst xs => ∃ vs, H a = some (.lst vs) ∧ Reps K F ι xs vs
  | .dct ks ds => ∃ xs ws, (a == sysModules) = false ∧ H a = some (DctO a xs) ∧ KeysT K F ks xs ∧ Vals ws (xs.map (·.2.2)) ∧ Reps K F ι ds ws
  | .gone => True
  | .ins nm fs => ∃ C dx gs, PySem.W.nsIn K mainGlobals nm = some (some (.ref C)) ∧ H a = some (.ins C dx gs) ∧ RepF K F ι fs gs
structure Sim (K : PySem.W.Frag) (F : Hp) (ι : List Addr) (st : Sto) (H : Hp) : Prop where
  sub : ∀ a o, F a = some o → H a = some o
  kind : ∀ a o, F a = some o → Fz o
  len : ι.length = st.length
  nd : ι.Nodup
  free : ∀ (l : Nat) (a : Addr), ι[l]? = some a → st[l]? ≠ some .gone → F a = none
  there : ∀ a, a ∈ ι → H a ≠ none
  obj : ∀ (l : Nat) (m : MO) (a : Addr), st[l]? = some m → ι[l]? = some a → ObjR K F ι H a m
structure Ext (F : Hp) (ι : List Addr) (H F' : Hp) (ι' : List Addr) (H' : Hp) : Prop where
  f : ∀ a o, F a = some o → F' a = some o
  i : ∀ (l : Nat) (a : Addr), ι[l]? = some a → ι'[l]? = some a
  keep : ∀ a o, H a = some o → a ∉ ι → H' a = some o
  there : ∀ a, H' a = none → H a = none
  newF : ∀ a o, F' a = some o → F a = some o ∨ H a = none ∨ a ∈ ι
  newI : ∀ a, a ∈ ι' → a ∈ ι ∨ H a = none
  long : ι.length ≤ ι'.length
section
variable {K : PySem.W.Frag} {F F' F'' : Hp} {ι ι' ι'' : List Addr} {H H' H'' : Hp} {st st' : Sto}
theorem Ext.refl : Ext F ι H F ι H := ⟨fun _ _ h => h, fun _ _ h => h, fun _ _ h _ => h, fun _ h => h, fun _ _ h => .inl h, fun _ h => .inl h, Nat.le_refl _⟩
theorem Ext.trans (a : Ext F ι H F' ι' H') (b : Ext F' ι' H' F'' ι'' H'') : Ext F ι H F'' ι'' H'' := by
  refine ⟨fun x o h => b.f x o (a.f x o h), fun l x h => b.i l x (a.i l x h), fun x o h n => b.keep x o (a.keep x o h n) fun m => ?_, fun x h => a.there x (b.there x h), fun x o h => ?_, fun x h => ?_, Nat.le_trans a.long b.long⟩
  · rcases a.newI x m with q | q
    · exact n q
    · rw [h] at q
      cases q
  · rcases b.newF x o h with q | q | q
    · exact a.newF x o q
    · exact .inr (.inl (a.there x q))
    · rcases a.newI x q with q | q
      · exact .inr (.inr q)
      · exact .inr (.inl q)
  · rcases b.newI x h with q | q
    · exact a.newI x q
    · exact .inr (a.there x q)
theorem Rd.mono {a : Addr} {u : HO} (h : Rd F a u) (f : ∀ a o, F a = some o → F' a = some o) : Rd F' a u := by
  rcases h with h | ⟨o, h⟩
  · exact .inl (f _ _ h)
  · exact .inr ⟨o, f _ _ h⟩
theorem SqP.mono {a : Addr} {vs : List V} (h : SqP K F a vs) (f : ∀ a o, F a = some o → F' a = some o) : SqP K F' a vs := by
  rcases h with ⟨o, h1, h2⟩ | h
  · exact .inl ⟨o, h1, f _ _ h2⟩
  · exact .inr h
theorem SqP.sqT {a : Addr} {vs : List V} (h : SqP K F a vs) : SqT K F a vs := by
  rcases h with ⟨o, _, h2⟩ | ⟨o, its, n, h1, h2, _, h3, h4, h5⟩
  · exact .inl (.inr ⟨o, h2⟩)
  · exact .inr ⟨o, its, n, h1, h2, h3, h4, h5⟩
theorem SqT.mono {a : Addr} {vs : List V} (h : SqT K F a vs) (f : ∀ a o, F a = some o → F' a = some o) : SqT K F' a vs := by
  rcases h with h | h
  · exact .inl (Rd.mono h f)
  · exact .inr h
theorem SqL.mono {a : Addr} {vs : List V} (h : SqL K F a vs) (f : ∀ a o, F a = some o → F' a = some o) : SqL K F' a vs := by
  rcases h with h | h
  · exact .inl (Rd.mono h f)
  · exact .inr h
theorem KeysT.mono {ks : List (List Int)} {xs : List (List Int × Addr × Value)} (h : KeysT K F ks xs) (f : ∀ a o, F a = some o → F' a = some o) : KeysT K F' ks xs := ⟨h.1, fun x hx => (h.2 x hx).mono f⟩
mutual
theorem Rep.mono (f : ∀ a o, F a = some o → F' a = some o) (i : ∀ (l : Nat) (a : Addr), ι[l]? = some a → ι'[l]? = some a) : ∀ (d : D) (v : V), Rep K F ι d v → Rep K F' ι' d v
  | .non, _, h => by simpa only [Rep] using h
  | .bl _, _, h => by simpa only [Rep] using h
  | .int _, _, h => by simpa only [Rep] using h
  | .str _, _, h => by simpa only [Rep] using h
  | .adr _, _, h => by simpa only [Rep] using h
  | .tup xs, v, h => by
    simp only [Rep] at h ⊢
    obtain ⟨a, vs, e, q, r⟩ := h
    exact ⟨a, vs, e, SqP.mono q f, Reps.mono f i xs vs r⟩
  | .lst xs, v, h => by
    simp only [Rep] at h ⊢
    obtain ⟨a, vs, e, q, r⟩ := h
    exact ⟨a, vs, e, f _ _ q, Reps.mono f i xs vs r⟩
  | .scr xs, v, h => by
    simp only [Rep] at h ⊢
    obtain ⟨a, vs, e, q, r⟩ := h
    exact ⟨a, vs, e, SqL.mono q f, Reps.mono f i xs vs r⟩
  | .ref l, v, h => by
    simp only [Rep] at h ⊢
    obtain ⟨a, e, q⟩ := h
    exact ⟨a, e, i l a q⟩
  | .fd ks ds, v, h => by
    simp only [Rep] at h ⊢
    obtain ⟨a, xs, ws, e, z, q, kt, vr, r⟩ := h
    exact ⟨a, xs, ws, e, z, f _ _ q, kt.mono f, vr, Reps.mono f i ds ws r⟩
  | .exo a dd g d, v, h => by
    simp only [Rep] at h ⊢
    obtain ⟨e, u, q, r⟩ := h
    exact ⟨e, u, f _ _ q, Rep.mono f i d u r⟩
  | .obj nm ks ds, v, h => by
    simp only [Rep] at h ⊢
    obtain ⟨a, C, dx, gs, e, z, q, kk, r⟩ := h
    exact ⟨a, C, dx, gs, e, z, f _ _ q, kk, Reps.mono f i ds _ r⟩
  | .sd kvs, v, h => by
    simp only [Rep] at h ⊢
    obtain ⟨a, e, q⟩ := h
    exact ⟨a, e, f _ _ q⟩
  | .fnv nm, v, h => by
    simp only [Rep] at h ⊢
    exact h
theorem Reps.mono (f : ∀ a o, F a = some o → F' a = some o) (i : ∀ (l : Nat) (a : Addr), ι[l]? = some a → ι'[l]? = some a) : ∀ (ds : List D) (vs : List V), Reps K F ι ds vs → Reps K F' ι' ds vs
  | [], _, h => by simpa only [Reps] using h
  | d :: ds, vs, h => by
    simp only [Reps] at h ⊢
    obtain ⟨v, r, e, h1, h2⟩ := h
    exact ⟨v, r, e, Rep.mono f i d v h1, Reps.mono f i ds r h2⟩
end
theorem Rep.ext {d : D} {v : V} (h : Rep K F ι d v) (e : Ext F ι H F' ι' H') : Rep K F' ι' d v := Rep.mono e.f e.i d v h
theorem Reps.ext {ds : List D} {vs : List V} (h : Reps K F ι ds vs) (e : Ext F ι H F' ι' H') : Reps K F' ι' ds vs := Reps.mono e.f e.i ds vs h
theorem RepF.ext {fs : List (Str × D)} {gs : List (Str × V)} (h : RepF K F ι fs gs) (e : Ext F ι H F' ι' H') : RepF K F' ι' fs gs := Paired.mapP h fun _ _ q => ⟨q.1, q.2.ext e⟩
theorem Reps.nil : Reps K F ι [] [] := by simp only [Reps]
theorem Reps.cons {d : D} {v : V} {ds : List D} {vs : List V} (h : Rep K F ι d v) (r : Reps K F ι ds vs) : Reps K F ι (d :: ds) (v :: vs) := by
  simp only [Reps]
  exact ⟨v, vs, rfl, h, r⟩
theorem Reps.length : ∀ {ds : List D} {vs : List V}, Reps K F ι ds vs → ds.length = vs.length
  | [], _, h => by simp only [Reps] at h; subst h; rfl
  | _ :: ds, _, h => by
    simp only [Reps] at h
    obtain ⟨v, r, e, _, h2⟩ := h
    subst e
    rw [List.length_cons, List.length_cons, Reps.length h2]
theorem Reps.get : ∀ {ds : List D} {vs : List V} {i : Nat} {d : D}, Reps K F ι ds vs → ds[i]? = some d → ∃ v, vs[i]? = some v ∧ Rep K F ι d v
  | [], _, _, _, _, e => by simp at e
  | d :: ds, _, 0, _, h, e => by
    simp only [Reps] at h
    obtain ⟨v, r, rfl, h1, _⟩ := h
    simp at e
    subst e
    exact ⟨v, rfl, h1⟩
  | d :: ds, _, i + 1, _, h, e => by
    simp only [Reps] at h
    obtain ⟨v, r, rfl, _, h2⟩ := h
    obtain ⟨u, q1, q2⟩ := Reps.get (i := i) h2 (by simpa using e)
    exact ⟨u, by simpa using q1, q2⟩
theorem Reps.append : ∀ {ds es : List D} {vs ws : List V}, Reps K F ι ds vs → Reps K F ι es ws → Reps K F ι (ds ++ es) (vs ++ ws)
  | [], _, _, _, h, g => by simp only [Reps] at h; subst h; exact g
  | d :: ds, _, _, _, h, g => by
    simp only [Reps] at h
    obtain ⟨v, r, rfl, h1, h2⟩ := h
    exact Reps.cons h1 (Reps.append h2 g)
theorem Reps.snoc {ds : List D} {vs : List V} {d : D} {v : V} (h : Reps K F ι ds vs) (g : Rep K F ι d v) : Reps K F ι (ds ++ [d]) (vs ++ [v]) := h.append (Reps.cons g Reps.nil)
theorem Reps.mem {ds : List D} {vs : List V} (h : Reps K F ι ds vs) : ∀ d, d ∈ ds → ∃ v, v ∈ vs ∧ Rep K F ι d v := fun d hd => by
  obtain ⟨i, hi⟩ := List.getElem?_of_mem hd
  obtain ⟨v, q1, q2⟩ := h.get hi
  exact ⟨v, List.mem_of_getElem? q1, q2⟩
theorem Reps.at {ds : List D} {vs : List V} {i : Nat} {d : D} {v : V} (h : Reps K F ι ds vs) (a : ds[i]? = some d) (b : vs[i]? = some v) : Rep K F ι d v := by
  obtain ⟨u, q1, q2⟩ := h.get a
  rw [b] at q1
  cases q1
  exact q2
theorem Sim.sqT (S : Sim K F ι st H) {a : Addr} {vs : List V} (h : SqP K F a vs) : SqT K H a vs := (h.mono S.sub).sqT
theorem Sim.sqL (S : Sim K F ι st H) {a : Addr} {vs : List V} (h : SqL K F a vs) : SqL K H a vs := SqL.mono h S.sub
theorem Ext.frozen {p : Addr} {o : HO} (hp : H p = none) (hF : ∀ a o, F a = some o → H a = some o) : Ext F ι H (upd F p o) ι (upd H p o) := by
  have ne : ∀ a o', F a = some o' → a ≠ p := fun a o' h e => by
    have := hF a o' h
    rw [e, hp] at this
    cases this
  refine ⟨fun a o' h => ?_, fun _ _ h => h, fun a o' h _ => ?_, fun a h => ?_, fun a o' h => ?_, fun _ h => .inl h, Nat.le_refl _⟩
  · rw [upd_ne (ne a o' h)]; exact h
  · rw [upd_ne (ne_of_none h hp)]; exact h
  · by_cases e : a = p
    · subst e; exact hp
    · rw [upd_ne e] at h; exact h
  · by_cases e : a = p
    · subst e; exact .inr (.inl hp)
    · rw [upd_ne e] at h; exact .inl h
theorem ObjR.mono {a : Addr} {m : MO} (h : ObjR K F ι H a m) (f : ∀ a o, F a = some o → F' a = some o) (i : ∀ (l : Nat) (a : Addr), ι[l]? = some a → ι'[l]? = some a) (k : H' a = H a) : ObjR K F' ι' H' a m := by
  cases m with
  | lst xs =>
    obtain ⟨vs, e, r⟩ := h
    exact ⟨vs, k.trans e, Reps.mono f i _ _ r⟩
  | dct ks ds =>
    obtain ⟨xs, ws, z, q, kt, vr, r⟩ := h
    exact ⟨xs, ws, z, k.trans q, kt.mono f, vr, Reps.mono f i _ _ r⟩
  | gone => trivial
  | ins C fs =>
    obtain ⟨C, dx, gs, z, e, r⟩ := h
    exact ⟨C, dx, gs, z, k.trans e, Paired.mapP r fun _ _ q => ⟨q.1, Rep.mono f i _ _ q.2⟩⟩
theorem Sim.frozen (S : Sim K F ι st H) {p : Addr} {o : HO} (hp : H p = none) (hz : Fz o) : Sim K (upd F p o) ι st (upd H p o) := by
  have X : Ext F ι H (upd F p o) ι (upd H p o) := Ext.frozen hp S.sub
  have np : ∀ a, a ∈ ι → a ≠ p := fun a h e => S.there a h (by rw [e]; exact hp)
  refine ⟨fun a u h => ?_, fun a u h => ?_, S.len, S.nd, fun l a h hg => ?_, fun a h => ?_, fun l m a h1 h2 => ?_⟩
  · by_cases e : a = p
    · subst e; rw [upd_same] at h ⊢; exact h
    · rw [upd_ne e] at h ⊢; exact S.sub a u h
  · by_cases e : a = p
    · subst e; rw [upd_same] at h; cases h; exact hz
    · rw [upd_ne e] at h; exact S.kind a u h
  · rw [upd_ne (np a (List.mem_of_getElem? h))]; exact S.free l a h hg
  · rw [upd_ne (np a h)]; exact S.there a h
  · exact (S.obj l m a h1 h2).mono X.f X.i (upd_ne (np a (List.mem_of_getElem? h2)))
theorem Sim.laid (S : Sim K F ι st H) {p : Addr} {o : HO} (hp : H p = none) : Sim K F ι st (upd H p o) := by
  have np : ∀ a, a ∈ ι → a ≠ p := fun a h e => S.there a h (by rw [e]; exact hp)
  refine ⟨fun a u h => ?_, S.kind, S.len, S.nd, S.free, fun a h => ?_, fun l m a h1 h2 => ?_⟩
  · rw [upd_ne (ne_of_none (S.sub a u h) hp)]; exact S.sub a u h
  · rw [upd_ne (np a h)]; exact S.there a h
  · exact (S.obj l m a h1 h2).mono (fun _ _ h => h) (fun _ _ h => h) (upd_ne (np a (List.mem_of_getElem? h2)))
theorem Ext.laid {p : Addr} {o : HO} (hp : H p = none) : Ext F ι H F ι (upd H p o) := by
  refine ⟨fun _ _ h => h, fun _ _ h => h, fun a u h _ => ?_, fun a h => ?_, fun _ _ h => .inl h, fun _ h => .inl h, Nat.le_refl _⟩
  · rw [upd_ne (ne_of_none h hp)]; exact h
  · by_cases e : a = p
    · subst e; exact hp
    · rw [upd_ne e] at h; exact h
theorem Sim.freeze (S : Sim K F ι st H) {p : Addr} {o : HO} (hp : H p = some o) (hF : F p = none) (hi : p ∉ ι) (hz : Fz o) : Sim K (upd F p o) ι st H := by
  refine ⟨fun a u h => ?_, fun a u h => ?_, S.len, S.nd, fun l a h hg => ?_, S.there, fun l m a h1 h2 => ?_⟩
  · by_cases e : a = p
    · subst e; rw [upd_same] at h; rw [hp]; exact h
    · rw [upd_ne e] at h; exact S.sub a u h
  · by_cases e : a = p
    · subst e; rw [upd_same] at h; cases h; exact hz
    · rw [upd_ne e] at h; exact S.kind a u h
  · rw [upd_ne (fun e => hi (by rw [← e]; exact List.mem_of_getElem? h))]; exact S.free l a h hg
  · exact (S.obj l m a h1 h2).mono (fun a u h => by rw [upd_ne (fun e => by rw [e, hF] at h; cases h)]; exact h) (fun _ _ h => h) rfl
theorem Ext.freeze {p : Addr} {o : HO} (x : Ext F ι H F' ι' H') (hF : F' p = none) (hp : H p = none) : Ext F ι H (upd F' p o) ι' H' := by
  refine ⟨fun a u h => ?_, x.i, x.keep, x.there, fun a u h => ?_, x.newI, x.long⟩
  · have h' := x.f a u h
    rw [upd_ne (fun e => by rw [e, hF] at h'; cases h')]
    exact h'
  · by_cases e : a = p
    · subst e; exact .inr (.inl hp)
    · rw [upd_ne e] at h; exact x.newF a u h
theorem Sim.locate (S : Sim K F ι st H) {p : Addr} {m : MO} (hp : H p ≠ none) (hF : F p = none) (hi : p ∉ ι) (ho : ObjR K F (ι ++ [p]) H p m) : Sim K F (ι ++ [p]) (st ++ [m]) H := by
  have mo : ∀ (l : Nat) (a : Addr), ι[l]? = some a → (ι ++ [p])[l]? = some a := fun l a h => by
    rw [List.getElem?_append_left (List.getElem?_eq_some_iff.mp h).1]; exact h
  refine ⟨S.sub, S.kind, by simp [S.len], ?_, fun l a h hg => ?_, fun a h => ?_, fun l m' a h1 h2 => ?_⟩
  · rw [List.nodup_append]
    refine ⟨S.nd, by simp, fun a ha b hb e => ?_⟩
    have : b = p := by simpa using hb
    subst this
    subst e
    exact hi ha
  · by_cases hl : l < st.length
    · rw [List.getElem?_append_left hl] at hg
      rw [List.getElem?_append_left (by rw [S.len]; exact hl)] at h
      exact S.free l a h hg
    · rw [List.getElem?_append_right (by rw [S.len]; omega)] at h
      have : a = p := by
        have := List.mem_of_getElem? h
        simpa using this
      subst this; exact hF
  · rcases List.mem_append.mp h with h | h
    · exact S.there a h
    · have : a = p := by simpa using h
      subst this; exact hp
  · by_cases hl : l < st.length
    · rw [List.getElem?_append_left hl] at h1
      rw [List.getElem?_append_left (by rw [S.len]; exact hl)] at h2
      exact (S.obj l m' a h1 h2).mono (fun _ _ h => h) mo rfl
    · have e : l = st.length := by
        have := (List.getElem?_eq_some_iff.mp h1).1
        simp at this
        omega
      subst e
      rw [List.getElem?_append_right (Nat.le_refl _)] at h1
      rw [List.getElem?_append_right (by rw [S.len]; exact Nat.le_refl _)] at h2
      simp [S.len] at h1 h2
      subst h1 h2
      exact ho
theorem Ext.locate {p : Addr} (x : Ext F ι H F' ι' H') (hp : H p = none) : Ext F ι H F' (ι' ++ [p]) H' := by
  refine ⟨x.f, fun l a h => ?_, x.keep, x.there, x.newF, fun a h => ?_, by simp; exact Nat.le_succ_of_le x.long⟩
  · have h' := x.i l a h
    rw [List.getElem?_append_left (List.getElem?_eq_some_iff.mp h').1]; exact h'
  · rcases List.mem_append.mp h with h | h
    · exact x.newI a h
    · have : a = p := by simpa using h
      subst this; exact .inr hp
theorem Sim.write (S : Sim K F ι st H) {l : Nat} {p : Addr} {m : MO} {o : HO} (hl : ι[l]? = some p) (hgo : st[l]? ≠ some .gone) (ho : ObjR K F ι (upd H p o) p m) : Sim K F ι (st.set l m) (upd H p o) := by
  have hp : p ∈ ι := List.mem_of_getElem? hl
  have nf : ∀ a u, F a = some u → a ≠ p := fun a u h e => by
    rw [e, S.free l p hl hgo] at h; cases h
  refine ⟨fun a u h => ?_, S.kind, by simp [S.len], S.nd, fun k a h hg => ?_, fun a h => ?_, fun k m' a h1 h2 => ?_⟩
  · rw [upd_ne (nf a u h)]; exact S.sub a u h
  · by_cases e : k = l
    · subst e
      rw [hl] at h
      cases h
      exact S.free k p hl hgo
    · rw [List.getElem?_set_ne (Ne.symm e)] at hg
      exact S.free k a h hg
  · by_cases e : a = p
    · subst e; rw [upd_same]; simp
    · rw [upd_ne e]; exact S.there a h
  · by_cases e : k = l
    · subst e
      rw [hl] at h2
      cases h2
      have hk : k < st.length := by
        have := (List.getElem?_eq_some_iff.mp h1).1
        simpa using this
      rw [List.getElem?_set_self hk] at h1
      cases h1
      exact ho
    · rw [List.getElem?_set_ne (Ne.symm e)] at h1
      refine (S.obj k m' a h1 h2).mono (fun _ _ h => h) (fun _ _ h => h) (upd_ne fun q => e ?_)
      subst q
      exact nodup_at S.nd h2 hl
theorem Ext.write {l : Nat} {p : Addr} {o : HO} (hl : ι[l]? = some p) (hp : H p ≠ none) : Ext F ι H F ι (upd H p o) := by
  have hm : p ∈ ι := List.mem_of_getElem? hl
  refine ⟨fun _ _ h => h, fun _ _ h => h, fun a u h n => ?_, fun a h => ?_, fun _ _ h => .inl h, fun _ h => .inl h, Nat.le_refl _⟩
  · rw [upd_ne (fun e => n (by rw [e]; exact hm))]; exact h
  · by_cases e : a = p
    · subst e; rw [upd_same] at h; cases h
    · rw [upd_ne e] at h; exact h
theorem Sim.retireO (S : Sim K F ι st H) {l : Nat} {p : Addr} {o : HO} (hl : ι[l]? = some p) (hp : H p = some o) (hz : Fz o) : Sim K (upd F p o) ι (st.set l .gone) H := by
  refine ⟨fun a u h => ?_, fun a u h => ?_, by simp [S.len], S.nd, fun k a h hg => ?_, S.there, fun k m' a h1 h2 => ?_⟩
  · by_cases e : a = p
    · subst e; rw [upd_same] at h; rw [hp]; exact h
    · rw [upd_ne e] at h; exact S.sub a u h
  · by_cases e : a = p
    · subst e; rw [upd_same] at h; cases h; exact hz
    · rw [upd_ne e] at h; exact S.kind a u h
  · by_cases e : k = l
    · subst e
      refine absurd ?_ hg
      have hk : k < st.length := by rw [← S.len]; exact (List.getElem?_eq_some_iff.mp h).1
      rw [List.getElem?_set_self hk]
    · rw [List.getElem?_set_ne (Ne.symm e)] at hg
      rw [upd_ne fun q => e (by subst q; exact nodup_at S.nd h hl)]
      exact S.free k a h hg
  · by_cases e : k = l
    · subst e
      have hk : k < st.length := by
        have := (List.getElem?_eq_some_iff.mp h1).1
        simpa using this
      rw [List.getElem?_set_self hk] at h1
      cases h1
      trivial
    · rw [List.getElem?_set_ne (Ne.symm e)] at h1
      by_cases eg : m' = .gone
      · subst eg; trivial
      · refine (S.obj k m' a h1 h2).mono (fun b u hb => ?_) (fun _ _ h => h) rfl
        by_cases eb : b = p
        · subst eb
          have := S.sub b u hb
          rw [hp] at this
          cases this
          rw [upd_same]
        · rw [upd_ne eb]; exact hb
theorem Sim.retire (S : Sim K F ι st H) {l : Nat} {p : Addr} {vs : List V} (hl : ι[l]? = some p) (hp : H p = some (.lst vs)) : Sim K (upd F p (.lst vs)) ι (st.set l .gone) H := S.retireO hl hp trivial
theorem Ext.retireO (S : Sim K F ι st H) {l : Nat} {p : Addr} {o : HO} (hl : ι[l]? = some p) (hp : H p = some o) : Ext F ι H (upd F p o) ι H := by
  refine ⟨fun a u h => ?_, fun _ _ h => h, fun a u h _ => h, fun a h => h, fun a u h => ?_, fun _ h => .inl h, Nat.le_refl _⟩
  · by_cases e : a = p
    · subst e
      have := S.sub a u h
      rw [hp] at this
      cases this
      rw [upd_same]
    · rw [upd_ne e]; exact h
  · by_cases e : a = p
    · subst e; exact .inr (.inr (List.mem_of_getElem? hl))
    · rw [upd_ne e] at h; exact .inl h
theorem Ext.retire (S : Sim K F ι st H) {l : Nat} {p : Addr} {vs : List V} (hl : ι[l]? = some p) (hp : H p = some (.lst vs)) : Ext F ι H (upd F p (.lst vs)) ι H := Ext.retireO S hl hp
end
end Dn
namespace Dn
open PySem PySem.Spec PyProof.Rows L2
def XcR (K : PySem.W.Frag) (F : Hp) (ι : List Addr) (H : Hp) (x : Xc) (cls : Value) (dd : Option Addr) : Prop :=
  PySem.W.nsIn K mainGlobals x.nm = some (some cls) ∧ match x.fld with
    | none => dd = none
    | some (f, d) => ∃ a v, dd = some a ∧ F a = some (.xd [(f, v)]) ∧ Rep K F ι d v
structure REnv (K : PySem.W.Frag) (F : Hp) (ι : List Addr) (ρ : Rho) (σ : L2.St) : Prop where
  len : ρ.length = σ.length
  at_ : ∀ (i : Nat) (d : D), ρ[i]? = some (some d) → ∃ v, σ[i]? = some (some v) ∧ Rep K F ι d v
def post {α β : Type} (K : PySem.W.Frag) (W : WX) (σ : L2.St) (F : Hp) (ι : List Addr) (H : Hp) (P : Hp → Hp → List Addr → Hp → α → β → Prop) (r : Out α) (Q : β → Hp → Prop) : Prop :=
  match r with
  | .ok a st' => ∀ F' ι' H' b, Ext F ι H F' ι' H' → Sim K F' ι' st' H' → P H F' ι' H' a b → Q b H'
  | .exc x st' => ∀ F' ι' H' cls dd, Ext F ι H F' ι' H' → Sim K F' ι' st' H' → XcR K F' ι' H' x cls dd → W cls dd σ H'
  | .bad => False
def pV (K : PySem.W.Frag) : Hp → Hp → List Addr → Hp → D → V → Prop := fun _ F ι _ d v => Rep K F ι d v
def pA (K : PySem.W.Frag) : Hp → Hp → List Addr → Hp → List D → List V → Prop := fun _ F ι _ d v => Reps K F ι d v
def pB : Hp → Hp → List Addr → Hp → Bool → Bool → Prop := fun _ _ _ _ b c => b = c
def pL (K : PySem.W.Frag) : Hp → Hp → List Addr → Hp → List D → V → Prop := fun H0 F ι H ds v => ∃ a vs, v = .ref a ∧ H a = some (.lst vs) ∧ F a = none ∧ a ∉ ι ∧ H0 a = none ∧ Reps K F ι ds vs
def Back {α β : Type} (P : Hp → Hp → List Addr → Hp → α → β → Prop) : Prop := ∀ H0 H1 F ι H a b, (∀ x, H1 x = none → H0 x = none) → P H1 F ι H a b → P H0 F ι H a b
theorem back_V {K : PySem.W.Frag} : Back (pV K) := fun _ _ _ _ _ _ _ _ h => h
theorem back_A {K : PySem.W.Frag} : Back (pA K) := fun _ _ _ _ _ _ _ _ h => h
theorem back_B : Back pB := fun _ _ _ _ _ _ _ _ h => h
theorem back_L {K : PySem.W.Frag} : Back (pL K) := fun _ _ _ _ _ _ _ f ⟨a, vs, e, h, hF, hi, h0, r⟩ => ⟨a, vs, e, h, hF, hi, f a h0, r⟩
section
variable {α β γ δ : Type} {K : PySem.W.Frag} {W : WX} {σ : L2.St} {F F1 : Hp} {ι ι1 : List Addr} {H H1 : Hp} {P : Hp → Hp → List Addr → Hp → α → β → Prop} {P' : Hp → Hp → List Addr → Hp → γ → δ → Prop} {Q : δ → Hp → Prop} {Q' : β → Hp → Prop}
theorem post_ext (bk : Back P') {r : Out γ} (h : post K W σ F ι H P' r Q) (x : Ext F ι H F1 ι1 H1) : post K W σ F1 ι1 H1 P' r Q := by
  cases r with
  | ok a st => exact fun F' ι' H' b y S p => h F' ι' H' b (x.trans y) S (bk _ _ _ _ _ _ _ x.there p)
  | exc e st => exact fun F' ι' H' c d y S p => h F' ι' H' c d (x.trans y) S p
  | bad => exact h
theorem post_seq (bk : Back P') {r : Out α} {f : α → Sto → Out γ} (h : post K W σ F ι H P' (r.bind f) Q)
    (k : ∀ a st1 F1 ι1 H1 b, r = .ok a st1 → Ext F ι H F1 ι1 H1 → Sim K F1 ι1 st1 H1 → P H F1 ι1 H1 a b → post K W σ F1 ι1 H1 P' (f a st1) Q → Q' b H1) : post K W σ F ι H P r Q' := by
  cases r with
  | ok a st => exact fun F' ι' H' b y S p => k a st F' ι' H' b rfl y S p (post_ext bk h y)
  | exc e st => exact h
  | bad => exact h
theorem REnv.ext {ρ : Rho} (h : REnv K F ι ρ σ) (x : Ext F ι H F1 ι1 H1) : REnv K F1 ι1 ρ σ := ⟨h.len, fun i d e => let ⟨v, a, r⟩ := h.at_ i d e; ⟨v, a, r.ext x⟩⟩
theorem REnv.set {ρ : Rho} (h : REnv K F ι ρ σ) {d : D} {v : V} (r : Rep K F ι d v) (i : Nat) : REnv K F ι (ρ.set i (some d)) (σ.set i (some v)) := by
  refine ⟨by simp [h.len], fun j e q => ?_⟩
  by_cases hj : i = j
  · subst hj
    by_cases hl : i < ρ.length
    · rw [List.getElem?_set_self hl] at q
      cases q
      exact ⟨v, by rw [List.getElem?_set_self (by rw [← h.len]; exact hl)], r⟩
    · rw [List.getElem?_eq_none (by simpa using hl)] at q
      cases q
  · rw [List.getElem?_set_ne hj] at q
    rw [List.getElem?_set_ne hj]
    exact h.at_ j e q
def wipeD (ρ : Rho) : List Nat → Rho
  | [] => ρ
  | v :: vs => (wipeD ρ vs).set v none
theorem REnv.wipe {ρ : Rho} (h : REnv K F ι ρ σ) : ∀ vs : List Nat, REnv K F ι (wipeD ρ vs) (wipe σ vs)
  | [] => h
  | v :: vs => by
    have ih := h.wipe vs
    show REnv K F ι ((wipeD ρ vs).set v none) ((L2.wipe σ vs).set v none)
    refine ⟨by simp [ih.len], fun j e q => ?_⟩
    by_cases hj : v = j
    · subst hj
      by_cases hl : v < (wipeD ρ vs).length
      · rw [List.getElem?_set_self hl] at q; cases q
      · rw [List.getElem?_eq_none (by simpa using hl)] at q; cases q
    · rw [List.getElem?_set_ne hj] at q
      rw [List.getElem?_set_ne hj]
      exact ih.at_ j e q
end
def wN : WX := fun _ _ _ _ => False
def nox {α : Type} (r : Out α) : Out α := match r with
  | .ok a st => .ok a st
  | _ => .bad
@[simp] theorem nox_ok {α : Type} (a : α) (st : Sto) : nox (.ok a st) = .ok a st := rfl
@[simp] theorem nox_bad {α : Type} : nox (.bad : Out α) = .bad := rfl
def tG {α β : Type} (K : PySem.W.Frag) (W : WX) (P : Hp → Hp → List Addr → Hp → α → β → Prop) (m : Rho → M α) : L2.St → Hp → (β → Hp → Prop) → Prop := fun σ H Q =>
  ∃ F ι ρ st, Sim K F ι st H ∧ REnv K F ι ρ σ ∧ post K W σ F ι H P (m ρ st) Q
abbrev tV (K : PySem.W.Frag) (W : WX) (m : Rho → M D) : TE := tG K W (pV K) m
abbrev tL (K : PySem.W.Frag) (W : WX) (m : Rho → M (List D)) : TE := tG K W (pL K) m
abbrev tA (K : PySem.W.Frag) (W : WX) (m : Rho → M (List D)) : TA := tG K W (pA K) m
abbrev tT (K : PySem.W.Frag) (W : WX) (m : Rho → M Bool) : TT := tG K W pB m
def DE (X : Cx) (W : WX) (e : Expr) (m : Rho → M D) : Prop := PE X e (tV X.K W m)
def DL (X : Cx) (W : WX) (e : Expr) (m : Rho → M (List D)) : Prop := PE X e (tL X.K W m)
def DA (X : Cx) (W : WX) (es : List Expr) (m : Rho → M (List D)) : Prop := PA X es (tA X.K W m)
def DT (X : Cx) (W : WX) (e : Expr) (m : Rho → M Bool) : Prop := PT X e (tT X.K W m)
theorem PE.weak {X : Cx} {e : Expr} {t t' : TE} (h : PE X e t) (w : ∀ σ H Q, t' σ H Q → t σ H Q) : PE X e t' := ⟨fun pins s σ H Q I q => h.run pins s σ H Q I (w σ H Q q)⟩
theorem PT.weak {X : Cx} {e : Expr} {t t' : TT} (h : PT X e t) (w : ∀ σ H Q, t' σ H Q → t σ H Q) : PT X e t' := ⟨fun pins s σ H Q I q => h.run pins s σ H Q I (w σ H Q q)⟩
theorem PA.weak {X : Cx} {e : List Expr} {t t' : TA} (h : PA X e t) (w : ∀ σ H Q, t' σ H Q → t σ H Q) : PA X e t' := ⟨fun pos pins s σ H Q I q => h.run pos pins s σ H Q I (w σ H Q q)⟩
theorem PS.weak {X : Cx} {e : Stmt} {t t' : TS} (h : PS X e t) (w : ∀ D σ H, t' D σ H → t D σ H) : PS X e t' := ⟨fun pins s σ H D I q => h.run pins s σ H D I (w D σ H q)⟩
theorem PSs.weak {X : Cx} {e : List Stmt} {t t' : TS} (h : PSs X e t) (w : ∀ D σ H, t' D σ H → t D σ H) : PSs X e t' := ⟨fun pins s σ H D I q => h.run pins s σ H D I (w D σ H q)⟩
theorem tG_seq {α β γ δ : Type} {K : PySem.W.Frag} {W : WX} {P : Hp → Hp → List Addr → Hp → α → β → Prop} {P' : Hp → Hp → List Addr → Hp → γ → δ → Prop} (bk : Back P') {m : Rho → M α} {σ : L2.St} {F : Hp} {ι : List Addr} {H : Hp} {ρ : Rho} {st : Sto} {f : α → Sto → Out γ} {Q : δ → Hp → Prop} {Q' : β → Hp → Prop}
    (S : Sim K F ι st H) (R : REnv K F ι ρ σ) (h : post K W σ F ι H P' ((m ρ st).bind f) Q)
    (k : ∀ a st1 F1 ι1 H1 b, Ext F ι H F1 ι1 H1 → Sim K F1 ι1 st1 H1 → REnv K F1 ι1 ρ σ → P H F1 ι1 H1 a b → post K W σ F1 ι1 H1 P' (f a st1) Q → Q' b H1) : tG K W P m σ H Q' :=
  ⟨F, ι, ρ, st, S, R, post_seq bk h fun a st1 F1 ι1 H1 b _ x S1 p q => k a st1 F1 ι1 H1 b x S1 (R.ext x) p q⟩
def lift {α : Type} (o : Option α) : M α := fun st => match o with
  | some a => .ok a st
  | none => .bad
@[simp] theorem lift_some {α : Type} (a : α) (st : Sto) : lift (some a) st = .ok a st := rfl
@[simp] theorem lift_none {α : Type} (st : Sto) : (lift none st : Out α) = .bad := rfl
def mVar (i : Nat) : Rho → M D := fun ρ st => match ρ[i]? with
  | some (some d) => .ok d st
  | _ => .bad
def mLit (d : D) : Rho → M D := fun _ st => .ok d st
section
variable {X : Cx} {W : WX} {pos : Pos}
theorem de_var {i : Nat} {x : Str} (hN : X.N[i]? = some x) (hv : Vis X.env.scope x) (hd : (x == ("__debug__" : Str)) = false := by decide) (hcd : (x == ("__classdict__" : Str)) = false := by decide) : DE X W (.Name x pos) (mVar i) := by
  refine PE.weak (pe_var hN hv hd hcd) fun σ H Q ⟨F, ι, ρ, st, S, R, h⟩ => ?_
  unfold mVar at h
  split at h
  · rename_i d e
    obtain ⟨v, q, r⟩ := R.at_ i d e
    exact ⟨v, q, h F ι H v Ext.refl S r⟩
  · exact h.elim
theorem de_c {e : Expr} {v : V} {d : D} (h : PE X e (tC v)) (r : ∀ F ι, Rep X.K F ι d v) : DE X W e (mLit d) :=
  PE.weak h fun σ H Q ⟨F, ι, ρ, st, S, R, q⟩ => q F ι H v Ext.refl S (r F ι)
theorem de_int {i : Int} {j} : DE X W (.Constant (.int i) j pos) (mLit (.int i)) := de_c pe_int fun _ _ => by simp only [Rep]
theorem de_bl {b : Bool} {j} : DE X W (.Constant (.bool b) j pos) (mLit (.bl b)) := de_c pe_bl fun _ _ => by simp only [Rep]
theorem de_non {j} : DE X W (.Constant .none j pos) (mLit .non) := de_c pe_non fun _ _ => by simp only [Rep]
theorem de_str {x : Str} {j} : DE X W (.Constant (.str x) j pos) (mLit (.str x)) := de_c pe_str fun _ _ => by simp only [Rep]
theorem de_gstr {x : Str} {i : Str} {t : Tok} (hg : Gl X x) (hm : X.mg x = some (.str i t)) (hd : (x == ("__debug__" : Str)) = false := by decide) : DE X W (.Name x pos) (mLit (.str i)) := de_c (pe_glob hg hm (v := .str i) ⟨t, rfl⟩ hd) fun _ _ => by simp only [Rep]
def mNil : Rho → M (List D) := fun _ st => .ok [] st
def mCons (m : Rho → M D) (r : Rho → M (List D)) : Rho → M (List D) := fun ρ st => (m ρ st).bind fun d st1 => (r ρ st1).bind fun ds st2 => .ok (d :: ds) st2
theorem da_nil : DA X W [] mNil := PA.weak pa_nil fun σ H Q ⟨F, ι, ρ, st, S, R, q⟩ => q F ι H [] Ext.refl S Reps.nil
theorem da_cons {e : Expr} {es : List Expr} {m : Rho → M D} {r : Rho → M (List D)} (h : DE X W e m) (hr : DA X W es r) (hs : starEach (e :: es) X.env = (false, eval e X.env) :: starEach es X.env := by rfl) : DA X W (e :: es) (mCons m r) := by
  refine PA.weak (pa_cons h hr hs) fun σ H Q ⟨F, ι, ρ, st, S, R, q⟩ => ?_
  refine tG_seq back_A S R q fun d st1 F1 ι1 H1 v x1 S1 R1 r1 q1 => ?_
  exact tG_seq back_A S1 R1 q1 fun ds st2 F2 ι2 H2 vs x2 S2 R2 r2 q2 => q2 F2 ι2 H2 _ Ext.refl S2 (Reps.cons (r1.ext x2) r2)
abbrev SZ : Nat := 100000
theorem sz_le {n : Nat} (h : n ≤ SZ) : n ≤ sizeLine := Nat.le_trans h (by decide)
theorem sz_lt {n : Nat} (h : n ≤ SZ) : n < sizeLine := Nat.lt_of_le_of_lt h (by decide)
theorem fin_tup {X : Cx} {pins : List (Addr × Obj)} {σ : L2.St} {H : Hp} {s : Shared} {Q : VK} {ys : List V} {its : List Value} {t' : Nat} (I : Inv X pins σ H s) (r : Vals ys its) (z : ys.length ≤ sizeLine)
    (q : ∀ (p : Addr) (o : Obj), o.dict = none → H p = none → Q (.ref p) (upd H p (.frz o (.tup ys)))) : EP X pins σ Q (.ref s.heap.objs.size) { s with heap := s.heap.push { cls := .type "tuple", data := .seq its.toArray }, toks := t' } := by
  have hn := I.hok.fresh (Nat.le_refl _)
  have hg : (s.heap.push { cls := .type "tuple", data := .seq its.toArray }).get? s.heap.objs.size = some { cls := .type "tuple", data := .seq its.toArray } := Heap.get?_push_size _ rfl
  have ok : ObjOk X.prog X.w (upd H s.heap.objs.size (.frz { cls := .type "tuple", data := .seq its.toArray } (.tup ys))) (s.heap.push { cls := .type "tuple", data := .seq its.toArray }) s.heap.objs.size (.frz { cls := .type "tuple", data := .seq its.toArray } (.tup ys)) :=
    ⟨hg, z, its, r, ⟨_, hg, rfl, _, rfl⟩⟩
  exact ⟨.ref s.heap.objs.size, _, I.laid (t' := t') (fun b u e => Heap.get?_push_of_some _ e) (Nat.le_refl _) ok, rfl, q _ _ rfl hn⟩
def tTupP (t : TA) : TE := fun σ H Q => t σ H fun xs H1 => xs.length ≤ sizeLine ∧ ∀ (p : Addr) (o : Obj), o.dict = none → H1 p = none → Q (.ref p) (upd H1 p (.frz o (.tup xs)))
theorem pe_tupP {X : Cx} {es : List Expr} {x1} {pos : Pos} {t : TA} (h : PA X es t) : PE X (.Tuple es x1 pos) (tTupP t) := by
  refine ⟨fun pins s σ H Q I hq => wpAny_Tuple_spliced (thn (h.run pos pins s σ H _ I hq) fun us s1 ⟨xs, H1, I1, r, z, q⟩ => ?_)⟩
  exact ⟨by rw [← r.length]; exact z, fin_tup (t' := s1.toks) I1 r z q⟩
def mTup (a : Rho → M (List D)) : Rho → M D := fun ρ st => (a ρ st).bind fun xs st1 => if xs.length ≤ SZ then .ok (.tup xs) st1 else .bad
theorem de_tup {es : List Expr} {x1} {a : Rho → M (List D)} (h : DA X W es a) : DE X W (.Tuple es x1 pos) (mTup a) := by
  refine PE.weak (pe_tupP h) fun σ H Q ⟨F, ι, ρ, st, S, R, q⟩ => ?_
  refine tG_seq back_V S R q fun xs st1 F1 ι1 H1 vs x1 S1 R1 r1 q1 => ?_
  split at q1
  · rename_i hz
    refine ⟨by rw [← Reps.length r1]; exact sz_le hz, fun p o ho hp => ?_⟩
    refine q1 (upd F1 p (.frz o (.tup vs))) ι1 _ _ (Ext.frozen hp S1.sub) (S1.frozen hp trivial) ?_
    show Rep _ _ _ _ _
    simp only [Rep]
    exact ⟨p, vs, rfl, .inl ⟨o, ho, upd_same⟩, Reps.ext r1 (Ext.frozen (H := H1) hp S1.sub)⟩
  · exact q1.elim
def lDisp (a : Rho → M (List D)) : Rho → M (List D) := fun ρ st => (a ρ st).bind fun xs st1 => if xs.length ≤ SZ then .ok xs st1 else .bad
theorem pL_new {K : PySem.W.Frag} {F : Hp} {ι : List Addr} {H : Hp} {st : Sto} {p : Addr} {ds : List D} {vs : List V} (S : Sim K F ι st H) (hp : H p = none) (r : Reps K F ι ds vs) : pL K H F ι (upd H p (.lst vs)) ds (.ref p) := by
  refine ⟨p, vs, rfl, upd_same, ?_, fun h => S.there p h hp, hp, r⟩
  cases e : F p with
  | none => rfl
  | some o =>
    have := S.sub p o e
    rw [hp] at this
    cases this
theorem dl_disp {es : List Expr} {a : Rho → M (List D)} (h : DA X W es a) : DL X W (.List es pos) (lDisp a) := by
  refine PE.weak (pe_lst h) fun σ H Q ⟨F, ι, ρ, st, S, R, q⟩ => ?_
  refine tG_seq back_L S R q fun xs st1 F1 ι1 H1 vs x1 S1 R1 r1 q1 => ?_
  split at q1
  · rename_i hz
    refine ⟨by rw [← Reps.length r1]; exact sz_le hz, fun p hp => ?_⟩
    exact q1 F1 ι1 _ _ (Ext.laid hp) (S1.laid hp) (pL_new S1 hp r1)
  · exact q1.elim
def mFrz (l : Rho → M (List D)) : Rho → M D := fun ρ st => (l ρ st).bind fun xs st1 => .ok (.lst xs) st1
def mNew (l : Rho → M (List D)) : Rho → M D := fun ρ st => (l ρ st).bind fun xs st1 => .ok (.ref st1.length) (st1 ++ [.lst xs])
theorem frz_of {K : PySem.W.Frag} {W : WX} {l : Rho → M (List D)} {σ : L2.St} {H : Hp} {Q : VK} (h : tV K W (mFrz l) σ H Q) : tL K W l σ H Q := by
  obtain ⟨F, ι, ρ, st, S, R, q⟩ := h
  refine ⟨F, ι, ρ, st, S, R, ?_⟩
  unfold mFrz at q
  generalize l ρ st = r at q ⊢
  cases r with
  | ok xs st1 =>
    intro F' ι' H' b x S' ⟨a, vs, e, h, hF, hi, h0, rr⟩
    subst e
    have x' := x.freeze (o := .lst vs) hF h0
    refine q (upd F' a (.lst vs)) ι' H' (.ref a) x' (S'.freeze h hF hi trivial) ?_
    show Rep _ _ _ _ _
    simp only [Rep]
    refine ⟨a, vs, rfl, upd_same, Reps.mono (fun b o hb => ?_) (fun _ _ h => h) _ _ rr⟩
    rw [upd_ne (fun e => by rw [e, hF] at hb; cases hb)]
    exact hb
  | exc _ _ => exact q
  | bad => exact q
theorem de_frz {e : Expr} {l : Rho → M (List D)} (h : DL X W e l) : DE X W e (mFrz l) := PE.weak h fun _ _ _ q => frz_of q
theorem new_of {K : PySem.W.Frag} {W : WX} {l : Rho → M (List D)} {σ : L2.St} {H : Hp} {Q : VK} (h : tV K W (mNew l) σ H Q) : tL K W l σ H Q := by
  obtain ⟨F, ι, ρ, st, S, R, q⟩ := h
  refine ⟨F, ι, ρ, st, S, R, ?_⟩
  unfold mNew at q
  generalize l ρ st = r at q ⊢
  cases r with
  | ok xs st1 =>
    intro F' ι' H' b x S' ⟨a, vs, e, h, hF, hi, h0, rr⟩
    subst e
    have mo : ∀ (l : Nat) (b : Addr), ι'[l]? = some b → (ι' ++ [a])[l]? = some b := fun l b h => by
      rw [List.getElem?_append_left (List.getElem?_eq_some_iff.mp h).1]; exact h
    refine q F' (ι' ++ [a]) H' (.ref a) (x.locate h0) (S'.locate (m := .lst xs) (by rw [h]; simp) hF hi ⟨vs, h, Reps.mono (fun _ _ h => h) mo _ _ rr⟩) ?_
    show Rep _ _ _ _ _
    simp only [Rep]
    exact ⟨a, rfl, by rw [← S'.len, List.getElem?_append_right (Nat.le_refl _)]; simp⟩
  | exc _ _ => exact q
  | bad => exact q
theorem de_new {e : Expr} {l : Rho → M (List D)} (h : DL X W e l) : DE X W e (mNew l) := PE.weak h fun _ _ _ q => new_of q
end
end Dn
namespace Dn
open PySem PySem.Spec PyProof.Rows L2
mutual
def isP : D → Bool
  | .non => true | .bl _ => true | .int _ => true | .str _ => true
  | .tup xs => isPs xs | .lst xs => isPs xs
  | .scr _ => false | .ref _ => false | .adr _ => false | .fd _ _ => false | .exo _ _ _ _ => false | .obj _ _ _ => false | .sd _ => false | .fnv _ => false
def isPs : List D → Bool
  | [] => true
  | d :: ds => isP d && isPs ds
end
mutual
def toP : D → PyData
  | .non => .none | .bl b => .bool b | .int i => .int i | .str s => .str s
  | .tup xs => .tuple (toPs xs) | .lst xs => .list (toPs xs)
  | .scr _ => .none | .ref _ => .none | .adr _ => .none | .fd _ _ => .none | .exo _ _ _ _ => .none | .obj _ _ _ => .none | .fnv _ => .none | .sd kvs => .dict (kvs.map fun p => (.str p.1, match p.2 with | none => .none | some i => .int i))
def toPs : List D → List PyData
  | [] => []
  | d :: ds => toP d :: toPs ds
end
theorem toPs_map : ∀ ds : List D, toPs ds = ds.map toP
  | [] => rfl
  | d :: ds => by rw [toPs, List.map_cons, toPs_map ds]
mutual
theorem dp_of {K : PySem.W.Frag} {F H : Hp} {ι : List Addr} (sub : ∀ a o, F a = some o → H a = some o) : ∀ (d : D) (v : V), isP d = true → Rep K F ι d v → Dp K H v (toP d)
  | .non, v, _, r => by simp only [Rep] at r; subst r; simp only [toP]; exact .non
  | .bl b, v, _, r => by simp only [Rep] at r; subst r; simp only [toP]; exact .bl b
  | .int b, v, _, r => by simp only [Rep] at r; subst r; simp only [toP]; exact .int b
  | .str b, v, _, r => by simp only [Rep] at r; subst r; simp only [toP]; exact .str b
  | .tup xs, v, p, r => by
    simp only [Rep] at r
    obtain ⟨a, vs, e, q, r⟩ := r
    subst e
    simp only [toP]
    exact .tup (SqP.mono q sub).sqT (dps_of sub xs vs (by simpa only [isP] using p) r)
  | .lst xs, v, p, r => by
    simp only [Rep] at r
    obtain ⟨a, vs, e, q, r⟩ := r
    subst e
    simp only [toP]
    exact .lst (SqL.of (sub _ _ q)) (dps_of sub xs vs (by simpa only [isP] using p) r)
  | .scr _, _, p, _ => by simp [isP] at p
  | .ref _, _, p, _ => by simp [isP] at p
  | .adr _, _, p, _ => by simp [isP] at p
  | .fd _ _, _, p, _ => by simp [isP] at p
  | .exo _ _ _ _, _, p, _ => by simp [isP] at p
  | .obj _ _ _, _, p, _ => by simp [isP] at p
  | .sd _, _, p, _ => by simp [isP] at p
  | .fnv _, _, p, _ => by simp [isP] at p
theorem dps_of {K : PySem.W.Frag} {F H : Hp} {ι : List Addr} (sub : ∀ a o, F a = some o → H a = some o) : ∀ (ds : List D) (vs : List V), isPs ds = true → Reps K F ι ds vs → DpAll K H vs (toPs ds)
  | [], vs, _, r => by simp only [Reps] at r; subst r; simp only [toPs]; exact .nil
  | d :: ds, vs, p, r => by
    simp only [Reps] at r
    obtain ⟨v, rs, e, r1, r2⟩ := r
    subst e
    simp only [isPs, Bool.and_eq_true] at p
    simp only [toPs]
    exact .cons (dp_of sub d v p.1 r1) (dps_of sub ds rs p.2 r2)
end
def lstOf (st : Sto) : D → Option (List D)
  | .lst xs => some xs
  | .ref l => match st[l]? with
    | some (.lst xs) => some xs
    | _ => none
  | _ => none
def seqOf (st : Sto) : D → Option (List D)
  | .tup xs => some xs
  | .scr xs => some xs
  | d => lstOf st d
@[simp] theorem lstOf_lst (st : Sto) (xs : List D) : lstOf st (.lst xs) = some xs := rfl
@[simp] theorem seqOf_tup (st : Sto) (xs : List D) : seqOf st (.tup xs) = some xs := rfl
@[simp] theorem seqOf_lst (st : Sto) (xs : List D) : seqOf st (.lst xs) = some xs := rfl
@[simp] theorem seqOf_scr (st : Sto) (xs : List D) : seqOf st (.scr xs) = some xs := rfl
theorem seqOf_ref {st : Sto} {l : Nat} {xs : List D} (h : st[l]? = some (.lst xs)) : seqOf st (.ref l) = some xs := by simp [seqOf, lstOf, h]
def dat (st : Sto) (d : D) : Option PyData := match d with
  | .ref l => match st[l]? with
    | some (.lst xs) => if isPs xs = true then some (.list (toPs xs)) else none
    | _ => none
  | d => if isP d = true then some (toP d) else none
section
variable {K : PySem.W.Frag} {F H : Hp} {ι : List Addr} {st : Sto}
theorem Sim.lst (S : Sim K F ι st H) {d : D} {v : V} {xs : List D} (r : Rep K F ι d v) (h : lstOf st d = some xs) : ∃ a vs, v = .ref a ∧ H a = some (.lst vs) ∧ Reps K F ι xs vs := by
  unfold lstOf at h
  split at h
  · cases h
    simp only [Rep] at r
    obtain ⟨a, vs, e, q, r⟩ := r
    exact ⟨a, vs, e, S.sub _ _ q, r⟩
  · rename_i l
    split at h
    · rename_i ys e
      cases h
      simp only [Rep] at r
      obtain ⟨a, e2, q⟩ := r
      obtain ⟨vs, h1, h2⟩ := S.obj l _ a e q
      exact ⟨a, vs, e2, h1, h2⟩
    · cases h
  · cases h
theorem Sim.seq (S : Sim K F ι st H) {d : D} {v : V} {xs : List D} (r : Rep K F ι d v) (h : seqOf st d = some xs) : ∃ a vs, v = .ref a ∧ (SqL K H a vs ∨ SqT K H a vs) ∧ Reps K F ι xs vs := by
  unfold seqOf at h
  split at h
  · cases h
    simp only [Rep] at r
    obtain ⟨a, vs, e, q, r⟩ := r
    exact ⟨a, vs, e, .inr (S.sqT q), r⟩
  · cases h
    simp only [Rep] at r
    obtain ⟨a, vs, e, q, r⟩ := r
    exact ⟨a, vs, e, .inl (S.sqL q), r⟩
  · obtain ⟨a, vs, e, q, r⟩ := S.lst r h
    exact ⟨a, vs, e, .inl (SqL.of q), r⟩
theorem Sim.dp (S : Sim K F ι st H) {d : D} {v : V} {p : PyData} (r : Rep K F ι d v) (h : dat st d = some p) : Dp K H v p := by
  unfold dat at h
  split at h
  · rename_i l
    split at h
    · rename_i xs e
      split at h
      · rename_i hp
        cases h
        simp only [Rep] at r
        obtain ⟨a, e2, q⟩ := r
        subst e2
        obtain ⟨vs, h1, h2⟩ := S.obj l _ a e q
        exact .lst (SqL.of h1) (dps_of S.sub xs vs hp h2)
      · cases h
    · cases h
  · split at h
    · rename_i hp
      cases h
      exact dp_of S.sub _ _ hp r
    · cases h
end
def rP (K : PySem.W.Frag) (p : Sto → D → D → Option D) : R2 := fun x y H Q => ∃ F ι st a b d, Sim K F ι st H ∧ Rep K F ι a x ∧ Rep K F ι b y ∧ p st a b = some d ∧
  ∀ F' H' v, Ext F ι H F' ι H' → Sim K F' ι st H' → Rep K F' ι d v → Q v H'
def mOp (p : Sto → D → D → Option D) (m1 m2 : Rho → M D) : Rho → M D := fun ρ st => (m1 ρ st).bind fun a st1 => (m2 ρ st1).bind fun b st2 => lift (p st2 a b) st2
def rPL (K : PySem.W.Frag) (p : Sto → D → D → Option (List D)) : R2 := fun x y H Q => ∃ F ι st a b ds, Sim K F ι st H ∧ Rep K F ι a x ∧ Rep K F ι b y ∧ p st a b = some ds ∧
  ∀ H' v, Ext F ι H F ι H' → Sim K F ι st H' → pL K H F ι H' ds v → Q v H'
def lOp (p : Sto → D → D → Option (List D)) (m1 m2 : Rho → M D) : Rho → M (List D) := fun ρ st => (m1 ρ st).bind fun a st1 => (m2 ρ st1).bind fun b st2 => lift (p st2 a b) st2
section
variable {X : Cx} {W : WX} {pos : Pos} {a b : Expr} {m1 m2 : Rho → M D}
theorem tOp_of {K : PySem.W.Frag} {p : Sto → D → D → Option D} {σ : L2.St} {H : Hp} {Q : VK} (h : tV K W (mOp p m1 m2) σ H Q) : tOp (rP K p) (tV K W m1) (tV K W m2) σ H Q := by
  obtain ⟨F, ι, ρ, st, S, R, q⟩ := h
  refine tG_seq back_V S R q fun d1 st1 F1 ι1 H1 v1 x1 S1 R1 r1 q1 => ?_
  refine tG_seq back_V S1 R1 q1 fun d2 st2 F2 ι2 H2 v2 x2 S2 R2 r2 q2 => ?_
  cases e : p st2 d1 d2 with
  | none => rw [e] at q2; exact q2.elim
  | some d =>
    rw [e] at q2
    exact ⟨F2, ι2, st2, d1, d2, d, S2, Rep.ext r1 x2, r2, e, fun F' H' v x S' r => q2 F' ι2 H' v x S' r⟩
theorem tOpL_of {K : PySem.W.Frag} {p : Sto → D → D → Option (List D)} {σ : L2.St} {H : Hp} {Q : VK} (h : tL K W (lOp p m1 m2) σ H Q) : tOp (rPL K p) (tV K W m1) (tV K W m2) σ H Q := by
  obtain ⟨F, ι, ρ, st, S, R, q⟩ := h
  refine tG_seq back_L S R q fun d1 st1 F1 ι1 H1 v1 x1 S1 R1 r1 q1 => ?_
  refine tG_seq back_L S1 R1 q1 fun d2 st2 F2 ι2 H2 v2 x2 S2 R2 r2 q2 => ?_
  cases e : p st2 d1 d2 with
  | none => rw [e] at q2; exact q2.elim
  | some d =>
    rw [e] at q2
    exact ⟨F2, ι2, st2, d1, d2, d, S2, Rep.ext r1 x2, r2, e, fun H' v x S' r => q2 F2 ι2 H' v x S' r⟩
theorem de_bin {op : Operator} {p : Sto → D → D → Option D} (ho : OpR X (binaryOp op) (rP X.K p)) (ha : DE X W a m1) (hb : DE X W b m2) : DE X W (.BinOp a op b pos) (mOp p m1 m2) :=
  PE.weak (pe_op ho ha hb) fun _ _ _ h => tOp_of h
theorem dl_bin {op : Operator} {p : Sto → D → D → Option (List D)} (ho : OpR X (binaryOp op) (rPL X.K p)) (ha : DE X W a m1) (hb : DE X W b m2) : DL X W (.BinOp a op b pos) (lOp p m1 m2) :=
  PE.weak (pe_op ho ha hb) fun _ _ _ h => tOpL_of h
theorem op_ints {f : Value → Value → Sem Value} {C : Int → Int → Prop} [∀ i j, Decidable (C i j)] {g : Int → Int → Int} {p : Sto → D → D → Option D} (ho : OpR X f (rI C fun i j => .int (g i j)))
    (hp : ∀ st a b d, p st a b = some d → ∃ i j, a = .int i ∧ b = .int j ∧ C i j ∧ d = .int (g i j)) : OpR X f (rP X.K p) := by
  intro pins s σ H x y v u Q I rx ry ⟨F, ι, st, a, b, d, S, ra, rb, e, q⟩
  obtain ⟨i, j, e1, e2, hc, e3⟩ := hp st a b d e
  subst e1 e2 e3
  simp only [Rep] at ra rb
  subst ra rb
  exact ho pins s σ H _ _ v u Q I rx ry ⟨i, j, rfl, rfl, hc, q F H _ Ext.refl S (by simp only [Rep])⟩
def pSub : Sto → D → D → Option D := fun _ a b => match a, b with
  | .int i, .int j => some (.int (i - j))
  | _, _ => none
noncomputable def pDiv : Sto → D → D → Option D := fun _ a b => match a, b with
  | .int i, .int j => @ite _ (0 < j ∧ j < 1073741824) (Classical.propDecidable _) (some (.int (i / j))) (none)
  | _, _ => none
def pMod : Sto → D → D → Option D := fun _ a b => match a, b with
  | .int i, .int j => if 0 < j then some (.int (i % j)) else none
  | _, _ => none
noncomputable def pPow : Sto → D → D → Option D := fun _ a b => match a, b with
  | .int i, .int j => @ite _ (0 ≤ j ∧ j ≤ 1000000 ∧ i.natAbs < 2 ^ 64) (Classical.propDecidable _) (some (.int (i ^ j.toNat))) (none)
  | _, _ => none
def pNeg : Sto → D → Option D := fun _ a => match a with
  | .int i => some (.int (-i))
  | _ => none
theorem op_pDiv : OpR X (binaryOp .FloorDiv) (rP X.K pDiv) := by
  refine op_ints (C := fun i j => 0 < j ∧ j < 1073741824) (g := fun i j => i / j) (op_fdiv) fun st a b d e => ?_
  unfold pDiv at e
  split at e
  · split at e
    · rename_i h; cases e; exact ⟨_, _, rfl, rfl, h, rfl⟩
    · cases e
  · cases e
theorem op_pMod : OpR X (binaryOp .Mod) (rP X.K pMod) := by
  refine op_ints (C := fun i j => 0 < j) (g := fun i j => i % j) (op_mod) fun st a b d e => ?_
  unfold pMod at e
  split at e
  · split at e
    · rename_i h; cases e; exact ⟨_, _, rfl, rfl, h, rfl⟩
    · cases e
  · cases e
theorem op_pPow : OpR X (binaryOp .Pow) (rP X.K pPow) := by
  refine op_ints (C := fun i j => 0 ≤ j ∧ j ≤ 1000000 ∧ i.natAbs < 2 ^ 64) (g := fun i j => i ^ j.toNat) (op_pow) fun st a b d e => ?_
  unfold pPow at e
  split at e
  · split at e
    · rename_i h; cases e; exact ⟨_, _, rfl, rfl, h, rfl⟩
    · cases e
  · cases e
def mUn (p : Sto → D → Option D) (m : Rho → M D) : Rho → M D := fun ρ st => (m ρ st).bind fun a st1 => lift (p st1 a) st1
theorem de_neg (ha : DE X W a m1) : DE X W (.UnaryOp .USub a pos) (mUn pNeg m1) := by
  refine PE.weak (pe_un un_neg ha) fun σ H Q ⟨F, ι, ρ, st, S, R, q⟩ => ?_
  refine tG_seq back_V S R q fun d1 st1 F1 ι1 H1 v1 x1 S1 R1 r1 q1 => ?_
  unfold pNeg at q1
  split at q1
  · rename_i i
    have r : Rep X.K F1 ι1 (.int i) v1 := r1
    simp only [Rep] at r
    exact ⟨i, r, q1 F1 ι1 H1 _ Ext.refl S1 (by show Rep _ _ _ _ _; simp only [Rep])⟩
  · exact q1.elim
def pAdd : Sto → D → D → Option D := fun _ a b => match a, b with
  | .int i, .int j => some (.int (i + j))
  | .int i, .bl k => some (.int (i + b2i k))
  | .str x, .str y => if x.length + y.length ≤ sizeLine then some (.str (x ++ y)) else none
  | .tup xs, .tup ys => if xs.length + ys.length ≤ SZ then some (.tup (xs ++ ys)) else none
  | _, _ => none
theorem new_tup {K : PySem.W.Frag} {F : Hp} {ι : List Addr} {H : Hp} {st : Sto} {xs : List D} {vs : List V} {Q : VK} (S : Sim K F ι st H) (r : Reps K F ι xs vs) (q : ∀ F' H' v, Ext F ι H F' ι H' → Sim K F' ι st H' → Rep K F' ι (.tup xs) v → Q v H') :
    ∀ (p : Addr) (o : Obj), o.dict = none → H p = none → Q (.ref p) (upd H p (.frz o (.tup vs))) := fun p o ho hp => by
  refine q (upd F p (.frz o (.tup vs))) _ _ (Ext.frozen hp S.sub) (S.frozen hp trivial) ?_
  simp only [Rep]
  exact ⟨p, vs, rfl, .inl ⟨o, ho, upd_same⟩, Reps.ext r (Ext.frozen (H := H) hp S.sub)⟩
theorem same_tup {K : PySem.W.Frag} {F : Hp} {ι : List Addr} {H : Hp} {st : Sto} {xs ys : List D} {v : V} {Q : VK} (S : Sim K F ι st H) (r : Rep K F ι (.tup xs) v) (e : xs = ys) (q : ∀ F' H' v, Ext F ι H F' ι H' → Sim K F' ι st H' → Rep K F' ι (.tup ys) v → Q v H') : Q v H :=
  q F H v Ext.refl S (by rw [← e]; exact r)
def rCatP (K : PySem.W.Frag) : R2 := fun x y H Q => ∃ a b xs ys, x = .ref a ∧ y = .ref b ∧ SqT K H a xs ∧ SqT K H b ys ∧ xs.length + ys.length ≤ sizeLine ∧
  (xs = [] → Q (.ref b) H) ∧ (xs ≠ [] → ys = [] → Q (.ref a) H) ∧ (xs ≠ [] → ys ≠ [] → ∀ (p : Addr) (o : Obj), o.dict = none → H p = none → Q (.ref p) (upd H p (.frz o (.tup (xs ++ ys)))))
theorem op_catP : OpR X (binaryOp .Add) (rCatP X.K) := by
  intro pins s σ H x y v u Q I rx ry ⟨a, b, xs, ys, e1, e2, ha, hb, hz, q0, q1, q2⟩
  subst e1 e2
  by_cases hx : xs = []
  · exact op_catA pins s σ H _ _ v u Q I rx ry ⟨a, b, xs, ys, rfl, rfl, ha, hb, hz, q0, q1, fun h => absurd hx h⟩
  · by_cases hy : ys = []
    · exact op_catA pins s σ H _ _ v u Q I rx ry ⟨a, b, xs, ys, rfl, rfl, ha, hb, hz, q0, q1, fun _ h => absurd hy h⟩
    · cases rx
      cases ry
      obtain ⟨i1, r1, p1, _⟩ := I.tuple ha
      obtain ⟨i2, r2, p2, _⟩ := I.tuple hb
      refine HT.cat_tup p1 p2 (fun z => hx (r1.nil_iff.mp z)) (fun z => absurd (r2.nil_iff.mp z) hy) (fun z => ?_) (by rw [← r1.length, ← r2.length]; exact hz)
      exact fin_tup (t' := s.toks) I (r1.append r2) (by rw [List.length_append]; exact hz) (q2 hx hy)
theorem op_pAdd : OpR X (binaryOp .Add) (rP X.K pAdd) := by
  intro pins s σ H x y v u Q I rx ry ⟨F, ι, st, a, b, d, S, ra, rb, e, q⟩
  unfold pAdd at e
  split at e
  · cases e
    simp only [Rep] at ra rb
    subst ra rb
    exact op_add pins s σ H _ _ v u Q I rx ry ⟨_, _, rfl, rfl, q F H _ Ext.refl S (by simp only [Rep])⟩
  · cases e
    simp only [Rep] at ra rb
    subst ra rb
    exact op_add_ib pins s σ H _ _ v u Q I rx ry ⟨_, _, rfl, rfl, q F H _ Ext.refl S (by simp only [Rep])⟩
  · split at e
    · rename_i hz
      cases e
      simp only [Rep] at ra rb
      subst ra rb
      exact op_add_str pins s σ H _ _ v u Q I rx ry ⟨_, _, rfl, rfl, hz, q F H _ Ext.refl S (by simp only [Rep])⟩
    · cases e
  · split at e
    · rename_i xs ys hz
      cases e
      have ra' := ra
      have rb' := rb
      simp only [Rep] at ra rb
      obtain ⟨a1, vs1, e1, h1, r1⟩ := ra
      obtain ⟨a2, vs2, e2, h2, r2⟩ := rb
      subst e1 e2
      refine op_catP pins s σ H _ _ v u Q I rx ry ⟨a1, a2, vs1, vs2, rfl, rfl, S.sqT h1, S.sqT h2, ?_, fun h => ?_, fun h h' => ?_, fun _ _ => new_tup S (r1.append r2) q⟩
      · rw [← r1.length, ← r2.length]; exact sz_le hz
      · subst h
        have : xs = [] := List.eq_nil_of_length_eq_zero r1.length
        subst this
        exact same_tup S rb' rfl q
      · subst h'
        have : ys = [] := List.eq_nil_of_length_eq_zero r2.length
        subst this
        exact same_tup S ra' (by simp) q
    · cases e
  · cases e
def pCat : Sto → D → D → Option (List D) := fun st a b => match lstOf st a, lstOf st b with
  | some xs, some ys => if xs.length + ys.length ≤ SZ then some (xs ++ ys) else none
  | _, _ => none
theorem op_pCat : OpR X (binaryOp .Add) (rPL X.K pCat) := by
  intro pins s σ H x y v u Q I rx ry ⟨F, ι, st, a, b, d, S, ra, rb, e, q⟩
  unfold pCat at e
  split at e
  · rename_i xs ys e1 e2
    split at e
    · rename_i hz
      cases e
      obtain ⟨a1, vs1, q1, h1, r1⟩ := S.lst ra e1
      obtain ⟨a2, vs2, q2, h2, r2⟩ := S.lst rb e2
      subst q1 q2
      exact op_cat pins s σ H _ _ v u Q I rx ry ⟨a1, a2, vs1, vs2, rfl, rfl, h1, h2, by rw [← r1.length, ← r2.length]; exact sz_le hz, fun p hp => q _ _ (Ext.laid hp) (S.laid hp) (pL_new S hp (r1.append r2))⟩
    · cases e
  · cases e
theorem Reps.rep {K : PySem.W.Frag} {F : Hp} {ι : List Addr} {xs : List D} {vs : List V} (h : Reps K F ι xs vs) : ∀ k : Nat, Reps K F ι (List.replicate k xs).flatten (List.replicate k vs).flatten
  | 0 => Reps.nil
  | k + 1 => by
    rw [List.replicate_succ, List.replicate_succ, List.flatten_cons, List.flatten_cons]
    exact h.append (Reps.rep h k)
def pRepL : Sto → D → D → Option (List D) := fun st a b => match lstOf st a, b with
  | some xs, .int k => if xs.length * k.toNat ≤ SZ ∧ -1000000 ≤ k ∧ k ≤ 1000000 then some (List.replicate k.toNat xs).flatten else none
  | _, _ => none
theorem op_pRepL : OpR X (binaryOp .Mult) (rPL X.K pRepL) := by
  intro pins s σ H x y v u Q I rx ry ⟨F, ι, st, a, b, d, S, ra, rb, e, q⟩
  unfold pRepL at e
  split at e
  · rename_i xs k e1
    split at e
    · rename_i hz
      cases e
      obtain ⟨a1, vs1, q1, h1, r1⟩ := S.lst ra e1
      simp only [Rep] at rb
      subst q1 rb
      exact op_rep pins s σ H _ _ v u Q I rx ry ⟨a1, k, vs1, rfl, rfl, h1, by omega, by omega, by rw [← r1.length]; exact sz_le hz.1, fun p hp => q _ _ (Ext.laid hp) (S.laid hp) (pL_new S hp (r1.rep _))⟩
    · cases e
  · cases e
end
end Dn
namespace Dn
open PySem PySem.Spec PyProof.Rows L2
theorem tuple_mul_same (l : Addr) (items : Array Value) (n : Nat) (dd : Option Addr) (sl : Array (Option Value)) (x : Int) (u : Tok) (c0 : (decide (x < -(2 ^ 63)) || decide (x ≥ 2 ^ 63)) = false) (c1 : (items.isEmpty || x == 1) = true) :
    Meets (Builtin.«tuple.__mul__» ⟨[.ref l, .int x u], []⟩) (fun _ R s => s.heap.get? l = some { cls := .type "tuple", dict := dd, data := .seq items n, slots := sl } ∧
      R (.ok (.ret (Value.ref l))) s) :=
  .of_wp fun prog w A R s h => by
    obtain ⟨hp, g, d, tk, os⟩ := s
    obtain ⟨hl, h⟩ := h
    have f1 := AutoSeq1.idx_int
    wp_walk using wpAny_loadPart' hl
    repeat (first
      | (refine wpAny_ite_false (decide_eq_false (by rw [c0]; exact Bool.false_ne_true)) ?_; wp_walk using wpAny_loadPart' hl)
      | (refine wpAny_ite_true (decide_eq_true (by rw [c1])) ?_; wp_walk using wpAny_loadPart' hl))
    exact ⟨_, rfl, h⟩
theorem tuple_mul_nil (l : Addr) (items : Array Value) (n : Nat) (dd : Option Addr) (sl : Array (Option Value)) (x : Int) (u : Tok) (c0 : (decide (x < -(2 ^ 63)) || decide (x ≥ 2 ^ 63)) = false) (c1 : (items.isEmpty || x == 1) = false) (c2 : (decide (x ≤ 0) || items.isEmpty) = true) :
    Meets (Builtin.«tuple.__mul__» ⟨[.ref l, .int x u], []⟩) (fun _ R s => s.heap.get? l = some { cls := .type "tuple", dict := dd, data := .seq items n, slots := sl } ∧
      R (.ok (.ret (Value.ref s.heap.objs.size))) { s with heap := s.heap.push { cls := Value.type "tuple", data := Data.seq #[] }, toks := s.toks }) :=
  .of_wp fun prog w A R s h => by
    obtain ⟨hp, g, d, tk, os⟩ := s
    obtain ⟨hl, h⟩ := h
    have f1 := AutoSeq1.idx_int
    wp_walk using wpAny_loadPart' hl
    repeat (first
      | (refine wpAny_ite_false (decide_eq_false (by rw [c0]; exact Bool.false_ne_true)) ?_; wp_walk using wpAny_loadPart' hl)
      | (refine wpAny_ite_false (decide_eq_false (by rw [c1]; exact Bool.false_ne_true)) ?_; wp_walk using wpAny_loadPart' hl)
      | (refine wpAny_ite_true (decide_eq_true (by rw [c2])) ?_; wp_walk using wpAny_loadPart' hl))
    exact ⟨_, rfl, h⟩
section
variable {X : Cx} {W : WX} {pos : Pos} {a b c : Expr} {m1 m2 m3 : Rho → M D}
theorem op_repP : OpR X (binaryOp .Mult) (fun x y H Q => ∃ l k xs, x = .ref l ∧ y = .int k ∧ SqT X.K H l xs ∧ xs ≠ [] ∧ 2 ≤ k ∧ k ≤ 1000 ∧ xs.length ≤ 1000 ∧ ∀ (p : Addr) (o : Obj), o.dict = none → H p = none → Q (.ref p) (upd H p (.frz o (.tup (List.replicate k.toNat xs).flatten)))) := by
  intro pins s σ H x y v u Q I rx ry ⟨l, k, xs, e1, e2, hT, hne, h1, h2, hz, q⟩
  subst e1 e2
  cases rx
  obtain ⟨t, rfl⟩ := ry
  obtain ⟨its, r, ⟨⟨C, dd, dt, sl⟩, ho, hc, n, hd⟩, hs⟩ := I.tuple hT
  simp only at hc hd
  subst hc hd
  have hlen : its.length = xs.length := r.length.symm
  have hin : its ≠ [] := fun e => hne (List.eq_nil_of_length_eq_zero (by rw [← hlen, e]; rfl))
  have hie : its.toArray.isEmpty = false := by
    cases its with
    | nil => exact absurd rfl hin
    | cons _ _ => rfl
  have hsz : its.toArray.size = xs.length := by rw [List.size_toArray, hlen]
  have hmul : ((its.toArray.size : Nat) : Int) * k ≤ 1000000 := by
    rw [hsz]
    have := Int.mul_le_mul_of_nonneg_right (show ((xs.length : Nat) : Int) ≤ 1000 by omega) (show 0 ≤ k by omega)
    omega
  have hnat : k.toNat * xs.length ≤ 1000000 := Nat.le_trans (Nat.mul_le_mul (show k.toNat ≤ 1000 by omega) hz) (by decide)
  have hflat : (List.replicate k.toNat its).flatten.length ≤ sizeLine := by
    rw [PyProof.Rows.lm_len_rep_flat, hlen, sizeLine_eq]
    omega
  have d0 : (decide (k < -(2 ^ 63)) || decide (k ≥ 2 ^ 63)) = false := by
    rw [Bool.or_eq_false_iff]
    exact ⟨decide_eq_false (by omega), decide_eq_false (by omega)⟩
  have d1 : (its.toArray.isEmpty || k == 1) = false := by
    rw [Bool.or_eq_false_iff]
    exact ⟨hie, beq_eq_false_iff_ne.mpr (by omega)⟩
  have d2 : (decide (k ≤ 0) || its.toArray.isEmpty) = false := by
    rw [Bool.or_eq_false_iff]
    exact ⟨decide_eq_false (by omega), hie⟩
  have d4 : Builtin.Tuple.tupleTooMany (((its.toArray.size : Nat) : Int) * k) = false := by
    unfold Builtin.Tuple.tupleTooMany
    exact decide_eq_false (by rw [sizeLine_eq]; omega)
  refine wpAny_binaryOp_repeat_ref (T := "tuple") (U := "int") (by decide) ⟨_, ho, rfl⟩ (fun s' => typeIs_int s' k t) noFill_tuple_mul PySem.F.fills_int_mul PySem.F.slot_int_rmul repeat_tuple PySem.F.slot_int_index.lookup
    (call_meets PySem.F.slot_int_rmul (typeIs_int s k t) PySem.F.entry_int_rmul (PySem.F.args_int_rmul_2 _ _) (int_rmul_tuple k t l its.toArray n dd sl) ⟨ho, rfl, ⟨_, ho, rfl⟩,
      call_meets PySem.F.slot_tuple_mul ⟨_, ho, rfl⟩ PySem.F.entry_tuple_mul (PySem.F.args_tuple_mul_2 _ _) (tuple_mulW l its.toArray n dd sl k t d0 d1 d2 (by omega) d4 (by rw [size_rep, List.size_toArray]; exact hflat)) ⟨ho, ?_⟩⟩)
  rw [size_rep]
  exact fin_tup (t' := s.toks) I (r.rep k.toNat) (by rw [PyProof.Rows.lm_len_rep_flat, sizeLine_eq]; omega) q
noncomputable def pMul : Sto → D → D → Option D := fun _ a b => match a, b with
  | .int i, .int j => @ite _ (i.natAbs < 2 ^ 64 ∨ j.natAbs < 2 ^ 64) (Classical.propDecidable _) (some (.int (i * j))) (none)
  | .tup xs, .int k => if xs.length ≤ 1000 ∧ -1000 ≤ k ∧ k ≤ 1000 then some (.tup (List.replicate k.toNat xs).flatten) else none
  | _, _ => none
theorem op_pMul : OpR X (binaryOp .Mult) (rP X.K pMul) := by
  intro pins s σ H x y v u Q I rx ry ⟨F, ι, st, a, b, d, S, ra, rb, e, q⟩
  unfold pMul at e
  split at e
  · split at e
    · rename_i hc
      cases e
      simp only [Rep] at ra rb
      subst ra rb
      refine op_mul pins s σ H _ _ v u Q I rx ry ⟨_, _, rfl, rfl, ?_, q F H _ Ext.refl S (by simp only [Rep])⟩
      rcases hc with h | h
      · exact .inl (by omega)
      · exact .inr (by omega)
    · cases e
  · split at e
    · rename_i xs k hc
      cases e
      have ra' := ra
      simp only [Rep] at ra rb
      obtain ⟨a1, vs, e1, h1, r1⟩ := ra
      subst e1 rb
      have hT := S.sqT h1
      have hx := rx
      cases rx
      obtain ⟨t, rfl⟩ := ry
      obtain ⟨its, r, ⟨⟨cls, dd, data, sl⟩, ho, hc1, n, hd⟩, hs⟩ := I.tuple hT
      simp only at hc1 hd
      subst hc1 hd
      have hle : its.length = xs.length := r.length.symm.trans r1.length.symm
      have c0 : (decide (k < -(2 ^ 63)) || decide (k ≥ 2 ^ 63)) = false := by
        rw [decide_eq_false (by omega), decide_eq_false (by omega)] <;> rfl
      by_cases c1 : (its.toArray.isEmpty || k == 1) = true
      · refine wpAny_binaryOp_repeat_ref (T := "tuple") (U := "int") (by decide) ⟨_, ho, rfl⟩ (fun s' => typeIs_int s' k t) noFill_tuple_mul PySem.F.fills_int_mul PySem.F.slot_int_rmul repeat_tuple PySem.F.slot_int_index.lookup
          (call_meets PySem.F.slot_int_rmul (typeIs_int s k t) PySem.F.entry_int_rmul (PySem.F.args_int_rmul_2 _ _) (int_rmul_tuple k t a1 its.toArray n dd sl)
            ⟨ho, rfl, ⟨_, ho, rfl⟩, call_meets PySem.F.slot_tuple_mul ⟨_, ho, rfl⟩ PySem.F.entry_tuple_mul (PySem.F.args_tuple_mul_2 _ _) (tuple_mul_same a1 its.toArray n dd sl k t c0 c1) ⟨ho, ?_⟩⟩)
        refine ⟨.ref a1, H, I, rfl, q F H _ Ext.refl S ?_⟩
        have e2 : (List.replicate k.toNat xs).flatten = xs := by
          rw [Bool.or_eq_true] at c1
          rcases c1 with c1 | c1
          · have : its = [] := by simpa using c1
            have h0 : xs = [] := List.eq_nil_of_length_eq_zero (by rw [← hle, this]; rfl)
            subst h0
            simp
          · have : k = 1 := by simpa using c1
            subst this
            simp
        rw [e2]
        exact ra'
      · have c1 : (its.toArray.isEmpty || k == 1) = false := by simpa using c1
        by_cases c2 : (decide (k ≤ 0) || its.toArray.isEmpty) = true
        · refine wpAny_binaryOp_repeat_ref (T := "tuple") (U := "int") (by decide) ⟨_, ho, rfl⟩ (fun s' => typeIs_int s' k t) noFill_tuple_mul PySem.F.fills_int_mul PySem.F.slot_int_rmul repeat_tuple PySem.F.slot_int_index.lookup
            (call_meets PySem.F.slot_int_rmul (typeIs_int s k t) PySem.F.entry_int_rmul (PySem.F.args_int_rmul_2 _ _) (int_rmul_tuple k t a1 its.toArray n dd sl)
              ⟨ho, rfl, ⟨_, ho, rfl⟩, call_meets PySem.F.slot_tuple_mul ⟨_, ho, rfl⟩ PySem.F.entry_tuple_mul (PySem.F.args_tuple_mul_2 _ _) (tuple_mul_nil a1 its.toArray n dd sl k t c0 c1 c2) ⟨ho, ?_⟩⟩)
          have e2 : (List.replicate k.toNat xs).flatten = [] := by
            rw [Bool.or_eq_true] at c2
            rcases c2 with c2 | c2
            · have : k.toNat = 0 := by
                have := of_decide_eq_true c2
                omega
              rw [this]
              rfl
            · rw [Bool.or_eq_false_iff] at c1
              rw [c1.1] at c2
              cases c2
          rw [e2] at q
          exact fin_tup (t' := s.toks) I (ys := []) (its := []) .nil (Nat.zero_le _) (new_tup S Reps.nil q)
        · have h2 : 2 ≤ k := by
            simp only [Bool.or_eq_true, decide_eq_true_eq, not_or] at c2
            rw [Bool.or_eq_false_iff] at c1
            have : k ≠ 1 := by simpa using c1.2
            omega
          have hne : vs ≠ [] := by
            intro h0
            rw [Bool.or_eq_false_iff] at c1
            have h1 := c1.1
            subst h0
            cases r
            simp at h1
          exact op_repP pins s σ H _ _ _ _ Q I hx (show RelV (V.int k) (Value.int k t) from ⟨t, rfl⟩) ⟨a1, k, vs, rfl, rfl, hT, hne, h2, hc.2.2, by rw [← r1.length]; exact hc.1, new_tup S (r1.rep _) q⟩
    · cases e
  · cases e
def pEq : Sto → D → D → Option D := fun st a b => match a, b with
  | .str x, .str y => some (.bl ((x == y)))
  | a, b => match dat st a, dat st b with
  | some p, some q => if min p.depth q.depth ≤ 64 then some (.bl (PyData.eqv p q)) else none
  | _, _ => none
def pNe : Sto → D → D → Option D := fun st a b => match a, b with
  | .str x, .str y => some (.bl (!(x == y)))
  | a, b => match dat st a, dat st b with
  | some p, some q => if min p.depth q.depth ≤ 64 then some (.bl (!PyData.eqv p q)) else none
  | _, _ => none
mutual
theorem plain_toP : ∀ d : D, isP d = true → (toP d).plain = true
  | .non, _ => rfl
  | .bl _, _ => rfl
  | .int _, _ => rfl
  | .str _, _ => rfl
  | .tup xs, h => by
    simp only [isP] at h
    simp only [toP, PyData.plain]
    exact plain_toPs xs h
  | .lst xs, h => by
    simp only [isP] at h
    simp only [toP, PyData.plain]
    exact plain_toPs xs h
  | .scr _, h => by simp [isP] at h
  | .ref _, h => by simp [isP] at h
  | .adr _, h => by simp [isP] at h
  | .fd _ _, h => by simp [isP] at h
  | .exo _ _ _ _, h => by simp [isP] at h
  | .obj _ _ _, h => by simp [isP] at h
  | .sd _, h => by simp [isP] at h
  | .fnv _, h => by simp [isP] at h
theorem plain_toPs : ∀ ds : List D, isPs ds = true → PyData.plainAll (toPs ds) = true
  | [], _ => rfl
  | d :: ds, h => by
    simp only [isPs, Bool.and_eq_true] at h
    simp only [toPs, PyData.plainAll, plain_toP d h.1, plain_toPs ds h.2, Bool.and_self]
end
theorem dat_plain {st : Sto} {d : D} {p : PyData} (h : dat st d = some p) : p.plain = true := by
  unfold dat at h
  split at h
  · split at h
    · split at h
      · rename_i hp
        cases h
        simp only [PyData.plain]
        exact plain_toPs _ hp
      · cases h
    · cases h
  · split at h
    · rename_i hp
      cases h
      exact plain_toP _ hp
    · cases h
theorem op_pEq (hu : X.A.units + 64 < cLine) : OpR X (compareOp .Eq) (rP X.K pEq) := by
  intro pins s σ H x y v u Q I rx ry ⟨F, ι, st, a, b, d, S, ra, rb, e, q⟩
  unfold pEq at e
  split at e
  · rename_i x1 y1
    cases e
    have e1 : x = V.str x1 := by simpa only [Rep] using ra
    have e2 : y = V.str y1 := by simpa only [Rep] using rb
    subst e1
    subst e2
    refine op_eq pins s σ H _ _ v u Q I rx ry ⟨rfl, ?_⟩
    rw [dec_str]
    exact q F H _ Ext.refl S (by simp only [Rep])
  split at e
  · rename_i p1 p2 e1 e2
    split at e
    · rename_i hc
      cases e
      obtain ⟨as, r1⟩ := Dp.reads I p1 x v (S.dp ra e1) rx
      obtain ⟨bs, r2⟩ := Dp.reads I p2 y u (S.dp rb e2) ry
      exact SeqAt.eq_plain r1 r2 (dat_plain e1) (dat_plain e2) (by omega) ⟨.bl _, H, I, rfl, q F H _ Ext.refl S (by simp only [Rep])⟩
    · cases e
  · cases e
theorem op_pNe (hu : X.A.units + 64 < cLine) : OpR X (compareOp .NotEq) (rP X.K pNe) := by
  intro pins s σ H x y v u Q I rx ry ⟨F, ι, st, a, b, d, S, ra, rb, e, q⟩
  unfold pNe at e
  split at e
  · rename_i x1 y1
    cases e
    have e1 : x = V.str x1 := by simpa only [Rep] using ra
    have e2 : y = V.str y1 := by simpa only [Rep] using rb
    subst e1
    subst e2
    refine op_ne pins s σ H _ _ v u Q I rx ry ⟨rfl, ?_⟩
    rw [dec_str]
    exact q F H _ Ext.refl S (by simp only [Rep])
  split at e
  · rename_i p1 p2 e1 e2
    split at e
    · rename_i hc
      cases e
      obtain ⟨as, r1⟩ := Dp.reads I p1 x v (S.dp ra e1) rx
      obtain ⟨bs, r2⟩ := Dp.reads I p2 y u (S.dp rb e2) ry
      exact SeqAt.ne_plain r1 r2 (dat_plain e1) (dat_plain e2) (by omega) ⟨.bl _, H, I, rfl, q F H _ Ext.refl S (by simp only [Rep])⟩
    · cases e
  · cases e
def inD (st : Sto) (a b : D) : Option Bool := match b with
  | .str y => match a with
    | .str x => some (!(Builtin.Str.occurrences y x 0 y.length 1).isEmpty)
    | _ => none
  | b => match dat st a, dat st b with
    | some p, some (.list ds) => if p.depth ≤ 64 then some (ds.any fun z => PyData.eqv z p) else none
    | some p, some (.tuple ds) => if p.depth ≤ 64 then some (ds.any fun z => PyData.eqv z p) else none
    | _, _ => none
def pIn : Sto → D → D → Option D := fun st a b => (inD st a b).map fun k => .bl k
def pNotIn : Sto → D → D → Option D := fun st a b => (inD st a b).map fun k => .bl (!k)
theorem op_pIn (hu : X.A.units + 65 < cLine) : OpR X (compareOp .In) (rP X.K pIn) := by
  intro pins s σ H x y v u Q I rx ry ⟨F, ι, st, a, b, d, S, ra, rb, e, q⟩
  unfold pIn inD at e
  split at e
  · split at e
    · cases e
      simp only [Rep] at ra rb
      subst ra rb
      exact op_in_str pins s σ H _ _ v u Q I rx ry ⟨_, _, rfl, rfl, q F H _ Ext.refl S (by simp only [Rep])⟩
    · cases e
  · split at e
    · rename_i p ds e1 e2
      split at e
      · rename_i hc
        cases e
        obtain ⟨as, r1⟩ := Dp.reads I p x v (S.dp ra e1) rx
        obtain ⟨bs, r2⟩ := Dp.reads I (.list ds) y u (S.dp rb e2) ry
        exact SeqAt.in_list_data r2 r1 (by simpa only [PyData.plain] using dat_plain e2) (dat_plain e1) (by omega) ⟨.bl _, H, I, rfl, q F H _ Ext.refl S (by simp only [Rep])⟩
      · cases e
    · rename_i p ds e1 e2
      split at e
      · rename_i hc
        cases e
        obtain ⟨as, r1⟩ := Dp.reads I p x v (S.dp ra e1) rx
        obtain ⟨bs, r2⟩ := Dp.reads I (.tuple ds) y u (S.dp rb e2) ry
        exact SeqAt.in_tuple_data r2 r1 (by simpa only [PyData.plain] using dat_plain e2) (dat_plain e1) (by omega) ⟨.bl _, H, I, rfl, q F H _ Ext.refl S (by simp only [Rep])⟩
      · cases e
    · cases e
theorem op_pNotIn (hu : X.A.units + 65 < cLine) : OpR X (compareOp .NotIn) (rP X.K pNotIn) := by
  intro pins s σ H x y v u Q I rx ry ⟨F, ι, st, a, b, d, S, ra, rb, e, q⟩
  unfold pNotIn inD at e
  split at e
  · split at e
    · cases e
      simp only [Rep] at ra rb
      subst ra rb
      exact op_notin_str pins s σ H _ _ v u Q I rx ry ⟨_, _, rfl, rfl, q F H _ Ext.refl S (by simp only [Rep])⟩
    · cases e
  · split at e
    · rename_i p ds e1 e2
      split at e
      · rename_i hc
        cases e
        obtain ⟨as, r1⟩ := Dp.reads I p x v (S.dp ra e1) rx
        obtain ⟨bs, r2⟩ := Dp.reads I (.list ds) y u (S.dp rb e2) ry
        exact SeqAt.notIn_list_data r2 r1 (by simpa only [PyData.plain] using dat_plain e2) (dat_plain e1) (by omega) ⟨.bl _, H, I, rfl, q F H _ Ext.refl S (by simp only [Rep])⟩
      · cases e
    · rename_i p ds e1 e2
      split at e
      · rename_i hc
        cases e
        obtain ⟨as, r1⟩ := Dp.reads I p x v (S.dp ra e1) rx
        obtain ⟨bs, r2⟩ := Dp.reads I (.tuple ds) y u (S.dp rb e2) ry
        exact SeqAt.notIn_tuple_data r2 r1 (by simpa only [PyData.plain] using dat_plain e2) (dat_plain e1) (by omega) ⟨.bl _, H, I, rfl, q F H _ Ext.refl S (by simp only [Rep])⟩
      · cases e
    · cases e
def pLt : Sto → D → D → Option D := fun st a b => match a, b with
  | .int i, .int j => some (.bl (decide (i < j)))
  | .str x, .str y => some (.bl (decide (x.cps.toList < y.cps.toList)))
  | .tup xs, .tup ys => if isPs xs = true ∧ isPs ys = true ∧ PySem.W.alikeAll (toPs xs) (toPs ys) = true ∧ PyData.depth (toP (.tup xs)) ≤ 64 then some (.bl (PySem.W.dataLt (toP (.tup xs)) (toP (.tup ys)))) else none
  | _, _ => none
def pLe : Sto → D → D → Option D := fun _ a b => match a, b with
  | .int i, .int j => some (.bl (decide (i ≤ j)))
  | _, _ => none
def pGt : Sto → D → D → Option D := fun _ a b => match a, b with
  | .int i, .int j => some (.bl (decide (j < i)))
  | _, _ => none
def pGe : Sto → D → D → Option D := fun _ a b => match a, b with
  | .int i, .int j => some (.bl (decide (j ≤ i)))
  | _, _ => none
theorem op_cmpI {f : Value → Value → Sem Value} {g : Int → Int → Bool} {p : Sto → D → D → Option D} (ho : OpR X f (rI0 fun i j => .bl (g i j)))
    (hp : ∀ st a b d, p st a b = some d → ∃ i j, a = .int i ∧ b = .int j ∧ d = .bl (g i j)) : OpR X f (rP X.K p) := by
  intro pins s σ H x y v u Q I rx ry ⟨F, ι, st, a, b, d, S, ra, rb, e, q⟩
  obtain ⟨i, j, e1, e2, e3⟩ := hp st a b d e
  subst e1 e2 e3
  simp only [Rep] at ra rb
  subst ra rb
  exact ho pins s σ H _ _ v u Q I rx ry ⟨i, j, rfl, rfl, q F H _ Ext.refl S (by simp only [Rep])⟩
theorem op_pLt (hu : X.A.units + 65 < cLine) : OpR X (compareOp .Lt) (rP X.K pLt) := by
  intro pins s σ H x y v u Q I rx ry ⟨F, ι, st, a, b, d, S, ra, rb, e, q⟩
  unfold pLt at e
  split at e
  · cases e
    simp only [Rep] at ra rb
    subst ra rb
    exact op_lt pins s σ H _ _ v u Q I rx ry ⟨_, _, rfl, rfl, q F H _ Ext.refl S (by simp only [Rep])⟩
  · cases e
    simp only [Rep] at ra rb
    subst ra rb
    exact op_lt_str pins s σ H _ _ v u Q I rx ry ⟨_, _, rfl, rfl, q F H _ Ext.refl S (by simp only [Rep])⟩
  · split at e
    · rename_i xs ys hc
      cases e
      obtain ⟨h1, h2, h3, h4⟩ := hc
      obtain ⟨as, r1⟩ := Dp.reads I _ x v (dp_of S.sub (.tup xs) x (by simp only [isP]; exact h1) ra) rx
      obtain ⟨bs, r2⟩ := Dp.reads I _ y u (dp_of S.sub (.tup ys) y (by simp only [isP]; exact h2) rb) ry
      exact PySem.W.lt_data r1 r2 (by simp only [toP, PySem.W.alike]; exact h3) (by simp only [toP]; exact fun h => nomatch h) (by omega) ⟨.bl _, H, I, rfl, q F H _ Ext.refl S (by simp only [Rep])⟩
    · cases e
  · cases e
theorem op_pGt : OpR X (compareOp .Gt) (rP X.K pGt) := op_cmpI op_gt fun st a b d e => by
  unfold pGt at e
  split at e
  · cases e; exact ⟨_, _, rfl, rfl, rfl⟩
  · cases e
theorem op_pGe : OpR X (compareOp .GtE) (rP X.K pGe) := op_cmpI op_ge fun st a b d e => by
  unfold pGe at e
  split at e
  · cases e; exact ⟨_, _, rfl, rfl, rfl⟩
  · cases e
def D.isNon : D → Bool
  | .non => true
  | _ => false
def pIsNot : Sto → D → D → Option D := fun _ a b => match b with
  | .non => some (.bl (!a.isNon))
  | _ => none
theorem isNon_of {K : PySem.W.Frag} {F : Hp} {ι : List Addr} {d : D} {v : V} (r : Rep K F ι d v) : decide (v = V.non) = d.isNon := by
  cases d <;> simp only [Rep] at r <;> first
    | (subst r; rfl)
    | (subst r; exact decide_eq_false (fun h => nomatch h))
    | (obtain ⟨_, _, e, _⟩ := r; subst e; exact decide_eq_false (fun h => nomatch h))
    | (obtain ⟨_, e, _⟩ := r; subst e; exact decide_eq_false (fun h => nomatch h))
    | (obtain ⟨_, _, _, e, _⟩ := r; subst e; exact decide_eq_false (fun h => nomatch h))
    | (obtain ⟨_, _, _, _, e, _⟩ := r; subst e; exact decide_eq_false (fun h => nomatch h))
    | (rw [r.1]; exact decide_eq_false (fun h => nomatch h))
theorem op_pIsNot : OpR X (compareOp .IsNot) (rP X.K pIsNot) := by
  intro pins s σ H x y v u Q I rx ry ⟨F, ι, st, a, b, d, S, ra, rb, e, q⟩
  unfold pIsNot at e
  split at e
  · cases e
    simp only [Rep] at rb
    subst rb
    exact op_notN pins s σ H _ _ v u Q I rx ry ⟨rfl, by rw [isNon_of ra]; exact q F H _ Ext.refl S (by simp only [Rep])⟩
  · cases e
theorem de_cmp {op : CmpOp} {p : Sto → D → D → Option D} (ho : OpR X (compareOp op) (rP X.K p)) (ha : DE X W a m1) (hb : DE X W b m2) (hm : behindInMarks op b = false := by rfl) : DE X W (.Compare a [op] [b] pos) (mOp p m1 m2) :=
  PE.weak (pe_cmpR ho ha hb hm) fun _ _ _ h => tOp_of h
def isB (m : Rho → M D) : Rho → M Bool := fun ρ st => (m ρ st).bind fun d st1 => match d with
  | .bl k => .ok k st1
  | _ => .bad
theorem isB_of {K : PySem.W.Frag} {m : Rho → M D} {σ : L2.St} {H : Hp} {Q : Bool → Hp → Prop} (h : tT K W (isB m) σ H Q) : tTest (tV K W m) σ H Q := by
  obtain ⟨F, ι, ρ, st, S, R, q⟩ := h
  refine tG_seq back_B S R q fun d1 st1 F1 ι1 H1 v1 x1 S1 R1 r1 q1 => ?_
  split at q1
  · have r : Rep K F1 ι1 (.bl _) v1 := r1
    simp only [Rep] at r
    exact ⟨_, r, q1 F1 ι1 H1 _ Ext.refl S1 rfl⟩
  · exact q1.elim
theorem dt_cmp {op : CmpOp} {p : Sto → D → D → Option D} (ho : OpR X (compareOp op) (rP X.K p)) (ha : DE X W a m1) (hb : DE X W b m2) (hm : behindInMarks op b = false := by rfl) : DT X W (.Compare a [op] [b] pos) (isB (mOp p m1 m2)) :=
  PT.weak (pt_cmpR ho ha hb hm) fun σ H Q h => by
    have q := isB_of h
    unfold tTest at q ⊢
    exact tOp_of q
def D.truth (st : Sto) : D → Option Bool
  | .non => some false
  | .bl b => some b
  | .int i => some (i != 0)
  | .str s => if s.length ≤ sizeLine then some ((s.length : Int) != 0) else none
  | d => (seqOf st d).map fun xs => !xs.isEmpty
theorem isEmpty_reps {K : PySem.W.Frag} {F : Hp} {ι : List Addr} {xs : List D} {vs : List V} (r : Reps K F ι xs vs) : (!xs.isEmpty) = !vs.isEmpty := by
  have := r.length
  cases xs <;> cases vs <;> simp at this ⊢
theorem truth_of {K : PySem.W.Frag} {F : Hp} {ι : List Addr} {H : Hp} {st : Sto} {d : D} {v : V} {k : Bool} (S : Sim K F ι st H) (r : Rep K F ι d v) (h : d.truth st = some k) : TruV K v H k := by
  unfold D.truth at h
  split at h
  · cases h; simp only [Rep] at r; subst r; rfl
  · cases h; simp only [Rep] at r; subst r; rfl
  · cases h; simp only [Rep] at r; subst r; rfl
  · split at h
    · rename_i hz
      cases h; simp only [Rep] at r; subst r; exact ⟨hz, rfl⟩
    · cases h
  · cases e : seqOf st d with
    | none => rw [e] at h; cases h
    | some xs =>
      rw [e] at h
      cases h
      obtain ⟨a, vs, e1, hs, r1⟩ := S.seq r e
      subst e1
      show TruV K (V.ref a) H (!xs.isEmpty)
      rw [isEmpty_reps r1]
      rcases hs with hs | hs
      · exact .inl ⟨vs, hs, rfl⟩
      · exact .inr (.inl ⟨vs, hs, rfl⟩)
def mTru (m : Rho → M D) : Rho → M Bool := fun ρ st => (m ρ st).bind fun d st1 => lift (d.truth st1) st1
theorem dt_tru (ha : DE X W a m1) (he : ∀ whole, isTrue a X.env whole = (do let v ← whole; standAt a.pos; holding [v] (truthy v)) := by intro _; rfl) : DT X W a (mTru m1) := by
  refine PT.weak (pt_truth ha he) fun σ H Q ⟨F, ι, ρ, st, S, R, q⟩ => ?_
  refine tG_seq back_B S R q fun d1 st1 F1 ι1 H1 v1 x1 S1 R1 r1 q1 => ?_
  cases e : d1.truth st1 with
  | none => rw [e] at q1; exact q1.elim
  | some k =>
    rw [e] at q1
    exact ⟨k, truth_of S1 r1 e, q1 F1 ι1 H1 k Ext.refl S1 rfl⟩
def DW (X : Cx) (W : WX) (e : Expr) (m : Rho → M Bool) : Prop := PW X e (tT X.K W m)
theorem PW.weak {X : Cx} {e : Expr} {t t' : TT} (h : PW X e t) (w : ∀ σ H Q, t' σ H Q → t σ H Q) : PW X e t' := ⟨fun wh pins s σ H Q I q => h.run wh pins s σ H Q I (w σ H Q q)⟩
theorem dt_w {e : Expr} {m : Rho → M Bool} (h : DW X W e m) : DT X W e m := L2.PW.pt h
def bAnd (m1 m2 : Rho → M Bool) : Rho → M Bool := fun ρ st => (m1 ρ st).bind fun k st1 => if k = true then m2 ρ st1 else .ok false st1
def bOr (m1 m2 : Rho → M Bool) : Rho → M Bool := fun ρ st => (m1 ρ st).bind fun k st1 => if k = true then .ok true st1 else m2 ρ st1
def bNot (m1 : Rho → M Bool) : Rho → M Bool := fun ρ st => (m1 ρ st).bind fun k st1 => .ok (!k) st1
variable {b1 b2 : Rho → M Bool} {rest : List Expr}
theorem dw_and1 (ha : DT X W a b1) : DW X W (.BoolOp .And [a] pos) b1 := pw_and1 ha
theorem dw_and (ha : DT X W a b1) (hb : DW X W (.BoolOp .And (b :: rest) pos) b2) : DW X W (.BoolOp .And (a :: b :: rest) pos) (bAnd b1 b2) := by
  refine PW.weak (pw_and ha hb) fun σ H Q ⟨F, ι, ρ, st, S, R, q⟩ => ?_
  refine tG_seq back_B S R q fun k st1 F1 ι1 H1 k' x1 S1 R1 r1 q1 => ?_
  have r1 : k = k' := r1
  subst r1
  cases k with
  | true => exact ⟨F1, ι1, ρ, st1, S1, R1, q1⟩
  | false => exact q1 F1 ι1 H1 false Ext.refl S1 rfl
def mIf (t : Rho → M Bool) (m1 m2 : Rho → M D) : Rho → M D := fun ρ st => (t ρ st).bind fun k st1 => if k = true then m1 ρ st1 else m2 ρ st1
theorem de_if (hc : DT X W c b1) (ha : DE X W a m1) (hb : DE X W b m2) : DE X W (.IfExp c a b pos) (mIf b1 m1 m2) := by
  refine PE.weak (pe_ifExp hc ha hb) fun σ H Q ⟨F, ι, ρ, st, S, R, q⟩ => ?_
  refine tG_seq back_V S R q fun k st1 F1 ι1 H1 k' x1 S1 R1 r1 q1 => ?_
  have r1 : k = k' := r1
  subst r1
  cases k with
  | true => exact ⟨F1, ι1, ρ, st1, S1, R1, q1⟩
  | false => exact ⟨F1, ι1, ρ, st1, S1, R1, q1⟩
end
end Dn
namespace Dn
open PySem PySem.Spec PyProof.Rows L2
section
variable {X : Cx} {W : WX} {pos p2 : Pos} {a b c : Expr} {m1 m2 m3 : Rho → M D}
theorem atI_reps {K : PySem.W.Frag} {F : Hp} {ι : List Addr} {xs : List D} {vs : List V} {i : Int} {d : D} (r : Reps K F ι xs vs) (h : atI xs i = some d) : ∃ v, atI vs i = some v ∧ Rep K F ι d v := by
  unfold atI at h ⊢
  rw [← r.length]
  cases e : ixN xs.length i with
  | none => rw [e] at h; cases h
  | some j =>
    rw [e] at h
    exact r.get h
def pIdx : Sto → D → D → Option D := fun st a i => match a, i with
  | .str z, .int i => if z.length ≤ sizeLine then (atI z.cps.toList i).map fun c => .str ⟨#[c]⟩ else none
  | a, .int i => (seqOf st a).bind fun xs => atI xs i
  | _, _ => none
theorem ix_pIdx : IxR X (rP X.K pIdx) := by
  intro value slice pins s σ H x y v u Q I rx ry ⟨F, ι, st, a, b, d, S, ra, rb, e, q⟩ hs
  unfold pIdx at e
  split at e
  · split at e
    · rename_i hz
      rename_i i
      simp only [Rep] at ra rb
      subst ra rb
      rename_i z
      cases e2 : atI z.cps.toList i with
      | none => rw [e2] at e; cases e
      | some cc =>
        rw [e2] at e
        cases e
        exact ix_seq value slice pins s σ H _ _ v u Q I rx ry (.inr (.inr ⟨_, _, cc, rfl, rfl, hz, e2, q F H _ Ext.refl S (by simp only [Rep])⟩)) hs
    · cases e
  · rename_i i hn
    cases e1 : seqOf st a with
    | none => rw [e1] at e; cases e
    | some xs =>
      rw [e1] at e
      have e : atI xs i = some d := e
      obtain ⟨p, vs, e2, h2, r⟩ := S.seq ra e1
      simp only [Rep] at rb
      subst e2 rb
      obtain ⟨w, hw, rw'⟩ := atI_reps r e
      rcases h2 with h2 | h2
      · exact ix_seq value slice pins s σ H _ _ v u Q I rx ry (.inl ⟨p, vs, i, w, rfl, rfl, h2, hw, q F H _ Ext.refl S rw'⟩) hs
      · exact ix_seq value slice pins s σ H _ _ v u Q I rx ry (.inr (.inl ⟨p, vs, i, w, rfl, rfl, h2, hw, q F H _ Ext.refl S rw'⟩)) hs
  · cases e
theorem de_idx (ha : DE X W a m1) (hb : DE X W b m2) (hs : PlainIx b := by intro _ _; rfl) : DE X W (.Subscript a b pos) (mOp pIdx m1 m2) :=
  PE.weak (pe_ix ix_pIdx ha hb hs) fun _ _ _ h => tOp_of h
def pO : Hp → Hp → List Addr → Hp → Option Int → Option Int → Prop := fun _ _ _ _ b c => b = c
theorem back_O : Back pO := fun _ _ _ _ _ _ _ _ h => h
def DO (X : Cx) (W : WX) (e : Option Expr) (m : Rho → M (Option Int)) : Prop := PO X e (tG X.K W pO m)
theorem PO.weak {X : Cx} {e : Option Expr} {t t' : TO} (h : PO X e t) (w : ∀ σ H Q, t' σ H Q → t σ H Q) : PO X e t' := ⟨fun pins s σ H Q I q => h.run pins s σ H Q I (w σ H Q q)⟩
def oNone : Rho → M (Option Int) := fun _ st => .ok none st
def oSome (m : Rho → M D) : Rho → M (Option Int) := fun ρ st => (m ρ st).bind fun d st1 => match d with
  | .int i => .ok (some i) st1
  | _ => .bad
theorem do_none : DO X W none oNone := PO.weak po_none fun σ H Q ⟨F, ι, ρ, st, S, R, q⟩ => q F ι H none Ext.refl S rfl
theorem do_some (ha : DE X W a m1) : DO X W (some a) (oSome m1) := by
  refine PO.weak (po_some ha) fun σ H Q ⟨F, ι, ρ, st, S, R, q⟩ => ?_
  refine tG_seq back_O S R q fun d1 st1 F1 ι1 H1 v1 x1 S1 R1 r1 q1 => ?_
  split at q1
  · have r : Rep X.K F1 ι1 (.int _) v1 := r1
    simp only [Rep] at r
    exact ⟨_, r, q1 F1 ι1 H1 _ Ext.refl S1 rfl⟩
  · exact q1.elim
def cutD {α : Type} (xs : List α) (lo hi : Option Int) : List α := (xs.drop (HT.sIx xs.length 0 lo)).take (HT.sIx xs.length xs.length hi - HT.sIx xs.length 0 lo)
theorem Reps.drop {K : PySem.W.Frag} {F : Hp} {ι : List Addr} : ∀ {xs : List D} {vs : List V} (n : Nat), Reps K F ι xs vs → Reps K F ι (xs.drop n) (vs.drop n)
  | _, _, 0, r => r
  | [], _, _ + 1, r => by simp only [Reps] at r; subst r; exact Reps.nil
  | d :: ds, _, n + 1, r => by
    simp only [Reps] at r
    obtain ⟨v, rs, e, _, r2⟩ := r
    subst e
    exact Reps.drop n r2
theorem Reps.take {K : PySem.W.Frag} {F : Hp} {ι : List Addr} : ∀ {xs : List D} {vs : List V} (n : Nat), Reps K F ι xs vs → Reps K F ι (xs.take n) (vs.take n)
  | _, _, 0, r => by simp; exact Reps.nil
  | [], _, _ + 1, r => by simp only [Reps] at r; subst r; exact Reps.nil
  | d :: ds, _, n + 1, r => by
    simp only [Reps] at r
    obtain ⟨v, rs, e, r1, r2⟩ := r
    subst e
    exact Reps.cons r1 (Reps.take n r2)
theorem Reps.rev {K : PySem.W.Frag} {F : Hp} {ι : List Addr} : ∀ {xs : List D} {vs : List V}, Reps K F ι xs vs → Reps K F ι xs.reverse vs.reverse
  | [], _, r => by simp only [Reps] at r; subst r; exact Reps.nil
  | d :: ds, _, r => by
    simp only [Reps] at r
    obtain ⟨v, rs, e, r1, r2⟩ := r
    subst e
    rw [List.reverse_cons, List.reverse_cons]
    exact (Reps.rev r2).snoc r1
theorem cut_reps {K : PySem.W.Frag} {F : Hp} {ι : List Addr} {xs : List D} {vs : List V} (r : Reps K F ι xs vs) (lo hi : Option Int) : Reps K F ι (cutD xs lo hi) (cutV vs lo hi) := by
  unfold cutD cutV
  rw [← r.length]
  exact (r.drop _).take _
def lSlL (m : Rho → M D) (l h : Rho → M (Option Int)) : Rho → M (List D) := fun ρ st => (m ρ st).bind fun d st1 => (l ρ st1).bind fun lo st2 => (h ρ st2).bind fun hi st3 => match d with
  | .scr xs => .ok (cutD xs lo hi) st3
  | d => (lift (lstOf st3 d) st3).bind fun xs st4 => .ok (cutD xs lo hi) st4
theorem dl_slL {lo hi : Option Expr} {l h : Rho → M (Option Int)} (ha : DE X W a m1) (hl : DO X W lo l) (hh : DO X W hi h) : DL X W (.Subscript a (.Slice lo hi none p2) pos) (lSlL m1 l h) := by
  refine PE.weak (pe_slice sl_list ha hl hh) fun σ H Q ⟨F, ι, ρ, st, S, R, q⟩ => ?_
  refine tG_seq back_L S R q fun d st1 F1 ι1 H1 v1 x1 S1 R1 r1 q1 => ?_
  refine tG_seq back_L S1 R1 q1 fun lo st2 F2 ι2 H2 lo' x2 S2 R2 r2 q2 => ?_
  refine tG_seq back_L S2 R2 q2 fun hi st3 F3 ι3 H3 hi' x3 S3 R3 r3 q3 => ?_
  have r2 : lo = lo' := r2
  have r3 : hi = hi' := r3
  subst r2 r3
  have r : Rep X.K F3 ι3 d v1 := (Rep.ext r1 x2).ext x3
  split at q3
  · rename_i xs
    simp only [Rep] at r
    obtain ⟨p, vs, e, hq, rr⟩ := r
    subst e
    exact ⟨p, vs, rfl, S3.sqL hq, fun n hn => q3 F3 ι3 _ _ (Ext.laid hn) (S3.laid hn) (pL_new S3 hn (cut_reps rr lo hi))⟩
  · cases e : lstOf st3 d with
    | none => rw [e] at q3; exact q3.elim
    | some xs =>
      rw [e] at q3
      obtain ⟨p, vs, e2, hq, rr⟩ := S3.lst r e
      subst e2
      exact ⟨p, vs, rfl, SqL.of hq, fun n hn => q3 F3 ι3 _ _ (Ext.laid hn) (S3.laid hn) (pL_new S3 hn (cut_reps rr lo hi))⟩
def SlR3 (X : Cx) (r : V → Hp → VK → Prop) : Prop :=
  ∀ (pins : List (Addr × Obj)) (s : Shared) (σ : L2.St) (H : Hp) (x : V) (v vk : Value) (sl : Addr) (Q : VK), Inv X pins σ H s → RelV x v → s.heap.IsSliceOf sl .none .none vk → IsPart vk (some (-1)) → r x H Q →
    ∃ T id, typeLookup (.type T) "__getitem__" = pure (some (.builtin id)) ∧ s.TypeIs v T ∧ wpAny (model X.prog X.w) X.A (getItem v (.ref sl)) (EP X pins σ Q) X.xe s
theorem pe_rev {r : V → Hp → VK → Prop} {te : TE} (hr : SlR3 X r) (he : PE X a te) {j1 : Nat} {q1 q2 : Pos} : PE X (.Subscript a (.Slice none none (some (.UnaryOp .USub (.Constant (.int 1) j1 q1) q2)) p2) pos) (fun σ H Q => te σ H fun x H1 => r x H1 Q) := by
  refine ⟨fun pins s σ H Q I h => ?_⟩
  refine Subscript_ (thn (he.run pins s σ H _ I h) fun v s1 ⟨x, H1, I1, r1, g1⟩ => ?_)
  refine wpAny_Slice ?_
  rw [evalPart_none, evalPart_some]
  refine wpAny_pure (wpAny_pure ?_)
  refine thn ((pe_un (pos := q2) un_neg (pe_int (i := 1) (j := j1) (pos := q1))).run pins s1 σ H1 (fun y H2 => y = .int (-1) ∧ H2 = H1) I1 ⟨1, rfl, rfl, rfl⟩) fun vk s2 ⟨y, H2, I2, r2, ey, eH⟩ => ?_
  subst ey eH
  obtain ⟨t, rfl⟩ := r2
  have I4 : Inv X pins σ H2 { s2 with heap := s2.heap.push { cls := .type "slice", data := .fields #[.none, .none, .int (-1) t] } } := I2.kept (t' := s2.toks) fun b ob q => Heap.get?_push_of_some _ q
  obtain ⟨T, id, hT, ht, hg⟩ := hr pins { s2 with heap := s2.heap.push { cls := .type "slice", data := .fields #[.none, .none, .int (-1) t] } } σ H2 x v _ s2.heap.objs.size Q I4 r1 (Heap.IsSliceOf.new ..) (.int _ t) g1
  show wpAny (model X.prog X.w) X.A (subscriptTail a (.Slice none none (some (.UnaryOp .USub (.Constant (.int 1) j1 _) q2)) p2) v (.ref s2.heap.objs.size)) (EP X pins σ Q) X.xe { s2 with heap := s2.heap.push { cls := .type "slice", data := .fields #[.none, .none, .int (-1) t] } }
  exact tail_any (ops := [v, .ref s2.heap.objs.size]) ht hT hg (by with_unfolding_all rfl)
theorem sl_revL : SlR3 X (fun x H Q => ∃ a xs, x = .ref a ∧ SqL X.K H a xs ∧ ∀ p, H p = none → Q (.ref p) (upd H p (.lst xs.reverse))) := by
  intro pins s σ H x v vk sl Q I rx hs pk ⟨a, xs, e, hx, q⟩
  subst e
  cases rx
  obtain ⟨its, r, ht, hz⟩ := I.list hx
  have hlen := r.length
  refine ⟨"list", _, slot_list_getitem.lookup, ht.isList.typeIs, ?_⟩
  refine wpAny_getItem_list_slice ht.isList hs .none .none pk (by decide) ?_ (by rw [List.size_toArray]; omega)
  rw [PySem.W.krv_pick]
  refine ⟨.ref s.heap.objs.size, _, I.laid (t' := s.toks) (o := .lst xs.reverse) (fun b ob q => Heap.get?_push_of_some _ q) (Nat.le_refl _) ?_, rfl, q _ (I.hok.fresh (Nat.le_refl _))⟩
  exact ⟨by rw [List.length_reverse]; exact hz, its.reverse, 0, r.reverse, Heap.get?_push_size _ rfl⟩
def lRevL (m : Rho → M D) : Rho → M (List D) := fun ρ st => (m ρ st).bind fun d st1 => (lift (lstOf st1 d) st1).bind fun xs st2 => .ok xs.reverse st2
theorem dl_revL {j1 : Nat} {q1 q2 : Pos} (ha : DE X W a m1) : DL X W (.Subscript a (.Slice none none (some (.UnaryOp .USub (.Constant (.int 1) j1 q1) q2)) p2) pos) (lRevL m1) := by
  refine PE.weak (pe_rev sl_revL ha) fun σ H Q ⟨F, ι, ρ, st, S, R, q⟩ => ?_
  refine tG_seq back_L S R q fun d st1 F1 ι1 H1 v1 x1 S1 R1 r1 q1 => ?_
  cases e : lstOf st1 d with
  | none => rw [e] at q1; exact q1.elim
  | some xs =>
    rw [e] at q1
    obtain ⟨p, vs, e2, hq, rr⟩ := S1.lst r1 e
    exact ⟨p, vs, e2, SqL.of hq, fun n hn => q1 F1 ι1 _ _ (Ext.laid hn) (S1.laid hn) (pL_new S1 hn rr.rev)⟩
end
end Dn
namespace Dn
open PySem PySem.Spec PyProof.Rows L2
def rB (K : PySem.W.Frag) (p : Sto → List D → Option D) : List V → Hp → VK → Prop := fun vs H Q => ∃ F ι st ds d, Sim K F ι st H ∧ Reps K F ι ds vs ∧ p st ds = some d ∧
  ∀ F' H' v, Ext F ι H F' ι H' → Sim K F' ι st H' → Rep K F' ι d v → Q v H'
def rBL (K : PySem.W.Frag) (p : Sto → List D → Option (List D)) : List V → Hp → VK → Prop := fun vs H Q => ∃ F ι st ds xs, Sim K F ι st H ∧ Reps K F ι ds vs ∧ p st ds = some xs ∧
  ∀ H' v, Ext F ι H F ι H' → Sim K F ι st H' → pL K H F ι H' xs v → Q v H'
def mB (p : Sto → List D → Option D) (a : Rho → M (List D)) : Rho → M D := fun ρ st => (a ρ st).bind fun ds st1 => lift (p st1 ds) st1
def lB (p : Sto → List D → Option (List D)) (a : Rho → M (List D)) : Rho → M (List D) := fun ρ st => (a ρ st).bind fun ds st1 => lift (p st1 ds) st1
section
variable {X : Cx} {W : WX} {pos p2 p : Pos} {e : Expr} {es : List Expr} {bid T : String} {x : Str} {m1 m2 : Rho → M D} {am : Rho → M (List D)} {pf : Sto → List D → Option D} {pl : Sto → List D → Option (List D)}
theorem tCB_of {σ : L2.St} {H : Hp} {Q : VK} (h : tV X.K W (mB pf am) σ H Q) : tCB (rB X.K pf) (tA X.K W am) σ H Q := by
  obtain ⟨F, ι, ρ, st, S, R, q⟩ := h
  refine tG_seq back_V S R q fun ds st1 F1 ι1 H1 vs x1 S1 R1 r1 q1 => ?_
  cases e : pf st1 ds with
  | none => rw [e] at q1; exact q1.elim
  | some d =>
    rw [e] at q1
    exact ⟨F1, ι1, st1, ds, d, S1, r1, e, fun F' H' v x S' r => q1 F' ι1 H' v x S' r⟩
theorem tCBL_of {σ : L2.St} {H : Hp} {Q : VK} (h : tL X.K W (lB pl am) σ H Q) : tCB (rBL X.K pl) (tA X.K W am) σ H Q := by
  obtain ⟨F, ι, ρ, st, S, R, q⟩ := h
  refine tG_seq back_L S R q fun ds st1 F1 ι1 H1 vs x1 S1 R1 r1 q1 => ?_
  cases e : pl st1 ds with
  | none => rw [e] at q1; exact q1.elim
  | some d =>
    rw [e] at q1
    exact ⟨F1, ι1, st1, ds, d, S1, r1, e, fun H' v x S' r => q1 F1 ι1 H' v x S' r⟩
theorem de_b (hc : CallR X (.builtin bid) (rB X.K pf)) (hg : Gl X x) (hm : X.mg x = none) (hv : bootBuiltins x = some (.builtin bid)) (ha : DA X W (e :: es) am) (hn : x ≠ "__name__" := by decide) (hdb : (x == ("__debug__" : Str)) = false := by decide)
    (he : starEach (e :: es) X.env = (false, eval e X.env) :: starEach es X.env := by rfl) (hpl : (backTo pos (starEach es X.env)).any (·.1) = false := by rfl) : DE X W (.Call (.Name x p) (e :: es) [] pos) (mB pf am) :=
  PE.weak (pe_callB hc hg hm hv ha hn hdb he hpl) fun _ _ _ h => tCB_of h
theorem de_bT (hc : CallR X (.type T) (rB X.K pf)) (hg : Gl X x) (hm : X.mg x = none) (hv : bootBuiltins x = some (.type T)) (ha : DA X W (e :: es) am) (hn : x ≠ "__name__" := by decide) (hdb : (x == ("__debug__" : Str)) = false := by decide)
    (he : starEach (e :: es) X.env = (false, eval e X.env) :: starEach es X.env := by rfl) (hpl : (backTo pos (starEach es X.env)).any (·.1) = false := by rfl) : DE X W (.Call (.Name x p) (e :: es) [] pos) (mB pf am) :=
  PE.weak (pe_callTy hc hg hm hv ha hn hdb he hpl) fun _ _ _ h => tCB_of h
theorem dl_b (hc : CallR X (.builtin bid) (rBL X.K pl)) (hg : Gl X x) (hm : X.mg x = none) (hv : bootBuiltins x = some (.builtin bid)) (ha : DA X W (e :: es) am) (hn : x ≠ "__name__" := by decide) (hdb : (x == ("__debug__" : Str)) = false := by decide)
    (he : starEach (e :: es) X.env = (false, eval e X.env) :: starEach es X.env := by rfl) (hpl : (backTo pos (starEach es X.env)).any (·.1) = false := by rfl) : DL X W (.Call (.Name x p) (e :: es) [] pos) (lB pl am) :=
  PE.weak (pe_callB hc hg hm hv ha hn hdb he hpl) fun _ _ _ h => tCBL_of h
theorem dl_bT (hc : CallR X (.type T) (rBL X.K pl)) (hg : Gl X x) (hm : X.mg x = none) (hv : bootBuiltins x = some (.type T)) (ha : DA X W (e :: es) am) (hn : x ≠ "__name__" := by decide) (hdb : (x == ("__debug__" : Str)) = false := by decide)
    (he : starEach (e :: es) X.env = (false, eval e X.env) :: starEach es X.env := by rfl) (hpl : (backTo pos (starEach es X.env)).any (·.1) = false := by rfl) : DL X W (.Call (.Name x p) (e :: es) [] pos) (lB pl am) :=
  PE.weak (pe_callTy hc hg hm hv ha hn hdb he hpl) fun _ _ _ h => tCBL_of h
theorem Reps.one {K : PySem.W.Frag} {F : Hp} {ι : List Addr} {d : D} {vs : List V} (r : Reps K F ι [d] vs) : ∃ v, vs = [v] ∧ Rep K F ι d v := by
  simp only [Reps] at r
  obtain ⟨v, r', e, h, e2⟩ := r
  subst e2
  exact ⟨v, e, h⟩
theorem Reps.two {K : PySem.W.Frag} {F : Hp} {ι : List Addr} {d d' : D} {vs : List V} (r : Reps K F ι [d, d'] vs) : ∃ v v', vs = [v, v'] ∧ Rep K F ι d v ∧ Rep K F ι d' v' := by
  simp only [Reps] at r
  obtain ⟨v, r', e, h, v', r'', e', h', e2⟩ := r
  subst e2 e'
  exact ⟨v, v', e, h, h'⟩
def pLen : Sto → List D → Option D := fun st ds => match ds with
  | [.str z] => if z.length ≤ sizeLine then some (.int z.length) else none
  | [d] => (seqOf st d).map fun xs => .int xs.length
  | _ => none
theorem call_pLen : CallR X (.builtin "len") (rB X.K pLen) := by
  intro pins s σ H vs us Q I rv ⟨F, ι, st, ds, d, S, ra, e, q⟩
  unfold pLen at e
  split at e
  · split at e
    · rename_i hz
      cases e
      obtain ⟨v, e1, r⟩ := ra.one
      simp only [Rep] at r
      subst e1 r
      exact call_len_str pins s σ H _ us Q I rv ⟨_, rfl, hz, q F H _ Ext.refl S (by simp only [Rep])⟩
    · cases e
  · rename_i d' _
    cases e1 : seqOf st d' with
    | none => rw [e1] at e; cases e
    | some xs =>
      rw [e1] at e
      cases e
      obtain ⟨v, e2, r⟩ := ra.one
      obtain ⟨a, ys, e3, hs, rr⟩ := S.seq r e1
      subst e2 e3
      exact call_len_seq pins s σ H _ us Q I rv ⟨a, ys, rfl, hs, q F H _ Ext.refl S (by simp only [Rep]; rw [rr.length])⟩
  · cases e
def pInt : Sto → List D → Option D := fun _ ds => match ds with
  | [.int i] => some (.int i)
  | [.bl k] => some (.int (if k then 1 else 0))
  | _ => none
theorem call_pInt : CallR X (.type "int") (rB X.K pInt) := by
  intro pins s σ H vs us Q I rv ⟨F, ι, st, ds, d, S, ra, e, q⟩
  unfold pInt at e
  split at e
  · cases e
    obtain ⟨v, e1, r⟩ := ra.one
    simp only [Rep] at r
    subst e1 r
    exact call_int1 pins s σ H _ us Q I rv (.inl ⟨_, rfl, q F H _ Ext.refl S (by simp only [Rep])⟩)
  · cases e
    obtain ⟨v, e1, r⟩ := ra.one
    simp only [Rep] at r
    subst e1 r
    exact call_int1 pins s σ H _ us Q I rv (.inr ⟨_, rfl, q F H _ Ext.refl S (by simp only [Rep])⟩)
  · cases e
def blOf : List D → Option (List Bool)
  | [] => some []
  | .bl b :: r => (blOf r).map (b :: ·)
  | _ => none
theorem blOf_map : ∀ bs : List Bool, blOf (bs.map D.bl) = some bs
  | [] => rfl
  | b :: r => by rw [List.map_cons, blOf, blOf_map r]; rfl
theorem reps_bl {K : PySem.W.Frag} {F : Hp} {ι : List Addr} : ∀ {ds : List D} {bs : List Bool} {vs : List V}, Reps K F ι ds vs → blOf ds = some bs → vs = bs.map V.bl
  | [], _, _, r, h => by simp only [Reps] at r; cases h; subst r; rfl
  | .bl b :: ds, bs, vs, r, h => by
    simp only [Reps, Rep] at r
    obtain ⟨v, rs, e, e1, r2⟩ := r
    unfold blOf at h
    cases e2 : blOf ds with
    | none => rw [e2] at h; cases h
    | some cs =>
      rw [e2] at h
      cases h
      rw [e, e1, reps_bl r2 e2]
      rfl
  | .non :: _, _, _, _, h => by simp [blOf] at h
  | .int _ :: _, _, _, _, h => by simp [blOf] at h
  | .str _ :: _, _, _, _, h => by simp [blOf] at h
  | .tup _ :: _, _, _, _, h => by simp [blOf] at h
  | .lst _ :: _, _, _, _, h => by simp [blOf] at h
  | .scr _ :: _, _, _, _, h => by simp [blOf] at h
  | .ref _ :: _, _, _, _, h => by simp [blOf] at h
  | .adr _ :: _, _, _, _, h => by simp [blOf] at h
  | .fd _ _ :: _, _, _, _, h => by simp [blOf] at h
  | .exo _ _ _ _ :: _, _, _, _, h => by simp [blOf] at h
  | .obj _ _ _ :: _, _, _, _, h => by simp [blOf] at h
  | .sd _ :: _, _, _, _, h => by simp [blOf] at h
  | .fnv _ :: _, _, _, _, h => by simp [blOf] at h
def pAny : Sto → List D → Option D := fun st ds => match ds with
  | [d] => ((lstOf st d).bind blOf).map fun bs => .bl (bs.any id)
  | _ => none
theorem call_pAny (hc : X.calm = true) : CallR X (.builtin "any") (rB X.K pAny) := by
  intro pins s σ H vs us Q I rv ⟨F, ι, st, ds, d, S, ra, e, q⟩
  unfold pAny at e
  split at e
  · rename_i d'
    cases e1 : lstOf st d' with
    | none => rw [e1] at e; cases e
    | some xs =>
      rw [e1] at e
      have e : (blOf xs).map (fun bs => D.bl (bs.any id)) = some d := e
      cases e2 : blOf xs with
      | none => rw [e2] at e; cases e
      | some bs =>
        rw [e2] at e
        cases e
        obtain ⟨v, e3, r⟩ := ra.one
        obtain ⟨a, ys, e4, hs, rr⟩ := S.lst r e1
        subst e3 e4
        have e5 := reps_bl rr e2
        subst e5
        exact cr_any hc pins s σ H _ us Q I rv ⟨a, bs, rfl, SqL.of hs, q F H _ Ext.refl S (by simp only [Rep])⟩
  · cases e
def pRepr : Sto → List D → Option D := fun st ds => match ds with
  | [d] => (dat st d).bind fun p => if SeqAt.shaped p = true ∧ p.showable = true ∧ p.shown.length ≤ sizeLine then some (.str p.shown) else none
  | _ => none
theorem call_pRepr (hg : X.A.guards = some []) (hu : X.A.units + 70 < cLine) : CallR X (.builtin "repr") (rB X.K pRepr) := by
  intro pins s σ H vs us Q I rv ⟨F, ι, st, ds, d, S, ra, e, q⟩
  unfold pRepr at e
  split at e
  · rename_i d'
    cases e1 : dat st d' with
    | none => rw [e1] at e; cases e
    | some p =>
      rw [e1] at e
      have e : (if SeqAt.shaped p = true ∧ p.showable = true ∧ p.shown.length ≤ sizeLine then some (D.str p.shown) else none) = some d := e
      split at e
      · rename_i hc
        cases e
        obtain ⟨h1, h2, h3⟩ := hc
        obtain ⟨v, e2, r⟩ := ra.one
        subst e2
        obtain ⟨u, eu, ru⟩ := rv.one
        subst eu
        have hq : ∀ (h' : Heap) (t : Tok) (tk : Nat), (∀ b o, s.heap.get? b = some o → h'.get? b = some o) → EP X pins σ Q (.str p.shown t) { s with heap := h', toks := tk } := fun h' t tk k =>
          ⟨.str p.shown, H, I.kept k, ⟨t, rfl⟩, q F H _ Ext.refl S (by simp only [Rep])⟩
        have hd := S.dp r e1
        obtain ⟨as, rd⟩ := Dp.reads I p v u hd ru
        have hdep : p.depth ≤ 64 := by
          unfold SeqAt.shaped at h1
          simp only [Bool.and_eq_true, decide_eq_true_eq] at h1
          exact h1.2
        have hno : p.hasDict = false := PyData.hasDict_of_canLay p (SeqAt.canLay_of_shaped h1)
        cases v with
        | ref a =>
          cases ru
          exact repr_of_reads' rd h2 (PyData.noDict_hsm hno) hg (by omega) (fun _ _ h => h) (fun h' t tk k => hq h' t tk k) h3
        | non =>
          cases ru
          cases hd
          exact PySem.P.repr_of_none (hq s.heap _ _ fun _ _ h => h)
        | bl b =>
          cases ru
          cases hd
          exact PySem.P.repr_of_bool (hq s.heap _ _ fun _ _ h => h)
        | int i =>
          obtain ⟨t, rfl⟩ := ru
          cases hd
          simp only [PyData.showable, decide_eq_true_eq] at h2
          exact PySem.P.repr_of_int h2 (hq s.heap _ _ fun _ _ h => h)
        | str i =>
          obtain ⟨t, rfl⟩ := ru
          cases hd
          exact PySem.P.repr_of_str (hq s.heap _ _ fun _ _ h => h) h3
        | byt _ => cases hd
        | flt _ => cases hd
        | ty _ => cases hd
      · cases e
  · cases e
def pTuple : Sto → List D → Option D := fun st ds => match ds with
  | [.tup xs] => some (.tup xs)
  | [d] => (lstOf st d).map fun xs => .tup xs
  | _ => none
theorem call_tupP : CallR X (.type "tuple") (fun xs H Q => ∃ p ys, xs = [.ref p] ∧ SqL X.K H p ys ∧ ∀ (l : Addr) (o : Obj), o.dict = none → H l = none → Q (.ref l) (upd H l (.frz o (.tup ys)))) := by
  intro pins s σ H xs us Q I r ⟨p, ys, e, hq, q⟩
  subst e
  obtain ⟨u, rfl, rx⟩ := vals1 r
  cases rx
  obtain ⟨its, r', pl, hz⟩ := I.list hq
  have hl := r'.length
  refine call_tuple_list pl.isList (fun h' kp => ?_) (by rw [List.size_toArray]; omega)
  have I1 : Inv X pins σ H { s with heap := h' } := I.kept (t' := s.toks) kp
  exact fin_tup (t' := s.toks) I1 r' hz q
theorem call_pTuple : CallR X (.type "tuple") (rB X.K pTuple) := by
  intro pins s σ H vs us Q I rv ⟨F, ι, st, ds, d, S, ra, e, q⟩
  unfold pTuple at e
  split at e
  · cases e
    obtain ⟨v, e1, r⟩ := ra.one
    have r' := r
    simp only [Rep] at r
    obtain ⟨a, ys, e2, hs, rr⟩ := r
    subst e1 e2
    exact call_tuple_of pins s σ H _ us Q I rv ⟨a, ys, rfl, .inr ⟨S.sqT hs, q F H _ Ext.refl S r'⟩⟩
  · rename_i d' _
    cases e1 : lstOf st d' with
    | none => rw [e1] at e; cases e
    | some xs =>
      rw [e1] at e
      cases e
      obtain ⟨v, e3, r⟩ := ra.one
      obtain ⟨a, ys, e4, hs, rr⟩ := S.lst r e1
      subst e3 e4
      exact call_tupP pins s σ H _ us Q I rv ⟨a, ys, rfl, SqL.of hs, new_tup S rr q⟩
  · cases e
def pList : Sto → List D → Option (List D) := fun st ds => match ds with
  | [d] => seqOf st d
  | _ => none
theorem call_pList : CallR X (.type "list") (rBL X.K pList) := by
  intro pins s σ H vs us Q I rv ⟨F, ι, st, ds, d, S, ra, e, q⟩
  unfold pList at e
  split at e
  · obtain ⟨v, e3, r⟩ := ra.one
    obtain ⟨a, ys, e4, hs, rr⟩ := S.seq r e
    subst e3 e4
    exact call_list_of pins s σ H _ us Q I rv ⟨a, ys, rfl, hs, fun l hl => q _ _ (Ext.laid hl) (S.laid hl) (pL_new S hl rr)⟩
  · cases e
end
end Dn
namespace Dn
open PySem PySem.Spec PyProof.Rows L2
inductive SK where
  | l | t
def SqX (K : PySem.W.Frag) (H : Hp) : SK → Addr → List V → Prop
  | .l, a, xs => SqL K H a xs
  | .t, a, xs => SqT K H a xs
def IsSq (h : Heap) : SK → Addr → Array Value → Prop
  | .l, a, xs => h.IsList a xs
  | .t, a, xs => h.IsTuple a xs
def ItAt (h : Heap) : SK → Addr → Addr → Nat → Prop
  | .l, it, a, i => h.IsListIter it a i
  | .t, it, a, i => h.IsTupleIter it a i
def itObj (a : Addr) : SK → Obj
  | .l => { cls := .type "list_iterator", data := .fields #[.ref a, .int 0 0] }
  | .t => { cls := .type "tuple_iterator", data := .fields #[.ref a, .int 0 0] }
theorem begins_sq (k : SK) (a : Addr) (items : Array Value) : Begins (.ref a) (itObj a k) fun h => IsSq h k a items := by
  cases k with
  | l => exact begins_list a items
  | t => exact begins_tuple a items
theorem draws_sq {prog : Program} {w : World} {A : Around} (hh : A.handled = none) (k : SK) (it a : Addr) (hne : a ≠ it) (items : Array Value) :
    Draws prog w A it [it, a] items.size (fun i v => items[i]? = some v) (fun i h => ItAt h k it a i ∧ IsSq h k a items) := by
  cases k with
  | l => exact Draws.list hh it a hne items
  | t => exact Draws.tuple hh it a hne items
theorem ItAt.obj {h : Heap} {k : SK} {it a : Addr} {i : Nat} (x : ItAt h k it a i) : ∃ o n vs, h.get? it = some o ∧ o.cls = .type n ∧ o.data = .fields vs := by
  cases k with
  | l => obtain ⟨o, e, c, d⟩ := x; exact ⟨o, _, _, e, c, d⟩
  | t => obtain ⟨o, e, c, d⟩ := x; exact ⟨o, _, _, e, c, d⟩
theorem ItAt.at {h h' : Heap} {k : SK} {it a : Addr} {i : Nat} (x : ItAt h k it a i) (e : ∀ o, h.get? it = some o → h'.get? it = some o) : ItAt h' k it a i := by
  cases k with
  | l => exact Heap.IsListIter.at x e
  | t => exact Heap.IsTupleIter.at x e
theorem ItAt.start {h : Heap} {k : SK} {it a : Addr} (e : h.get? it = some (itObj a k)) : ItAt h k it a 0 := by
  cases k with
  | l => exact ⟨_, e, rfl, rfl⟩
  | t => exact ⟨_, e, rfl, rfl⟩
theorem _root_.L2.Inv.sqx {X : Cx} {pins : List (Addr × Obj)} {σ : L2.St} {H : Hp} {s : Shared} {k : SK} {a : Addr} {xs : List V} (I : Inv X pins σ H s) (h : SqX X.K H k a xs) : ∃ its : List Value, Vals xs its ∧ IsSq s.heap k a its.toArray ∧ a < s.heap.objs.size := by
  cases k with
  | l =>
    obtain ⟨its, r, p, _⟩ := I.list h
    exact ⟨its, r, p.isList, p.lt⟩
  | t =>
    obtain ⟨its, r, p, _⟩ := I.tuple h
    exact ⟨its, r, p, p.lt⟩
theorem _root_.L2.Inv.sqx_inj {X : Cx} {pins : List (Addr × Obj)} {σ : L2.St} {H : Hp} {s : Shared} {k : SK} {a : Addr} {xs ys : List V} (I : Inv X pins σ H s) (h : SqX X.K H k a xs) (h' : SqX X.K H k a ys) : xs = ys := by
  cases k with
  | l => exact I.list_inj h h'
  | t => exact I.tuple_inj h h'
def IteX (K : PySem.W.Frag) (k : SK) (a : Addr) : It :=
  ⟨fun i H => ∃ (xs : List V) (x : V), SqX K H k a xs ∧ xs[i]? = some x, fun i H v H' => ∃ (T : Addr) (x : V) (o : Obj), v = .ref T ∧ H T = none ∧ o.dict = none ∧ H' = upd H T (.frz o (.tup [.int (i : Nat), x])) ∧ ∀ xs, SqX K H k a xs → xs[i]? = some x, fun i H => ∃ xs : List V, SqX K H k a xs ∧ xs.length = i⟩
theorem turn_enumX {P : Program} {w : World} {K : PySem.W.Frag} {elts : List Expr} {kk : Nat} {tpos : Pos} (k : SK) (a e it : Addr) :
    Turn P w K (.Tuple elts kk tpos) (IteX K k a) [e, it] e (fun i h => (∃ old, IsEnum h e it ((i : Nat) : Int) old) ∧ ItAt h k it a i ∧ e ≠ it ∧ a ≠ it ∧ e ≠ a) where
  mem := by simp
  obj := fun i h st b hb => by
    obtain ⟨⟨old, he⟩, hi, _⟩ := st
    have e' : b = e ∨ b = it := by simpa using hb
    rcases e' with z | z
    · rw [z]; exact ⟨_, he, fun v q => nomatch q⟩
    · rw [z]
      obtain ⟨o, n, vs, ho, _, hd⟩ := hi.obj
      exact ⟨o, ho, fun v q => by rw [hd] at q; cases q⟩
  keep := fun i h h' st kp => let ⟨⟨old, he⟩, hi, hne⟩ := st; ⟨⟨old, kp e (by simp) _ he⟩, hi.at fun o q => kp it (by simp) o q, hne⟩
  item := by
    intro X hP hw hK hc i pins s σ H E I hf st hg
    subst hP hw hK
    obtain ⟨⟨old, he⟩, hit, hne, hai, hea⟩ := st
    obtain ⟨xs, x, hq, hx⟩ := hg
    obtain ⟨its, rv, p, hal⟩ := I.sqx hq
    obtain ⟨u, hu, ru⟩ := rv.get hx
    have hel : e < s.heap.objs.size := Heap.lt_size he
    have hil : it < s.heap.objs.size := by obtain ⟨_, _, _, q, _⟩ := hit.obj; exact Heap.lt_size q
    have hlt : i < its.toArray.size := by
      have := (List.getElem?_eq_some_iff.mp hu).1
      simpa using this
    refine wpAny_pyNext_enum_itemD (draws_sq (A := X.A.in1) (I.ok.hd hc) k it a hai its.toArray) he ⟨hit, p⟩ hlt hne (by simp [hne, hea]) fun y h' tk hy ho ⟨hit', p'⟩ hT hsz hk => ?_
    have ey : y = u := by
      have hu' : its.toArray[i]? = some u := by simpa using hu
      rw [hu'] at hy
      exact (Option.some.inj hy).symm
    subst ey
    refine ⟨_, rfl, wpAny_letOwnedTupleGo_enum (s := { s with heap := h', toks := tk + 1 }) ho fun h'' he' sb => ?_⟩
    have hT2 : h''.get? s.heap.objs.size = some { cls := .type "tuple", data := .seq #[.int i tk, y] } := (sb.2 _ (Nat.ne_of_gt hel)).trans hT
    have new : ObjOk X.prog X.w (upd H s.heap.objs.size (.frz { cls := .type "tuple", data := .seq #[.int i tk, y] } (.tup [.int (i : Nat), x]))) h'' s.heap.objs.size (.frz { cls := .type "tuple", data := .seq #[.int i tk, y] } (.tup [.int (i : Nat), x])) :=
      ⟨hT2, by show 2 ≤ sizeLine; decide, [.int i tk, y], .cons ⟨_, rfl⟩ (.cons ru .nil), ⟨_, hT2, rfl, _, rfl⟩⟩
    have I1 : Inv X pins σ (upd H s.heap.objs.size (.frz { cls := .type "tuple", data := .seq #[.int i tk, y] } (.tup [.int (i : Nat), x]))) { s with heap := h'', toks := tk + 1 } :=
      I.turnedNew (ch := [e, it]) (fun b ob hb q => (sb.2 b (fun z => hb (by simp [z]))).trans (hk b ob (fun z => hb (by simp [z])) (fun z => hb (by simp [z])) q)) hf (Nat.le_refl _) new
    refine ⟨.ref s.heap.objs.size, _, I1, rfl, ⟨_, x, _, rfl, I.hok.fresh (Nat.le_refl _), rfl, rfl, fun ys hy => by rw [I.sqx_inj hy hq]; exact hx⟩, ⟨⟨y, ?_⟩, hit'.at fun o q => (sb.2 it (Ne.symm hne)).trans q, hne, hai, hea⟩, fun b hb => ?_⟩
    · have e1 : ((i + 1 : Nat) : Int) = (i : Int) + 1 := by omega
      rw [e1]; exact he'
    · have hb' : b < s.heap.objs.size := by
        have e' : b = e ∨ b = it := by simpa using hb
        rcases e' with z | z
        · rw [z]; exact hel
        · rw [z]; exact hil
      rw [upd_ne (Nat.ne_of_lt hb')]
      exact (hf b hb).1
  done := by
    intro X hP hw hK hc i pins s σ H E I hf st hg
    subst hP hw hK
    obtain ⟨⟨old, he⟩, hit, hne, hai, hea⟩ := st
    obtain ⟨xs, hq, hx⟩ := hg
    obtain ⟨its, rv, p, hal⟩ := I.sqx hq
    obtain ⟨f0, f1, f2, f3, f4, f5⟩ := hf it (by simp)
    have hl := rv.length
    have en : i = its.toArray.size := by simp; omega
    exact wpAny_pyNext_enum_endD (draws_sq (A := X.A.in1) (I.ok.hd hc) k it a hai its.toArray) he ⟨by rw [← en]; exact hit, p⟩ fun h' eb => ⟨rfl, I.turned (t' := s.toks) (fun b o hb q => eb b o hb q) f0 f1 f3 f4 f5⟩
  self := fun A i s Q E st h => let ⟨⟨_, he⟩, _⟩ := st; wpAny_pyIter_enum he h
theorem meets_enumerate_newB1 {v : Value} {o : Obj} {H : Heap → Prop} (B : Begins v o H) :
    Meets (Builtin.«enumerate.__new__» ⟨[.type "enumerate", v], []⟩) (fun _ R s => H s.heap ∧
      R (.ok (.ret (.ref (s.heap.push o).objs.size))) { s with heap := (s.heap.push o).push { cls := .type "enumerate", data := .fields #[.none, .bool false, .ref s.heap.objs.size, rawInt 0, .none, .none] } }) :=
  .of_wp fun prog w A R s h => by
    obtain ⟨hp, g, d, tk, os⟩ := s; obtain ⟨h1, h⟩ := h
    have hsub := sub_enumerate
    have q1 : ∀ {A' : Around} {E : Value → Shared → Prop} {Q : Value → Shared → Prop}, Q (.ref hp.objs.size) ⟨hp.push o, g, d, tk, os⟩ → wpAny (model prog w) A' (pyIter v) Q E ⟨hp, g, d, tk, os⟩ :=
      fun q => B.iter prog w _ _ ⟨hp, g, d, tk, os⟩ _ h1 q
    wp_walk using q1
    refine wpAny_stack_any fun st => wpAny_pure ?_
    split
    · rename_i c _ _ _ _ _
      cases (c == Value.type "enumerate")
      · wp_walk using q1
        exact ⟨_, rfl, h⟩
      · wp_walk using q1
        exact ⟨_, rfl, h⟩
    · wp_walk using q1
      exact ⟨_, rfl, h⟩
theorem call_enumX {prog : Program} {w : World} {A : Around} {E : Value → Shared → Prop} {s : Shared} {v : Value} {o : Obj} {H : Heap → Prop} {Q : Value → Shared → Prop} (B : Begins v o H) (h1 : H s.heap)
    (h : ∀ h', IsEnum h' (s.heap.objs.size + 1) s.heap.objs.size 0 .none → h'.get? s.heap.objs.size = some o → h'.objs.size = s.heap.objs.size + 2 →
      (∀ b o, s.heap.get? b = some o → h'.get? b = some o) → Q (.ref (s.heap.objs.size + 1)) { s with heap := h' }) :
    wpAny (model prog w) A (call (.type "enumerate") [v]) Q E s := by
  refine callType_new PySem.F.called_enumerate (by decide) (PySem.F.typeCall_enumerate_1 _) (PySem.F.newCall_enumerate_1 _) (fun obj => PySem.F.args_object_init_2 obj _) PySem.F.entry_enumerate_new
    (meets_enumerate_newB1 B) ⟨h1, ?_⟩
  have hz : (s.heap.push o).objs.size = s.heap.objs.size + 1 := Heap.size_push ..
  show _ ∧ _
  rw [hz]
  have he : IsEnum ((s.heap.push o).push { cls := .type "enumerate", data := .fields #[.none, .bool false, .ref s.heap.objs.size, rawInt 0, .none, .none] }) (s.heap.objs.size + 1) s.heap.objs.size 0 .none := by
    have := Heap.get?_push_size (s.heap.push o) (o := { cls := .type "enumerate", data := .fields #[.none, .bool false, .ref s.heap.objs.size, rawInt 0, .none, .none] }) rfl
    rw [hz] at this; exact this
  refine ⟨⟨_, he, rfl⟩, h _ he (Heap.get?_push_of_some _ (Heap.get?_push_size _ B.free)) (by rw [Heap.size_push, hz]) fun b o x => Heap.get?_push_of_some _ (Heap.get?_push_of_some _ x)⟩
def iEnumX (K : PySem.W.Frag) (ta : TA) : TI := fun σ H R => ta σ H fun vs H1 => ∃ a k xs, vs = [.ref a] ∧ SqX K H1 k a xs ∧ R (IteX K k a) H1
theorem pi_enumX {X : Cx} {e : Expr} {ta : TA} {p pos tpos : Pos} {elts : List Expr} {kk : Nat} (hg : Gl X "enumerate") (hm : X.mg "enumerate" = none) (ha : PA X [e] ta) (hs : starEach [e] X.env = [(false, eval e X.env)] := by rfl) :
    PI X (.Tuple elts kk tpos) (.Call (.Name "enumerate" p) [e] [] pos) (iEnumX X.K ta) := by
  refine ⟨fun pins s σ H R I h => ?_⟩
  refine Call_ (ld_blt I hg hm boot_enumerate (PyProof.Rows.callWith_type1 (thn (ha.run pos pins s σ H _ I h) fun us s1 ⟨vs, H1, I1, r1, q1⟩ => ?_) hs rfl))
  obtain ⟨a, k, xs, ex, hq, q⟩ := q1
  subst ex
  cases r1 with
  | cons r rr =>
    cases rr
    cases r
    obtain ⟨its, rv, p', hal⟩ := I1.sqx hq
    refine call_enumX (begins_sq k a its.toArray) p' fun h' he hit hsz hk => wpAny_pyIter_enum he ?_
    have I2 : Inv X pins σ H1 { s1 with heap := h' } := I1.kept (t' := s1.toks) hk
    refine ⟨s1.heap.objs.size + 1, [s1.heap.objs.size + 1, s1.heap.objs.size], _, _, H1, rfl, I2, turn_enumX k a (s1.heap.objs.size + 1) s1.heap.objs.size, ⟨⟨.none, he⟩, ItAt.start hit, Nat.succ_ne_self _, Nat.ne_of_lt hal, Nat.ne_of_gt (Nat.lt_succ_of_lt hal)⟩, fun b hb => ?_, q⟩
    have e' : b = s1.heap.objs.size + 1 ∨ b = s1.heap.objs.size := by simpa using hb
    have hle : s1.heap.objs.size ≤ b := by
      rcases e' with z | z
      · rw [z]; exact Nat.le_add_right _ _
      · rw [z]; exact Nat.le_refl _
    exact I1.fpOk hle (I1.hok.fresh hle)
end Dn
namespace Dn
open PySem PySem.Spec PyProof.Rows L2
def pR (K : PySem.W.Frag) (js : List Nat) (σ0 : L2.St) : Hp → Hp → List Addr → Hp → Rho → L2.St → Prop := fun _ F ι _ ρ σ => REnv K F ι ρ σ ∧ ∀ vs : List Nat, (∀ j, j ∈ js → j ∈ vs) → wipe σ vs = wipe σ0 vs
theorem back_R {K : PySem.W.Frag} {js : List Nat} {σ0 : L2.St} : Back (pR K js σ0) := fun _ _ _ _ _ _ _ _ h => h
def tGt (K : PySem.W.Frag) (js : List Nat) (gf : D → Rho → M Rho) : TG := fun v σ H Q => ∃ F ι ρ st d, Sim K F ι st H ∧ REnv K F ι ρ σ ∧ Rep K F ι d v ∧ post K wN σ F ι H (pR K js σ) (gf d ρ st) Q
def DG (X : Cx) (js : List Nat) (e : Expr) (gf : D → Rho → M Rho) : Prop := PG X e (tGt X.K js gf)
theorem PG.weak {X : Cx} {e : Expr} {t t' : TG} (h : PG X e t) (w : ∀ v σ H Q, t' v σ H Q → t v σ H Q) : PG X e t' := ⟨fun pins s σ H v u Q I r q => h.run pins s σ H v u Q I r (w v σ H Q q)⟩
theorem wipe_set {σ : L2.St} {i : Nat} {x : Option V} : ∀ {vs : List Nat}, i ∈ vs → wipe (σ.set i x) vs = wipe σ vs
  | v :: vs, h => by
    show (wipe (σ.set i x) vs).set v none = (wipe σ vs).set v none
    by_cases hm : i ∈ vs
    · rw [wipe_set hm]
    · have e : i = v := by
        rcases List.mem_cons.mp h with e | e
        · exact e
        · exact absurd e hm
      subst e
      have key : ∀ (vs : List Nat), i ∉ vs → wipe (σ.set i x) vs = (wipe σ vs).set i x := by
        intro vs
        induction vs with
        | nil => intro _; rfl
        | cons u us ih =>
          intro h
          have h1 : i ≠ u := fun e => h (by simp [e])
          have h2 : i ∉ us := fun e => h (List.mem_cons_of_mem _ e)
          show (wipe (σ.set i x) us).set u none = ((wipe σ us).set u none).set i x
          rw [ih h2, List.set_comm _ _ h1]
      rw [key vs hm, List.set_set]
def gN (i : Nat) : D → Rho → M Rho := fun d ρ st => .ok (ρ.set i (some d)) st
theorem dg_name {X : Cx} {pos : Pos} {i : Nat} {x : Str} (hN : X.N.Nodup) (hi : X.N[i]? = some x) (hx : Loc X.env.scope x) (hf : X.fn x = true ∨ X.env.scope.names.lookup x = some .local := by first | exact .inl rfl | exact .inr rfl | assumption) : DG X [i] (.Name x pos) (gN i) :=
  PG.weak (pg_name hN hi hx hf) fun v σ H Q ⟨F, ι, ρ, st, d, S, R, r, q⟩ =>
    q F ι H _ Ext.refl S ⟨R.set r i, fun vs h => wipe_set (h i (by simp))⟩
def tGts (K : PySem.W.Frag) (js : List Nat) (gf : List D → Rho → M Rho) : TGs := fun vs σ H Q => ∃ F ι ρ st ds, Sim K F ι st H ∧ REnv K F ι ρ σ ∧ Reps K F ι ds vs ∧ post K wN σ F ι H (pR K js σ) (gf ds ρ st) Q
def DGs (X : Cx) (js : List Nat) (es : List Expr) (gf : List D → Rho → M Rho) : Prop := PGs X es (tGts X.K js gf)
theorem PGs.weak {X : Cx} {e : List Expr} {t t' : TGs} (h : PGs X e t) (w : ∀ v σ H Q, t' v σ H Q → t v σ H Q) : PGs X e t' := ⟨fun pins s σ H v u Q I r q => h.run pins s σ H v u Q I r (w v σ H Q q)⟩
def gsNil : List D → Rho → M Rho := fun ds ρ st => match ds with
  | [] => .ok ρ st
  | _ => .bad
def gsCons (g : D → Rho → M Rho) (gs : List D → Rho → M Rho) : List D → Rho → M Rho := fun ds ρ st => match ds with
  | d :: r => (g d ρ st).bind fun ρ1 st1 => gs r ρ1 st1
  | [] => .bad
theorem dgs_nil {X : Cx} : DGs X [] [] gsNil := by
  refine PGs.weak pgs_nil fun vs σ H Q ⟨F, ι, ρ, st, ds, S, R, r, q⟩ => ?_
  unfold gsNil at q
  split at q
  · simp only [Reps] at r
    exact ⟨r, q F ι H σ Ext.refl S ⟨R, fun _ _ => rfl⟩⟩
  · exact q.elim
theorem dgs_cons {X : Cx} {e : Expr} {es : List Expr} {j1 j2 : List Nat} {g : D → Rho → M Rho} {gs : List D → Rho → M Rho} (h1 : DG X j1 e g) (h2 : DGs X j2 es gs)
    (hs : (assignEach (e :: es) X.env).map (·.2) = assign e X.env :: (assignEach es X.env).map (·.2) := by rfl) : DGs X (j1 ++ j2) (e :: es) (gsCons g gs) := by
  refine PGs.weak (pgs_cons h1 h2 hs) fun vs σ H Q ⟨F, ι, ρ, st, ds, S, R, r, q⟩ => ?_
  unfold gsCons at q
  split at q
  · rename_i d ds'
    simp only [Reps] at r
    obtain ⟨v, vr, e, r1, r2⟩ := r
    refine ⟨v, vr, e, F, ι, ρ, st, d, S, R, r1, ?_⟩
    refine post_seq back_R q fun ρ1 st1 F1 ι1 H1 σ1 _ x1 S1 ⟨R1, k1⟩ q1 => ?_
    refine ⟨F1, ι1, ρ1, st1, ds', S1, R1, Reps.ext r2 x1, ?_⟩
    generalize gs ds' ρ1 st1 = rr at q1
    cases rr with
    | ok ρ2 st2 => exact fun F' ι' H' σ' y S' ⟨R', k'⟩ => q1 F' ι' H' σ' y S' ⟨R', fun vs hv => (k' vs fun j hj => hv j (List.mem_append_right _ hj)).trans (k1 vs fun j hj => hv j (List.mem_append_left _ hj))⟩
    | exc x st2 => exact fun F' ι' H' c d y S' r => (q1 F' ι' H' c d y S' r : False).elim
    | bad => exact q1
  · exact q.elim
def gT (n : Nat) (gs : List D → Rho → M Rho) : D → Rho → M Rho := fun d ρ st => match d with
  | .tup xs => if xs.length = n then gs xs ρ st else .bad
  | _ => .bad
theorem dg_tup {X : Cx} {pos : Pos} {es : List Expr} {k n : Nat} {js : List Nat} {gs : List D → Rho → M Rho} (hc : X.calm = true) (h : DGs X js es gs)
    (hn : (assignEach es X.env).length = n := by rfl) (hst : (assignEach es X.env).findIdx? (·.1) = none := by rfl) : DG X js (.Tuple es k pos) (gT n gs) := by
  refine PG.weak (pg_tup hc h hn hst) fun v σ H Q ⟨F, ι, ρ, st, d, S, R, r, q⟩ => ?_
  unfold gT at q
  split at q
  · split at q
    · rename_i xs hl
      simp only [Rep] at r
      obtain ⟨a, vs, e, h, rr⟩ := r
      exact ⟨a, vs, e, S.sqT h, by rw [← rr.length]; exact hl, F, ι, ρ, st, xs, S, R, rr, q⟩
    · exact q.elim
  · exact q.elim
structure Src where
  items : List D
  held : List (Nat × List D)
def heldOk (held : List (Nat × List D)) (st : Sto) : Prop := ∀ p, p ∈ held → st[p.1]? = some (.lst p.2)
@[simp] theorem heldOk_nil (st : Sto) : heldOk [] st ↔ True := ⟨fun _ => trivial, fun _ _ h => by cases h⟩
@[simp] theorem heldOk_one (l : Nat) (xs : List D) (st : Sto) : heldOk [(l, xs)] st ↔ st[l]? = some (.lst xs) := by
  constructor
  · intro h; exact h (l, xs) (by simp)
  · intro h p hp
    have : p = (l, xs) := by simpa using hp
    subst this; exact h
structure Grow (F : Hp) (ι : List Addr) (F' : Hp) (ι' : List Addr) : Prop where
  f : ∀ a o, F a = some o → F' a = some o
  i : ∀ (l : Nat) (a : Addr), ι[l]? = some a → ι'[l]? = some a
theorem Ext.grow {F : Hp} {ι : List Addr} {H F' : Hp} {ι' : List Addr} {H' : Hp} (x : Ext F ι H F' ι' H') : Grow F ι F' ι' := ⟨x.f, x.i⟩
structure SrcIt (K : PySem.W.Frag) (F : Hp) (ι : List Addr) (src : Src) (J : It) : Prop where
  go : ∀ (i : Nat) F' ι' st' H', Grow F ι F' ι' → Sim K F' ι' st' H' → heldOk src.held st' → i < src.items.length → J.go i H'
  stop : ∀ F' ι' st' H', Grow F ι F' ι' → Sim K F' ι' st' H' → heldOk src.held st' → J.stop src.items.length H'
  yld : ∀ (i : Nat) F' ι' st' H' x H2 d, Grow F ι F' ι' → Sim K F' ι' st' H' → heldOk src.held st' → src.items[i]? = some d → J.yld i H' x H2 → ∃ F2, Ext F' ι' H' F2 ι' H2 ∧ Sim K F2 ι' st' H2 ∧ Rep K F2 ι' d x
def pI (K : PySem.W.Frag) : Hp → Hp → List Addr → Hp → Src → It → Prop := fun _ F ι _ src J => SrcIt K F ι src J
theorem back_I {K : PySem.W.Frag} : Back (pI K) := fun _ _ _ _ _ _ _ _ h => h
def DI (X : Cx) (W : WX) (tg iter : Expr) (ms : Rho → M Src) : Prop := PI X tg iter (tG X.K W (pI X.K) ms)
theorem PI.weak {X : Cx} {tg e : Expr} {t t' : TI} (h : PI X tg e t) (w : ∀ σ H Q, t' σ H Q → t σ H Q) : PI X tg e t' := ⟨fun pins s σ H Q I q => h.run pins s σ H Q I (w σ H Q q)⟩
def srcOf (st : Sto) : D → Option Src
  | .tup xs => some ⟨xs, []⟩
  | .lst xs => some ⟨xs, []⟩
  | .scr xs => some ⟨xs, []⟩
  | .ref l => match st[l]? with
    | some (.lst xs) => some ⟨xs, [(l, xs)]⟩
    | _ => none
  | _ => none
theorem src_sq {K : PySem.W.Frag} {F : Hp} {ι : List Addr} {d : D} {v : V} {st : Sto} {H : Hp} {src : Src} (S : Sim K F ι st H) (r : Rep K F ι d v) (h : srcOf st d = some src) :
    ∃ k a, v = .ref a ∧ (∃ vs, SqX K H k a vs) ∧ ∀ F' ι' st' H', Grow F ι F' ι' → Sim K F' ι' st' H' → heldOk src.held st' → ∃ vs, SqX K H' k a vs ∧ Reps K F' ι' src.items vs := by
  unfold srcOf at h
  split at h
  · cases h
    simp only [Rep] at r
    obtain ⟨a, vs, e, hq, rr⟩ := r
    exact ⟨.t, a, e, ⟨vs, S.sqT hq⟩, fun F' ι' st' H' g S' _ => ⟨vs, S'.sqT (SqP.mono hq g.f), Reps.mono g.f g.i _ _ rr⟩⟩
  · cases h
    simp only [Rep] at r
    obtain ⟨a, vs, e, hq, rr⟩ := r
    exact ⟨.l, a, e, ⟨vs, SqL.of (S.sub _ _ hq)⟩, fun F' ι' st' H' g S' _ => ⟨vs, SqL.of (S'.sub _ _ (g.f _ _ hq)), Reps.mono g.f g.i _ _ rr⟩⟩
  · cases h
    simp only [Rep] at r
    obtain ⟨a, vs, e, hq, rr⟩ := r
    exact ⟨.l, a, e, ⟨vs, S.sqL hq⟩, fun F' ι' st' H' g S' _ => ⟨vs, S'.sqL (SqL.mono hq g.f), Reps.mono g.f g.i _ _ rr⟩⟩
  · rename_i l
    split at h
    · rename_i xs e1
      cases h
      simp only [Rep] at r
      obtain ⟨a, e, hi⟩ := r
      obtain ⟨vs, hv, _⟩ := S.obj l _ a e1 hi
      refine ⟨.l, a, e, ⟨vs, SqL.of hv⟩, fun F' ι' st' H' g S' ho => ?_⟩
      obtain ⟨ws, hw, rw'⟩ := S'.obj l _ a (ho (l, xs) (by simp)) (g.i l a hi)
      exact ⟨ws, SqL.of hw, rw'⟩
    · cases h
  · cases h
def ItX (K : PySem.W.Frag) : SK → Addr → It
  | .l, a => Itl K a
  | .t, a => Itt K a
def iSqX (K : PySem.W.Frag) (tl : TE) : TI := fun σ H R => tl σ H fun x H1 => ∃ k a, x = .ref a ∧ (∃ xs, SqX K H1 k a xs) ∧ R (ItX K k a) H1
theorem pi_sqX {X : Cx} {tg l : Expr} {tl : TE} (hl : PE X l tl) : PI X tg l (iSqX X.K tl) := by
  refine ⟨fun pins s σ H R I h => ?_⟩
  refine thn (hl.run pins s σ H _ I h) fun v s1 ⟨x, H1, I1, r1, q1⟩ => ?_
  obtain ⟨k, a, e, ⟨xs, hq⟩, q⟩ := q1
  subst e
  cases r1
  have fp : ∀ b, b ∈ [s1.heap.objs.size] → FpOk X pins H1 b := fun b hb => by
    have e : b = s1.heap.objs.size := by simpa using hb
    subst e
    exact I1.fpOk (Nat.le_refl _) (I1.hok.fresh (Nat.le_refl _))
  cases k with
  | l =>
    obtain ⟨its, rv, p, hz⟩ := I1.list hq
    refine wpAny_pyIter_list p.isList ?_
    exact ⟨s1.heap.objs.size, [s1.heap.objs.size], _, _, H1, rfl, I1.kept (t' := s1.toks) fun b o e => Heap.get?_push_of_some _ e, turn_list a _, ⟨_, Heap.get?_push_size _ rfl, rfl, rfl⟩, fp, q⟩
  | t =>
    obtain ⟨its, rv, p, hz⟩ := I1.tuple hq
    refine wpAny_pyIter_tuple (show s1.heap.IsTuple a its.toArray from p) ?_
    exact ⟨s1.heap.objs.size, [s1.heap.objs.size], _, _, H1, rfl, I1.kept (t' := s1.toks) fun b o e => Heap.get?_push_of_some _ e, turn_tuple a _, ⟨_, Heap.get?_push_size _ rfl, rfl, rfl⟩, fp, q⟩
def iSeq (m : Rho → M D) : Rho → M Src := fun ρ st => (m ρ st).bind fun d st1 => lift (srcOf st1 d) st1
section
variable {X : Cx} {W : WX} {pos p2 p : Pos} {tg e e2 : Expr} {m1 m2 m3 : Rho → M D} {am : Rho → M (List D)}
theorem di_seq (h : DE X W e m1) : DI X W tg e (iSeq m1) := by
  refine PI.weak (pi_sqX h) fun σ H Q ⟨F, ι, ρ, st, S, R, q⟩ => ?_
  refine tG_seq back_I S R q fun d st1 F1 ι1 H1 v1 x1 S1 R1 r1 q1 => ?_
  cases e1 : srcOf st1 d with
  | none => rw [e1] at q1; exact q1.elim
  | some src =>
    rw [e1] at q1
    obtain ⟨k, a, e, hs, hk⟩ := src_sq S1 r1 e1
    refine ⟨k, a, e, hs, q1 F1 ι1 H1 (ItX X.K k a) Ext.refl S1 ⟨fun i F' ι' st' H' g S' ho hi => ?_, fun F' ι' st' H' g S' ho => ?_, fun i F' ι' st' H' x H2 d g S' ho hd y => ?_⟩⟩
    · obtain ⟨vs, hv, rv⟩ := hk F' ι' st' H' g S' ho
      obtain ⟨v, q, _⟩ := rv.get (List.getElem?_eq_getElem hi)
      cases k with
      | l => exact ⟨vs, v, hv, q⟩
      | t => exact ⟨vs, v, hv, q⟩
    · obtain ⟨vs, hv, rv⟩ := hk F' ι' st' H' g S' ho
      cases k with
      | l => exact ⟨vs, hv, Nat.le_of_eq rv.length.symm⟩
      | t => exact ⟨vs, hv, Nat.le_of_eq rv.length.symm⟩
    · obtain ⟨vs, hv, rv⟩ := hk F' ι' st' H' g S' ho
      cases k with
      | l =>
        obtain ⟨e, y⟩ := y
        subst e
        exact ⟨F', Ext.refl, S', rv.at hd (y vs hv)⟩
      | t =>
        obtain ⟨e, y⟩ := y
        subst e
        exact ⟨F', Ext.refl, S', rv.at hd (y vs hv)⟩
def rngD (lo : Int) (n : Nat) : List D := (List.range n).map fun i : Nat => .int (lo + (i : Int))
theorem rngD_length (lo : Int) (n : Nat) : (rngD lo n).length = n := by unfold rngD; simp
theorem rngD_get {lo : Int} {n i : Nat} {d : D} (h : (rngD lo n)[i]? = some d) : d = .int (lo + (i : Int)) := by
  unfold rngD at h
  rw [List.getElem?_map] at h
  cases e : (List.range n)[i]? with
  | none => rw [e] at h; cases h
  | some j =>
    rw [e] at h
    have := List.getElem?_eq_some_iff.mp e
    obtain ⟨h1, h2⟩ := this
    rw [List.getElem_range] at h2
    subst h2
    exact (Option.some.inj h).symm
theorem src_range {K : PySem.W.Frag} {F : Hp} {ι : List Addr} {lo : Int} {n : Nat} : SrcIt K F ι ⟨rngD lo n, []⟩ (Itr lo n) := by
  refine ⟨fun i F' ι' st' H' g S' ho hi => ?_, fun F' ι' st' H' g S' ho => ?_, fun i F' ι' st' H' x H2 d g S' ho hd y => ?_⟩
  · have hi' : i < (rngD lo n).length := hi
    rw [rngD_length] at hi'
    exact hi'
  · show n ≤ (rngD lo n).length
    rw [rngD_length]
    exact Nat.le_refl _
  · obtain ⟨e, y⟩ := y
    subst e y
    have hd' := rngD_get hd
    subst hd'
    exact ⟨F', Ext.refl, S', by simp only [Rep]⟩
noncomputable def rng1 : D → Option Src
  | .int j => @ite _ (-(2 ^ 62) ≤ j ∧ j < 2 ^ 62) (Classical.propDecidable _) (some ⟨rngD 0 j.toNat, []⟩) (none)
  | _ => none
noncomputable def iRng1D (m : Rho → M D) : Rho → M Src := fun ρ st => (m ρ st).bind fun d st1 => lift (rng1 d) st1
theorem di_range1 (hg : Gl X "range") (hm : X.mg "range" = none) (h : DE X W e m1) (hs : starEach [e] X.env = [(false, eval e X.env)] := by rfl) : DI X W tg (.Call (.Name "range" p) [e] [] pos) (iRng1D m1) := by
  have ha : PA X [e] (tCons (tV X.K W m1) tNil) := pa_cons h pa_nil hs
  refine PI.weak (pi_range1 hg hm ha hs) fun σ H Q ⟨F, ι, ρ, st, S, R, q⟩ => ?_
  refine tG_seq back_I S R q fun d st1 F1 ι1 H1 v1 x1 S1 R1 r1 q1 => ?_
  unfold rng1 at q1
  split at q1
  · rename_i j
    split at q1
    · rename_i hb
      have rv : Rep X.K F1 ι1 (.int j) v1 := r1
      simp only [Rep] at rv
      exact ⟨j, by rw [rv], hb.1, hb.2, q1 F1 ι1 H1 _ Ext.refl S1 src_range⟩
    · exact q1.elim
  · exact q1.elim
def enumD (n : Nat) : List D → List D
  | [] => []
  | d :: r => .tup [.int (n : Int), d] :: enumD (n + 1) r
theorem enumD_length : ∀ (xs : List D) (n : Nat), (enumD n xs).length = xs.length
  | [], _ => rfl
  | _ :: r, n => by rw [enumD, List.length_cons, List.length_cons, enumD_length r]
theorem enumD_get : ∀ {xs : List D} {n i : Nat} {d : D}, (enumD n xs)[i]? = some d → ∃ x, xs[i]? = some x ∧ d = .tup [.int ((n + i : Nat) : Int), x]
  | [], _, _, _, h => by simp [enumD] at h
  | x :: r, n, 0, d, h => by
    simp [enumD] at h
    exact ⟨x, rfl, h.symm⟩
  | x :: r, n, i + 1, d, h => by
    rw [enumD, List.getElem?_cons_succ] at h
    obtain ⟨y, h1, h2⟩ := enumD_get h
    exact ⟨y, by simpa using h1, by rw [h2]; congr 4; omega⟩
def iEnumD (m : Rho → M D) : Rho → M Src := fun ρ st => (m ρ st).bind fun d st1 => (lift (srcOf st1 d) st1).bind fun src st2 => .ok ⟨enumD 0 src.items, src.held⟩ st2
theorem new_pair {K : PySem.W.Frag} {F : Hp} {ι : List Addr} {st : Sto} {H : Hp} {T : Addr} {d1 d2 : D} {v1 v2 : V} {o : Obj} (S : Sim K F ι st H) (hT : H T = none) (ho : o.dict = none) (r1 : Rep K F ι d1 v1) (r2 : Rep K F ι d2 v2) :
    ∃ F2, Ext F ι H F2 ι (upd H T (.frz o (.tup [v1, v2]))) ∧ Sim K F2 ι st (upd H T (.frz o (.tup [v1, v2]))) ∧ Rep K F2 ι (.tup [d1, d2]) (.ref T) := by
  have x : Ext F ι H (upd F T (.frz o (.tup [v1, v2]))) ι (upd H T (.frz o (.tup [v1, v2]))) := Ext.frozen hT S.sub
  refine ⟨_, x, S.frozen hT trivial, ?_⟩
  simp only [Rep]
  exact ⟨T, [v1, v2], rfl, .inl ⟨o, ho, upd_same⟩, Reps.cons (r1.ext x) (Reps.cons (r2.ext x) Reps.nil)⟩
theorem di_enum {elts : List Expr} {kk : Nat} {tpos : Pos} (hg : Gl X "enumerate") (hm : X.mg "enumerate" = none) (h : DE X W e m1) (hs : starEach [e] X.env = [(false, eval e X.env)] := by rfl) : DI X W (.Tuple elts kk tpos) (.Call (.Name "enumerate" p) [e] [] pos) (iEnumD m1) := by
  have ha : PA X [e] (tCons (tV X.K W m1) tNil) := pa_cons h pa_nil hs
  refine PI.weak (pi_enumX hg hm ha hs) fun σ H Q ⟨F, ι, ρ, st, S, R, q⟩ => ?_
  refine tG_seq back_I S R q fun d st1 F1 ι1 H1 v1 x1 S1 R1 r1 q1 => ?_
  cases e1 : srcOf st1 d with
  | none => rw [e1] at q1; exact q1.elim
  | some src =>
    rw [e1] at q1
    obtain ⟨k, a, e, ⟨vs, hs⟩, hk⟩ := src_sq S1 r1 e1
    refine ⟨a, k, vs, by rw [e], hs, q1 F1 ι1 H1 (IteX X.K k a) Ext.refl S1 ⟨fun i F' ι' st' H' g S' ho hi => ?_, fun F' ι' st' H' g S' ho => ?_, fun i F' ι' st' H' x H2 d g S' ho hd y => ?_⟩⟩
    · obtain ⟨vs, hv, rv⟩ := hk F' ι' st' H' g S' ho
      have hi' : i < src.items.length := by
        have h0 : i < (enumD 0 src.items).length := hi
        rw [enumD_length] at h0
        exact h0
      obtain ⟨v, q, _⟩ := rv.get (List.getElem?_eq_getElem hi')
      exact ⟨vs, v, hv, q⟩
    · obtain ⟨vs, hv, rv⟩ := hk F' ι' st' H' g S' ho
      exact ⟨vs, hv, by rw [← rv.length]; exact (enumD_length _ _).symm⟩
    · obtain ⟨vs, hv, rv⟩ := hk F' ι' st' H' g S' ho
      obtain ⟨T, z, o, ex, hT, hd0, eH, y⟩ := y
      obtain ⟨w, hw, ed⟩ := enumD_get hd
      subst ex eH ed
      have e0 : ((0 + i : Nat) : Int) = (i : Int) := by omega
      rw [e0]
      exact new_pair S' hT hd0 (by simp only [Rep]) (rv.at hw (y vs hv))
end
end Dn
namespace Dn
open PySem PySem.Spec PyProof.Rows L2
theorem Ext.outF {F : Hp} {ι : List Addr} {H F' : Hp} {ι' : List Addr} {H' : Hp} (x : Ext F ι H F' ι' H') {p : Addr} (hH : H p ≠ none) (hF : F p = none) (hi : p ∉ ι) : F' p = none := by
  cases e : F' p with
  | none => rfl
  | some o =>
    rcases x.newF p o e with q | q | q
    · rw [hF] at q; cases q
    · exact absurd q hH
    · exact absurd q hi
theorem Ext.outI {F : Hp} {ι : List Addr} {H F' : Hp} {ι' : List Addr} {H' : Hp} (x : Ext F ι H F' ι' H') {p : Addr} (hH : H p ≠ none) (hi : p ∉ ι) : p ∉ ι' := fun h => by
  rcases x.newI p h with q | q
  · exact hi q
  · exact hH q
theorem Sim.outside {K : PySem.W.Frag} {F : Hp} {ι : List Addr} {st : Sto} {H : Hp} (S : Sim K F ι st H) {p : Addr} {o : HO} (hF : F p = none) (hi : p ∉ ι) : Sim K F ι st (upd H p o) := by
  have nf : ∀ a u, F a = some u → a ≠ p := fun a u h e => by rw [e, hF] at h; cases h
  have ni : ∀ a, a ∈ ι → a ≠ p := fun a h e => hi (by rw [← e]; exact h)
  refine ⟨fun a u h => by rw [upd_ne (nf a u h)]; exact S.sub a u h, S.kind, S.len, S.nd, S.free, fun a h => by rw [upd_ne (ni a h)]; exact S.there a h, fun l m a h1 h2 => ?_⟩
  exact (S.obj l m a h1 h2).mono (fun _ _ h => h) (fun _ _ h => h) (upd_ne (ni a (List.mem_of_getElem? h2)))
theorem Ext.outside {F : Hp} {ι : List Addr} {H F' : Hp} {ι' : List Addr} {H' : Hp} (x : Ext F ι H F' ι' H') {p : Addr} {o : HO} (h0 : H p = none) (h1 : H' p ≠ none) : Ext F ι H F' ι' (upd H' p o) := by
  refine ⟨x.f, x.i, fun a u h n => ?_, fun a h => ?_, x.newF, x.newI, x.long⟩
  · rw [upd_ne (ne_of_none h h0)]; exact x.keep a u h n
  · by_cases e : a = p
    · subst e; exact h0
    · rw [upd_ne e] at h; exact x.there a h
theorem wipe_idem (σ : L2.St) (vs : List Nat) : wipe (wipe σ vs) vs = wipe σ vs := by
  have key : ∀ (us : List Nat), (∀ u ∈ us, u ∈ vs) → ∀ τ : L2.St, wipe (wipe τ us) vs = wipe τ vs := by
    intro us
    induction us with
    | nil => intro _ τ; rfl
    | cons u us ih =>
      intro h τ
      show wipe ((wipe τ us).set u none) vs = _
      rw [wipe_set (h u (by simp)), ih (fun v hv => h v (List.mem_cons_of_mem _ hv))]
  exact key vs (fun _ h => h) σ
open Classical in
noncomputable def lcL (held : List (Nat × List D)) (f : D → Sto → Out (Option D)) : List D → Sto → Out (List D)
  | [], st => if heldOk held st then .ok [] st else .bad
  | d :: ds, st => if heldOk held st then (f d st).bind fun o st1 => (lcL held f ds st1).bind fun ys st2 => .ok (o.toList ++ ys) st2 else .bad
def lcF (gf : D → Rho → M Rho) (mt : Rho → M Bool) (me : Rho → M D) (ρ : Rho) : D → Sto → Out (Option D) := fun d st =>
  (gf d ρ st).bind fun ρ2 s2 => (mt ρ2 s2).bind fun b s3 => if b = true then (me ρ2 s3).bind fun y s4 => .ok (some y) s4 else .ok none s3
noncomputable def lLc (ms : Rho → M Src) (gf : D → Rho → M Rho) (mt : Rho → M Bool) (me : Rho → M D) (vs : List Nat) : Rho → M (List D) := fun ρ st =>
  (ms ρ st).bind fun src st1 => if src.items.length ≤ SZ then nox (lcL src.held (lcF gf mt me (wipeD ρ vs)) src.items st1) else .bad
theorem bind_ok {α β : Type} {r : Out α} {f : α → Sto → Out β} {b : β} {st : Sto} (h : r.bind f = .ok b st) : ∃ a st1, r = .ok a st1 ∧ f a st1 = .ok b st := by
  cases r with
  | ok a st1 => exact ⟨a, st1, rfl, h⟩
  | exc _ _ => cases h
  | bad => cases h
def DTs (X : Cx) (W : WX) (ifs : List Expr) (m : Rho → M Bool) : Prop := PTs X ifs (tT X.K W m)
def bYes : Rho → M Bool := fun _ st => .ok true st
theorem dts_nil {X : Cx} {W : WX} : DTs X W [] bYes := ⟨fun pins s σ H Q I ⟨F, ι, ρ, st, S, R, q⟩ => pts_nil.run pins s σ H Q I (q F ι H true Ext.refl S rfl)⟩
theorem dts_one {X : Cx} {W : WX} {c : Expr} {m : Rho → M Bool} (h : DT X W c m) : DTs X W [c] m := pts_one h
theorem post_ok {α β : Type} {K : PySem.W.Frag} {W : WX} {σ : L2.St} {F : Hp} {ι : List Addr} {H : Hp} {P : Hp → Hp → List Addr → Hp → α → β → Prop} {r : Out α} {a : α} {st : Sto} {Q : β → Hp → Prop} (e : r = .ok a st)
    (h : ∀ F' ι' H' b, Ext F ι H F' ι' H' → Sim K F' ι' st H' → P H F' ι' H' a b → Q b H') : post K W σ F ι H P r Q := by
  subst e
  exact h
theorem lc_of {K : PySem.W.Frag} {W : WX} {ms : Rho → M Src} {js : List Nat} {gf : D → Rho → M Rho} {mt : Rho → M Bool} {me : Rho → M D} {vs : List Nat} (hjs : ∀ j, j ∈ js → j ∈ vs) {σ : L2.St} {H : Hp} {Q : VK} (h : tL K W (lLc ms gf mt me vs) σ H Q) :
    tLc (tG K W (pI K) ms) (tGt K js gf) (tT K wN mt) (tV K wN me) vs σ H Q := by
  obtain ⟨F, ι, ρ, st, S, R, q⟩ := h
  refine tG_seq back_L S R q fun src st1 F1 ι1 H1 J x1 S1 R1 hJ q1 => ?_
  have hJ : SrcIt K F1 ι1 src J := hJ
  split at q1
  rotate_left
  · exact q1.elim
  rename_i hsz
  intro D hD
  cases er : lcL src.held (lcF gf mt me (wipeD ρ vs)) src.items st1 with
  | exc _ _ => rw [er] at q1; exact (q1 : False).elim
  | bad => rw [er] at q1; exact (q1 : False).elim
  | ok tot stf =>
    rw [er] at q1
    have q1 : ∀ F' ι' H' b, Ext F1 ι1 H1 F' ι' H' → Sim K F' ι' stf H' → pL K H1 F' ι' H' tot b → Q b H' := q1
    refine ⟨fun i m H' => m = src.items.length - i ∧ i ≤ src.items.length ∧ ∃ F' ι' st' acc av, Ext F1 ι1 H1 F' ι' H' ∧ Sim K F' ι' st' H' ∧ H' D = some (.lst av) ∧ F' D = none ∧ D ∉ ι' ∧ Reps K F' ι' acc av ∧ acc.length ≤ i ∧
      ∃ ys, lcL src.held (lcF gf mt me (wipeD ρ vs)) (src.items.drop i) st' = .ok ys stf ∧ acc ++ ys = tot, ⟨_, rfl, Nat.zero_le _, F1, ι1, st1, [], [], Ext.laid hD, S1.laid hD, upd_same, ?_, fun h => S1.there D h hD, Reps.nil, Nat.zero_le _, tot, er, rfl⟩, ?_⟩
    · cases e : F1 D with
      | none => rfl
      | some o =>
        have := S1.sub D o e
        rw [hD] at this
        cases this
    rintro i m H' ⟨rfl, hi, F', ι', st', acc, av, x', S', hv, hF', hi', ra, hla, ys, ey, et⟩
    by_cases hlt : i < src.items.length
    · right
      rw [List.drop_eq_getElem_cons hlt] at ey
      unfold lcL at ey
      split at ey
      rotate_left
      · cases ey
      rename_i ho
      obtain ⟨o, st2, e1, ey⟩ := bind_ok ey
      obtain ⟨ys', st3, e2, ey⟩ := bind_ok ey
      cases ey
      have g' : Grow F1 ι1 F' ι' := x'.grow
      refine ⟨hJ.go i F' ι' st' H' g' S' ho hlt, fun H'' => ∃ m', m' < src.items.length - i ∧ _, fun H'' h => h, fun x H2 y => ?_⟩
      obtain ⟨F2, x2, S2, r2⟩ := hJ.yld i F' ι' st' H' x H2 src.items[i] g' S' ho (by simp [hlt]) y
      unfold lcF at e1
      obtain ⟨ρ2, s2, e3, e1⟩ := bind_ok e1
      obtain ⟨b, s3, e4, e1⟩ := bind_ok e1
      have nH' : H' D ≠ none := by rw [hv]; simp
      refine ⟨F2, ι', wipeD ρ vs, st', _, S2, ((R1.ext x').ext x2).wipe vs, r2, post_ok e3 fun F3 ι3 H3 σ2 x3 S3 ⟨R3, hw⟩ => ?_⟩
      refine ⟨(hw vs hjs).trans (wipe_idem σ vs), F3, ι3, ρ2, s2, S3, R3, post_ok e4 fun F4 ι4 H4 b' x4 S4 eb => ?_⟩
      have eb : b = b' := eb
      subst eb
      have xx4 : Ext F' ι' H' F4 ι4 H4 := (x2.trans x3).trans x4
      cases b with
      | false =>
        rw [if_neg (by decide)] at e1 ⊢
        cases e1
        refine ⟨_, ?_, rfl, hlt, F4, ι4, _, acc, av, x'.trans xx4, S4, xx4.keep D _ hv hi', xx4.outF nH' hF' hi', xx4.outI nH' hi', ra.ext xx4, Nat.le_succ_of_le hla, ys', e2, et⟩
        omega
      | true =>
        rw [if_pos rfl] at e1 ⊢
        obtain ⟨yd, s4, e5, e1⟩ := bind_ok e1
        cases e1
        refine ⟨F4, ι4, ρ2, s3, S4, R3.ext x4, post_ok e5 fun F5 ι5 H5 yv x5 S5 r5 => ?_⟩
        have xx5 : Ext F' ι' H' F5 ι5 H5 := xx4.trans x5
        have hv5 := xx5.keep D _ hv hi'
        have hF5 := xx5.outF nH' hF' hi'
        have hi5 := xx5.outI nH' hi'
        refine ⟨av, hv5, by rw [← ra.length]; exact sz_lt (by omega), _, ?_, rfl, hlt, F5, ι5, _, acc ++ [yd], av ++ [yv], (x'.trans xx5).outside hD (by rw [hv5]; simp), S5.outside hF5 hi5, upd_same, hF5, hi5, (ra.ext xx5).snoc r5, ?_, ys', e2, ?_⟩
        · omega
        · rw [List.length_append]; simp; omega
        · rw [← et]; simp
    · left
      have e0 : i = src.items.length := by omega
      subst e0
      rw [List.drop_length] at ey
      unfold lcL at ey
      split at ey
      rotate_left
      · cases ey
      rename_i ho
      cases ey
      rw [List.append_nil] at et
      subst et
      exact ⟨hJ.stop F' ι' _ H' x'.grow S' ho, q1 F' ι' H' (.ref D) x' S' ⟨D, av, rfl, hv, hF', hi', hD, ra⟩⟩
section
variable {X : Cx} {W : WX} {pos spos py : Pos} {tg iter elt : Expr} {ifs : List Expr} {scope : Scope} {own : List (Str × Nat)} {ms : Rho → M Src} {js : List Nat} {gf : D → Rho → M Rho} {mt : Rho → M Bool} {me : Rho → M D}
theorem dl_lc (hc : X.calm = true) (hN : X.N.Nodup) (hi : DI X W tg iter ms) (ok : BlkOk X.N X.env.scope scope own) (hjs : ∀ j, j ∈ js → j ∈ own.map (·.2))
    (hg : ∀ (s : Shared) (H : Hp) (C : Addr) (cl : List (Str × Addr)) (fp : List Addr), DG (X.blk s H scope (compEnvC scope cl C X.env) fp) js tg gf) (ht : ∀ (s : Shared) (H : Hp) (C : Addr) (cl : List (Str × Addr)) (fp : List Addr), DTs (X.blk s H scope (compEnvC scope cl C X.env) fp) wN ifs mt)
    (he : ∀ (s : Shared) (H : Hp) (C : Addr) (cl : List (Str × Addr)) (fp : List Addr), DE (X.blk s H scope (compEnvC scope cl C X.env) fp) wN elt me) (hs : ∀ x, foldedSetIterable iter X.env x = pure x := by intro _; rfl) :
    DL X W (.ListComp elt [⟨tg, iter, ifs, 0⟩] scope pos) (lLc ms gf mt me (own.map (·.2))) :=
  PE.weak (pe_lc (g := tGt X.K js gf) (tt := tT X.K wN mt) (te := tV X.K wN me) hc hN hi ok hg ht he hs) fun _ _ _ h => lc_of hjs h
end
inductive Fl where
  | next (ρ : Rho) (st : Sto) | ret (d : D) (st : Sto) | brk (ρ : Rho) (st : Sto) | cnt (ρ : Rho) (st : Sto) | exc (x : Xc) (ρ : Rho) (st : Sto) | bad
def Out.fl {α : Type} (r : Out α) (ρ : Rho) (f : α → Sto → Fl) : Fl := match r with
  | .ok a st => f a st
  | .exc x st => .exc x ρ st
  | .bad => .bad
@[simp] theorem Out.fl_ok {α : Type} (a : α) (st : Sto) (ρ : Rho) (f : α → Sto → Fl) : (Out.ok a st).fl ρ f = f a st := rfl
@[simp] theorem Out.fl_exc {α : Type} (x : Xc) (st : Sto) (ρ : Rho) (f : α → Sto → Fl) : (Out.exc x st : Out α).fl ρ f = .exc x ρ st := rfl
@[simp] theorem Out.fl_bad {α : Type} (ρ : Rho) (f : α → Sto → Fl) : (Out.bad : Out α).fl ρ f = .bad := rfl
def sPost (K : PySem.W.Frag) (W : WX) (E : Ends) (F : Hp) (ι : List Addr) (H : Hp) (r : Fl) : Prop := match r with
  | .next ρ' st' => ∀ F' ι' H' σ', Ext F ι H F' ι' H' → Sim K F' ι' st' H' → REnv K F' ι' ρ' σ' → E.nx σ' H'
  | .brk ρ' st' => ∀ F' ι' H' σ', Ext F ι H F' ι' H' → Sim K F' ι' st' H' → REnv K F' ι' ρ' σ' → E.bk σ' H'
  | .cnt ρ' st' => ∀ F' ι' H' σ', Ext F ι H F' ι' H' → Sim K F' ι' st' H' → REnv K F' ι' ρ' σ' → E.ct σ' H'
  | .ret d st' => ∀ F' ι' H' v, Ext F ι H F' ι' H' → Sim K F' ι' st' H' → Rep K F' ι' d v → E.rt v H'
  | .exc x ρ' st' => ∀ F' ι' H' cls dd σ', Ext F ι H F' ι' H' → Sim K F' ι' st' H' → REnv K F' ι' ρ' σ' → XcR K F' ι' H' x cls dd → W cls dd σ' H'
  | .bad => False
theorem sPost_ext {K : PySem.W.Frag} {W : WX} {E : Ends} {F F1 : Hp} {ι ι1 : List Addr} {H H1 : Hp} {r : Fl} (h : sPost K W E F ι H r) (x : Ext F ι H F1 ι1 H1) : sPost K W E F1 ι1 H1 r := by
  cases r with
  | next ρ st => exact fun F' ι' H' σ' y => h F' ι' H' σ' (x.trans y)
  | brk ρ st => exact fun F' ι' H' σ' y => h F' ι' H' σ' (x.trans y)
  | cnt ρ st => exact fun F' ι' H' σ' y => h F' ι' H' σ' (x.trans y)
  | ret d st => exact fun F' ι' H' σ' y => h F' ι' H' σ' (x.trans y)
  | exc e ρ st => exact fun F' ι' H' c d σ' y => h F' ι' H' c d σ' (x.trans y)
  | bad => exact h
def tS (K : PySem.W.Frag) (W : WX) (m : Rho → Sto → Fl) : TS := fun E σ H => ∃ F ι ρ st, Sim K F ι st H ∧ REnv K F ι ρ σ ∧ sPost K W E F ι H (m ρ st)
def DS (X : Cx) (W : WX) (s : Stmt) (m : Rho → Sto → Fl) : Prop := PS X s (tS X.K W m)
def DSs (X : Cx) (W : WX) (s : List Stmt) (m : Rho → Sto → Fl) : Prop := PSs X s (tS X.K W m)
theorem fl_seq {α β : Type} {K : PySem.W.Frag} {W : WX} {P : Hp → Hp → List Addr → Hp → α → β → Prop} {m : Rho → M α} {E : Ends} {σ : L2.St} {F : Hp} {ι : List Addr} {H : Hp} {ρ : Rho} {st : Sto} {f : α → Sto → Fl} {Q' : β → Hp → Prop}
    (S : Sim K F ι st H) (R : REnv K F ι ρ σ) (h : sPost K W E F ι H ((m ρ st).fl ρ f))
    (k : ∀ a st1 F1 ι1 H1 b, Ext F ι H F1 ι1 H1 → Sim K F1 ι1 st1 H1 → REnv K F1 ι1 ρ σ → P H F1 ι1 H1 a b → sPost K W E F1 ι1 H1 (f a st1) → Q' b H1) : tG K W P m σ H Q' := by
  refine ⟨F, ι, ρ, st, S, R, ?_⟩
  cases e : m ρ st with
  | ok a st1 =>
    rw [e] at h
    exact fun F1 ι1 H1 b x S1 p => k a st1 F1 ι1 H1 b x S1 (R.ext x) p (sPost_ext h x)
  | exc y st1 =>
    rw [e] at h
    exact fun F1 ι1 H1 c d x S1 p => h F1 ι1 H1 c d σ x S1 (R.ext x) p
  | bad =>
    rw [e] at h
    exact h
section
variable {X : Cx} {W : WX} {pos : Pos} {st : Stmt} {rest : List Stmt} {s1 s2 : Rho → Sto → Fl}
def sNext : Rho → Sto → Fl := fun ρ st => .next ρ st
def Fl.seq (r : Fl) (k : Rho → Sto → Fl) : Fl := match r with
  | .next ρ st => k ρ st
  | r => r
def sSeq (s1 s2 : Rho → Sto → Fl) : Rho → Sto → Fl := fun ρ st => (s1 ρ st).seq s2
theorem dss_nil : DSs X W [] sNext := PSs.weak pss_nil fun E σ H ⟨F, ι, ρ, st, S, R, q⟩ => q F ι H σ Ext.refl S R
theorem dss_cons (h1 : DS X W st s1) (h2 : DSs X W rest s2) : DSs X W (st :: rest) (sSeq s1 s2) := by
  refine PSs.weak (pss_cons h1 h2) fun E σ H ⟨F, ι, ρ, st, S, R, q⟩ => ⟨F, ι, ρ, st, S, R, ?_⟩
  unfold sSeq Fl.seq at q
  generalize s1 ρ st = r at q
  cases r with
  | next ρ1 st1 => exact fun F' ι' H' σ' x S' R' => ⟨F', ι', ρ1, st1, S', R', sPost_ext q x⟩
  | ret d st1 => exact q
  | brk ρ1 st1 => exact q
  | cnt ρ1 st1 => exact q
  | exc x ρ1 st1 => exact q
  | bad => exact q
theorem dss_one (h1 : DS X W st s1) : DSs X W [st] s1 := pss_one h1
def sBrk : Rho → Sto → Fl := fun ρ st => .brk ρ st
def sCnt : Rho → Sto → Fl := fun ρ st => .cnt ρ st
variable {e c : Expr} {m : Rho → M D} {mt : Rho → M Bool}
def sDrop (m : Rho → M D) : Rho → Sto → Fl := fun ρ st => (m ρ st).fl ρ fun _ st1 => .next ρ st1
theorem ds_expr (he : DE X W e m) (hs : swapsWith e none pos.line X.env = pure false := by rfl) : DS X W (.Expr e pos) (sDrop m) :=
  PS.weak (ps_expr he hs) fun E σ H ⟨F, ι, ρ, st, S, R, q⟩ => fl_seq S R q fun a st1 F1 ι1 H1 b x1 S1 R1 r1 q1 => q1 F1 ι1 H1 σ Ext.refl S1 R1
def sRet (m : Rho → M D) : Rho → Sto → Fl := fun ρ st => (m ρ st).fl ρ fun d st1 => .ret d st1
theorem ds_ret (he : DE X W e m) : DS X W (.Return (some e) pos) (sRet m) :=
  PS.weak (ps_ret he) fun E σ H ⟨F, ι, ρ, st, S, R, q⟩ => fl_seq S R q fun a st1 F1 ι1 H1 b x1 S1 R1 r1 q1 => q1 F1 ι1 H1 b Ext.refl S1 r1
def sIf (t : Rho → M Bool) (s1 s2 : Rho → Sto → Fl) : Rho → Sto → Fl := fun ρ st => (t ρ st).fl ρ fun b st1 => if b = true then s1 ρ st1 else s2 ρ st1
theorem ds_if {p1 p2 : List Stmt} (hc : DT X W c mt) (h1 : DSs X W p1 s1) (h2 : DSs X W p2 s2) : DS X W (.If c p1 p2 pos) (sIf mt s1 s2) := by
  refine PS.weak (ps_if hc h1 h2) fun E σ H ⟨F, ι, ρ, st, S, R, q⟩ => fl_seq S R q fun a st1 F1 ι1 H1 b x1 S1 R1 r1 q1 => ?_
  have r1 : a = b := r1
  subst r1
  cases a with
  | true => exact ⟨F1, ι1, ρ, st1, S1, R1, q1⟩
  | false => exact ⟨F1, ι1, ρ, st1, S1, R1, q1⟩
def sAsg (gf : D → Rho → M Rho) (m : Rho → M D) : Rho → Sto → Fl := fun ρ st => (m ρ st).fl ρ fun d st1 => (nox (gf d ρ st1)).fl ρ fun ρ2 st2 => .next ρ2 st2
theorem ds_asg {tg : Expr} {js : List Nat} {gf : D → Rho → M Rho} (he : DE X W e m) (hg : DG X js tg gf) (hs : swapsWithSole [tg] e pos.line X.env = pure false := by rfl) (hw : swappedStores [tg] e X.env = pure none := by rfl)
    (h1 : (assignEach [tg] X.env).map (·.2) = [assign tg X.env] := by rfl) : DS X W (.Assign [tg] e pos) (sAsg gf m) := by
  refine PS.weak (ps_asg he hg hs hw h1) fun E σ H ⟨F, ι, ρ, st, S, R, q⟩ => fl_seq S R q fun a st1 F1 ι1 H1 b x1 S1 R1 r1 q1 => ?_
  refine ⟨F1, ι1, ρ, st1, a, S1, R1, r1, ?_⟩
  cases e1 : gf a ρ st1 with
  | ok ρ2 st2 =>
    rw [e1] at q1
    exact fun F' ι' H' σ' x S' r => q1 F' ι' H' σ' x S' r.1
  | exc _ _ => rw [e1] at q1; exact (q1 : False).elim
  | bad => rw [e1] at q1; exact (q1 : False).elim
theorem name_of {K : PySem.W.Frag} {i : Nat} {E : Ends} {σ : L2.St} {H : Hp} (h : tS K W (sAsg (gN i) m) E σ H) : tV K W m σ H fun x H1 => gName i x σ H1 E.nx := by
  obtain ⟨F, ι, ρ, st, S, R, q⟩ := h
  exact fl_seq S R q fun a st1 F1 ι1 H1 b x1 S1 R1 r1 q1 => q1 F1 ι1 H1 _ Ext.refl S1 (R1.set r1 i)
theorem ds_set {i : Nat} {x : Str} {pos' : Pos} (hN : X.N.Nodup) (hi : X.N[i]? = some x) (hx : Loc X.env.scope x) (he : DE X W e m) (hs : swapsWith e (some (.Name x pos')) pos.line X.env = pure false := by rfl) (hf : X.fn x = true ∨ X.env.scope.names.lookup x = some .local := by first | exact .inl rfl | exact .inr rfl | assumption) :
    DS X W (.Assign [.Name x pos'] e pos) (sAsg (gN i) m) :=
  PS.weak (ps_set hN hi hx he hs hf) fun E σ H h => name_of h
theorem ds_setLc {spos py : Pos} {tg iter elt : Expr} {ifs : List Expr} {scope : Scope} {own : List (Str × Nat)} {ms : Rho → M Src} {js : List Nat} {gf : D → Rho → M Rho} {mt : Rho → M Bool} {me : Rho → M D} {i : Nat} {y : Str} (fz : Bool) (hc : X.calm = true) (hN : X.N.Nodup) (hy : X.N[i]? = some y) (hyl : X.env.scope.names.lookup y = some .local)
    (hsw : swapsWith (.ListComp elt [⟨tg, iter, ifs, 0⟩] scope pos) (some (.Name y py)) spos.line X.env = pure true) (hi : DI X W tg iter ms) (ok : BlkOk X.N X.env.scope scope own) (hjs : ∀ j, j ∈ js → j ∈ own.map (·.2))
    (hg : ∀ (s : Shared) (H : Hp) (C : Addr) (cl : List (Str × Addr)) (fp : List Addr), DG (X.blk s H scope (compEnvC scope cl C X.env) fp) js tg gf) (ht : ∀ (s : Shared) (H : Hp) (C : Addr) (cl : List (Str × Addr)) (fp : List Addr), DTs (X.blk s H scope (compEnvC scope cl C X.env) fp) wN ifs mt)
    (he : ∀ (s : Shared) (H : Hp) (C : Addr) (cl : List (Str × Addr)) (fp : List Addr), DE (X.blk s H scope (compEnvC scope cl C X.env) fp) wN elt me) (hs : ∀ x, foldedSetIterable iter X.env x = pure x := by intro _; rfl) :
    DS X W (.Assign [.Name y py] (.ListComp elt [⟨tg, iter, ifs, 0⟩] scope pos) spos) (sAsg (gN i) ((if fz = true then mFrz else mNew) (lLc ms gf mt me (own.map (·.2))))) :=
  PS.weak (ps_setLc (g := tGt X.K js gf) (tt := tT X.K wN mt) (te := tV X.K wN me) hc hN hy hyl hsw hi ok hg ht he hs) fun E σ H h => lc_of hjs (by
    have q := name_of h
    cases fz with
    | true => exact frz_of q
    | false => exact new_of q)
def sPar (i j : Nat) (a : Rho → M (List D)) : Rho → Sto → Fl := fun ρ st => (a ρ st).fl ρ fun ds st1 => match ds with
  | [x, y] => .next ((ρ.set i (some x)).set j (some y)) st1
  | _ => .bad
theorem ds_par {i j : Nat} {x y : Str} {a b : Expr} {am : Rho → M (List D)} {px py pt : Pos} {kt k2 pt2} (hc : X.calm = true) (hN : X.N.Nodup) (hi : X.N[i]? = some x) (hj : X.N[j]? = some y) (hij : i ≠ j)
    (hx : X.env.scope.names.lookup x = some .local) (hy : X.env.scope.names.lookup y = some .local) (ha : DA X W [a, b] am)
    (hw : swappedStores [.Tuple [.Name x px, .Name y py] kt pt] (.Tuple [a, b] k2 pt2) X.env = pure (some [x, y]))
    (hs : swapsWithSole [.Tuple [.Name x px, .Name y py] kt pt] (.Tuple [a, b] k2 pt2) pos.line X.env = pure false := by rfl) :
    DS X W (.Assign [.Tuple [.Name x px, .Name y py] kt pt] (.Tuple [a, b] k2 pt2) pos) (sPar i j am) := by
  refine PS.weak (ps_par hc hN hi hj hij hx hy ha hw hs) fun E σ H ⟨F, ι, ρ, st, S, R, q⟩ => fl_seq S R q fun ds st1 F1 ι1 H1 vs x1 S1 R1 r1 q1 => ?_
  split at q1
  · rename_i d1 d2
    obtain ⟨v1, v2, e, r1, r2⟩ := Reps.two (show Reps X.K F1 ι1 [d1, d2] vs from r1)
    exact ⟨v1, v2, e, q1 F1 ι1 H1 _ Ext.refl S1 ((R1.set r1 i).set r2 j)⟩
  · exact q1.elim
open Classical in
noncomputable def forL (held : List (Nat × List D)) (body : D → Rho → Sto → Fl) : List D → Rho → Sto → Fl
  | [], ρ, st => if heldOk held st then .next ρ st else .bad
  | d :: ds, ρ, st => if heldOk held st then (match body d ρ st with
    | .next ρ' st' => forL held body ds ρ' st'
    | .cnt ρ' st' => forL held body ds ρ' st'
    | .brk ρ' st' => .next ρ' st'
    | r => r) else .bad
def forB (gf : D → Rho → M Rho) (mb : Rho → Sto → Fl) : D → Rho → Sto → Fl := fun d ρ st => (nox (gf d ρ st)).fl ρ fun ρ' st' => mb ρ' st'
noncomputable def sFor (ms : Rho → M Src) (gf : D → Rho → M Rho) (mb : Rho → Sto → Fl) : Rho → Sto → Fl := fun ρ st => (ms ρ st).fl ρ fun src st1 => forL src.held (forB gf mb) src.items ρ st1
theorem ds_for {tg iter : Expr} {body : List Stmt} {ms : Rho → M Src} {js : List Nat} {gf : D → Rho → M Rho} {mb : Rho → Sto → Fl} (hp : PassesOwn (model X.prog X.w) X.A X.env X.xe) (hc : X.calm = true) (hi : DI X W tg iter ms) (hg : DG X js tg gf) (hb : DSs X W body mb)
    (hs : ∀ x, foldedSetIterable iter X.env x = pure x := by intro _; rfl) : DS X W (.For tg iter body [] pos) (sFor ms gf mb) := by
  refine PS.weak (ps_for hp hc hi hg hb hs) fun E σ H ⟨F, ι, ρ, st, S, R, q⟩ => fl_seq S R q fun src st1 F1 ι1 H1 J x1 S1 R1 hJ q1 => ?_
  have hJ : SrcIt X.K F1 ι1 src J := hJ
  refine ⟨fun i m σ' H' => m = src.items.length - i ∧ i ≤ src.items.length ∧ ∃ F' ι' ρ' st', Ext F1 ι1 H1 F' ι' H' ∧ Sim X.K F' ι' st' H' ∧ REnv X.K F' ι' ρ' σ' ∧ sPost X.K W E F' ι' H' (forL src.held (forB gf mb) (src.items.drop i) ρ' st'),
    ⟨_, rfl, Nat.zero_le _, F1, ι1, ρ, st1, Ext.refl, S1, R1, q1⟩, ?_⟩
  rintro i m σ' H' ⟨rfl, hi, F', ι', ρ', st', x', S', R', q'⟩
  by_cases hlt : i < src.items.length
  · right
    rw [List.drop_eq_getElem_cons hlt] at q'
    unfold forL at q'
    split at q'
    rotate_left
    · exact q'.elim
    rename_i ho
    refine ⟨hJ.go i F' ι' st' H' x'.grow S' ho hlt, fun σ'' H'' => ∃ m', m' < src.items.length - i ∧ _, fun σ'' H'' h => h, fun x H2 y => ?_⟩
    obtain ⟨F2, x2, S2, r2⟩ := hJ.yld i F' ι' st' H' x H2 src.items[i] x'.grow S' ho (by simp [hlt]) y
    refine ⟨F2, ι', ρ', st', _, S2, R'.ext x2, r2, ?_⟩
    unfold forB at q'
    cases e1 : gf src.items[i] ρ' st' with
    | exc _ _ => rw [e1] at q'; exact (q' : False).elim
    | bad => rw [e1] at q'; exact (q' : False).elim
    | ok ρ2 st2 =>
      rw [e1] at q'
      intro F3 ι3 H3 σ3 x3 S3 R3
      refine ⟨F3, ι3, ρ2, st2, S3, R3.1, ?_⟩
      have xx : Ext F' ι' H' F3 ι3 H3 := x2.trans x3
      have q'' := sPost_ext q' xx
      simp only [nox_ok, Out.fl_ok] at q''
      cases e2 : mb ρ2 st2 with
      | next ρ4 st4 =>
        rw [e2] at q''
        intro F4 ι4 H4 σ4 x4 S4 R4
        exact ⟨src.items.length - (i + 1), by omega, rfl, hlt, F4, ι4, ρ4, st4, (x'.trans xx).trans x4, S4, R4, sPost_ext q'' x4⟩
      | cnt ρ4 st4 =>
        rw [e2] at q''
        intro F4 ι4 H4 σ4 x4 S4 R4
        exact ⟨src.items.length - (i + 1), by omega, rfl, hlt, F4, ι4, ρ4, st4, (x'.trans xx).trans x4, S4, R4, sPost_ext q'' x4⟩
      | brk ρ4 st4 => rw [e2] at q''; exact q''
      | ret d st4 => rw [e2] at q''; exact q''
      | exc x ρ4 st4 => rw [e2] at q''; exact q''
      | bad => rw [e2] at q''; exact q''
  · left
    have e0 : i = src.items.length := by omega
    subst e0
    rw [List.drop_length] at q'
    unfold forL at q'
    split at q'
    rotate_left
    · exact q'.elim
    rename_i ho
    exact ⟨hJ.stop F' ι' st' H' x'.grow S' ho, q' F' ι' H' σ' Ext.refl S' R'⟩
def whileL (t : Rho → M Bool) (mb : Rho → Sto → Fl) : Nat → Rho → Sto → Fl
  | 0, _, _ => .bad
  | n + 1, ρ, st => (t ρ st).fl ρ fun b st1 => if b = true then (match mb ρ st1 with
    | .next ρ' st' => whileL t mb n ρ' st'
    | .cnt ρ' st' => whileL t mb n ρ' st'
    | .brk ρ' st' => .next ρ' st'
    | r => r) else .next ρ st1
def sWhile (n : Nat) (t : Rho → M Bool) (mb : Rho → Sto → Fl) : Rho → Sto → Fl := fun ρ st => whileL t mb n ρ st
theorem ds_while {n : Nat} {body : List Stmt} {mb : Rho → Sto → Fl} (hp : PassesOwn (model X.prog X.w) X.A X.env X.xe) (hc : DT X W c mt) (hb : DSs X W body mb) : DS X W (.While c body [] pos) (sWhile n mt mb) := by
  refine PS.weak (ps_while hp hc hb) fun E σ H ⟨F, ι, ρ, st, S, R, q⟩ => ?_
  refine ⟨fun m σ' H' => ∃ F' ι' ρ' st', Sim X.K F' ι' st' H' ∧ REnv X.K F' ι' ρ' σ' ∧ sPost X.K W E F' ι' H' (whileL mt mb m ρ' st'), ⟨n, F, ι, ρ, st, S, R, q⟩, ?_⟩
  rintro m σ' H' ⟨F', ι', ρ', st', S', R', q'⟩
  cases m with
  | zero => exact (q' : False).elim
  | succ m =>
    refine fl_seq S' R' q' fun a st1 F1 ι1 H1 b x1 S1 R1 r1 q1 => ?_
    have r1 : a = b := r1
    subst r1
    cases a with
    | false => exact q1 F1 ι1 H1 σ' Ext.refl S1 R1
    | true =>
      rw [if_pos rfl] at q1 ⊢
      refine ⟨fun σ'' H'' => ∃ m', m' < m + 1 ∧ _, fun σ'' H'' h => h, F1, ι1, ρ', st1, S1, R1, ?_⟩
      cases e2 : mb ρ' st1 with
      | next ρ4 st4 =>
        rw [e2] at q1
        exact fun F4 ι4 H4 σ4 x4 S4 R4 => ⟨m, Nat.lt_succ_self m, F4, ι4, ρ4, st4, S4, R4, sPost_ext q1 x4⟩
      | cnt ρ4 st4 =>
        rw [e2] at q1
        exact fun F4 ι4 H4 σ4 x4 S4 R4 => ⟨m, Nat.lt_succ_self m, F4, ι4, ρ4, st4, S4, R4, sPost_ext q1 x4⟩
      | brk ρ4 st4 => rw [e2] at q1; exact q1
      | ret d st4 => rw [e2] at q1; exact q1
      | exc x ρ4 st4 => rw [e2] at q1; exact q1
      | bad => rw [e2] at q1; exact q1
end
end Dn
namespace Dn
open PySem PySem.Spec PyProof.Rows L2
mutual
def D.low (n : Nat) : D → Bool
  | .tup xs => D.lows n xs
  | .lst xs => D.lows n xs
  | .scr xs => D.lows n xs
  | .ref l => decide (l < n)
  | .non => true
  | .bl _ => true
  | .int _ => true
  | .str _ => true
  | .adr _ => true
  | .fd _ xs => D.lows n xs
  | .exo _ _ _ d => D.low n d
  | .obj _ _ xs => D.lows n xs
  | .sd _ => true
  | .fnv _ => true
def D.lows (n : Nat) : List D → Bool
  | [] => true
  | d :: ds => D.low n d && D.lows n ds
end
def MO.low (n : Nat) : MO → Bool
  | .lst xs => D.lows n xs
  | .dct _ xs => D.lows n xs
  | .gone => true
  | .ins _ fs => fs.all fun p => p.2.low n
section
variable {K : PySem.W.Frag} {F F' : Hp} {ι ι' : List Addr} {H H' : Hp} {st st' : Sto} {n : Nat}
mutual
theorem Rep.cut : ∀ (d : D) (v : V), Rep K F ι d v → d.low n = true → Rep K F (ι.take n) d v
  | .non, _, h, _ => by simpa only [Rep] using h
  | .bl _, _, h, _ => by simpa only [Rep] using h
  | .int _, _, h, _ => by simpa only [Rep] using h
  | .str _, _, h, _ => by simpa only [Rep] using h
  | .adr _, _, h, _ => by simpa only [Rep] using h
  | .tup xs, v, h, l => by
    simp only [Rep] at h ⊢
    simp only [D.low] at l
    obtain ⟨a, vs, e, q, r⟩ := h
    exact ⟨a, vs, e, q, Reps.cut xs vs r l⟩
  | .lst xs, v, h, l => by
    simp only [Rep] at h ⊢
    simp only [D.low] at l
    obtain ⟨a, vs, e, q, r⟩ := h
    exact ⟨a, vs, e, q, Reps.cut xs vs r l⟩
  | .scr xs, v, h, l => by
    simp only [Rep] at h ⊢
    simp only [D.low] at l
    obtain ⟨a, vs, e, q, r⟩ := h
    exact ⟨a, vs, e, q, Reps.cut xs vs r l⟩
  | .ref j, v, h, l => by
    simp only [Rep] at h ⊢
    simp only [D.low, decide_eq_true_eq] at l
    obtain ⟨a, e, q⟩ := h
    exact ⟨a, e, by rw [List.getElem?_take_of_lt l]; exact q⟩
  | .fd ks ds, v, h, l => by
    simp only [Rep] at h ⊢
    simp only [D.low] at l
    obtain ⟨a, xs, ws, e, z, q, kt, vr, r⟩ := h
    exact ⟨a, xs, ws, e, z, q, kt, vr, Reps.cut ds ws r l⟩
  | .exo a dd g d, v, h, l => by
    simp only [Rep] at h ⊢
    simp only [D.low] at l
    obtain ⟨e, u, q, r⟩ := h
    exact ⟨e, u, q, Rep.cut d u r l⟩
  | .obj nm ks ds, v, h, l => by
    simp only [Rep] at h ⊢
    simp only [D.low] at l
    obtain ⟨a, C, dx, gs, e, z, q, kk, r⟩ := h
    exact ⟨a, C, dx, gs, e, z, q, kk, Reps.cut ds _ r l⟩
  | .sd kvs, v, h, l => by
    simp only [Rep] at h ⊢
    exact h
  | .fnv _, v, h, l => by
    simp only [Rep] at h ⊢
    exact h
theorem Reps.cut : ∀ (ds : List D) (vs : List V), Reps K F ι ds vs → D.lows n ds = true → Reps K F (ι.take n) ds vs
  | [], _, h, _ => by simpa only [Reps] using h
  | d :: ds, vs, h, l => by
    simp only [Reps] at h ⊢
    simp only [D.lows, Bool.and_eq_true] at l
    obtain ⟨v, r, e, h1, h2⟩ := h
    exact ⟨v, r, e, Rep.cut d v h1 l.1, Reps.cut ds r h2 l.2⟩
end
mutual
theorem Rep.isLow : ∀ (d : D) (v : V), Rep K F ι d v → d.low ι.length = true
  | .non, _, _ => by simp only [D.low]
  | .bl _, _, _ => by simp only [D.low]
  | .int _, _, _ => by simp only [D.low]
  | .str _, _, _ => by simp only [D.low]
  | .adr _, _, _ => by simp only [D.low]
  | .tup xs, v, h => by
    simp only [Rep] at h
    simp only [D.low]
    obtain ⟨a, vs, e, q, r⟩ := h
    exact Reps.isLow xs vs r
  | .lst xs, v, h => by
    simp only [Rep] at h
    simp only [D.low]
    obtain ⟨a, vs, e, q, r⟩ := h
    exact Reps.isLow xs vs r
  | .scr xs, v, h => by
    simp only [Rep] at h
    simp only [D.low]
    obtain ⟨a, vs, e, q, r⟩ := h
    exact Reps.isLow xs vs r
  | .ref j, v, h => by
    simp only [Rep] at h
    simp only [D.low, decide_eq_true_eq]
    obtain ⟨a, e, q⟩ := h
    exact (List.getElem?_eq_some_iff.mp q).1
  | .fd ks ds, v, h => by
    simp only [Rep] at h
    simp only [D.low]
    obtain ⟨a, xs, ws, e, z, q, kt, vr, r⟩ := h
    exact Reps.isLow ds ws r
  | .exo a dd g d, v, h => by
    simp only [Rep] at h
    simp only [D.low]
    obtain ⟨e, u, q, r⟩ := h
    exact Rep.isLow d u r
  | .obj nm ks ds, v, h => by
    simp only [Rep] at h
    simp only [D.low]
    obtain ⟨a, C, dx, gs, e, z, q, kk, r⟩ := h
    exact Reps.isLow ds _ r
  | .sd kvs, v, h => by simp only [D.low]
  | .fnv _, v, h => by simp only [D.low]
theorem Reps.isLow : ∀ (ds : List D) (vs : List V), Reps K F ι ds vs → D.lows ι.length ds = true
  | [], _, _ => by simp only [D.lows]
  | d :: ds, vs, h => by
    simp only [Reps] at h
    simp only [D.lows, Bool.and_eq_true]
    obtain ⟨v, r, e, h1, h2⟩ := h
    exact ⟨Rep.isLow d v h1, Reps.isLow ds r h2⟩
end
theorem RepF.cut {fs : List (Str × D)} {gs : List (Str × V)} (h : RepF K F ι fs gs) (l : (fs.all fun p => p.2.low n) = true) : RepF K F (ι.take n) fs gs := by
  induction h with
  | nil => exact .nil
  | cons a b ih =>
    simp only [List.all_cons, Bool.and_eq_true] at l
    exact .cons ⟨a.1, Rep.cut _ _ a.2 l.1⟩ (ih l.2)
theorem RepF.isLow {fs : List (Str × D)} {gs : List (Str × V)} (h : RepF K F ι fs gs) : (fs.all fun p => p.2.low ι.length) = true := by
  induction h with
  | nil => rfl
  | cons a b ih =>
    simp only [List.all_cons, Bool.and_eq_true]
    exact ⟨Rep.isLow _ _ a.2, ih⟩
theorem ObjR.cut {a : Addr} {m : MO} (h : ObjR K F ι H a m) (l : m.low n = true) : ObjR K F (ι.take n) H a m := by
  cases m with
  | lst xs =>
    obtain ⟨vs, e, r⟩ := h
    exact ⟨vs, e, Reps.cut _ _ r l⟩
  | dct ks ds =>
    obtain ⟨xs, ws, z, q, kt, vr, r⟩ := h
    exact ⟨xs, ws, z, q, kt, vr, Reps.cut _ _ r l⟩
  | gone => trivial
  | ins C fs =>
    obtain ⟨C, dx, gs, z, e, r⟩ := h
    exact ⟨C, dx, gs, z, e, RepF.cut r l⟩
theorem ObjR.isLow {a : Addr} {m : MO} (h : ObjR K F ι H a m) : m.low ι.length = true := by
  cases m with
  | lst xs =>
    obtain ⟨vs, e, r⟩ := h
    exact Reps.isLow _ _ r
  | dct ks ds =>
    obtain ⟨xs, ws, z, q, kt, vr, r⟩ := h
    exact Reps.isLow _ _ r
  | gone => rfl
  | ins C fs =>
    obtain ⟨C, dx, gs, z, e, r⟩ := h
    exact RepF.isLow r
theorem Sim.isLow (S : Sim K F ι st H) {l : Nat} {m : MO} (e : st[l]? = some m) : m.low st.length = true := by
  have hl : l < ι.length := by rw [S.len]; exact (List.getElem?_eq_some_iff.mp e).1
  rw [← S.len]
  exact (S.obj l m _ e (List.getElem?_eq_getElem hl)).isLow
theorem Sim.take (S : Sim K F ι st H) (h : ∀ (l : Nat) (m : MO), (st.take n)[l]? = some m → m.low n = true) : Sim K F (ι.take n) (st.take n) H := by
  refine ⟨S.sub, S.kind, by rw [List.length_take, List.length_take, S.len], S.nd.sublist (List.take_sublist _ _), fun l a q hg => ?_, fun a q => S.there a (List.mem_of_mem_take q), fun l m a e1 e2 => ?_⟩
  · have hl : l < n := by
      have := (List.getElem?_eq_some_iff.mp q).1
      rw [List.length_take] at this
      omega
    rw [List.getElem?_take_of_lt hl] at q hg
    exact S.free l a q hg
  have hl : l < n := by
    have := (List.getElem?_eq_some_iff.mp e1).1
    rw [List.length_take] at this
    omega
  refine ObjR.cut (S.obj l m a ?_ ?_) (h l m e1)
  · rw [← List.getElem?_take_of_lt hl]; exact e1
  · rw [← List.getElem?_take_of_lt hl]; exact e2
theorem Ext.take (x : Ext F ι H F' ι' H') (h : ι.length ≤ n) : Ext F ι H F' (ι'.take n) H' := by
  refine ⟨x.f, fun l a q => ?_, x.keep, x.there, x.newF, fun a q => x.newI a (List.mem_of_mem_take q), ?_⟩
  · have hl := (List.getElem?_eq_some_iff.mp q).1
    rw [List.getElem?_take_of_lt (by omega)]
    exact x.i l a q
  · rw [List.length_take]
    have := x.long
    omega
end
def lowS (n : Nat) (st : Sto) : Prop := ∀ (l : Nat) (m : MO), st[l]? = some m → m.low n = true
def Xc.low (n : Nat) (x : Xc) : Bool := match x.fld with
  | none => true
  | some p => p.2.low n
def MO.isIns : MO → Bool
  | .ins _ _ => true
  | _ => false
def Tidy (st0 st : Sto) : Prop := st0.length ≤ st.length ∧ (∀ (l : Nat) (m : MO), l < st0.length → st[l]? = some m → st0[l]? = some m ∨ m.low st0.length = true) ∧ ∀ (l : Nat) (m : MO), st0.length ≤ l → st[l]? = some m → m.isIns = false
open Classical in
noncomputable def clean (st0 : Sto) (r : Out D) : Out D := match r with
  | .ok d st => if d.low st0.length = true ∧ Tidy st0 st then .ok d (st.take st0.length) else .ok d st
  | .exc x st => if x.low st0.length = true ∧ Tidy st0 st then .exc x (st.take st0.length) else .exc x st
  | .bad => .bad
section
variable {K : PySem.W.Frag} {W : WX} {σ : L2.St} {F F' : Hp} {ι ι' : List Addr} {H H' : Hp} {st st' : Sto} {Q : VK}
theorem clean_low (S : Sim K F ι st H) (h : Tidy st st') : lowS st.length (st'.take st.length) := fun l m e => by
  have hl : l < st.length := by
    have := (List.getElem?_eq_some_iff.mp e).1
    rw [List.length_take] at this
    omega
  rw [List.getElem?_take_of_lt hl] at e
  rcases h.2.1 l m hl e with q | q
  · exact S.isLow q
  · exact q
theorem clean_ok {d : D} {v : V} (S : Sim K F ι st H) (x : Ext F ι H F' ι' H') (S' : Sim K F' ι' st' H') (r : Rep K F' ι' d v) (q : post K W σ F ι H (pV K) (clean st (.ok d st')) Q) : Q v H' := by
  unfold clean at q
  dsimp only at q
  split at q
  · rename_i h
    exact q F' (ι'.take st.length) H' v (x.take (by rw [S.len]; exact Nat.le_refl _)) (S'.take (clean_low S h.2)) (Rep.cut _ _ r h.1)
  · exact q F' ι' H' v x S' r
theorem clean_exc {e : Xc} {cls : Value} {dd : Option Addr} (S : Sim K F ι st H) (x : Ext F ι H F' ι' H') (S' : Sim K F' ι' st' H') (r : XcR K F' ι' H' e cls dd) (q : post K W σ F ι H (pV K) (clean st (.exc e st')) Q) : W cls dd σ H' := by
  unfold clean at q
  dsimp only at q
  split at q
  · rename_i h
    refine q F' (ι'.take st.length) H' cls dd (x.take (by rw [S.len]; exact Nat.le_refl _)) (S'.take (clean_low S h.2)) ⟨r.1, ?_⟩
    have h1 := h.1
    have r2 := r.2
    unfold Xc.low at h1
    split
    · rename_i e1
      rw [e1] at r2
      exact r2
    · rename_i f d e1
      rw [e1] at r2 h1
      obtain ⟨a, v, q1, q2, q3⟩ := r2
      exact ⟨a, v, q1, q2, Rep.cut _ _ q3 h1⟩
  · exact q F' ι' H' cls dd x S' r
end
def flOut (r : Fl) : Out D := match r with
  | .next _ st => .ok .non st
  | .ret d st => .ok d st
  | .exc x _ st => .exc x st
  | _ => .bad
def rho0 (n : Nat) (ds : List D) : Rho := ds.map some ++ List.replicate (n - ds.length) none
noncomputable def fnD (np nN : Nat) (body : Rho → Sto → Fl) : List D → M D := fun ds st => if ds.length = np then clean st (flOut (body (rho0 nN ds) st)) else .bad
def wE (E : XK) : WX := fun cls dd _ H => E cls dd H
def spD (K : PySem.W.Frag) (np : Nat) (spec : List D → M D) : Sp := fun vs H Q E => vs.length = np ∧ ∃ F ι st ds, Sim K F ι st H ∧ Reps K F ι ds vs ∧ post K (wE E) [] F ι H (pV K) (spec ds st) Q
def CXk (k : Nat) (P : Program) (w : World) : CXT := if 40 ≤ k then L2.CX P w else L2N.CX P w
theorem cxk_ge {k : Nat} (h : 40 ≤ k) : CXk k = L2.CX := by funext P w; unfold CXk; rw [if_pos h]
theorem cxk_lt {k : Nat} (h : ¬ 40 ≤ k) : CXk k = L2N.CX := by funext P w; unfold CXk; rw [if_neg h]
theorem cxN_c {P : Program} {w : World} {fr : List Env} {H : Hp} {s s' : Shared} {E : XK} {u : Value} (h : L2N.CX P w fr H s E u s') : L2.CX P w fr H s E u s' := by
  obtain ⟨a, B, H', cls, d, e, fl, r⟩ := h
  exact ⟨a, B, H', cls, d, e, L2H.flyingZ_imp (fun _ z => z.zc) fl, r⟩
theorem cxk_mono {k k' : Nat} {P : Program} {w : World} {fr : List Env} {H : Hp} {s s' : Shared} {E : XK} {u : Value} (hk : k ≤ k') (h : CXk k P w fr H s E u s') : CXk k' P w fr H s E u s' := by
  by_cases h1 : 40 ≤ k
  · rw [cxk_ge h1] at h
    rw [cxk_ge (Nat.le_trans h1 hk)]
    exact h
  · rw [cxk_lt h1] at h
    by_cases h2 : 40 ≤ k'
    · rw [cxk_ge h2]
      exact cxN_c h
    · rw [cxk_lt h2]
      exact h
theorem crk_mono {k k' : Nat} {P : Program} {w : World} {fr : List Env} {H : Hp} {s s' : Shared} {E : XK} {Q : VK} {r : Result} (hk : k ≤ k') (h : CR (CXk k P w) fr P w H s Q E r s') : CR (CXk k' P w) fr P w H s Q E r s' := by
  cases r with
  | error e => exact cxk_mono hk h
  | ok fl => cases fl <;> exact h
structure TkK (k : Nat) (X : Cx) (W : WX) : Prop where
  n : L2N.Takes X W
  c : 40 ≤ k → L2.Takes X W
theorem heldZ_imp {h B : Heap} {l : List Env} {a L : Addr} {Z Z' : Obj → Prop} (z : ∀ o, Z o → Z' o) (x : HandSPX.HeldZ B l a Z L h) : HandSPX.HeldZ B l a Z' L h := ⟨x.1, x.2.1, x.2.2.1, L2H.tracedZ_imp z x.2.2.2⟩
theorem skyN_c {B h : Heap} {l : List Env} {a L : Addr} {cls : Value} {d : Option Addr} (x : Sky B l a (L2N.Zn cls d) L h) : Sky B l a (Zc cls d) L h := by
  rcases x with ⟨hB, hn, hl, oe, vs, he, hz, r⟩ | fl | hd
  · exact .inl ⟨hB, hn, hl, oe, vs, he, hz.zc, r⟩
  · exact .inr (.inl (L2H.flyingZ_imp (fun _ z => z.zc) fl))
  · exact .inr (.inr (heldZ_imp (fun _ z => z.zc) hd))
theorem TkK.of {k : Nat} {X : Cx} {W : WX} (t : L2.Takes X W) : TkK k X W := ⟨fun u s' ⟨a, B, sI, pins, σ, H, cls, d, e, I, nb, up, sky, r⟩ => t u s' ⟨a, B, sI, pins, σ, H, cls, d, e, I, nb, up, skyN_c sky, r⟩, fun _ => t⟩
theorem TkK.low {k : Nat} {X : Cx} {W : WX} (t : L2N.Takes X W) (h : k < 40 := by decide) : TkK k X W := ⟨t, fun h' => absurd h' (by omega)⟩
theorem TkK.mono {k j : Nat} {X : Cx} {W : WX} (t : TkK j X W) (h : k ≤ j) : TkK k X W := ⟨t.n, fun h' => t.c (Nat.le_trans h' h)⟩
theorem tkK_of {k : Nat} {X : Cx} {E : XK} (hs : X.stack = X.env :: X.outer) (hf : X.env.frame = some X.env.locals) (hex : X.ex = []) {E₁ : Value → Shared → Prop}
    (hx : X.xe = fun e s' => wpAny (model X.prog X.w) X.A (leaving X.env e) (fun _ s'' => CXk (k + 1) X.prog X.w X.outer X.H_0 X.s_0 E e s'') E₁ s') : TkK k X (fun cls d _ H => E cls d H) := by
  by_cases h : 40 ≤ k + 1
  · rw [cxk_ge h] at hx
    exact .of (takes_of hs hf hex hx)
  · rw [cxk_lt h] at hx
    exact ⟨L2N.takes_of hs hf hex hx, fun h' => absurd (Nat.le_succ_of_le h') h⟩
theorem passK {k : Nat} {X : Cx} {W : WX} (tk : TkK k X W) (σ : L2.St) : PassesAt (CXk k X.prog X.w) X σ (WE W σ) := by
  by_cases h : 40 ≤ k
  · rw [cxk_ge h]
    exact L2.passAt (tk.c h) σ
  · rw [cxk_lt h]
    exact L2N.passAt tk.n σ
theorem cx_no {k : Nat} {P : Program} {w : World} {fr : List Env} {H : Hp} {s s' : Shared} {e : Value} (h : CXk k P w fr H s (fun _ _ _ => False) e s') : False := by
  replace h := cxk_mono (k' := k + 40) (Nat.le_add_right k 40) h
  rw [cxk_ge (Nat.le_add_left 40 k)] at h
  obtain ⟨a, B, H', cls, d, ea, fl, hok, ub, na, os, ag, he⟩ := h
  exact he
structure FnG (P : Program) (w : World) (K : PySem.W.Frag) (mg : Str → Option Value) (base : Heap) (k : Nat) (f : Addr) (fd : FuncData) (ps : List Str) (sp : Sp) : Prop where
  len : ∀ vs H Q E, sp vs H Q E → vs.length = ps.length
  run : ∀ (B : Around) (fr : List Env) (s : Shared) (H : Hp) (ar : Args) (us : List Value) (vs : List V) (Q : VK) (E : XK), Room k B → (5 < k → B.guards = some []) → Env0 P w K mg base B fr s H → BindsTo s fd ar (ps.zip us) → Vals vs us → sp vs H Q E →
    codeAny (model P w) B (.call (.ref f) ar) (CR (CXk k P w) fr P w H s Q E) s
structure Bd (X : Cx) (W : WX) (k : Nat) : Prop where
  room : Room k X.A
  gd : 5 < k → X.A.guards = some []
  calm : X.calm = true
  nd : X.N.Nodup
  tk : TkK k X W
theorem REnv.start {K : PySem.W.Frag} {F : Hp} {ι : List Addr} {ds : List D} {vs : List V} {N : List Str} (r : Reps K F ι ds vs) (hl : ds.length ≤ N.length) : REnv K F ι (rho0 N.length ds) (start N vs) := by
  have e := r.length
  refine ⟨?_, fun i d h => ?_⟩
  · unfold rho0 L2.start
    simp only [List.length_append, List.length_map, List.length_replicate]
    omega
  · unfold rho0 at h
    have hi : i < ds.length := by
      by_cases hi : i < ds.length
      · exact hi
      · rw [List.getElem?_append_right (by simpa using hi), List.getElem?_replicate] at h
        split at h <;> cases h
    rw [List.getElem?_append_left (by simpa using hi), List.getElem?_map] at h
    cases e1 : ds[i]? with
    | none => rw [e1] at h; cases h
    | some d1 =>
      rw [e1] at h
      cases h
      obtain ⟨v, q1, q2⟩ := r.get e1
      refine ⟨v, ?_, q2⟩
      unfold L2.start
      rw [List.getElem?_append_left (by rw [List.length_map]; omega), List.getElem?_map, q1]
      rfl
theorem body_end {K : PySem.W.Frag} {E : XK} {Q : VK} {F : Hp} {ι : List Addr} {H : Hp} {st : Sto} {r : Fl} (S : Sim K F ι st H) (q : post K (wE E) [] F ι H (pV K) (clean st (flOut r)) Q) :
    sPost K (wE E) { nx := fun _ H' => Q .non H', rt := Q } F ι H r := by
  cases r with
  | next ρ st' => exact fun F' ι' H' σ' x S' R' => clean_ok (v := V.non) S x S' (by simp only [Rep]) q
  | ret d st' => exact fun F' ι' H' v x S' r' => clean_ok S x S' r' q
  | exc e ρ st' => exact fun F' ι' H' cls dd σ' x S' R' r' => clean_exc (σ := []) S x S' r' q
  | brk _ _ => exact (q : False).elim
  | cnt _ _ => exact (q : False).elim
  | bad => exact (q : False).elim
section
variable {P : Program} {w : World} {K : PySem.W.Frag} {mg : Str → Option Value} {base : Heap}
theorem fnG_of {x qual : Str} {stm : Stmt} {f : Addr} {fd : FuncData} {N ps : List Str} {k : Nat} {m : Rho → Sto → Fl} (Fn : Fun K x qual stm f fd) (SC : FnScope N ps (defScope stm)) (hN : ps.length ≤ N.length)
    (hb : ∀ (cdv : Value) (B : Around) (fr : List Env) (s : Shared) (H : Hp) (E : XK), Bd (cxOf (CXk (k + 1) P w) P w K mg base N qual (defScope stm) f cdv B fr s H E) (wE E) k →
      PassesOwn (model P w) (B.deeper (envOfC qual (defScope stm) s.heap.objs.size f cdv)) (envOfC qual (defScope stm) s.heap.objs.size f cdv) (cxOf (CXk (k + 1) P w) P w K mg base N qual (defScope stm) f cdv B fr s H E).xe →
      DSs (cxOf (CXk (k + 1) P w) P w K mg base N qual (defScope stm) f cdv B fr s H E) (wE E) (defBody stm) m) :
    FnG P w K mg base (k + 1) f fd ps (spD K ps.length (fnD ps.length N.length m)) := by
  obtain ⟨oc, od, kV, doc, pm, an, cdv, ct, osl, rfl, lk, hcd⟩ := Fn.ex
  refine ⟨fun vs H Q E h => h.1, fun B fr s H ar us vs Q E hr hgd e0 hbn rv hsp => ?_⟩
  have hl : vs.length = ps.length := hsp.1
  have hKs : K.In s.heap := e0.mod.kin.keeps fun b o e => (e0.bs b o e).1
  have hlim : s.heap.NoLimit := e0.mod.nolimit.keeps fun b o e => (e0.bs b o e).1
  refine codeAny_call_function hr.depth (hKs _ _ lk) rfl SC.co SC.gen rfl (PySem.W.codeRec_of hKs hcd) (hbn _ _ _ _ ?_)
  refine wpAny_newFunctionEnv_cells SC.kind (fun ⟨y, u⟩ hy => ?_) fun env he s1 ic => ?_
  · rcases SC.par y (List.of_mem_zip hy).1 with q | q
    · exact .inl q
    · exact .inr ⟨q, PySem.W.cellsFrom_some _ _ _ (.inl q)⟩
  subst he
  refine ⟨hlim.keeps ic.toInCall.keep, codeAny_func ?_⟩
  obtain ⟨_, F, ι, st, ds, S, rs, q⟩ := hsp
  have hds : ds.length = ps.length := by rw [rs.length]; exact hl
  have I := inv_start (CX := CXk (k + 1) P w) (E := E) (cd := cdv) SC hr.hd e0 hl rv ic
  have bd : Bd (cxOf (CXk (k + 1) P w) P w K mg base N qual (defScope stm) f cdv B fr s H E) (wE E) k :=
    ⟨hr.deeper _, fun h => hgd (by omega), rfl, SC.nd, tkK_of (X := cxOf (CXk (k + 1) P w) P w K mg base N qual (defScope stm) f cdv B fr s H E) (E := E) (E₁ := fun e' s'' => CXk (k + 1) P w fr H s E e' s'') rfl rfl rfl rfl⟩
  have hown := passes_of (X := cxOf (CXk (k + 1) P w) P w K mg base N qual (defScope stm) f cdv B fr s H E) (K := fun e s'' => CXk (k + 1) P w fr H s E e s'') (E₁ := fun e' s'' => CXk (k + 1) P w fr H s E e' s'') rfl
  unfold fnD at q
  rw [if_pos hds] at q
  refine wpAny_mono ((hb cdv B fr s H E bd hown).run [] s1 (start N vs) H { nx := fun _ H' => Q .non H', rt := Q } I ⟨F, ι, rho0 N.length ds, st, S, REnv.start rs (by omega), body_end S q⟩) (fun fl s' hs => ?_) fun e s' hs => hs
  cases fl with
  | ret u =>
    obtain ⟨v, σ', H', J, r', qq⟩ := hs
    exact ⟨v, H', J.os, J.bare, J.base, J.hok, r', qq⟩
  | next =>
    obtain ⟨σ', H', J, qq⟩ := hs
    exact ⟨V.non, H', J.os, J.bare, J.base, J.hok, rfl, qq⟩
  | brk =>
    obtain ⟨_, _, _, qq⟩ := hs
    exact False.elim qq
  | cont =>
    obtain ⟨_, _, _, qq⟩ := hs
    exact False.elim qq
structure FnC (P : Program) (w : World) (K : PySem.W.Frag) (mg : Str → Option Value) (base : Heap) (k : Nat) (x : Str) (np : Nat) (spec : List D → M D) : Prop where
  ex : ∃ (f : Addr) (fd : FuncData) (ps : List Str), FnG P w K mg base k f fd ps (spD K np spec) ∧ mg x = some (.ref f) ∧ PySem.W.keepIn K (.ref f) = true ∧ Binds K fd ps []
end
section
variable {X : Cx} {W : WX} {k j : Nat} {x : Str} {np : Nat} {spec : List D → M D} {p pos : Pos} {e : Expr} {es : List Expr} {am : Rho → M (List D)}
theorem run_fnG {pins : List (Addr × Obj)} {σ : L2.St} {H : Hp} {s : Shared} {Q : VK} {us : List Value} {vs : List V} {f : Addr} {fd : FuncData} {ps : List Str} {sp : Sp} (F : FnG X.prog X.w X.K X.mg X.base k f fd ps sp) (hr : Room k X.A) (hgd : 5 < k → X.A.guards = some []) (hb : Binds X.K fd ps [])
    (tk : TkK k X W) (I : Inv X pins σ H s) (r : Vals vs us) (h : sp vs H Q (fun cls dd H' => W cls dd σ H')) : wpAny (model X.prog X.w) X.A (call (.ref f) us) (EP X pins σ Q) X.xe s := by
  have hl : (us ++ []).length = ps.length := by rw [List.append_nil, ← r.length]; exact F.len _ _ _ _ h
  have bn := hb s us I.kIn hl
  rw [List.append_nil] at bn
  refine wpAny_call (codeAny_mono (F.run X.A X.stack s H ⟨us, []⟩ us vs Q _ hr hgd I.env0 bn r h) fun r s' hq => ?_)
  cases r with
  | error y => exact passK tk σ pins H s y s' I hq
  | ok fl =>
    cases fl with
    | ret u => exact I.after hq
    | next => exact False.elim hq
    | brk => exact False.elim hq
    | cont => exact False.elim hq
def mCall (spec : List D → M D) (am : Rho → M (List D)) : Rho → M D := fun ρ st => (am ρ st).bind fun ds st1 => spec ds st1
theorem post_wE {α β : Type} {K : PySem.W.Frag} {σ : L2.St} {F : Hp} {ι : List Addr} {H : Hp} {R : Hp → Hp → List Addr → Hp → α → β → Prop} {r : Out α} {Q : β → Hp → Prop} (h : post K W σ F ι H R r Q) : post K (wE fun cls dd H' => W cls dd σ H') [] F ι H R r Q := by
  cases r with
  | ok a st => exact h
  | exc y st => exact h
  | bad => exact h
theorem spD_of {σ : L2.St} {F : Hp} {ι : List Addr} {H : Hp} {st : Sto} {ds : List D} {vs : List V} {Q : VK} {K : PySem.W.Frag} (S : Sim K F ι st H) (r : Reps K F ι ds vs) (hn : ds.length = np) (q : post K W σ F ι H (pV K) (spec ds st) Q) : spD K np spec vs H Q (fun cls dd H' => W cls dd σ H') :=
  ⟨by rw [← r.length]; exact hn, F, ι, st, ds, S, r, post_wE q⟩
def NeedN (np : Nat) (spec : List D → M D) : Prop := ∀ ds st, ds.length ≠ np → spec ds st = .bad
theorem needN_fnD {nN : Nat} {m : Rho → Sto → Fl} : NeedN np (fnD np nN m) := fun ds st h => by unfold fnD; rw [if_neg h]
theorem de_call (B : Bd X W j) (C : FnC X.prog X.w X.K X.mg X.base k x np spec) (hk : k ≤ j) (hg : Gl X x) (nn : NeedN np spec) (ha : DA X W (e :: es) am) (hdb : (x == ("__debug__" : Str)) = false := by decide)
    (he : starEach (e :: es) X.env = (false, eval e X.env) :: starEach es X.env := by rfl) (hpl : (backTo pos (starEach es X.env)).any (·.1) = false := by rfl) : DE X W (.Call (.Name x p) (e :: es) [] pos) (mCall spec am) := by
  obtain ⟨f, fd, ps, F, hm, kp, hb⟩ := C.ex
  refine ⟨fun pins s σ H Q I ⟨F0, ι, ρ, st, S, R, q⟩ => ?_⟩
  refine wpAny_Call_Name_kw (ld_glob I hg hm ?_ hdb)
  refine PySem.W.callWith_K (h₀ := X.base) I.ok.mod.kin kp (thn (ha.run pos pins s σ H (fun vs H1 => spD X.K np spec vs H1 Q (fun cls dd H' => W cls dd σ H')) I ?_) fun us s1 ⟨vs, H1, I1, r, qq⟩ => ⟨I1.kIn, ?_⟩) he hpl
  · refine tG_seq back_V S R q fun ds st1 F1 ι1 H1 vs x1 S1 R1 r1 q1 => ?_
    by_cases hn : ds.length = np
    · exact spD_of S1 r1 hn q1
    · rw [nn ds st1 hn] at q1
      exact (q1 : False).elim
  · exact run_fnG F (B.room.mono hk) (fun h => B.gd (by omega)) hb (B.tk.mono hk) I1 r qq
end
end Dn
namespace Dn
open PySem PySem.Spec PyProof.Rows L2
section
variable {P : Program} {w : World} {K : PySem.W.Frag} {mg mb : Str → Option Value} {k : Nat} {fa p : Addr} {fd : FuncData} {x : Str} {sp : Sp} {t : Shared} {us : List Value} {ns : List Int}
theorem end_at (KX : K.In t.heap) (hns : t.heap.Ns mainGlobals mg) (hb : t.heap.Ns builtinsNs mb) (hbb : ∀ y : Str, y ≠ "__name__" → mb y = bootBuiltins y) (hlim : t.heap.NoLimit) (hg : t.gens = #[])
    (hp : t.heap.get? p = some { cls := .type "list", data := .seq us.toArray }) (hr : Room k callerA) (G : ∀ base : Heap, K.In base → base.Ns mainGlobals mg → FnG P w K mg base k fa fd [x] sp)
    (hbind : ∀ (s : Shared) (u : Value), BindsTo s fd ⟨[u], []⟩ [(x, u)]) {H : Hp} (hO : Only H) (hsp : sp [.ref p] H (fun v _ => v = .bl true) fun _ _ _ => False) (hok : HOk P w H t.heap) (one : ∀ c, H c ≠ none → c = p) (out : H p ≠ none → K.lookup p = none) :
    codeAny (model P w) callerA (.call (.ref fa) ⟨[.ref p], []⟩) (fun r t' => r = .ok (.ret (.bool true)) ∧ OldK t.heap t'.heap ∧ t'.os = t.os ∧ AllBare t'.gens) t := by
  have alone : ∀ {c : Addr} {o : Obj}, t.heap.get? c = some o → (∀ xs : Array Value, o.data ≠ .seq xs) → H c = none := fun {c o} e d => by
    cases q : H c with
    | none => rfl
    | some u =>
      obtain rfl : c = p := one c (by rw [q]; simp)
      rw [e] at hp
      cases hp
      exact absurd rfl (d us.toArray)
  have shown : ∀ {c : Addr} {f : Str → Option Value}, t.heap.Ns c f → (hidT t.heap H).Ns c f := fun {c f} ⟨o, es, n, e, d, r⟩ =>
    ⟨o, es, n, hidT_get e (alone e fun xs z => by rw [d] at z; cases z), d, r⟩
  have inB : K.In (hidT t.heap H) := fun c o e => hidT_get (KX c o e) (by
    cases q : H c with
    | none => rfl
    | some u =>
      obtain rfl : c = p := one c (by rw [q]; simp)
      have := out (by rw [q]; simp)
      rw [e] at this
      cases this)
  have M : Mod K mg (hidT t.heap H) := by
    refine ⟨inB, shown hns, ⟨mb, shown hb, hbb⟩, ?_⟩
    obtain ⟨f, h1, h2⟩ := hlim
    exact ⟨f, shown h1, h2⟩
  have E : Env0 P w K mg (hidT t.heap H) callerA [] t H := by
    refine ⟨rfl, M, fun c o e => of_hidT e, Nat.le_of_eq (hidT_size _ _), trivial, fun c hc => ?_, hok, .of_eq hg⟩
    cases (show c ∈ ([] : List Addr) from hc)
  refine codeAny_mono ((G _ inB (shown hns)).run callerA [] t H ⟨[.ref p], []⟩ [.ref p] [.ref p] _ _ hr (fun _ => rfl) E (hbind t (.ref p)) (.cons rfl .nil) hsp) fun r t' h => ?_
  cases r with
  | error e =>
    exact (cx_no h).elim
  | ok fl =>
    cases fl with
    | next => exact False.elim h
    | brk => exact False.elim h
    | cont => exact False.elim h
    | ret u =>
      obtain ⟨v, H', os, bare, un, hok', rv, hv⟩ := h
      obtain rfl : v = .bl true := hv
      obtain rfl : u = Value.bool true := rv
      refine ⟨rfl, OldK.of_keep fun c o e => ?_, os, bare⟩
      rcases hO c with z | ⟨o2, xs, z⟩
      · refine un.keep c o e z (fun y => ?_) (by simp)
        cases (show c ∈ ([] : List Addr) from y)
      · have y1 := (hok c _ z).1
        have y2 := (hok' c _ (un.frzs c o2 _ z)).1
        rw [e] at y1
        cases y1
        exact y2
theorem end_law (KX : K.In t.heap) (hns : t.heap.Ns mainGlobals mg) (hb : t.heap.Ns builtinsNs mb) (hbb : ∀ y : Str, y ≠ "__name__" → mb y = bootBuiltins y) (hlim : t.heap.NoLimit) (hg : t.gens = #[])
    (hp : t.heap.get? p = some { cls := .type "list", data := .seq us.toArray }) (hi : IntsAre us ns) (hl : ns.length ≤ sizeLine) (hr : Room k callerA) (G : ∀ base : Heap, K.In base → base.Ns mainGlobals mg → FnG P w K mg base k fa fd [x] sp)
    (hbind : ∀ (s : Shared) (u : Value), BindsTo s fd ⟨[u], []⟩ [(x, u)]) (hsp : ∀ H : Hp, Only H → SqL K H p (ns.map V.int) → sp [.ref p] H (fun v _ => v = .bl true) fun _ _ _ => False) :
    codeAny (model P w) callerA (.call (.ref fa) ⟨[.ref p], []⟩) (fun r t' => r = .ok (.ret (.bool true)) ∧ OldK t.heap t'.heap ∧ t'.os = t.os ∧ AllBare t'.gens) t := by
  have rv := vals_ints hi
  have ln := hi.length
  cases hk : K.lookup p with
  | some o =>
    have e := KX p o hk
    rw [hp] at e
    cases e
    let H : Hp := fun _ => none
    have nH : ∀ c, H c = none := fun _ => rfl
    have hS : SqL K H p (ns.map V.int) := .inr ⟨_, us.toArray, _, hk, rfl, rfl, rfl, by rw [List.size_toArray, ln]; exact hl, by simpa using rv⟩
    have hk0 : HOk P w H t.heap := fun c u z => by
      rw [nH c] at z
      cases z
    exact end_at KX hns hb hbb hlim hg hp hr G hbind (H := H) (fun c => .inl rfl) (hsp H (fun c => .inl rfl) hS) hk0 (fun c z => absurd (nH c) z) fun z => absurd (nH p) z
  | none =>
    let o : Obj := { cls := .type "list", data := .seq us.toArray }
    let H : Hp := fun c => if c = p then some (.frz o (.lst (ns.map V.int))) else none
    have atP : H p = some (.frz o (.lst (ns.map V.int))) := if_pos rfl
    have offP : ∀ c, c ≠ p → H c = none := fun c h => if_neg h
    have only : Only H := fun c => by
      by_cases h : c = p
      · exact .inr ⟨o, ns.map V.int, by rw [h]; exact atP⟩
      · exact .inl (offP c h)
    refine end_at KX hns hb hbb hlim hg hp hr G hbind (H := H) only (hsp H only (.inl (.inr ⟨o, atP⟩))) (fun c u z => ?_) (fun c z => ?_) fun _ => hk
    · by_cases h : c = p
      · subst h
        rw [atP] at z
        cases z
        exact ⟨hp, by rw [List.length_map]; exact hl, us, _, rv, hp⟩
      · rw [offP c h] at z
        cases z
    · by_cases h : c = p
      · exact h
      · exact absurd (offP c h) z
end
theorem reps_ints {K : PySem.W.Frag} {F : Hp} {ι : List Addr} : ∀ ns : List Int, Reps K F ι (ns.map D.int) (ns.map V.int)
  | [] => Reps.nil
  | n :: ns => Reps.cons (by simp only [Rep]) (reps_ints ns)
theorem sp_start {K : PySem.W.Frag} {spec : List D → M D} {H : Hp} {a : Addr} {ns : List Int} {st' : Sto} (e : spec [.scr (ns.map D.int)] [] = .ok (.bl true) st') (hO : Only H) (hS : SqL K H a (ns.map V.int)) :
    spD K 1 spec [.ref a] H (fun v _ => v = .bl true) fun _ _ _ => False := by
  refine ⟨rfl, H, [], [], [.scr (ns.map D.int)], ?_, ?_, ?_⟩
  · refine ⟨fun _ _ h => h, fun b o h => ?_, rfl, List.nodup_nil, (fun l b h _ => nomatch h), (fun b h => nomatch h), (fun l m b h => nomatch h)⟩
    rcases hO b with q | ⟨o2, xs, q⟩
    · rw [q] at h; cases h
    · rw [q] at h; cases h; trivial
  · refine Reps.cons ?_ Reps.nil
    simp only [Rep]
    exact ⟨a, _, rfl, hS, reps_ints ns⟩
  · rw [e]
    intro F' ι' H' v x S r
    have r' : Rep K F' ι' (.bl true) v := r
    simpa only [Rep] using r'
end Dn
namespace Dn
open PySem PySem.Spec PyProof.Rows L2
def mStar (m : Rho → M D) (r : Rho → M (List D)) : Rho → M (List D) := fun ρ st => (m ρ st).bind fun d st1 => match seqOf st1 d with
  | some xs => (r ρ st1).bind fun ds st2 => .ok (xs ++ ds) st2
  | none => .bad
section
variable {X : Cx} {W : WX} {p : Pos} {e : Expr} {es : List Expr} {m : Rho → M D} {r : Rho → M (List D)}
theorem da_star (he : DE X W e m) (hr : DA X W es r) (hs : starEach (.Starred e p :: es) X.env = (true, eval e X.env) :: starEach es X.env := by rfl) : DA X W (.Starred e p :: es) (mStar m r) := by
  refine PA.weak (StX.pa_star he hr hs) fun σ H Q ⟨F, ι, ρ, st, S, R, q⟩ => ?_
  refine tG_seq back_A S R q fun d st1 F1 ι1 H1 v x1 S1 R1 r1 q1 => ?_
  cases e1 : seqOf st1 d with
  | none => rw [e1] at q1; exact (q1 : False).elim
  | some xs =>
    rw [e1] at q1
    obtain ⟨a, vs, ev, hq, rr⟩ := S1.seq r1 e1
    refine ⟨a, vs, ev, hq.symm, ?_⟩
    exact tG_seq back_A S1 R1 q1 fun ds st2 F2 ι2 H2 ws x2 S2 R2 r2 q2 => q2 F2 ι2 H2 _ Ext.refl S2 ((rr.ext x2).append r2)
end
def D.isTy (st : Sto) (T : String) : D → Prop
  | .str _ => T = "str"
  | .int _ => T = "int"
  | .lst _ => T = "list"
  | .scr _ => T = "list"
  | .ref l => T = "list" ∧ ∃ xs, st[l]? = some (.lst xs)
  | _ => False
open Classical in
noncomputable def mMeth (T : String) (p : D → List D → M D) (mo : Rho → M D) (am : Rho → M (List D)) : Rho → M D := fun ρ st =>
  (mo ρ st).bind fun o st1 => if o.isTy st1 T then (am ρ st1).bind fun ds st2 => nox (p o ds st2) else .bad
def rM (K : PySem.W.Frag) (p : D → List D → M D) : V → List V → Hp → VK → Prop := fun x xs H Q => ∃ F ι st d ds d' st', Sim K F ι st H ∧ Rep K F ι d x ∧ Reps K F ι ds xs ∧ p d ds st = .ok d' st' ∧
  ∀ F' ι' H' v, Ext F ι H F' ι' H' → Sim K F' ι' st' H' → Rep K F' ι' d' v → Q v H'
theorem Sim.tyV {K : PySem.W.Frag} {F : Hp} {ι : List Addr} {st : Sto} {H : Hp} {d : D} {v : V} {T : String} (S : Sim K F ι st H) (r : Rep K F ι d v) (h : d.isTy st T) : L2.tyV K T v H := by
  cases d with
  | str z => simp only [Rep] at r; subst r; exact h
  | int i => simp only [Rep] at r; subst r; exact h
  | lst xs =>
    simp only [Rep] at r
    obtain ⟨a, vs, rfl, q, rr⟩ := r
    exact .inl ⟨h, vs, .inl (.inl (S.sub _ _ q))⟩
  | scr xs =>
    simp only [Rep] at r
    obtain ⟨a, vs, rfl, q, rr⟩ := r
    exact .inl ⟨h, vs, S.sqL q⟩
  | ref l =>
    simp only [Rep] at r
    obtain ⟨a, rfl, q⟩ := r
    obtain ⟨hT, xs, e⟩ := h
    obtain ⟨vs, e2, _⟩ := S.obj l _ a e q
    exact .inl ⟨hT, vs, .inl (.inl e2)⟩
  | non => exact h.elim
  | bl _ => exact h.elim
  | tup _ => exact h.elim
  | adr _ => exact h.elim
  | fd _ _ => exact h.elim
  | exo _ _ _ _ => exact h.elim
  | obj _ _ _ => exact h.elim
  | sd _ => exact h.elim
  | fnv _ => exact h.elim
section
variable {X : Cx} {W : WX} {apos cpos : Pos} {o e : Expr} {es : List Expr} {mo : Rho → M D} {am : Rho → M (List D)} {T id : String} {name : Str} {p : D → List D → M D}
theorem de_m (pa : PlainAttrs T) (slot : Slot T name id) (hty : typeOf (.builtin id) = pure (.type "method_descriptor")) (hm : MtR X id (rM X.K p)) (ho : DE X W o mo) (ha : DA X W (e :: es) am)
    (hbase : attributeBase o name X.env (eval o X.env) = eval o X.env := by rfl)
    (hfew : ((backTo cpos (starEach (e :: es) X.env)).all (fun x => !x.1) && (backToKw cpos (keywordEach [] X.env)).all (fun x => x.1.isSome)
      && decide ((e :: es).length + ([] : List Keyword).length + (if ([] : List Keyword).isEmpty then 0 else 1) < 30)) = true := by rfl)
    (hline : (apos.endLine == cpos.line) = true := by rfl) (hs : starEach (e :: es) X.env = (false, eval e X.env) :: starEach es X.env := by rfl) (hpl : (backTo cpos (starEach es X.env)).any (·.1) = false := by rfl) :
    DE X W (.Call (.Attribute o name apos) (e :: es) [] cpos) (mMeth T p mo am) := by
  refine PE.weak (pe_bm pa slot hty hm ho ha hbase hfew hline hs hpl) fun σ H Q ⟨F, ι, ρ, st, S, R, q⟩ => ?_
  refine tG_seq back_V S R q fun d st1 F1 ι1 H1 v x1 S1 R1 r1 q1 => ?_
  split at q1
  rotate_left
  · exact (q1 : False).elim
  rename_i hT
  refine ⟨S1.tyV r1 hT, ?_⟩
  refine tG_seq back_V S1 R1 q1 fun ds st2 F2 ι2 H2 vs x2 S2 R2 r2 q2 => ?_
  cases e1 : p d ds st2 with
  | ok d' st' =>
    rw [e1] at q2
    exact ⟨F2, ι2, st2, d, ds, d', st', S2, r1.ext x2, r2, e1, q2⟩
  | exc _ _ => rw [e1] at q2; exact (q2 : False).elim
  | bad => rw [e1] at q2; exact (q2 : False).elim
end
theorem Sim.mut {K : PySem.W.Frag} {F : Hp} {ι : List Addr} {st : Sto} {H : Hp} {l : Nat} {v : V} {xs : List D} (S : Sim K F ι st H) (r : Rep K F ι (.ref l) v) (h : st[l]? = some (.lst xs)) : ∃ a vs, v = .ref a ∧ ι[l]? = some a ∧ H a = some (.lst vs) ∧ Reps K F ι xs vs := by
  simp only [Rep] at r
  obtain ⟨a, rfl, q⟩ := r
  obtain ⟨vs, e2, rr⟩ := S.obj l _ a h q
  exact ⟨a, vs, rfl, q, e2, rr⟩
theorem write_lst {K : PySem.W.Frag} {F : Hp} {ι : List Addr} {st : Sto} {H : Hp} {l : Nat} {a : Addr} {vs ws : List V} {ys : List D} {xs : List D} (S : Sim K F ι st H) (hg : st[l]? = some (.lst xs)) (q : ι[l]? = some a) (h : H a = some (.lst vs)) (r : Reps K F ι ys ws) :
    Ext F ι H F ι (upd H a (.lst ws)) ∧ Sim K F ι (st.set l (.lst ys)) (upd H a (.lst ws)) :=
  ⟨Ext.write q (by rw [h]; simp), S.write q (by rw [hg]; simp) ⟨ws, upd_same, r⟩⟩
def onL (st : Sto) (d : D) (f : Nat → List D → Out D) : Out D := match d with
  | .ref l => match st[l]? with
    | some (.lst xs) => f l xs
    | _ => .bad
  | _ => .bad
theorem onL_ok {st st' : Sto} {d d' : D} {f : Nat → List D → Out D} (h : onL st d f = .ok d' st') : ∃ l xs, d = .ref l ∧ st[l]? = some (.lst xs) ∧ f l xs = .ok d' st' := by
  unfold onL at h
  split at h
  · split at h
    · rename_i l _ xs e
      exact ⟨l, xs, rfl, e, h⟩
    · cases h
  · cases h
theorem rep_non {K : PySem.W.Frag} {F : Hp} {ι : List Addr} : Rep K F ι .non .non := by simp only [Rep]
def pAppend : D → List D → M D := fun d ds st => onL st d fun l xs => match ds with
  | [y] => if xs.length < SZ then .ok .non (st.set l (.lst (xs ++ [y]))) else .bad
  | _ => .bad
def pExtend : D → List D → M D := fun d ds st => onL st d fun l xs => match ds with
  | [y] => match lstOf st y with
    | some ys => if xs.length + ys.length ≤ SZ then .ok .non (st.set l (.lst (xs ++ ys))) else .bad
    | none => .bad
  | _ => .bad
theorem Reps.erase {K : PySem.W.Frag} {F : Hp} {ι : List Addr} : ∀ {ds : List D} {vs : List V} (n : Nat), Reps K F ι ds vs → Reps K F ι (ds.eraseIdx n) (vs.eraseIdx n)
  | [], _, n, h => by simp only [Reps] at h; subst h; exact Reps.nil
  | d :: ds, _, 0, h => by
    simp only [Reps] at h
    obtain ⟨v, r, rfl, h1, h2⟩ := h
    exact h2
  | d :: ds, _, n + 1, h => by
    simp only [Reps] at h
    obtain ⟨v, r, rfl, h1, h2⟩ := h
    exact Reps.cons h1 (Reps.erase n h2)
theorem Reps.setAt {K : PySem.W.Frag} {F : Hp} {ι : List Addr} {d : D} {v : V} (hd : Rep K F ι d v) : ∀ {ds : List D} {vs : List V} (n : Nat), Reps K F ι ds vs → Reps K F ι (ds.set n d) (vs.set n v)
  | [], _, n, h => by simp only [Reps] at h; subst h; exact Reps.nil
  | e :: ds, _, 0, h => by
    simp only [Reps] at h
    obtain ⟨v, r, rfl, h1, h2⟩ := h
    exact Reps.cons hd h2
  | e :: ds, _, n + 1, h => by
    simp only [Reps] at h
    obtain ⟨v, r, rfl, h1, h2⟩ := h
    exact Reps.cons h1 (Reps.setAt hd n h2)
theorem Reps.one' {K : PySem.W.Frag} {F : Hp} {ι : List Addr} {d : D} {vs : List V} (h : Reps K F ι [d] vs) : ∃ v, vs = [v] ∧ Rep K F ι d v := by
  simp only [Reps] at h
  obtain ⟨v, r, rfl, h1, rfl⟩ := h
  exact ⟨v, rfl, h1⟩
theorem mtM {X : Cx} {id : String} {r : V → List V → Hp → VK → Prop} {p : D → List D → M D} (h : MtR X id r) (w : ∀ x xs H Q, rM X.K p x xs H Q → r x xs H Q) : MtR X id (rM X.K p) := fun pins s σ H x xs v us Q I rx rxs q => h pins s σ H x xs v us Q I rx rxs (w _ _ _ _ q)
section
variable {X : Cx}
theorem mt_pAppend : MtR X "list.append" (rM X.K pAppend) := mtM mt_append fun x xs H Q ⟨F, ι, st, d, ds, d', st', S, rd, rds, e, q⟩ => by
  obtain ⟨l, ys, rfl, hl, e⟩ := onL_ok e
  split at e
  · split at e
    · rename_i y hz
      cases e
      obtain ⟨a, vs, rfl, q1, q2, q3⟩ := S.mut rd hl
      obtain ⟨v, rfl, rv⟩ := rds.one'
      obtain ⟨x1, S1⟩ := write_lst S hl q1 q2 (q3.snoc rv)
      exact ⟨a, vs, v, rfl, rfl, q2, by rw [← q3.length]; exact sz_lt (Nat.le_of_lt hz), q _ _ _ _ x1 S1 rep_non⟩
    · cases e
  · cases e
theorem mt_pExtend : MtR X "list.extend" (rM X.K pExtend) := mtM mt_extend fun x xs H Q ⟨F, ι, st, d, ds, d', st', S, rd, rds, e, q⟩ => by
  obtain ⟨l, ys, rfl, hl, e⟩ := onL_ok e
  split at e
  · split at e
    · split at e
      · rename_i y zs hy hz
        cases e
        obtain ⟨a, vs, rfl, q1, q2, q3⟩ := S.mut rd hl
        obtain ⟨v, rfl, rv⟩ := rds.one'
        obtain ⟨b, ws, rfl, hb, rb⟩ := S.lst rv hy
        obtain ⟨x1, S1⟩ := write_lst S hl q1 q2 (q3.append rb)
        exact ⟨a, b, vs, ws, rfl, rfl, q2, hb, by rw [← q3.length, ← rb.length]; exact sz_le hz, q _ _ _ _ x1 S1 rep_non⟩
      · cases e
    · cases e
  · cases e
end
def gSubD (mo mi : Rho → M D) : D → Rho → M Rho := fun d ρ st => (mo ρ st).bind fun o st1 => (mi ρ st1).bind fun i st2 => match o, i with
  | .ref l, .int k => match st2[l]? with
    | some (.lst xs) => match ixN xs.length k with
      | some j => .ok ρ (st2.set l (.lst (xs.set j d)))
      | none => .bad
    | _ => .bad
  | _, _ => .bad
section
variable {X : Cx} {pos : Pos} {o i : Expr} {mo mi : Rho → M D}
theorem dg_sub (ho : DE X wN o mo) (hi : DE X wN i mi)
    (ha : ∀ v, assign (.Subscript o i pos) X.env v = (do
      let ov ← holding [v] (eval o X.env)
      let iv ← holding [v, ov] (eval i X.env)
      standAt pos
      holding [v, ov, iv] (setItem ov iv v)
      release [v, ov, iv] []) := by intro _; rfl) : DG X [] (.Subscript o i pos) (gSubD mo mi) := by
  refine PG.weak (pg_sub ho hi set_list ha) fun v σ H Q ⟨F, ι, ρ, st, d, S, R, r, q⟩ => ?_
  have bk : Back (pR X.K [] σ) := fun _ _ _ _ _ _ _ _ h => h
  refine tG_seq bk S R q fun od st1 F1 ι1 H1 ov x1 S1 R1 r1 q1 => ?_
  refine tG_seq bk S1 R1 q1 fun id st2 F2 ι2 H2 iv x2 S2 R2 r2 q2 => ?_
  split at q2
  · split at q2
    · split at q2
      · rename_i l k _ xs hl _ j hj
        obtain ⟨a, vs, rfl, e1, e2, e3⟩ := S2.mut (r1.ext x2) hl
        have r2 : iv = V.int k := by simpa only [pV, Rep] using r2
        subst r2
        obtain ⟨x3, S3⟩ := write_lst S2 hl e1 e2 (e3.setAt ((r.ext x1).ext x2) j)
        exact ⟨a, vs, k, j, rfl, rfl, e2, by rw [← e3.length]; exact hj, q2 _ _ _ _ x3 S3 ⟨R2.ext x3, fun vs _ => rfl⟩⟩
      · exact (q2 : False).elim
    · exact (q2 : False).elim
  · exact (q2 : False).elim
end
end Dn
namespace Dn
open PySem PySem.Spec PyProof.Rows L2
mutual
theorem reads_lt {h : Heap} : ∀ (d : PyData) (v : Value) (as : List Addr), PySem.W.alike d d = true → Reads h v d as → ∀ a ∈ as, a < h.objs.size
  | .none, _, _, _, r, a, ha => by cases r; cases ha
  | .bool _, _, _, _, r, a, ha => by cases r; cases ha
  | .int _, _, _, _, r, a, ha => by cases r; cases ha
  | .str _, _, _, _, r, a, ha => by cases r; cases ha
  | .list xs, _, _, hal, r, a, ha => by
    cases r with
    | list h1 h2 h3 h4 =>
      rcases List.mem_cons.mp ha with e | e
      · rw [e]; exact Heap.lt_size h1
      · exact readsAll_lt xs _ _ (by simpa [PySem.W.alike] using hal) h4 a e
  | .tuple xs, _, _, hal, r, a, ha => by
    cases r with
    | tuple h1 h2 h3 h4 => exact readsAll_lt xs _ _ (by simpa [PySem.W.alike] using hal) h4 a ha
  | .dict _, _, _, hal, _, _, _ => absurd hal (by simp [PySem.W.alike])
theorem readsAll_lt {h : Heap} : ∀ (ds : List PyData) (vs : List Value) (as : List Addr), PySem.W.alikeAll ds ds = true → ReadsAll h vs ds as → ∀ a ∈ as, a < h.objs.size
  | [], _, _, _, r, a, ha => by cases r; cases ha
  | d :: ds, _, _, hal, r, a, ha => by
    cases r with
    | cons h1 h2 =>
      rcases List.mem_append.mp ha with e | e
      · exact reads_lt d _ _ (PySem.W.alike_all_cons hal).1 h1 a e
      · exact readsAll_lt ds _ _ (PySem.W.alike_all_cons hal).2 h2 a e
end
theorem each_pairs {K : PySem.W.Frag} {F : Hp} {ι : List Addr} : ∀ {ds : List D} {vs : List V} {us : List Value}, Reps K F ι ds vs → Vals vs us → PySem.W.EachIs (fun u (p : D × V) => RelV p.2 u ∧ Rep K F ι p.1 p.2) us (ds.zip vs)
  | [], _, _, h, r => by
    simp only [Reps] at h
    subst h
    cases r
    exact .nil
  | d :: ds, _, _, h, r => by
    simp only [Reps] at h
    obtain ⟨v, ws, rfl, h1, h2⟩ := h
    cases r with
    | cons r1 r2 => exact .cons ⟨r1, h1⟩ (each_pairs h2 r2)
theorem pairs_each {K : PySem.W.Frag} {F : Hp} {ι : List Addr} : ∀ {bs : List (D × V)} {us : List Value}, PySem.W.EachIs (fun u (p : D × V) => RelV p.2 u ∧ Rep K F ι p.1 p.2) us bs → Reps K F ι (bs.map (·.1)) (bs.map (·.2)) ∧ Vals (bs.map (·.2)) us
  | [], _, h => by cases h; exact ⟨Reps.nil, .nil⟩
  | b :: bs, _, h => by
    cases h with
    | cons h1 h2 =>
      obtain ⟨a, c⟩ := pairs_each h2
      exact ⟨Reps.cons h1.2 a, .cons h1.1 c⟩
theorem zip_fst {K : PySem.W.Frag} {F : Hp} {ι : List Addr} {ds : List D} {vs : List V} (h : Reps K F ι ds vs) : (ds.zip vs).map (·.1) = ds := List.map_fst_zip (Nat.le_of_eq h.length)
theorem each_mem2 {α β : Type} {R : α → β → Prop} : ∀ {as : List α} {bs : List β}, PySem.W.EachIs R as bs → PySem.W.EachIs (fun a b => R a b ∧ b ∈ bs) as bs
  | _, _, .nil => .nil
  | _, _, .cons h t => .cons ⟨h, List.mem_cons_self⟩ ((each_mem2 t).mono fun _ _ q => ⟨q.1, List.mem_cons_of_mem _ q.2⟩)
section
open PySem.W PySem.Calls
variable {prog : Program} {w : World} {A : Around} {E : Value → Shared → Prop} {s : Shared}
theorem call_tuple_lt {Q : Value → Shared → Prop} {l b : Addr} {items items2 : Array Value} {e r : Nat → Bool} (hl : s.heap.IsTuple l items) (hb : s.heap.IsTuple b items2)
    (he : ∀ j (h1 : j < items.size) (h2 : j < items2.size), SeqAt.EqAt A.in1 s items[j] items2[j] (e j)) (hr : ∀ j (h1 : j < items.size) (h2 : j < items2.size), e j = false → SeqAt.RcLt A.in1 s items[j] items2[j] (r j))
    (h : Q (.bool (SeqAt.firstLt e r (decide (items.size < items2.size)) (List.range (min items.size items2.size)))) s) : wpAny (model prog w) A (call (.builtin "tuple.__lt__") [.ref l, .ref b]) Q E s := by
  obtain ⟨⟨cls, dd, data, sl⟩, ho, hc, n, hd⟩ := id hl
  obtain ⟨⟨cls2, dd2, data2, sl2⟩, ho2, hc2, n2, hd2⟩ := id hb
  simp only at hc hd hc2 hd2
  subst hc hd hc2 hd2
  exact call_meets F.slot_tuple_lt ⟨_, ho, rfl⟩ F.entry_tuple_lt (F.args_tuple_lt_2 _ _) (SeqAt.tuple_ltAt l b items items2 n n2 dd dd2 sl sl2 e r) ⟨ho, ho2, he, hr, h⟩
theorem oneLt_tuples {f : Bool} {xs ys : List PyData} {a b : Value} {as bs : List Addr} {Q : Bool → Shared → Prop} (ra : Reads s.heap a (.tuple xs) as) (rb : Reads s.heap b (.tuple ys) bs) (h : alike (.tuple xs) (.tuple ys) = true)
    (hu : A.units + min (PyData.depth (.tuple xs)) (PyData.depth (.tuple ys)) < cLine) (hq : Q (dataLt (.tuple xs) (.tuple ys)) s) : wpAny (model prog w) A (oneLt' f a b) Q E s := by
  cases f with
  | false => exact oneLt_alike (fun q => nomatch q) ra rb h (by simp) hu hq
  | true =>
    have hal : alikeAll xs ys = true := by simpa [alike] using h
    cases ra with
    | @tuple l o vs n _ as₁ h1 h2 h3 h4 =>
      cases rb with
      | @tuple l' o' vs' n' _ bs₁ k1 k2 k3 k4 =>
        have n1 : vs.size = xs.length := by simpa using SeqAt.ReadsAll.length _ _ _ h4
        have n2 : vs'.size = ys.length := by simpa using SeqAt.ReadsAll.length _ _ _ k4
        rw [dataLt_tuple, ← firstLt_toks xs ys hal, ← n1, ← n2] at hq
        rw [oneLt'_eq]
        simp only [if_true]
        refine wpAny_bind (wpAny_cRoomFor (SeqAt.room_here hu) ?_)
        refine wpAny_bind (wpAny_callSpecialIfBound?_slot (T := "tuple") ⟨_, h1, h2⟩ F.slot_tuple_lt (call_tuple_lt (e := SeqAt.pairEq xs ys) (r := fun j => dataLt (xs.getD j .none) (ys.getD j .none)) ⟨_, h1, h2, _, h3⟩ ⟨_, k1, k2, _, k3⟩ (fun j j1 j2 => ?_) (fun j j1 j2 hj => ?_) ?_))
        · have := eqAt_alikeAll xs ys A.in1 s vs.toList vs'.toList _ _ h4 k4 hal (SeqAt.room_in hu) j (by simpa using j1) (by simpa using j2)
          simpa using this
        · have := rcLt_alikeAll xs ys A.in1 s vs.toList vs'.toList _ _ h4 k4 hal (SeqAt.room_in hu) j (by simpa using j1) (by simpa using j2) hj
          simpa using this
        · exact wpAny_truthy_bool hq
def firstV (h : Heap) (v : Value) : Option Value := match v with
  | .ref a => match h.get? a with
    | some o => match o.data with
      | .seq xs _ => xs[0]?
      | _ => none
    | none => none
  | _ => none
theorem firsts_tuples : ∀ (vs : List Value) {Q : List (Option Value) → Shared → Prop}, (∀ v ∈ vs, ∃ a o xs n, v = .ref a ∧ s.heap.get? a = some o ∧ o.cls = .type "tuple" ∧ o.data = .seq xs n) → Q (vs.map (firstV s.heap)) s → wpAny (model prog w) A (vs.mapM firstOfTuple') Q E s
  | [], _, _, h => by rw [List.mapM_nil]; exact wpAny_pure h
  | v :: vs, Q, t, h => by
    obtain ⟨a, o, xs, n, rfl, ho, hc, hd⟩ := t v (by simp)
    have e : firstV s.heap (.ref a) = xs[0]? := by
      unfold firstV
      simp only [ho, hd]
    rw [List.mapM_cons]
    refine wpAny_bind ?_
    rw [kas_first_eq]
    refine wpAny_bind (Looks.here (show Looks (model prog w) s.heap (typeOf (.ref a)) o.cls from (Looks.ld ho).andThen .now) ?_)
    rw [hc, if_neg (by first | decide | simp)]
    refine wpAny_bind (listItems_at ho hd (wpAny_pure ?_))
    rw [← e]
    exact wpAny_bind (firsts_tuples vs (Q := fun bs s' => wpAny (model prog w) A (pure (firstV s.heap (.ref a) :: bs)) Q E s') (fun v hv => t v (by simp [hv])) (wpAny_pure h))
theorem kind_tuples {vs : List Value} {Q : SortKind → Shared → Prop} (h2 : 2 ≤ vs.length) (t : ∀ v ∈ vs, ∃ a o xs n, v = .ref a ∧ s.heap.get? a = some o ∧ o.cls = .type "tuple" ∧ o.data = .seq xs n) (hne : ((vs.map (firstV s.heap)).toArray.all (·.isSome)) = false)
    (h : Q (if ((vs.map (firstV s.heap))[0]?.bind id).isSome = true then general' else oneType') s) : wpAny (model prog w) A (keyKind' vs.toArray) Q E s := by
  obtain ⟨v₁, v₂, rest, rfl⟩ : ∃ v₁ v₂ rest, vs = v₁ :: v₂ :: rest := by
    match vs, h2 with
    | [], h2 => simp at h2
    | [_], h2 => simp at h2
    | v₁ :: v₂ :: rest, _ => exact ⟨v₁, v₂, rest, rfl⟩
  rw [keyKind'_eq, List.mapM_toArray, map_eq_pure_bind]
  refine wpAny_bind (wpAny_bind (firsts_tuples _ t (wpAny_pure ?_)))
  rw [if_neg (by rw [hne]; simp)]
  have hg : (((v₁ :: v₂ :: rest).map (firstV s.heap)).toArray[0]?.bind id) = (((v₁ :: v₂ :: rest).map (firstV s.heap))[0]?.bind id) := by simp
  rw [hg]
  by_cases hf : ((((v₁ :: v₂ :: rest).map (firstV s.heap))[0]?.bind id).isSome) = true
  · rw [if_pos hf] at h ⊢
    exact wpAny_pure h
  · rw [if_neg hf] at h ⊢
    rw [oneTypeOnly'_eq, List.mapM_toArray, map_eq_pure_bind]
    refine wpAny_bind (wpAny_bind (wpAny_bind (kas_mapM (r := Value.type "tuple") _ (fun v hv Q' hq => ?_) (wpAny_pure ?_))))
    · obtain ⟨a, o, xs, n, rfl, ho, hc, hd⟩ := t v hv
      exact Looks.here (show Looks (model prog w) s.heap (typeOf (.ref a)) (Value.type "tuple") from hc ▸ (Looks.ld ho).andThen .now) hq
    · have hall : ((List.map (fun _ => Value.type "tuple") (v₁ :: v₂ :: rest)).toArray.all fun x => x == Value.type "tuple") = true := by
        simp only [List.all_toArray, List.all_map, List.all_eq_true]
        intro _ _
        rfl
      have h0 : (List.map (fun _ => Value.type "tuple") (v₁ :: v₂ :: rest)).toArray[0]? = some (Value.type "tuple") := by simp
      rw [h0]
      simp only [hall, if_true]
      exact wpAny_pure (wpAny_pure h)
def SortableX (ds : List PyData) : Prop := (∀ d, d ∈ ds → ∃ xs, d = .tuple xs) ∨ ∀ d, d ∈ ds → d ≠ .none ∧ ∀ xs, d ≠ .tuple xs
theorem first_each {h : Heap} : ∀ {vs : List Value} {ds : List PyData}, EachIs (fun v d => ∃ as, Reads h v d as) vs ds → (∀ d, d ∈ ds → ∃ xs, d = .tuple xs) → ((vs.map (firstV h)).toArray.all (·.isSome)) = true → ∀ d, d ∈ ds → ∃ x r, d = .tuple (x :: r)
  | _, _, .nil, _, _, d, hd => nomatch hd
  | _, _, .cons (b := d0) ⟨as, r⟩ t, ht, ha, d, hd => by
    obtain ⟨xs, rfl⟩ := ht d0 (List.mem_cons_self ..)
    rw [List.map_cons] at ha
    simp only [List.all_toArray, List.all_cons, Bool.and_eq_true] at ha
    have ha' := ha
    rcases List.mem_cons.mp hd with rfl | hd
    · cases r with
      | @tuple a o ys n _ _ ho hc hdt hr =>
        have e : firstV h (.ref a) = ys[0]? := by
          unfold firstV
          simp only [ho, hdt]
        cases xs with
        | nil =>
          have hl : ys.toList.length = 0 := by simpa using SeqAt.ReadsAll.length _ _ _ hr
          have h1 := ha'.1
          rw [e] at h1
          have : ys[0]? = none := by
            rw [Array.getElem?_eq_none]
            simp at hl
            simp [hl]
          rw [this] at h1
          cases h1
        | cons x r => exact ⟨x, r, rfl⟩
    · exact first_each t (fun d hd => ht d (List.mem_cons_of_mem _ hd)) (by simp only [List.all_toArray]; exact ha'.2) d hd
theorem sortsAtX {vs : List Value} {ds : List PyData} (e : EachIs (fun v d => ∃ as, Reads s.heap v d as) vs ds) (hal : AllAlike ds) (hk : SortableX ds) (hu : ∀ d, d ∈ ds → A.units + d.depth < cLine) : SortsAt prog w A s (dataKind s.heap ds) vs := by
  rcases hk with ht | hn
  · by_cases ha : ((vs.map (firstV s.heap)).toArray.all (·.isSome)) = true
    · exact SortsAt.data e hal (.inl (first_each e ht ha)) hu
    · have room : ∀ {d d' : PyData}, d ∈ ds → A.units + min d.depth d'.depth < cLine := fun {d d'} hd => Nat.lt_of_le_of_lt (Nat.add_le_add_left (Nat.min_le_left _ _) _) (hu d hd)
      refine ⟨fun v hv => ?_, if ((vs.map (firstV s.heap))[0]?.bind id).isSome = true then general' else oneType', ?_, fun h2 E Q hq => ?_⟩
      · obtain ⟨d, hd, as, r⟩ := e.left v hv
        exact ⟨_, dataKind_some hal hd r⟩
      · intro E x y a b Q ha hb hq
        obtain ⟨d, as, hd, ra, rfl⟩ := dataKind_inv ha
        obtain ⟨d', as', hd', rb, rfl⟩ := dataKind_inv hb
        have hdd := hal d hd d' hd'
        have hroom := room (d' := d') hd
        obtain ⟨xs, rfl⟩ := ht d hd
        obtain ⟨ys, rfl⟩ := ht d' hd'
        have hq' : Q (dataLt (.tuple xs) (.tuple ys)) s := hq
        split
        · exact oneLt_tuples (f := false) ra rb hdd hroom hq'
        · rw [keyLt'_oneType]
          exact oneLt_tuples (f := true) ra rb hdd hroom hq'
      · refine kind_tuples (by simpa using h2) (fun v hv => ?_) (by simpa using ha) hq
        obtain ⟨d, hd, as, r⟩ := e.left v hv
        obtain ⟨xs, rfl⟩ := ht d hd
        cases r with
        | @tuple a o ys n _ _ ho hc hdt hr => exact ⟨a, o, ys, n, rfl, ho, hc, hdt⟩
  · exact SortsAt.data e hal (.inr hn) hu
theorem list_sort_dataX {β : Type} {R : Value → β → Prop} {enc : β → PyData} {vs : List Value} {bs : List β} {a : Addr} {n : Nat} {Q : Value → Shared → Prop} (ho : s.heap.get? a = some (seqObj "list" vs.toArray n)) (e : EachIs R vs bs) (er : EachIs (fun v b => ∃ as, Reads s.heap v (enc b) as ∧ a ∉ as) vs bs) (hal : AllAlike (bs.map enc)) (hk : SortableX (bs.map enc)) (hL : bs.length ≤ sizeLine)
    (hu : ∀ b, b ∈ bs → A.units + 1 + (enc b).depth < cLine) (h : ∀ out, out.length = bs.length → EachIs R out (bs.mergeSort (dataLe false enc)) → Q .none { s with heap := sortedHeap s.heap a vs (List.toArray out) }) :
    wpAny (model prog w) A (call (.builtin "list.sort") [.ref a]) Q E s := by
  have er' : EachIs (fun v b => ∃ as, Reads (sortingHeap s.heap a vs) v (enc b) as) vs bs := each_keepBut (h' := sortingHeap s.heap a vs) (fun _ _ hb q => sortingHeap_old hb q) (fun o q => by rw [ho] at q; rw [← Option.some.inj q]) hal er
  refine wpAny_call_entry slot_list_sort ⟨_, ho, rfl⟩ entry_list_sort (list_sort_vals (κ := dataKind (sortingHeap s.heap a vs) (bs.map enc)) ho (sortsAtX (s := { s with heap := sortingHeap s.heap a vs }) (each_map (R := fun v d => ∃ as, Reads (sortingHeap s.heap a vs) v d as) enc er') hal hk (bound_map hu)) (by rw [e.length]; exact hL) ⟨.none, rfl, ?_⟩) (args_list_sort _)
  exact h _ (by rw [sortVals_length false rfl]; exact e.length) (sortVals_data false e er' hal)
end
def sortD (ds : List D) : List D := ds.mergeSort (PySem.W.dataLe false toP)
open Classical in
noncomputable def pSorted : Sto → List D → Option (List D) := fun st ds => match ds with
  | [d] => match seqOf st d with
    | some xs => if xs.length ≤ SZ ∧ (∀ x ∈ xs, isP x = true ∧ (toP x).depth ≤ 50) ∧ PySem.W.AllAlike (xs.map toP) ∧ SortableX (xs.map toP) then some (sortD xs) else none
    | none => none
  | _ => none
section
variable {X : Cx} {K : PySem.W.Frag} {F : Hp} {ι : List Addr} {st : Sto} {H : Hp}
theorem rep_dp (S : Sim K F ι st H) {d : D} {v : V} (r : Rep K F ι d v) (h : isP d = true) : Dp K H v (toP d) := by
  refine S.dp r ?_
  unfold dat
  split
  · simp [isP] at h
  · rw [if_pos h]
theorem call_pSorted (hc : X.calm = true) (hu : X.A.units + 70 < cLine) : CallR X (.builtin "sorted") (rBL X.K pSorted) := by
  intro pins s σ H vs us Q I rv ⟨F, ι, st, ds, d, S, ra, e, q⟩
  unfold pSorted at e
  split at e
  rotate_left
  · cases e
  rename_i d1
  cases e1 : seqOf st d1 with
  | none => rw [e1] at e; cases e
  | some xs =>
    rw [e1] at e
    dsimp only at e
    split at e
    rotate_left
    · cases e
    rename_i hok
    obtain ⟨hsz, hp, hal, hso⟩ := hok
    obtain rfl : sortD xs = d := Option.some.inj e
    obtain ⟨v, rfl, rd⟩ := ra.one'
    obtain ⟨u, rfl, ru⟩ := rv.one
    obtain ⟨a, ws, rfl, hq, rr⟩ := S.seq rd e1
    cases ru
    -- the object
    obtain ⟨T, o, its, n, hT, ho, hcl, hd, rits, hz⟩ : ∃ (T : String) (o : Obj) (its : List Value) (n : Nat), (T = "list" ∨ T = "tuple") ∧ s.heap.get? a = some o ∧ o.cls = .type T ∧ o.data = .seq its.toArray n ∧ Vals ws its ∧ ws.length ≤ sizeLine := by
      rcases hq with hq | hq
      · obtain ⟨its, r, pl, hz⟩ := I.list hq
        obtain ⟨o, ho, hc, n, hd⟩ := pl.isList
        exact ⟨"list", o, its, n, .inl rfl, ho, hc, hd, r, hz⟩
      · obtain ⟨its, r, pl, hz⟩ := I.tuple hq
        obtain ⟨o, ho, hc, n, hd⟩ := pl
        exact ⟨"tuple", o, its, n, .inr rfl, ho, hc, hd, r, hz⟩
    have hl := rits.length
    refine Calls.call_function_entry PyProof.Rows.kind_sorted PyProof.Rows.plain_sorted PyProof.Rows.entry_sorted (PyProof.Rows.args_sorted1 _) ?_
    unfold Builtin.«sorted»
    refine wpAny_bind (m := checkCount "sorted" 1 1 _) (wpAny_pure ?_)
    refine wpAny_bind (wpAny_collect_seq a hT ho hcl hd (fun h' hk => ?_) (by rw [List.size_toArray]; omega))
    have I1 : Inv X pins σ H { s with heap := h' } := I.kept (t' := s.toks) hk
    have ei : its.toArray.toList = its := by simp
    rw [ei]
    refine wpAny_bind (wpAny_newList ?_ (by omega))
    have hoL : (h'.push (seqObj "list" its.toArray 0)).get? h'.objs.size = some (seqObj "list" its.toArray 0) := Heap.get?_push_size _ rfl
    have ee := each_pairs rr rits
    have er : PySem.W.EachIs (fun u (b : D × V) => ∃ as, Reads (h'.push (seqObj "list" its.toArray 0)) u (toP b.1) as ∧ h'.objs.size ∉ as) its (xs.zip ws) := by
      refine (each_mem2 ee).mono fun u b ⟨⟨h1, h2⟩, hb⟩ => ?_
      have hb1 : b.1 ∈ xs := (List.of_mem_zip (show (b.1, b.2) ∈ xs.zip ws from hb)).1
      obtain ⟨as, r⟩ := Dp.reads I1 _ _ _ (rep_dp S h2 (hp b.1 hb1).1) h1
      refine ⟨as, PyProof.Rows.Reads.keeps (fun _ _ => Heap.get?_push_of_some _) r, fun hm => ?_⟩
      have hal1 : PySem.W.alike (toP b.1) (toP b.1) = true := hal _ (List.mem_map.mpr ⟨b.1, hb1, rfl⟩) _ (List.mem_map.mpr ⟨b.1, hb1, rfl⟩)
      exact absurd (reads_lt _ _ _ hal1 r _ hm) (Nat.lt_irrefl _)
    have em : (xs.zip ws).map (fun b : D × V => toP b.1) = xs.map toP := by
      have e2 : (xs.zip ws).map (fun b : D × V => toP b.1) = ((xs.zip ws).map Prod.fst).map toP := by rw [List.map_map] <;> rfl
      rw [e2, zip_fst rr]
    show wpAny _ _ _ _ _ { s with heap := h'.push (seqObj "list" its.toArray 0) }
    refine wpAny_bind (wpAny_holding (list_sort_dataX (enc := fun b : D × V => toP b.1) (bs := xs.zip ws) hoL ee er (by rw [em]; exact hal) (by rw [em]; exact hso) ?_ ?_ fun out hout eout => ?_))
    · rw [List.length_zip]; omega
    · intro b hb
      have hb1 : b.1 ∈ xs := (List.of_mem_zip (show (b.1, b.2) ∈ xs.zip ws from hb)).1
      have := (hp b.1 hb1).2
      show X.A.units + 1 + 1 + (toP b.1).depth < cLine
      omega
    obtain ⟨rs, rvs⟩ := pairs_each eout
    have es : ((xs.zip ws).mergeSort (PySem.W.dataLe false fun b : D × V => toP b.1)).map (·.1) = sortD xs := by
      unfold sortD
      have e2 := List.map_mergeSort (r := PySem.W.dataLe false fun b : D × V => toP b.1) (s := PySem.W.dataLe false toP) (f := Prod.fst) (l := xs.zip ws) (fun a _ b _ => rfl)
      rw [zip_fst rr] at e2
      exact e2
    rw [es] at rs
    obtain ⟨e', he'⟩ := PyProof.Rows.sortedHeap_at (vs := its) (out := out.toArray) hoL
    have hlen2 : (((xs.zip ws).mergeSort (PySem.W.dataLe false fun b : D × V => toP b.1)).map (·.2)).length ≤ sizeLine := by
      rw [List.length_map, List.length_mergeSort, List.length_zip]; omega
    have hnew : H h'.objs.size = none := I1.hok.fresh (Nat.le_refl _)
    refine wpAny_pure ⟨_, rfl, .ref h'.objs.size, upd H h'.objs.size (.lst (((xs.zip ws).mergeSort (PySem.W.dataLe false fun b : D × V => toP b.1)).map (·.2))), I1.laid (t' := s.toks) (fun b u e => ?_) (Nat.le_refl _)
      (show ObjOk X.prog X.w _ _ _ (.lst _) from ⟨hlen2, out, e', rvs, he'⟩), rfl, q _ _ (Ext.laid hnew) (S.laid hnew) (pL_new S hnew rs)⟩
    have hb : b < h'.objs.size := Heap.lt_size e
    rw [PyProof.Rows.sortedHeap_old (Nat.ne_of_lt hb) (by rw [size_push']; exact Nat.lt_succ_of_lt hb)]
    exact Heap.get?_push_of_some _ e
end
end Dn
namespace Dn
open PySem PySem.Spec PyProof.Rows L2
section
variable {X : Cx} {W : WX} {k : Nat}
theorem takes_wN : Takes X wN := fun _ _ ⟨_, _, _, _, _, _, _, _, _, _, _, _, _, _, _, _, w⟩ => w.elim
theorem Bd.blk (b : Bd X W k) {s : Shared} {H : Hp} {scope : Scope} {cenv : Env} {fp : List Addr} : Bd (X.blk s H scope cenv fp) wN k := ⟨b.room, b.gd, b.calm, b.nd, .of takes_wN⟩
theorem Bd.u64 (b : Bd X W k) : X.A.units + 64 < cLine := by have := b.room.un; omega
theorem Bd.u65 (b : Bd X W k) : X.A.units + 65 < cLine := by have := b.room.un; omega
theorem Bd.u70 (b : Bd X W k) : X.A.units + 70 < cLine := by have := b.room.un; omega
theorem vr (i : Nat) {x : Str} {pos : Pos} (hN : X.N[i]? = some x := by rfl) (hv : Vis X.env.scope x := by first | exact Or.inl rfl | exact Or.inr (Or.inl rfl) | exact Or.inr (Or.inr rfl)) (hd : (x == ("__debug__" : Str)) = false := by decide)
    (hcd : (x == ("__classdict__" : Str)) = false := by decide) : DE X W (.Name x pos) (mVar i) := de_var hN hv hd hcd
theorem gn (i : Nat) {x : Str} {pos : Pos} (b : Bd X W k) (hi : X.N[i]? = some x := by rfl) (hx : Loc X.env.scope x := by first | exact Or.inl rfl | exact Or.inr rfl) (hf : X.fn x = true ∨ X.env.scope.names.lookup x = some .local := by first | exact .inl rfl | exact .inr rfl) : DG X [i] (.Name x pos) (gN i) :=
  dg_name b.nd hi hx hf
theorem st (i : Nat) {x : Str} {pos' pos : Pos} {e : Expr} {m : Rho → M D} (b : Bd X W k) (he : DE X W e m) (hi : X.N[i]? = some x := by rfl) (hx : Loc X.env.scope x := by first | exact Or.inl rfl | exact Or.inr rfl)
    (hs : swapsWith e (some (.Name x pos')) pos.line X.env = pure false := by rfl) (hf : X.fn x = true ∨ X.env.scope.names.lookup x = some .local := by first | exact .inl rfl | exact .inr rfl) : DS X W (.Assign [.Name x pos'] e pos) (sAsg (gN i) m) :=
  ds_set b.nd hi hx he hs hf
theorem dts1 {c : Expr} {m : Rho → M Bool} (h : DT X W c m) : DTs X W [c] m := dts_one h
def sPar3 (i j l : Nat) (a : Rho → M (List D)) : Rho → Sto → Fl := fun ρ st => (a ρ st).fl ρ fun ds st1 => match ds with
  | [x, y, z] => .next (((ρ.set i (some x)).set j (some y)).set l (some z)) st1
  | _ => .bad
end
end Dn
namespace Dn
open PySem PySem.Spec PyProof.Rows L2
theorem reps_rg {K : PySem.W.Frag} {F : Hp} {ι : List Addr} (lo hi : Int) : Reps K F ι (rngD lo (hi - lo).toNat) (rgV lo hi) := by
  unfold rngD rgV
  generalize (hi - lo).toNat = n
  generalize List.range n = l
  induction l with
  | nil => exact Reps.nil
  | cons x l ih =>
    rw [List.map_cons, List.map_cons]
    exact Reps.cons (by simp only [Rep]) ih
def rgOk (lo hi : Int) : Prop := -(2 ^ 62) ≤ lo ∧ lo < 2 ^ 62 ∧ -(2 ^ 62) ≤ hi ∧ hi < 2 ^ 62 ∧ (hi - lo).toNat ≤ SZ
theorem rgOk.ok {lo hi : Int} (h : rgOk lo hi) : RgOk lo hi := ⟨h.1, h.2.1, h.2.2.1, h.2.2.2.1, Nat.le_trans h.2.2.2.2 (by decide)⟩
noncomputable def lRange (lo hi : D) : Option (List D) := match lo, hi with
  | .int i, .int j => @ite _ (rgOk i j) (Classical.propDecidable _) (some (rngD i (j - i).toNat)) (none)
  | _, _ => none
noncomputable def lLstRg (m : Rho → M D) : Rho → M (List D) := fun ρ st => (m ρ st).bind fun d st1 => lift (lRange (.int 0) d) st1
theorem lRange_some {d1 d2 : D} {xs : List D} (h : lRange d1 d2 = some xs) : ∃ i j, d1 = .int i ∧ d2 = .int j ∧ rgOk i j ∧ xs = rngD i (j - i).toNat := by
  unfold lRange at h
  split at h
  · split at h
    · rename_i i j hr
      cases h
      exact ⟨i, j, rfl, rfl, hr, rfl⟩
    · cases h
  · cases h
section
variable {X : Cx} {W : WX} {p p2 pos pos2 : Pos} {a b : Expr} {m1 m2 : Rho → M D}
theorem rg_lst {σ : L2.St} {F : Hp} {ι : List Addr} {H : Hp} {st : Sto} {Q : VK} {lo hi : Int} (S : Sim X.K F ι st H) (q : post X.K W σ F ι H (pL X.K) (.ok (rngD lo (hi - lo).toNat) st) Q) : ∀ c, H c = none → Q (.ref c) (upd H c (.lst (rgV lo hi))) :=
  fun c hc => q F ι _ _ (Ext.laid hc) (S.laid hc) (pL_new S hc (reps_rg lo hi))
theorem dl_lstRg (hc : X.calm = true) (hg : Gl X "list") (hm : X.mg "list" = none) (hg2 : Gl X "range") (hm2 : X.mg "range" = none) (ha : DE X W a m1) (na : starEach [a] X.env = (false, eval a X.env) :: starEach [] X.env := by rfl)
    (nr : starEach [.Call (.Name "range" p2) [a] [] pos2] X.env = (false, eval (.Call (.Name "range" p2) [a] [] pos2) X.env) :: starEach [] X.env := by rfl) : DL X W (.Call (.Name "list" p) [.Call (.Name "range" p2) [a] [] pos2] [] pos) (lLstRg m1) := by
  refine PE.weak (pe_listRg hc hg hm (prg_1 hg2 hm2 ha na) nr) fun σ H Q ⟨F, ι, ρ, st, S, R, q⟩ => ?_
  refine tG_seq back_L S R q fun d st1 F1 ι1 H1 v x1 S1 R1 r1 q1 => ?_
  cases e : lRange (.int 0) d with
  | none => rw [e] at q1; exact (q1 : False).elim
  | some xs =>
    rw [e] at q1
    obtain ⟨i, j, ei, rfl, hr, rfl⟩ := lRange_some e
    cases ei
    have r1 : v = V.int j := by simpa only [pV, Rep] using r1
    exact ⟨j, r1, hr.ok, rg_lst S1 q1⟩
end
def intsOf : List D → Option (List Int)
  | [] => some []
  | .int i :: ds => (intsOf ds).map (i :: ·)
  | _ => none
theorem intsOf_some : ∀ {ds : List D} {ns : List Int}, intsOf ds = some ns → ds = ns.map D.int
  | [], _, h => by cases h; rfl
  | .int i :: ds, ns, h => by
    unfold intsOf at h
    cases e : intsOf ds with
    | none => rw [e] at h; cases h
    | some ms =>
      rw [e] at h
      cases h
      rw [intsOf_some e] <;> rfl
  | .non :: _, _, h => by cases h
  | .bl _ :: _, _, h => by cases h
  | .str _ :: _, _, h => by cases h
  | .tup _ :: _, _, h => by cases h
  | .lst _ :: _, _, h => by cases h
  | .scr _ :: _, _, h => by cases h
  | .ref _ :: _, _, h => by cases h
  | .adr _ :: _, _, h => by cases h
  | .fd _ _ :: _, _, h => by cases h
  | .exo _ _ _ _ :: _, _, h => by cases h
  | .obj _ _ _ :: _, _, h => by cases h
  | .sd _ :: _, _, h => by cases h
  | .fnv _ :: _, _, h => by cases h
theorem reps_ints_vs {K : PySem.W.Frag} {F : Hp} {ι : List Addr} : ∀ {ns : List Int} {vs : List V}, Reps K F ι (ns.map D.int) vs → vs = ns.map V.int
  | [], _, h => by simpa only [List.map_nil, Reps] using h
  | n :: ns, _, h => by
    simp only [List.map_cons, Reps] at h
    obtain ⟨v, r, rfl, h1, h2⟩ := h
    simp only [Rep] at h1
    rw [h1, reps_ints_vs h2] <;> rfl
end Dn
namespace Dn
open PySem PySem.Spec PyProof.Rows L2
section
variable (ρ : Rho) (s : Sto)
@[simp] theorem mLit_ap (d : D) : mLit d ρ s = .ok d s := rfl
theorem mVar_ap (i : Nat) : mVar i ρ s = match ρ[i]? with | some (some d) => .ok d s | _ => .bad := rfl
@[simp] theorem mNil_ap : mNil ρ s = .ok [] s := rfl
@[simp] theorem mCons_ap (m : Rho → M D) (r : Rho → M (List D)) : mCons m r ρ s = (m ρ s).bind fun d s1 => (r ρ s1).bind fun ds s2 => .ok (d :: ds) s2 := rfl
@[simp] theorem mTup_ap (a : Rho → M (List D)) : mTup a ρ s = (a ρ s).bind fun xs s1 => if xs.length ≤ 100000 then .ok (.tup xs) s1 else .bad := rfl
@[simp] theorem lDisp_ap (a : Rho → M (List D)) : lDisp a ρ s = (a ρ s).bind fun xs s1 => if xs.length ≤ 100000 then .ok xs s1 else .bad := rfl
@[simp] theorem mFrz_ap (a : Rho → M (List D)) : mFrz a ρ s = (a ρ s).bind fun xs s1 => .ok (.lst xs) s1 := rfl
@[simp] theorem mNew_ap (a : Rho → M (List D)) : mNew a ρ s = (a ρ s).bind fun xs s1 => .ok (.ref s1.length) (s1 ++ [.lst xs]) := rfl
@[simp] theorem mOp_ap (p : Sto → D → D → Option D) (a b : Rho → M D) : mOp p a b ρ s = (a ρ s).bind fun x s1 => (b ρ s1).bind fun y s2 => lift (p s2 x y) s2 := rfl
@[simp] theorem lOp_ap (p : Sto → D → D → Option (List D)) (a b : Rho → M D) : lOp p a b ρ s = (a ρ s).bind fun x s1 => (b ρ s1).bind fun y s2 => lift (p s2 x y) s2 := rfl
@[simp] theorem mB_ap (p : Sto → List D → Option D) (a : Rho → M (List D)) : mB p a ρ s = (a ρ s).bind fun ds s1 => lift (p s1 ds) s1 := rfl
@[simp] theorem lB_ap (p : Sto → List D → Option (List D)) (a : Rho → M (List D)) : lB p a ρ s = (a ρ s).bind fun ds s1 => lift (p s1 ds) s1 := rfl
@[simp] theorem mCall_ap (f : List D → M D) (a : Rho → M (List D)) : mCall f a ρ s = (a ρ s).bind fun ds s1 => f ds s1 := rfl
@[simp] theorem mUn_ap (p : Sto → D → Option D) (a : Rho → M D) : mUn p a ρ s = (a ρ s).bind fun d s1 => lift (p s1 d) s1 := rfl
@[simp] theorem mStar_ap (m : Rho → M D) (r : Rho → M (List D)) : mStar m r ρ s = (m ρ s).bind fun d s1 => match seqOf s1 d with | some xs => (r ρ s1).bind fun ds s2 => .ok (xs ++ ds) s2 | none => .bad := rfl
@[simp] theorem isB_ap (m : Rho → M D) : isB m ρ s = (m ρ s).bind fun d s1 => match d with | .bl k => .ok k s1 | _ => .bad := rfl
@[simp] theorem mTru_ap (m : Rho → M D) : mTru m ρ s = (m ρ s).bind fun d s1 => lift (d.truth s1) s1 := rfl
@[simp] theorem bAnd_ap (a b : Rho → M Bool) : bAnd a b ρ s = (a ρ s).bind fun k s1 => if k = true then b ρ s1 else .ok false s1 := rfl
@[simp] theorem bOr_ap (a b : Rho → M Bool) : bOr a b ρ s = (a ρ s).bind fun k s1 => if k = true then .ok true s1 else b ρ s1 := rfl
@[simp] theorem bNot_ap (a : Rho → M Bool) : bNot a ρ s = (a ρ s).bind fun k s1 => .ok (!k) s1 := rfl
@[simp] theorem bYes_ap : bYes ρ s = .ok true s := rfl
@[simp] theorem mIf_ap (t : Rho → M Bool) (a b : Rho → M D) : mIf t a b ρ s = (t ρ s).bind fun k s1 => if k = true then a ρ s1 else b ρ s1 := rfl
@[simp] theorem oNone_ap : oNone ρ s = .ok none s := rfl
@[simp] theorem sSeq_ap (a b : Rho → Sto → Fl) : sSeq a b ρ s = (a ρ s).seq b := rfl
@[simp] theorem sAsg_ap (g : D → Rho → M Rho) (m : Rho → M D) : sAsg g m ρ s = (m ρ s).fl ρ fun d s1 => (nox (g d ρ s1)).fl ρ fun r s2 => .next r s2 := rfl
@[simp] theorem sRet_ap (m : Rho → M D) : sRet m ρ s = (m ρ s).fl ρ fun d s1 => .ret d s1 := rfl
@[simp] theorem sDrop_ap (m : Rho → M D) : sDrop m ρ s = (m ρ s).fl ρ fun _ s1 => .next ρ s1 := rfl
@[simp] theorem sIf_ap (t : Rho → M Bool) (a b : Rho → Sto → Fl) : sIf t a b ρ s = (t ρ s).fl ρ fun k s1 => if k = true then a ρ s1 else b ρ s1 := rfl
@[simp] theorem sNext_ap : sNext ρ s = .next ρ s := rfl
@[simp] theorem sBrk_ap : sBrk ρ s = .brk ρ s := rfl
@[simp] theorem sCnt_ap : sCnt ρ s = .cnt ρ s := rfl
@[simp] theorem gN_ap (i : Nat) (d : D) : gN i d ρ s = .ok (ρ.set i (some d)) s := rfl
@[simp] theorem gT_ap (n : Nat) (gs : List D → Rho → M Rho) (xs : List D) (h : xs.length = n) : gT n gs (.tup xs) ρ s = gs xs ρ s := by
  unfold gT
  simp [h]
@[simp] theorem gsCons_ap (g : D → Rho → M Rho) (gs : List D → Rho → M Rho) (d : D) (ds : List D) : gsCons g gs (d :: ds) ρ s = (g d ρ s).bind fun r s1 => gs ds r s1 := rfl
@[simp] theorem gsNil_ap : gsNil [] ρ s = .ok ρ s := rfl
@[simp] theorem seq_next (k : Rho → Sto → Fl) : (Fl.next ρ s).seq k = k ρ s := rfl
@[simp] theorem seq_ret (d : D) (k : Rho → Sto → Fl) : (Fl.ret d s).seq k = .ret d s := rfl
@[simp] theorem seq_brk (k : Rho → Sto → Fl) : (Fl.brk ρ s).seq k = .brk ρ s := rfl
@[simp] theorem seq_cnt (k : Rho → Sto → Fl) : (Fl.cnt ρ s).seq k = .cnt ρ s := rfl
@[simp] theorem flOut_ret (d : D) : flOut (.ret d s) = .ok d s := rfl
@[simp] theorem flOut_next : flOut (.next ρ s) = .ok .non s := rfl
@[simp] theorem sFor_ap (ms : Rho → M Src) (g : D → Rho → M Rho) (mb : Rho → Sto → Fl) : sFor ms g mb ρ s = (ms ρ s).fl ρ fun src s1 => forL src.held (forB g mb) src.items ρ s1 := rfl
@[simp] theorem sPar_ap (i j : Nat) (a : Rho → M (List D)) : sPar i j a ρ s = (a ρ s).fl ρ fun ds s1 => match ds with | [x, y] => .next ((ρ.set i (some x)).set j (some y)) s1 | _ => .bad := rfl
@[simp] theorem sPar3_ap (i j l : Nat) (a : Rho → M (List D)) : sPar3 i j l a ρ s = (a ρ s).fl ρ fun ds s1 => match ds with | [x, y, z] => .next (((ρ.set i (some x)).set j (some y)).set l (some z)) s1 | _ => .bad := rfl
@[simp] theorem iRng1D_ap (m : Rho → M D) : iRng1D m ρ s = (m ρ s).bind fun d s1 => lift (rng1 d) s1 := rfl
@[simp] theorem iSeq_ap (m : Rho → M D) : iSeq m ρ s = (m ρ s).bind fun d s1 => lift (srcOf s1 d) s1 := rfl
@[simp] theorem lLc_ap (ms : Rho → M Src) (gf : D → Rho → M Rho) (mt : Rho → M Bool) (me : Rho → M D) (vs : List Nat) : lLc ms gf mt me vs ρ s = (ms ρ s).bind fun src s1 => if src.items.length ≤ 100000 then nox (lcL src.held (lcF gf mt me (wipeD ρ vs)) src.items s1) else .bad := rfl
@[simp] theorem forB_ap (g : D → Rho → M Rho) (mb : Rho → Sto → Fl) (d : D) : forB g mb d ρ s = (nox (g d ρ s)).fl ρ fun r s1 => mb r s1 := rfl
end
theorem clean_same {s s' : Sto} {d : D} (h : s'.length = s.length) : clean s (.ok d s') = .ok d s' := by
  unfold clean
  dsimp only
  split
  · rw [← h, List.take_length]
  · rfl
mutual
theorem low_of_isP (n : Nat) : ∀ d : D, isP d = true → d.low n = true
  | .non, _ => by simp only [D.low]
  | .bl _, _ => by simp only [D.low]
  | .int _, _ => by simp only [D.low]
  | .str _, _ => by simp only [D.low]
  | .tup xs, h => by
    simp only [D.low]
    exact lows_of_isPs n xs (by simpa only [isP] using h)
  | .lst xs, h => by
    simp only [D.low]
    exact lows_of_isPs n xs (by simpa only [isP] using h)
  | .scr _, h => by simp [isP] at h
  | .ref _, h => by simp [isP] at h
  | .adr _, h => by simp [isP] at h
  | .fd _ _, h => by simp [isP] at h
  | .exo _ _ _ _, h => by simp [isP] at h
  | .obj _ _ _, h => by simp [isP] at h
  | .sd _, h => by simp [isP] at h
  | .fnv _, h => by simp [isP] at h
theorem lows_of_isPs (n : Nat) : ∀ ds : List D, isPs ds = true → D.lows n ds = true
  | [], _ => by simp only [D.lows]
  | d :: ds, h => by
    simp only [isPs, Bool.and_eq_true] at h
    simp only [D.lows, Bool.and_eq_true]
    exact ⟨low_of_isP n d h.1, lows_of_isPs n ds h.2⟩
end
theorem lcL_pure {held : List (Nat × List D)} {f : D → Sto → Out (Option D)} {g : D → Option D} {s : Sto} (hh : heldOk held s) : ∀ items : List D, (∀ d ∈ items, f d s = .ok (g d) s) → lcL held f items s = .ok (items.filterMap g) s
  | [], _ => by unfold lcL; rw [if_pos hh] <;> rfl
  | d :: ds, h => by
    unfold lcL
    rw [if_pos hh, h d (by simp)]
    simp only [Out.bind_ok]
    rw [lcL_pure hh ds fun d hd => h d (by simp [hd])]
    simp only [Out.bind_ok]
    congr 1
    rw [List.filterMap_cons]
    cases g d <;> rfl
def nI (n : Nat) : D := .int (n : Int)
def nT (r : List Nat) : D := .tup (r.map nI)
def nP (p : List (List Nat)) : D := .tup (p.map nT)
theorem atI_cast {α : Type} (xs : List α) (n : Nat) : atI xs (n : Int) = xs[n]? := by
  unfold atI ixN
  rw [if_pos (Int.natCast_nonneg n)]
  by_cases h : n < xs.length
  · rw [if_pos (by omega), Option.bind_some, Int.toNat_natCast]
  · rw [if_neg (by omega), List.getElem?_eq_none (by omega)]
    rfl
@[simp] theorem pIdx_tup (s : Sto) (xs : List D) (n : Nat) : pIdx s (.tup xs) (nI n) = xs[n]? := by
  show (seqOf s (.tup xs)).bind (fun xs => atI xs (n : Int)) = _
  rw [seqOf_tup, Option.bind_some, atI_cast]
@[simp] theorem pIdx_lst (s : Sto) (xs : List D) (n : Nat) : pIdx s (.lst xs) (nI n) = xs[n]? := by
  show (seqOf s (.lst xs)).bind (fun xs => atI xs (n : Int)) = _
  rw [seqOf_lst, Option.bind_some, atI_cast]
theorem dat_P {s : Sto} {d : D} (h : isP d = true) : dat s d = some (toP d) := by
  unfold dat
  split
  · simp [isP] at h
  · rw [if_pos h]
@[simp] theorem isP_nI (n : Nat) : isP (nI n) = true := rfl
theorem isPs_map {α : Type} (f : α → D) (h : ∀ a, isP (f a) = true) : ∀ l : List α, isPs (l.map f) = true
  | [] => rfl
  | a :: l => by rw [List.map_cons, isPs, h a, isPs_map f h l] <;> rfl
@[simp] theorem isP_nT (r : List Nat) : isP (nT r) = true := by unfold nT; rw [isP]; exact isPs_map _ isP_nI r
@[simp] theorem isP_nP (p : List (List Nat)) : isP (nP p) = true := by unfold nP; rw [isP]; exact isPs_map _ isP_nT p
@[simp] theorem pEq_int (s : Sto) (i j : Int) : pEq s (.int i) (.int j) = some (.bl (decide (i = j))) := by
  show (if min (PyData.depth (.int i)) (PyData.depth (.int j)) ≤ 64 then some (D.bl (PyData.eqv (.int i) (.int j))) else none) = _
  rw [if_pos (by simp [PyData.depth])]
  congr 2
@[simp] theorem pNe_int (s : Sto) (i j : Int) : pNe s (.int i) (.int j) = some (.bl (!decide (i = j))) := by
  show (if min (PyData.depth (.int i)) (PyData.depth (.int j)) ≤ 64 then some (D.bl (!PyData.eqv (.int i) (.int j))) else none) = _
  rw [if_pos (by simp [PyData.depth])]
  congr 3
@[simp] theorem pEq_nI (s : Sto) (i j : Nat) : pEq s (nI i) (nI j) = some (.bl (decide (i = j))) := by
  unfold nI
  rw [pEq_int]
  congr 2
  rw [Bool.eq_iff_iff]; simp; omega
@[simp] theorem pNe_nI (s : Sto) (i j : Nat) : pNe s (nI i) (nI j) = some (.bl (!decide (i = j))) := by
  unfold nI
  rw [pNe_int]
  congr 3
  rw [Bool.eq_iff_iff]; simp; omega
@[simp] theorem pEq_str (s : Sto) (x y : Str) : pEq s (.str x) (.str y) = some (.bl (x == y)) := rfl
@[simp] theorem pNe_str (s : Sto) (x y : Str) : pNe s (.str x) (.str y) = some (.bl (!(x == y))) := rfl
theorem shaped_of {d : PyData} (h1 : d.canLay0 = true) (h2 : d.depth ≤ 64) : SeqAt.shaped d = true := by
  unfold SeqAt.shaped
  rw [h1, decide_eq_true h2] <;> rfl
theorem toP_nT (r : List Nat) : toP (nT r) = .tuple ((r.map nI).map toP) := by unfold nT; rw [toP, toPs_map]
theorem any_ints (a : Nat) : ∀ r : List Nat, (((r.map nI).map toP).any fun z => PyData.eqv z (.int (a : Int))) = decide (a ∈ r)
  | [] => by simp
  | n :: r => by
    rw [List.map_cons, List.map_cons, List.any_cons, any_ints a r]
    show (PyData.eqv (.int (n : Int)) (.int (a : Int)) || decide (a ∈ r)) = _
    have e : PyData.eqv (.int (n : Int)) (.int (a : Int)) = decide (a = n) := by
      show ((n : Int) == (a : Int)) = _
      rw [Bool.eq_iff_iff]
      simp
      omega
    rw [e, Bool.eq_iff_iff]
    simp
theorem inD_nT (s : Sto) (a : Nat) (r : List Nat) : inD s (nI a) (nT r) = some (decide (a ∈ r)) := by
  unfold inD
  show (match dat s (nI a), dat s (nT r) with
    | some p, some (.list ds) => if p.depth ≤ 64 then some (ds.any fun z => PyData.eqv z p) else none
    | some p, some (.tuple ds) => if p.depth ≤ 64 then some (ds.any fun z => PyData.eqv z p) else none
    | _, _ => none) = _
  rw [dat_P (isP_nI a), dat_P (isP_nT r)]
  rw [toP_nT]
  have h2 : (toP (nI a)).depth ≤ 64 := by show PyData.depth (.int _) ≤ 64; simp [PyData.depth]
  simp only [h2, if_true]
  congr 1
  exact any_ints a r
@[simp] theorem pIn_nT (s : Sto) (a : Nat) (r : List Nat) : pIn s (nI a) (nT r) = some (.bl (decide (a ∈ r))) := by unfold pIn; rw [inD_nT] <;> rfl
@[simp] theorem pNotIn_nT (s : Sto) (a : Nat) (r : List Nat) : pNotIn s (nI a) (nT r) = some (.bl (!decide (a ∈ r))) := by unfold pNotIn; rw [inD_nT] <;> rfl
@[simp] theorem srcOf_tup (s : Sto) (xs : List D) : srcOf s (.tup xs) = some ⟨xs, []⟩ := rfl
@[simp] theorem srcOf_lst (s : Sto) (xs : List D) : srcOf s (.lst xs) = some ⟨xs, []⟩ := rfl
@[simp] theorem pLen_tup (s : Sto) (xs : List D) : pLen s [.tup xs] = some (nI xs.length) := rfl
@[simp] theorem pTuple_lst (s : Sto) (xs : List D) : pTuple s [.lst xs] = some (.tup xs) := rfl
@[simp] theorem truth_bl (s : Sto) (b : Bool) : (D.bl b).truth s = some b := rfl
section
variable (s : Sto) (i j : Int)
@[simp] theorem pAdd_int : pAdd s (.int i) (.int j) = some (.int (i + j)) := rfl
@[simp] theorem pSub_int : pSub s (.int i) (.int j) = some (.int (i - j)) := rfl
@[simp] theorem pNeg_int : pNeg s (.int i) = some (.int (-i)) := rfl
theorem pMod_int (h : 0 < j) : pMod s (.int i) (.int j) = some (.int (i % j)) := by unfold pMod; dsimp only; rw [if_pos h]
theorem pDiv_int (h : 0 < j ∧ j < 1073741824) : pDiv s (.int i) (.int j) = some (.int (i / j)) := by unfold pDiv; dsimp only; rw [if_pos h]
theorem pPow_int (h : 0 ≤ j ∧ j ≤ 1000000 ∧ i.natAbs < 2 ^ 64) : pPow s (.int i) (.int j) = some (.int (i ^ j.toNat)) := by unfold pPow; dsimp only; rw [if_pos h]
theorem pMul_int (h : i.natAbs < 2 ^ 64 ∨ j.natAbs < 2 ^ 64) : pMul s (.int i) (.int j) = some (.int (i * j)) := by unfold pMul; dsimp only; rw [if_pos h]
@[simp] theorem pLt_int : pLt s (.int i) (.int j) = some (.bl (decide (i < j))) := rfl
@[simp] theorem pLe_int : pLe s (.int i) (.int j) = some (.bl (decide (i ≤ j))) := rfl
@[simp] theorem pGt_int : pGt s (.int i) (.int j) = some (.bl (decide (j < i))) := rfl
@[simp] theorem pGe_int : pGe s (.int i) (.int j) = some (.bl (decide (j ≤ i))) := rfl
@[simp] theorem pAdd_nI (a b : Nat) : pAdd s (nI a) (nI b) = some (nI (a + b)) := by unfold nI; rw [pAdd_int]; congr 2
end
theorem pIdx_ref {s : Sto} {l : Nat} {xs : List D} (h : s[l]? = some (.lst xs)) (i : Int) : pIdx s (.ref l) (.int i) = atI xs i := by
  show (seqOf s (.ref l)).bind _ = _
  have e : seqOf s (.ref l) = some xs := by
    show lstOf s (.ref l) = _
    unfold lstOf
    dsimp only
    rw [h]
  rw [e] <;> rfl
theorem gSubD_ref {mo mi : Rho → M D} {d : D} {ρ : Rho} {s s1 s2 : Sto} {l j : Nat} {k : Int} {xs : List D} (ho : mo ρ s = .ok (.ref l) s1) (hi : mi ρ s1 = .ok (.int k) s2) (h : s2[l]? = some (.lst xs)) (hj : ixN xs.length k = some j) : gSubD mo mi d ρ s = .ok ρ (s2.set l (.lst (xs.set j d))) := by
  unfold gSubD
  rw [ho, Out.bind_ok, hi, Out.bind_ok]
  simp only [h, hj]
structure ROk (dp bk : Nat) (d : D) : Prop where
  p : isP d = true
  lay : (toP d).canLay0 = true
  dep : (toP d).depth ≤ dp
  show_ : (toP d).showable = true
  leaf : (toP d).leavesShort 60 = true
  blk : (toP d).bulk ≤ bk
theorem ROk.repr {dp bk : Nat} {d : D} (h : ROk dp bk d) (h1 : dp ≤ 64) (h2 : bk ≤ 200000) (s : Sto) : pRepr s [d] = some (.str (toP d).shown) := by
  have hl := PyData.shown_le_bulk 60 (by decide) (toP d) h.leaf
  have hb := h.blk
  have hs : (toP d).shown.length ≤ sizeLine := by rw [sizeLine_eq]; omega
  show (dat s d).bind _ = _
  rw [dat_P h.p]
  show (if SeqAt.shaped (toP d) = true ∧ (toP d).showable = true ∧ (toP d).shown.length ≤ sizeLine then some (D.str (toP d).shown) else none) = _
  rw [if_pos ⟨shaped_of h.lay (Nat.le_trans h.dep h1), h.show_, hs⟩]
theorem ROk.mono {dp bk dp' bk' : Nat} {d : D} (h : ROk dp bk d) (h1 : dp ≤ dp') (h2 : bk ≤ bk') : ROk dp' bk' d := ⟨h.p, h.lay, Nat.le_trans h.dep h1, h.show_, h.leaf, Nat.le_trans h.blk h2⟩
theorem rok_all {dp bk : Nat} : ∀ {xs : List D}, (∀ x ∈ xs, ROk dp bk x) → isPs xs = true ∧ PyData.canLayAll0 (toPs xs) = true ∧ PyData.depthAll (toPs xs) ≤ dp ∧ PyData.showableAll (toPs xs) = true ∧ PyData.leavesShortAll 60 (toPs xs) = true ∧ PyData.bulkAll (toPs xs) ≤ xs.length * (bk + 1)
  | [], _ => ⟨rfl, rfl, Nat.zero_le _, rfl, rfl, by simp [toPs, PyData.bulkAll]⟩
  | x :: xs, h => by
    obtain ⟨a1, a2, a3, a4, a5, a6⟩ := h x (by simp)
    obtain ⟨b1, b2, b3, b4, b5, b6⟩ := rok_all (xs := xs) fun y hy => h y (List.mem_cons_of_mem _ hy)
    refine ⟨by rw [isPs, a1, b1] <;> rfl, by rw [toPs, PyData.canLayAll0, a2, b2] <;> rfl, by rw [toPs, PyData.depthAll]; exact Nat.max_le.mpr ⟨a3, b3⟩, by rw [toPs, PyData.showableAll, a4, b4] <;> rfl, by rw [toPs, PyData.leavesShortAll, a5, b5] <;> rfl, ?_⟩
    rw [toPs, PyData.bulkAll, List.length_cons, Nat.add_mul]
    omega
theorem rok_tup {dp bk n : Nat} {xs : List D} (h : ∀ x ∈ xs, ROk dp bk x) (hn : xs.length ≤ n) : ROk (dp + 1) (n * (bk + 1)) (.tup xs) := by
  obtain ⟨b1, b2, b3, b4, b5, b6⟩ := rok_all h
  refine ⟨by rw [isP]; exact b1, by rw [toP, PyData.canLay0]; exact b2, by rw [toP, PyData.depth]; omega, by rw [toP, PyData.showable]; exact b4, by rw [toP, PyData.leavesShort]; exact b5, ?_⟩
  rw [toP, PyData.bulk]
  exact Nat.le_trans b6 (Nat.mul_le_mul_right _ hn)
theorem rok_lst {dp bk n : Nat} {xs : List D} (h : ∀ x ∈ xs, ROk dp bk x) (hn : xs.length ≤ n) : ROk (dp + 1) (n * (bk + 1)) (.lst xs) := by
  obtain ⟨b1, b2, b3, b4, b5, b6⟩ := rok_all h
  refine ⟨by rw [isP]; exact b1, by rw [toP, PyData.canLay0]; exact b2, by rw [toP, PyData.depth]; omega, by rw [toP, PyData.showable]; exact b4, by rw [toP, PyData.leavesShort]; exact b5, ?_⟩
  rw [toP, PyData.bulk]
  exact Nat.le_trans b6 (Nat.mul_le_mul_right _ hn)
end Dn
namespace Dn
open PySem PySem.Spec PyProof.Rows L2
theorem clean_some (s : Sto) (d : D) (s' : Sto) : ∃ st', clean s (.ok d s') = .ok d st' := by
  unfold clean
  dsimp only
  split
  · exact ⟨_, rfl⟩
  · exact ⟨_, rfl⟩
theorem cutD_take {α : Type} (xs : List α) (n : Nat) : Dn.cutD xs none (some (n : Int)) = xs.take n := by
  unfold Dn.cutD
  rw [HT.sIx_none, HT.sIx_nat, Nat.sub_zero, List.drop_zero]
  by_cases h : n ≤ xs.length
  · rw [Nat.min_eq_left h]
  · rw [Nat.min_eq_right (by omega), List.take_length, List.take_of_length_le (by omega)]
theorem lst_of_ref {s : Sto} {l : Nat} {xs : List D} (h : s[l]? = some (.lst xs)) : lstOf s (.ref l) = some xs := by
  unfold lstOf
  simp only [h]
theorem shown_small (n : Nat) (h : n < 1000) : ((PyData.int (n : Int)).shown).length ≤ 60 ∧ (n : Int).natAbs.log2 < 1920 := by
  revert n
  decide +kernel
theorem rok_nI {n : Nat} (h : n < 1000) : ROk 0 0 (nI n) := by
  obtain ⟨h1, h2⟩ := shown_small n h
  refine ⟨rfl, rfl, Nat.le_refl _, ?_, ?_, Nat.le_refl _⟩
  · show decide ((n : Int).natAbs.log2 < 1920) = true
    exact decide_eq_true h2
  · show decide (((PyData.int (n : Int)).shown).length ≤ 60) = true
    exact decide_eq_true h1
end Dn
namespace Dn
open PySem PySem.Spec PyProof.Rows L2
def mMethT (p : D → List D → M D) (mo : Rho → M D) (am : Rho → M (List D)) : Rho → M D := fun ρ st =>
  (mo ρ st).bind fun o st1 => match o with
    | .tup xs => (am ρ st1).bind fun ds st2 => nox (p (.tup xs) ds st2)
    | _ => .bad
section
variable {X : Cx} {W : WX} {apos cpos : Pos} {o e : Expr} {es : List Expr} {mo : Rho → M D} {am : Rho → M (List D)} {id : String} {name : Str} {p : D → List D → M D} {pins : List (Addr × Obj)} {σ : L2.St} {H : Hp} {s : Shared}
end
@[simp] theorem mMethT_ap (p : D → List D → M D) (mo : Rho → M D) (am : Rho → M (List D)) (ρ : Rho) (s : Sto) : mMethT p mo am ρ s = (mo ρ s).bind fun o s1 => match o with | .tup xs => (am ρ s1).bind fun ds s2 => nox (p (.tup xs) ds s2) | _ => .bad := rfl
end Dn
namespace Dn
open PySem PySem.Spec PyProof.Rows L2
def gL (n : Nat) (gs : List D → Rho → M Rho) : D → Rho → M Rho := fun d ρ st => match lstOf st d with
  | some xs => if xs.length = n then gs xs ρ st else .bad
  | none => .bad
theorem dg_lst {X : Cx} {pos : Pos} {es : List Expr} {k n : Nat} {js : List Nat} {gs : List D → Rho → M Rho} (hc : X.calm = true) (h : DGs X js es gs)
    (hn : (assignEach es X.env).length = n := by rfl) (hst : (assignEach es X.env).findIdx? (·.1) = none := by rfl) : DG X js (.Tuple es k pos) (gL n gs) := by
  refine PG.weak (pg_lst hc h hn hst) fun v σ H Q ⟨F, ι, ρ, st, d, S, R, r, q⟩ => ?_
  unfold gL at q
  split at q
  · split at q
    · rename_i xs e hl
      obtain ⟨a, vs, rfl, h, rr⟩ := S.lst r e
      exact ⟨a, vs, rfl, SqL.of h, by rw [← rr.length]; exact hl, F, ι, ρ, st, xs, S, R, rr, q⟩
    · exact q.elim
  · exact q.elim
section
variable {X : Cx} {W : WX} {pos : Pos}
theorem de_gs {x : Str} {i : Str} (hg : Gl X x) (hm : ∃ t, X.mg x = some (.str i t)) (hd : (x == ("__debug__" : Str)) = false := by decide) : DE X W (.Name x pos) (mLit (.str i)) := by
  obtain ⟨t, hm⟩ := hm
  exact de_gstr hg hm hd
end
@[simp] theorem gL_ref {n : Nat} {gs : List D → Rho → M Rho} {ρ : Rho} {s : Sto} {l : Nat} {xs : List D} (h : s[l]? = some (.lst xs)) (hl : xs.length = n) : gL n gs (.ref l) ρ s = gs xs ρ s := by
  unfold gL
  rw [lst_of_ref h]
  simp [hl]
end Dn
namespace Dn
open PySem PySem.Spec PyProof.Rows L2
def bareSet (w : World) : Obj := { cls := .type "set", dict := none, data := .set #[] 0 (.fresh 0 0 (!w.params.followText "set-order")) }
section
variable {P : Program} {w : World} {A : Around} {E : Value → Shared → Prop} {s : Shared}
theorem set_list {l : Addr} {items : Array Value} (ns : List Int) {Q : Value → Shared → Prop} (hh : A.handled = none) (hl : s.heap.IsList l items) (hit : IntsAre items.toList ns) (hb : ns.length + 1 < scanBound)
    (h : ∀ (h' : Heap) (tk c : Nat), SetR w h' s.heap.objs.size (fun j => decide (j ∈ ns)) c → c ≤ ns.length → (∀ b o, s.heap.get? b = some o → h'.get? b = some o) → Q (.ref s.heap.objs.size) { s with heap := h', toks := tk }) :
    wpAny (model P w) A (call (.type "set") [.ref l]) Q E s := by
  have sz : items.size = ns.length := by rw [← Array.length_toList]; exact hit.length
  obtain ⟨c, tl, mro⟩ := F.called_set.mro
  have made := F.called_set.made
  have sub := F.called_set.sub
  refine wpAny_call (codeAny_of_tree ?_)
  show wpAny _ _ (callAny (.type "set") _) _ _ _
  refine wpAny_pure ⟨Code.quiet_builtin _ (by decide +kernel), codeAny_builtin F.entry_type_call ?_⟩
  rw [Around.under_plain (weight_type_call_type "set" [.ref l] []) rfl]
  have n1 := F.called_set.notType
  have n2 := F.called_set.canCreate
  have n3 := F.typeCall_set_1 (.ref l)
  repeat (any_goals (first | assumption | wp_step))
  -- the empty set is laid
  refine codeAny_mono (code_set_led1 (.ref l) (E := E) (Q₁ := fun u t => u = .ref s.heap.objs.size ∧ t = { s with heap := s.heap.push (bareSet w) }) ⟨rfl, rfl⟩) fun r t hr => ?_
  cases r with
  | error e => exact hr
  | ok fl =>
    cases fl with
    | next => exact hr.elim
    | brk => exact hr.elim
    | cont => exact hr.elim
    | ret u =>
      obtain ⟨rfl, rfl⟩ := hr
      have gS : (s.heap.push (bareSet w)).get? s.heap.objs.size = some (bareSet w) := Heap.get?_push_size _ rfl
      have tS : Shared.TypeIs { s with heap := s.heap.push (bareSet w) } (.ref s.heap.objs.size) "set" := ⟨_, gS, rfl⟩
      have i1 := F.called_set.init.lookup
      have i2 := F.called_set.init.bind (.ref s.heap.objs.size)
      repeat (any_goals (first | assumption | wp_step))
      -- its items are put in
      refine codeAny_mono (codeAny_call_builtin (R := wants (fun r t => r = .none ∧ ∃ h' tk c, t = { s with heap := h', toks := tk } ∧ SetR w h' s.heap.objs.size (fun j => decide (j ∈ ns)) c ∧ c ≤ ns.length ∧
          (∀ b o, s.heap.get? b = some o → h'.get? b = some o)) E) F.called_set.init.plain F.entry_set_init (check_set_init_1 tS ?_)) fun r t hr => ?_
      · obtain ⟨⟨oc, od, odt, osl⟩, go, hc, n, hd⟩ := hl
        simp only at hc hd
        subst hc hd
        have gl : (s.heap.push (bareSet w)).get? l = some { cls := .type "list", dict := od, data := .seq items n, slots := osl } := Heap.get?_push_of_some _ go
        have j1 := F.sub_list_set
        have j2 := F.sub_list_frozenset
        have j3 : (Value.type "list" == Value.type "dict") = false := by decide
        have il : (s.heap.push (bareSet w)).IsList l items := ⟨_, gl, rfl, n, rfl⟩
        unfold Builtin.«set.__init__» noKeywords Builtin.Frozenset.updateFrom
        generalize hPI : pyIter = PI
        wp_walk
        subst hPI
        refine wpAny_pyIter_list il (wpAny_bind (wpAny_runValue ?_))
        have lS : l < s.heap.objs.size := Heap.lt_size go
        have z1 : (s.heap.push (bareSet w)).objs.size = s.heap.objs.size + 1 := Heap.size_push ..
        have nI : l ≠ (s.heap.push (bareSet w)).objs.size := fun q => Nat.ne_of_lt (Nat.lt_succ_of_lt lS) (q.trans z1)
        have nS : s.heap.objs.size ∉ [(s.heap.push (bareSet w)).objs.size, l] := by
          intro q
          rcases List.mem_cons.mp q with q | q
          · exact Nat.ne_of_lt (Nat.lt_succ_self _) (q.trans z1)
          · exact Nat.ne_of_gt lS (List.mem_singleton.mp q)
        refine set_update_ints ((Walks.list (by simp [hh]) _ l nI items).toS) s.heap.objs.size nS ns sz hb (fun i v hv => ?_) (items.size - 0) 0 _ (by omega) (Nat.zero_le _) ⟨⟨_, Heap.get?_push_size _ rfl, rfl, rfl⟩, il.push _⟩ ⟨0, Nat.le_refl 0, setR_new_at (Heap.get?_push_of_some _ gS)⟩ fun t c2 mv hc2 R2 => ?_
        · have hi : i < ns.length := by rw [← sz]; exact (Array.getElem?_eq_some_iff.mp hv).1
          obtain ⟨tt, e⟩ := IntsAre.int_at hit i v (by rw [Array.getElem?_toList]; exact hv)
          refine ⟨ns[i], tt, List.getElem?_eq_getElem hi, ?_⟩
          rw [e, List.getD_eq_getElem?_getD, List.getElem?_eq_getElem hi] <;> rfl
        · obtain ⟨h', g2, d', tk', os'⟩ := t
          obtain rfl : g2 = s.gens := mv.gens
          obtain rfl : d' = s.drawn := mv.drawn
          obtain rfl : os' = s.os := mv.os
          show wpAny _ _ _ _ _ _
          refine wpAny_pure ?_
          show wpAny _ _ (ret Value.none) _ _ _
          refine wpAny_pure ⟨rfl, h', tk', c2, rfl, R2, by rw [← sz]; exact hc2, fun b o e => ?_⟩
          have b0 : b < s.heap.objs.size := Heap.lt_size e
          refine mv.heap b o (fun q => ?_) (Heap.get?_push_of_some _ (Heap.get?_push_of_some _ e))
          rcases List.mem_cons.mp q with q | q
          · exact Nat.ne_of_lt b0 q
          · exact Nat.ne_of_lt (Nat.lt_succ_of_lt b0) ((List.mem_singleton.mp q).trans z1)
      · cases r with
        | error e => exact hr
        | ok fl =>
          cases fl with
          | ret r =>
            obtain ⟨rfl, h', tk, c2, rfl, R2, hc2, k⟩ := hr
            repeat (any_goals (first | assumption | wp_step))
            exact h _ _ _ R2 hc2 k
          | next => exact hr.elim
          | brk => exact hr.elim
          | cont => exact hr.elim
end
def setI (ns : List Int) : List Int := ns.foldr (fun n acc => if n ∈ acc then acc else n :: acc) []
theorem mem_setI {a : Int} : ∀ {ns : List Int}, a ∈ setI ns ↔ a ∈ ns
  | [] => Iff.rfl
  | n :: ns => by
    show a ∈ (if n ∈ setI ns then setI ns else n :: setI ns) ↔ _
    have ih := mem_setI (a := a) (ns := ns)
    by_cases h : n ∈ setI ns
    · rw [if_pos h, ih, List.mem_cons]
      refine ⟨.inr, fun q => ?_⟩
      rcases q with e | q
      · rw [e]; exact mem_setI.mp h
      · exact q
    · rw [if_neg h, List.mem_cons, ih, List.mem_cons]
theorem nodup_setI (ns : List Int) : (setI ns).Nodup := by
  induction ns with
  | nil => exact List.nodup_nil
  | cons n ns ih =>
    show (if n ∈ setI ns then setI ns else n :: setI ns).Nodup
    split
    · exact ih
    · rename_i h
      exact List.nodup_cons.mpr ⟨h, ih⟩
theorem setI_count {ns l : List Int} (hn : l.Nodup) (h : ∀ k, k ∈ l ↔ k ∈ ns) : l.length = (setI ns).length :=
  ((List.perm_ext_iff_of_nodup hn (nodup_setI ns)).mpr fun k => by rw [h, mem_setI]).length_eq
def sortI (ns : List Int) : List Int := (setI ns).mergeSort fun a b => decide (a ≤ b)
theorem sortI_eq {ns l : List Int} (hs : l.Pairwise (· < ·)) (h : ∀ k, k ∈ l ↔ k ∈ ns) : l = sortI ns := by
  have hn : l.Nodup := hs.imp fun h => Int.ne_of_lt h
  have hp : (sortI ns).Perm l := (List.mergeSort_perm _ _).trans ((List.perm_ext_iff_of_nodup (nodup_setI ns) hn).mpr fun k => by rw [h, mem_setI])
  refine List.Perm.eq_of_pairwise (le := fun a b => a ≤ b) (fun a b _ _ h1 h2 => Int.le_antisymm h1 h2) (hs.imp fun h => Int.le_of_lt h) ?_ hp.symm
  have := List.pairwise_mergeSort (le := fun a b : Int => decide (a ≤ b)) (by intro a b c; simp; omega) (by intro a b; simp; omega) (setI ns)
  exact this.imp fun h => by simpa using h
def intsAt (st : Sto) (d : D) : Option (List Int) := (seqOf st d).bind intsOf
def lSortSet (m : Rho → M D) : Rho → M (List D) := fun ρ st => (m ρ st).bind fun d st1 => match intsAt st1 d with
  | some ns => if ns.length ≤ 1000 ∧ (setI ns).length < 64 then .ok ((sortI ns).map .int) st1 else .bad
  | none => .bad
section
variable {X : Cx} {W : WX} {a : Expr} {m : Rho → M D} {p p2 q pos : Pos}
theorem set_any {pins : List (Addr × Obj)} {σ : L2.St} {H : Hp} {s : Shared} {F : Hp} {ι : List Addr} {st : Sto} {d : D} {x : V} {v : Value} {ns : List Int} {Q : Value → Shared → Prop} {E : Value → Shared → Prop} (hc : X.calm = true) (I : Inv X pins σ H s) (S : Sim X.K F ι st H) (r : Rep X.K F ι d x) (rv : RelV x v) (e : intsAt st d = some ns) (hl : ns.length ≤ 1000)
    (h : ∀ (h' : Heap) (tk : Nat), SetR X.w h' s.heap.objs.size (fun j => decide (j ∈ ns)) (setI ns).length → (∀ b o, s.heap.get? b = some o → h'.get? b = some o) → Q (.ref s.heap.objs.size) { s with heap := h', toks := tk }) :
    wpAny (model X.prog X.w) X.A (call (.type "set") [v]) Q E s := by
  unfold intsAt at e
  cases e1 : seqOf st d with
  | none => rw [e1] at e; cases e
  | some xs =>
    rw [e1] at e
    have e : intsOf xs = some ns := e
    obtain ⟨l, vs, rfl, hq, rr⟩ := S.seq r e1
    obtain rfl := intsOf_some e
    obtain rfl : v = .ref l := rv
    have hv : vs = ns.map V.int := reps_ints_vs rr
    have fin : ∀ (h' : Heap) (tk c : Nat), SetR X.w h' s.heap.objs.size (fun j => decide (j ∈ ns)) c → c ≤ ns.length → (∀ b o, s.heap.get? b = some o → h'.get? b = some o) → Q (.ref s.heap.objs.size) { s with heap := h', toks := tk } := fun h' tk c R _ k => by
      have R0 := R
      obtain ⟨o, es, ep, t, ho, hex, hd, g, nd, hm2, hb, hf, hn, hr, hl2⟩ := R0
      have hcn : c = (setI ns).length := by
        rw [← setI_count nd fun k => by rw [← hm2 k, decide_eq_true_eq], List.length_map, Array.length_toList, hn]
      subst hcn
      exact h h' tk R k
    have hsb : ns.length + 1 < scanBound := by unfold scanBound; omega
    rcases hq with hq | hq
    · obtain ⟨its, ri, pl, hz⟩ := I.list hq
      subst hv
      exact set_list ns (I.ok.hd hc) pl.isList (ints_of_vals ri) hsb fin
    · obtain ⟨its, ri, pt, hz⟩ := I.tuple hq
      subst hv
      exact call_set_tupI ns (I.ok.hd hc) (show s.heap.IsTuple l its.toArray from pt) (ints_of_vals ri) hsb fin
theorem dl_sortSet (hc : X.calm = true) (hg : Gl X "sorted") (hm : X.mg "sorted" = none) (hg2 : Gl X "set") (hm2 : X.mg "set" = none) (ha : DE X W a m)
    (na : starEach [a] X.env = (false, eval a X.env) :: starEach [] X.env := by rfl) : DL X W (.Call (.Name "sorted" p) [.Call (.Name "set" p2) [a] [] q] [] pos) (lSortSet m) := by
  refine ⟨fun pins s σ H Q I ⟨F, ι, ρ, st, S, R, qq⟩ => ?_⟩
  refine Call_ (ld_blt I hg hm PyProof.Rows.boot_sorted ?_)
  refine PyProof.Rows.callWith_builtin1 (PyProof.Rows.args_cons ?_ rfl) rfl rfl
  refine Call_ (ld_blt I hg2 hm2 PyProof.Rows.boot_set ?_)
  refine PyProof.Rows.callWith_type1 (PyProof.Rows.args_cons (thn (ha.run pins s σ H (fun x H1 => ∃ F1 ι1 st1 d ns, Sim X.K F1 ι1 st1 H1 ∧ Rep X.K F1 ι1 d x ∧ intsAt st1 d = some ns ∧ ns.length ≤ 1000 ∧ (setI ns).length < 64 ∧ post X.K W σ F1 ι1 H1 (pL X.K) (.ok ((sortI ns).map .int) st1) Q) I ?_) fun v s1 ⟨x, H1, I1, r1, q1⟩ => PyProof.Rows.args_nil ?_) na) na rfl
  · refine tG_seq back_L S R qq fun d st1 F1 ι1 H1 x x1 S1 R1 r1 q1 => ?_
    split at q1
    · rename_i ns e
      split at q1
      · rename_i hl
        exact ⟨F1, ι1, st1, d, ns, S1, r1, e, hl.1, hl.2, q1⟩
      · exact (q1 : False).elim
    · exact (q1 : False).elim
  · obtain ⟨F1, ι1, st1, d, ns, S1, rd, e, hl, h64, q1⟩ := q1
    refine set_any hc I1 S1 rd r1 e hl fun h' tk R2 k2 => PyProof.Rows.args_nil ?_
    have I2 : Inv X pins σ H1 { s1 with heap := h', toks := tk } := I1.kept k2
    refine sorted_set R2 (I2.ok.hd hc) h64 fun s' p' out c ns' k g o hp hgp hi hs hmem hlen => ?_
    have hlen2 : (ns'.map V.int).length ≤ sizeLine := by rw [List.length_map, hlen]; exact Nat.le_trans (Nat.le_of_lt h64) (by decide)
    have hn : H1 p' = none := I2.hok.fresh hp
    have J : Inv X pins σ (upd H1 p' (.lst (ns'.map V.int))) { ({ s1 with heap := h', toks := tk } : Shared) with heap := s'.heap, gens := s'.gens, drawn := s'.drawn, toks := s'.toks } :=
      I2.call (ch := []) (Un.laid k hp hn) (I2.hok.laid k hp ⟨hlen2, out.toList, c, vals_of_ints hi, hgp⟩) (by rw [g]; exact I2.bare) (fun _ z => nomatch z)
    have es : s' = { ({ s1 with heap := h', toks := tk } : Shared) with heap := s'.heap, gens := s'.gens, drawn := s'.drawn, toks := s'.toks } := by
      cases s'
      cases s1
      cases o
      rfl
    rw [es]
    have e2 : ns' = sortI ns := sortI_eq hs fun k => by rw [hmem k, decide_eq_true_eq]
    subst e2
    exact ⟨.ref p', _, J, rfl, q1 F1 ι1 _ _ (Ext.laid hn) (S1.laid hn) (pL_new S1 hn (reps_ints _))⟩
end
end Dn
namespace Dn
open PySem PySem.Spec PyProof.Rows L2
def tyD (st : Sto) : D → Option String
  | .non => some "NoneType"
  | .bl _ => some "bool"
  | .int _ => some "int"
  | .str _ => some "str"
  | .tup _ => some "tuple"
  | .lst _ => some "list"
  | .scr _ => some "list"
  | .ref l => match st[l]? with
    | some (.lst _) => some "list"
    | _ => none
  | .adr _ => none
  | .fd _ _ => none
  | .exo _ _ _ _ => none
  | .obj _ _ _ => none
  | .sd _ => some "dict"
  | .fnv _ => none
section
variable {K : PySem.W.Frag} {F H : Hp} {ι : List Addr} {st : Sto}
theorem ty_tup {a : Addr} {vs : List V} (h : SqT K H a vs) : TyX K H (.ref a) (.type "tuple") := by
  rcases h with h | ⟨o, its, n, e, hc, _⟩
  · rcases h with h | ⟨o, h⟩
    · exact .base (.tup h)
    · exact .fTuple h
  · exact .kTuple e hc
theorem ty_lst {a : Addr} {vs : List V} (h : SqL K H a vs) : TyX K H (.ref a) (.type "list") := by
  rcases h with h | ⟨o, its, n, e, hc, _⟩
  · rcases h with h | ⟨o, h⟩
    · exact .base (.lst h)
    · exact .base (.frz h)
  · exact .kList e hc
theorem Sim.ty (S : Sim K F ι st H) {d : D} {v : V} {t : String} (r : Rep K F ι d v) (h : tyD st d = some t) : TyX K H v (.type t) := by
  cases d with
  | non => simp only [Rep] at r; subst r; cases h; exact .base .non
  | bl b => simp only [Rep] at r; subst r; cases h; exact .base (.bl b)
  | int i => simp only [Rep] at r; subst r; cases h; exact .base (.int i)
  | str s => simp only [Rep] at r; subst r; cases h; exact .base (.str s)
  | tup xs =>
    cases h
    simp only [Rep] at r
    obtain ⟨a, vs, e, q, _⟩ := r
    subst e
    exact ty_tup (S.sqT q)
  | lst xs =>
    cases h
    obtain ⟨a, vs, e, q, _⟩ := S.seq r (xs := xs) rfl
    subst e
    rcases q with q | q
    · exact ty_lst q
    · simp only [Rep] at r
      obtain ⟨a', vs', e', q', _⟩ := r
      cases e'
      exact ty_lst (S.sqL (SqL.of q'))
  | scr xs =>
    cases h
    simp only [Rep] at r
    obtain ⟨a, vs, e, q, _⟩ := r
    subst e
    exact ty_lst (S.sqL q)
  | ref l =>
    unfold tyD at h
    dsimp only at h
    split at h
    · rename_i xs e
      cases h
      simp only [Rep] at r
      obtain ⟨a, e2, q⟩ := r
      subst e2
      obtain ⟨vs, h1, h2⟩ := S.obj l _ a e q
      exact .base (.lst h1)
    · cases h
  | adr a => cases h
  | fd _ _ => cases h
  | exo _ _ _ _ => cases h
  | obj _ _ _ => cases h
  | fnv _ => cases h
  | sd kvs =>
    cases h
    simp only [Rep] at r
    obtain ⟨a, e, q⟩ := r
    subst e
    exact .base (.dK (S.sub _ _ q))
end
section
variable {X : Cx} {W : WX} {pos p p2 : Pos} {e : Expr} {m : Rho → M D}
end
section
variable {X : Cx}
end
end Dn
namespace Dn
open PySem PySem.Spec PyProof.Rows L2
section
variable {X : Cx} {W : WX} {pos apos : Pos} {e o : Expr} {m mo : Rho → M D}
inductive DJ (X : Cx) (W : WX) : List Expr → List (Rho → M D) → Prop where
  | nil : DJ X W [] []
  | cons {e : Expr} {m : Rho → M D} {es : List Expr} {ms : List (Rho → M D)} (h : DE X W e m) (r : DJ X W es ms) : DJ X W (e :: es) (m :: ms)
end
end Dn
namespace Dn
open PySem PySem.Spec PyProof.Rows L2
def dctOf (st : Sto) : D → Option (List (List Int) × List D)
  | .fd ks xs => some (ks, xs)
  | .ref l => match st[l]? with
    | some (.dct ks xs) => some (ks, xs)
    | _ => none
  | _ => none
def keyOf : D → Option (List Int)
  | .tup xs => intsOf xs
  | _ => none
def setK : List (List Int) → List D → List Int → D → List D
  | k :: ks, d :: ds, j, e => (if k = j then e else d) :: setK ks ds j e
  | _, _, _, _ => []
def putKs (ks : List (List Int)) (j : List Int) : List (List Int) := if j ∈ ks then ks else ks ++ [j]
def putVs (ks : List (List Int)) (ds : List D) (j : List Int) (e : D) : List D := if j ∈ ks then setK ks ds j e else ds ++ [e]
section
variable {K : PySem.W.Frag} {F H : Hp} {ι : List Addr} {st : Sto} {a b : Addr} {xs : List (List Int × Addr × Value)}
theorem atKey_cons (x : List Int × Addr × Value) (xs : List (List Int × Addr × Value)) (j : List Int) : atKey (x :: xs) j = if x.1 = j then some x.2 else atKey xs j := by
  unfold atKey
  rw [List.find?_cons]
  by_cases h : x.1 = j
  · simp [h]
  · simp [h]
theorem at_mem (j : List Int) : ∀ xs : List (List Int × Addr × Value), (atKey xs j).isSome = decide (j ∈ xs.map (·.1))
  | [] => rfl
  | x :: xs => by
    rw [atKey_cons, List.map_cons]
    by_cases h : x.1 = j
    · rw [if_pos h]; simp [h]
    · rw [if_neg h, at_mem j xs]
      simp [Ne.symm h]
theorem put_keys (j : List Int) (b : Addr) (u : Value) (xs : List (List Int × Addr × Value)) : (storedH xs j b u).map (·.1) = putKs (xs.map (·.1)) j := by
  unfold storedH putKs
  rw [at_mem]
  by_cases h : j ∈ xs.map (·.1)
  · rw [decide_eq_true h, if_pos rfl, if_pos h, List.map_map]
    apply List.map_congr_left
    intro x _
    show (putAt j u x).1 = x.1
    unfold putAt
    split <;> rfl
  · rw [decide_eq_false h, if_neg (by decide), if_neg h, List.map_append] <;> rfl
theorem put_sq {k : List Int} {v : Value} {P : List Int → Addr → Prop} (h : ∀ x ∈ xs, P x.1 x.2.1) (hb : P k b) : ∀ x ∈ storedH xs k b v, P x.1 x.2.1 := fun x hx => by
  unfold storedH at hx
  split at hx
  · obtain ⟨y, hy, rfl⟩ := List.mem_map.mp hx
    unfold putAt
    split
    · exact h y hy
    · exact h y hy
  · rcases List.mem_append.mp hx with hx | hx
    · exact h x hx
    · rw [List.mem_singleton.mp hx]
      exact hb
theorem set_vals {j : List Int} {e : D} {v : V} {u : Value} (re : Rep K F ι e v) (ru : RelV v u) : ∀ {xs : List (List Int × Addr × Value)} {ds : List D} {ws : List V}, Vals ws (xs.map (·.2.2)) → Reps K F ι ds ws → ∃ ws', Vals ws' ((xs.map (putAt j u)).map (·.2.2)) ∧ Reps K F ι (setK (xs.map (·.1)) ds j e) ws'
  | [], ds, ws, _, _ => ⟨[], .nil, by unfold setK; exact Reps.nil⟩
  | x :: xs, ds, ws, vr, r => by
    rw [List.map_cons] at vr
    cases vr with
    | @cons w u' ws us hw ht =>
      cases ds with
      | nil => have := r.length; simp at this
      | cons e' ds =>
        simp only [Reps] at r
        obtain ⟨v', rs, he, r1, r2⟩ := r
        cases he
        obtain ⟨ws', q1, q2⟩ := set_vals re ru ht r2
        rw [List.map_cons, List.map_cons, List.map_cons]
        unfold setK
        by_cases hx : x.1 = j
        · refine ⟨v :: ws', .cons ?_ q1, ?_⟩
          · unfold putAt; rw [if_pos hx]; exact ru
          · rw [if_pos hx]; exact Reps.cons re q2
        · refine ⟨w :: ws', .cons ?_ q1, ?_⟩
          · unfold putAt; rw [if_neg hx]; exact hw
          · rw [if_neg hx]; exact Reps.cons r1 q2
theorem put_vals {j : List Int} {b : Addr} {e : D} {v : V} {u : Value} (re : Rep K F ι e v) (ru : RelV v u) {ds : List D} {ws : List V} (vr : Vals ws (xs.map (·.2.2))) (r : Reps K F ι ds ws) : ∃ ws', Vals ws' ((storedH xs j b u).map (·.2.2)) ∧ Reps K F ι (putVs (xs.map (·.1)) ds j e) ws' := by
  unfold storedH putVs
  rw [at_mem]
  by_cases h : j ∈ xs.map (·.1)
  · rw [decide_eq_true h, if_pos rfl, if_pos h]
    exact set_vals re ru vr r
  · rw [decide_eq_false h, if_neg (by decide), if_neg h, List.map_append]
    exact ⟨ws ++ [v], Paired.snoc vr ru, r.snoc re⟩
theorem Sim.dct (S : Sim K F ι st H) {d : D} {v : V} {ks : List (List Int)} {ds : List D} (r : Rep K F ι d v) (h : dctOf st d = some (ks, ds)) : ∃ a xs ws, v = .ref a ∧ (a == sysModules) = false ∧ H a = some (DctO a xs) ∧ KeysT K F ks xs ∧ Vals ws (xs.map (·.2.2)) ∧ Reps K F ι ds ws := by
  unfold dctOf at h
  split at h
  · cases h
    simp only [Rep] at r
    obtain ⟨a, xs, ws, e, z, q, kt, vr, r⟩ := r
    exact ⟨a, xs, ws, e, z, S.sub _ _ q, kt, vr, r⟩
  · rename_i l
    split at h
    · rename_i ks' xs' e
      cases h
      simp only [Rep] at r
      obtain ⟨a, e2, q⟩ := r
      obtain ⟨xs, ws, z, q2, kt, vr, r⟩ := S.obj l _ a e q
      exact ⟨a, xs, ws, e2, z, q2, kt, vr, r⟩
    · cases h
  · cases h
theorem key_at {d : D} {v : V} {k : List Int} (r : Rep K F ι d v) (h : keyOf d = some k) : ∃ b, v = .ref b ∧ SqP K F b (k.map V.int) := by
  unfold keyOf at h
  split at h
  · simp only [Rep] at r
    obtain ⟨b, vs, e, q, rs⟩ := r
    have := intsOf_some h
    subst this
    rw [reps_ints_vs rs] at q
    exact ⟨b, e, q⟩
  · cases h
end
abbrev KI (X : Cx) := tupleKind (PySem.intKind X.prog X.w)
section
variable {X : Cx} {pins : List (Addr × Obj)} {σ : L2.St} {H : Hp} {s : Shared} {a b : Addr} {xs : List (List Int × Addr × Value)} {k : List Int} {A : Around} {E : Value → Shared → Prop}
def DAt (K : PySem.W.Frag) (H : Hp) (a : Addr) (xs : List (List Int × Addr × Value)) : Prop := (a == sysModules) = false ∧ H a = some (DctO a xs) ∧ ∀ x ∈ xs, SqT K H x.2.1 (x.1.map V.int)
theorem items_ints : ∀ {k : List Int} {its : List Value}, Vals (k.map V.int) its → ItemsAre (PySem.intKind X.prog X.w) k its
  | [], _, r => by rw [List.map_nil] at r; cases r; exact .nil
  | i :: k, _, r => by
    rw [List.map_cons] at r
    cases r with
    | @cons v u vs us h t =>
      obtain ⟨t', rfl⟩ := h
      exact .cons (by show Value.isInt i (.int i t') = true; simp [Value.isInt]) (items_ints t)
theorem isKeyI (I : Inv X pins σ H s) (h : SqT X.K H b (k.map V.int)) : (KI X).is s.heap k b := by
  obtain ⟨its, r, ⟨o, h1, h2, n, h3⟩, _⟩ := I.tuple h
  exact ⟨o, its.toArray, n, h1, h2, h3, by simpa using items_ints r⟩
theorem dctH_of (I : Inv X pins σ H s) (h : DAt X.K H a xs) : s.heap.DictOfH (KI X) a xs := by
  obtain ⟨_, e, kt⟩ := h
  obtain ⟨⟨o, es, ep, h1, h2, h3, h4, h5⟩, _, _⟩ := (show ObjOk X.prog X.w H s.heap a (DctO a xs) from I.hok a _ e)
  exact ⟨o, es, ep, h1, h2, h3, h4, fun x hx => isKeyI I (kt x hx), h5⟩
theorem dctO_ok {P : Program} {w : World} {H' : Hp} {h' : Heap} (h : DctH a xs h') : ObjOk P w H' h' a (DctO a xs) := by
  refine ⟨h, let ⟨o, _, _, e, _⟩ := h; ⟨o, e⟩, fun h1 h2 q k => ?_⟩
  obtain ⟨o, es, ep, e, r⟩ := q
  exact ⟨o, es, ep, k o e, r⟩
theorem dctI_notIn {Q : Value → Shared → Prop} (hu : A.units + 1 < cLine) (I : Inv X pins σ H s) (g : DAt X.K H a xs) (hk : SqT X.K H b (k.map V.int)) (h : ∀ s', Inv X pins σ H s' → Q (.bool (!decide (k ∈ xs.map (·.1)))) s') :
    wpAny (model X.prog X.w) A (compareOp .NotIn (.ref b) (.ref a)) Q E s := by
  refine wpAny_notIn_heap (tupleKind_room_in1 hu) (isKeyI I hk) g.1 (dctH_of I g) ?_
  rw [at_mem]
  exact h _ (I.tok _)
theorem dct_put_ok (I : Inv X pins σ H s) {ys : List (List Int × Addr × Value)} {h' : Heap} {t' : Nat} (e : H a = some (DctO a xs)) (hm : h'.DictOfH (KI X) a ys) (hs : Heap.SameBut a s.heap h') : Inv X pins σ (upd H a (DctO a ys)) { s with heap := h', toks := t' } := by
  obtain ⟨o, es, ep, h1, h2, h3, h4, _, h5⟩ := hm
  exact d_write I (by rw [e]; exact True.intro) hs ⟨o, h1⟩ (dctO_ok ⟨o, es, ep, h1, h2, h3, h4, h5⟩)
theorem dctI_set {Q : Unit → Shared → Prop} {u : Value} (hu : A.units + 1 < cLine) (I : Inv X pins σ H s) (g : DAt X.K H a xs) (hk : SqT X.K H b (k.map V.int)) (hl : xs.length ≤ sizeLine) (h : ∀ s', Inv X pins σ (upd H a (DctO a (storedH xs k b u))) s' → Q () s') :
    wpAny (model X.prog X.w) A (setItem (.ref a) (.ref b) u) Q E s :=
  wpAny_setItem_heap (hsz := hl) (tupleKind_room_in1 hu) (isKeyI I hk) (dctH_of I g) fun h' hm hs => h _ (dct_put_ok I g.2.1 hm hs)
end
section
variable {X : Cx} {W : WX} {o i e f value : Expr} {pos pos' apos cpos : Pos} {mo mi me : Rho → M D} {td ty tv tx : TE}
def pNotInD : Sto → D → D → Option D := fun st a b => (keyOf a).bind fun k => (dctOf st b).map fun p => .bl (!decide (k ∈ p.1))
theorem op_pNotInD (hu : X.A.units + 65 < cLine) : OpR X (compareOp .NotIn) (rP X.K pNotInD) := by
  intro pins s σ H x y v u Q I rx ry ⟨F, ι, st, a, b, d, S, ra, rb, e, q⟩
  unfold pNotInD at e
  cases ek : keyOf a with
  | none => rw [ek] at e; cases e
  | some k =>
    cases ed : dctOf st b with
    | none => rw [ek, ed] at e; cases e
    | some p =>
      rw [ek, ed] at e
      cases e
      obtain ⟨b', rfl, hb⟩ := key_at ra ek
      obtain ⟨a', xs, ws, rfl, z, q2, kt, vr, r⟩ := S.dct rb (ks := p.1) (ds := p.2) ed
      obtain rfl : v = Value.ref b' := rx
      obtain rfl : u = Value.ref a' := ry
      refine dctI_notIn (by omega) I ⟨z, q2, fun x hx => S.sqT (kt.2 x hx)⟩ (S.sqT hb) fun s' I' => ⟨.bl _, H, I', rfl, ?_⟩
      rw [kt.1]
      exact q F H _ Ext.refl S (by simp only [Rep])
end
section
variable {X : Cx} {W : WX} {o i e f value : Expr} {pos pos' apos cpos : Pos} {mo mi me mv : Rho → M D} {td ty tv tx : TE}
def sDPutI (K : PySem.W.Frag) (td ty tv : TE) : TS := fun D σ H => tv σ H fun v H1 => td σ H1 fun x H2 => ty σ H2 fun y H3 => ∃ (a b : Addr) (xs : List (List Int × Addr × Value)) (k : List Int), x = .ref a ∧ y = .ref b ∧ DAt K H3 a xs ∧ SqT K H3 b (k.map V.int) ∧ xs.length ≤ sizeLine ∧ ∀ u, RelV v u → D.nx σ (upd H3 a (DctO a (storedH xs k b u)))
theorem ps_dputI (hu : X.A.units + 65 < cLine) (ho : PE X o td) (hi : PE X i ty) (hv : PE X value tv) (hs : swapsWith value (some (.Subscript o i pos')) pos.line X.env = pure false) :
    PS X (.Assign [.Subscript o i pos'] value pos) (sDPutI X.K td ty tv) := by
  refine ⟨fun pins s σ H D I h => ?_⟩
  refine wpAny_Assign_Subscript (thn (hv.run pins s σ H _ I h) fun r s1 ⟨v, H1, I1, rv, q1⟩ => thn (ho.run pins s1 σ H1 _ I1 q1) fun u s2 ⟨x, H2, I2, rx, q2⟩ => thn (hi.run pins s2 σ H2 _ I2 q2) fun iv s3 ⟨y, H3, I3, ry, a, b, xs, k, ex, ey, g, hk, hl, q3⟩ => ?_) hs
  subst ex ey
  obtain rfl : u = Value.ref a := rx
  obtain rfl : iv = Value.ref b := ry
  exact dctI_set (by omega) I3 g hk hl fun s4 I4 => ⟨σ, _, I4, q3 r rv⟩
def sDPut (mo mi mv : Rho → M D) : Rho → Sto → Fl := fun ρ st => (mv ρ st).fl ρ fun v st1 => (mo ρ st1).fl ρ fun d st2 => (mi ρ st2).fl ρ fun k st3 => match d with
  | .ref l => match st3[l]? with
    | some (.dct ks ds) => match keyOf k with
      | some j => if ks.length ≤ SZ then .next ρ (st3.set l (.dct (putKs ks j) (putVs ks ds j v))) else .bad
      | none => .bad
    | _ => .bad
  | _ => .bad
theorem ds_dput (hu : X.A.units + 65 < cLine) (ho : DE X W o mo) (hi : DE X W i mi) (hv : DE X W value mv) (hs : swapsWith value (some (.Subscript o i pos')) pos.line X.env = pure false := by rfl) :
    DS X W (.Assign [.Subscript o i pos'] value pos) (sDPut mo mi mv) := by
  refine PS.weak (ps_dputI hu ho hi hv hs) fun E σ H ⟨F, ι, ρ, st, S, R, q⟩ => ?_
  refine fl_seq S R q fun v st1 F1 ι1 H1 vv x1 S1 R1 r1 q1 => ?_
  refine fl_seq S1 R1 q1 fun d st2 F2 ι2 H2 dv x2 S2 R2 r2 q2 => ?_
  refine fl_seq S2 R2 q2 fun k st3 F3 ι3 H3 kv x3 S3 R3 r3 q3 => ?_
  split at q3
  rotate_left
  · exact (q3 : False).elim
  rename_i l
  split at q3
  rotate_left
  · exact (q3 : False).elim
  rename_i ks ds el
  split at q3
  rotate_left
  · exact (q3 : False).elim
  rename_i j ej
  split at q3
  rotate_left
  · exact (q3 : False).elim
  rename_i hz
  have r2' : Rep X.K F3 ι3 (.ref l) dv := Rep.ext r2 x3
  simp only [Rep] at r2'
  obtain ⟨a, rfl, hl⟩ := r2'
  obtain ⟨xs, ws, z, qa, kt, vr, rr⟩ := S3.obj l _ a el hl
  obtain ⟨b, rfl, hb⟩ := key_at r3 ej
  refine ⟨a, b, xs, j, rfl, rfl, ⟨z, qa, fun x hx => S3.sqT (kt.2 x hx)⟩, S3.sqT hb, ?_, fun u ru => ?_⟩
  · have e1 := congrArg List.length kt.1
    rw [List.length_map] at e1
    rw [e1]
    exact sz_le hz
  · obtain ⟨ws', hv1, hv2⟩ := put_vals (j := j) (b := b) (Rep.ext r1 (x2.trans x3)) ru vr rr
    rw [kt.1] at hv2
    refine q3 F3 ι3 _ σ (Ext.write hl (by rw [qa]; simp)) (S3.write hl (by rw [el]; simp) ⟨_, ws', z, upd_same, ⟨?_, ?_⟩, hv1, hv2⟩) R3
    · rw [put_keys, kt.1]
    · exact put_sq (P := fun k b => SqP X.K F3 b (k.map V.int)) kt.2 hb
theorem dct_new {X : Cx} {pins : List (Addr × Obj)} {σ : L2.St} {H : Hp} {s : Shared} (I : Inv X pins σ H s) : Inv X pins σ (upd H s.heap.objs.size (DctO s.heap.objs.size [])) { s with heap := s.heap.push { cls := .type "dict", data := .dict #[] } } :=
  I.laid (t' := s.toks) (fun _ _ q => Heap.get?_push_of_some _ q) (Nat.le_refl _) (dctO_ok ⟨_, #[], 0, Heap.get?_push_size _ rfl, ⟨rfl, rfl, rfl⟩, rfl, rfl, List.nodup_nil⟩)
theorem dct_sys {X : Cx} {pins : List (Addr × Obj)} {σ : L2.St} {H : Hp} {s : Shared} (I : Inv X pins σ H s) : (s.heap.objs.size == sysModules) = false := beq_eq_false_iff_ne.mpr (Ne.symm (Nat.ne_of_lt I.big))
def tDisp1I (K : PySem.W.Frag) (tk tv : TE) : TE := fun σ H Q => ∀ p, H p = none → (p == sysModules) = false → tk σ (upd H p (DctO p [])) fun x H1 => tv σ H1 fun y H2 => ∃ (b : Addr) (k : List Int), x = .ref b ∧ SqT K H2 b (k.map V.int) ∧ H2 p = some (DctO p []) ∧ ∀ u, RelV y u → Q (.ref p) (upd H2 p (DctO p [(k, b, u)]))
theorem pe_disp1I (hu : X.A.units + 65 < cLine) (hk : PE X i ty) (hv : PE X value tv) : PE X (.Dict [some i] [value] pos) (tDisp1I X.K ty tv) := by
  refine ⟨fun pins s σ H Q I q => ?_⟩
  have hn := I.hok.fresh (Nat.le_refl s.heap.objs.size)
  refine wpAny_Dict_any rfl rfl (by simp) (by simp) (pairTrees_cons_walk (thn (hk.run pins _ σ _ _ (dct_new I) (q _ hn (dct_sys I))) fun u s1 ⟨x, H1, I1, rx, q1⟩ => thn (hv.run pins s1 σ H1 _ I1 q1) fun w2 s2 ⟨y, H2, I2, ry, b, k, ex, hk, he, q2⟩ => pairTrees_nil_walk ?_))
  subst ex
  obtain rfl : u = Value.ref b := rx
  have g : DAt X.K H2 s.heap.objs.size [] := ⟨dct_sys I, he, fun _ h => nomatch h⟩
  unfold storeAll
  rw [List.forIn_cons]
  refine wpAny_bind (wpAny_bind (wpAny_dictSet_heap (knd := KI X) (hsz := Nat.zero_le _) (by show X.A.units < cLine; omega) (isKeyI I2 hk) (dctH_of I2 g) fun h' hm hs => wpAny_pure ?_))
  dsimp only
  rw [List.forIn_nil]
  exact wpAny_pure ⟨.ref s.heap.objs.size, _, dct_put_ok I2 he hm hs, rfl, q2 w2 ry⟩
def mNewD1 (mk mv : Rho → M D) : Rho → M D := fun ρ st => (mk ρ st).bind fun k st1 => (mv ρ st1).bind fun v st2 => match keyOf k with
  | some j => .ok (.ref st2.length) (st2 ++ [.dct [j] [v]])
  | none => .bad
theorem de_newD1 (hu : X.A.units + 65 < cLine) (hk : DE X W i mi) (hv : DE X W value mv) : DE X W (.Dict [some i] [value] pos) (mNewD1 mi mv) := by
  refine PE.weak (pe_disp1I hu hk hv) fun σ H Q ⟨F, ι, ρ, st, S, R, q⟩ p hp hz => ?_
  have x0 : Ext F ι H F ι (upd H p (DctO p [])) := Ext.laid hp
  have S0 : Sim X.K F ι st (upd H p (DctO p [])) := S.laid hp
  have h0 : upd H p (DctO p []) p ≠ none := by rw [upd_same]; simp
  have hF : F p = none := by
    cases e : F p with
    | none => rfl
    | some o => have := S.sub p o e; rw [hp] at this; cases this
  have hi : p ∉ ι := fun h => S.there p h hp
  have q0 := post_ext (F1 := F) (ι1 := ι) back_V q x0
  refine ⟨F, ι, ρ, st, S0, R.ext x0, post_seq back_V q0 fun k st1 F1 ι1 H1 kv e1 x1 S1 r1 q1 => ?_⟩
  refine ⟨F1, ι1, ρ, st1, S1, (R.ext x0).ext x1, post_seq back_V q1 fun v st2 F2 ι2 H2 vv e2 x2 S2 r2 q2 => ?_⟩
  unfold mNewD1 at q
  rw [e1, Out.bind_ok, e2, Out.bind_ok] at q
  split at q
  rotate_left
  · exact (q : False).elim
  rename_i j ej
  obtain ⟨b, rfl, hb⟩ := key_at (Rep.ext r1 x2) ej
  have x3 := x1.trans x2
  have e3 : H2 p = some (DctO p []) := x3.keep p _ upd_same hi
  have hF2 : F2 p = none := x3.outF h0 hF hi
  have hi2 : p ∉ ι2 := x3.outI h0 hi
  refine ⟨b, j, rfl, S2.sqT hb, e3, fun u ru => ?_⟩
  have S4 : Sim X.K F2 ι2 st2 (upd H2 p (DctO p [(j, b, u)])) := S2.outside hF2 hi2
  have mo' : ∀ (l : Nat) (c : Addr), ι2[l]? = some c → (ι2 ++ [p])[l]? = some c := fun l c h => by
    rw [List.getElem?_append_left (List.getElem?_eq_some_iff.mp h).1]; exact h
  have x4 : Ext F ι H F2 (ι2 ++ [p]) (upd H2 p (DctO p [(j, b, u)])) := ((x0.trans x3).outside hp (by rw [e3]; simp)).locate hp
  refine q F2 (ι2 ++ [p]) _ (.ref p) x4 (S4.locate (m := .dct [j] [v]) (by rw [upd_same]; simp) hF2 hi2 ⟨[(j, b, u)], [vv], hz, upd_same, ⟨rfl, ?_⟩, .cons ru .nil, Reps.cons (Rep.mono (fun _ _ h => h) mo' _ _ r2) Reps.nil⟩) ?_
  · intro x hx
    rw [List.mem_singleton.mp hx]
    exact hb
  · show Rep _ _ _ _ _
    simp only [Rep]
    exact ⟨p, rfl, by rw [← S2.len, List.getElem?_append_right (Nat.le_refl _)]; simp⟩
end
section
variable {X : Cx}
end
end Dn
namespace Dn
open PySem PySem.Spec PyProof.Rows L2
section
open PySem.W
variable {prog : Program} {w : World} {A : Around} {E : Value → Shared → Prop} {s : Shared} {K : Frag} {x D : Addr} {ox : Obj} {od : Option Obj}
end
structure ErrN (K : PySem.W.Frag) (mg : Str → Option Value) (x : Str) (C : Addr) : Prop where
  ns : PySem.W.nsIn K mainGlobals x = some (some (.ref C))
  gC : mg x = some (.ref C)
  kC : PySem.W.keepIn K (.ref C) = true
  ty : PySem.W.typeIn K (.ref C) = some (.type "type")
  ex : ExcC K C
def KitB (K : PySem.W.Frag) (n y : Str) (b : Bool) : Prop := ∀ C D, PySem.W.nsIn K mainGlobals n = some (some (.ref C)) → PySem.W.nsIn K mainGlobals y = some (some (.ref D)) → PySem.W.kitOne K (.ref C) (.ref D) = some b
def ExmB (K : PySem.W.Frag) (n y : Str) (b : Bool) : Prop := ∀ C D, PySem.W.nsIn K mainGlobals n = some (some (.ref C)) → PySem.W.nsIn K mainGlobals y = some (some (.ref D)) → PySem.W.exmOne K (.ref C) (.ref D) = some b
section
variable {X : Cx} {W : WX} {C : Addr} {bmB : List Value} {B newId initId : String} {x : Str} {p pos pos' : Pos}
end
def EV (x : Xc) (a : Addr) (d : Option Addr) (e : D) : Prop := match x.fld with
  | none => d = none ∧ e = .adr a
  | some (f, v) => ∃ dd, d = some dd ∧ e = .exo a dd f v
def tidyF (i : Nat) : Fl → Fl
  | .next ρ st => .next (ρ.set i none) st
  | .brk ρ st => .brk (ρ.set i none) st
  | .cnt ρ st => .cnt (ρ.set i none) st
  | .ret d st => .ret d st
  | _ => .bad
def e0 (x : Xc) : D := match x.fld with
  | none => .adr 0
  | some (f, v) => .exo 0 0 f v
structure HC (X : Cx) (x : Xc) (e : D) (a : Addr) (oe : Obj) : Prop where
  ex : ∃ C d, PySem.W.nsIn X.K mainGlobals x.nm = some (some (.ref C)) ∧ ExcC X.K C ∧ Zc (.ref C) d oe ∧ EV x a d e
  fl : ∃ vs, oe.data = .fields vs
section
variable {X : Cx} {W : WX} {y n : Str} {i : Nat} {body suite : List Stmt} {b₀ : Stmt} {np pos pos' : Pos} {mb : Rho → Sto → Fl} {mh : Xc → D → Rho → Sto → Fl} {yes no : List Str} {Cy : Addr}
end
section
variable {X : Cx} {x : Xc} {e : D} {a : Addr} {oe : Obj} {pn : List (Addr × Obj)} {i : Nat} {p p2 pos : Pos} {yes no : List Str}
end
end Dn
namespace Dn
open PySem PySem.Spec PyProof.Rows L2
section
open PySem.W PySem.Calls RZ
variable {prog : Program} {w : World} {A : Around} {E : Value → Shared → Prop} {s : Shared}
structure ZSt (h : Heap) (z TI TO i1 i2 l1 l2 S : Addr) (xs ys : Array Value) (i : Nat) : Prop where
  own : (IsZip h z TI TO .none ∧ ∃ a b, IsPair h TO a b) ∨ ∃ T f oT, IsZipHeld h z TI TO T f ∧ h.get? T = some oT ∧ T ≠ z ∧ T ≠ i1 ∧ T ≠ i2 ∧ T ≠ S
  ti : IsPair h TI (.ref i1) (.ref i2)
  t1 : h.IsTupleIter i1 l1 i
  t2 : h.IsTupleIter i2 l2 i
  l1 : h.IsTuple l1 xs
  l2 : h.IsTuple l2 ys
variable {z TI TO i1 i2 l1 l2 S : Addr} {xs ys : Array Value} {i : Nat}
theorem ZSt.keep {h h' : Heap} (Z : ZSt h z TI TO i1 i2 l1 l2 S xs ys i) (k : ∀ b o, b ≠ S → h.get? b = some o → h'.get? b = some o) (nz : z ≠ S) (nTI : TI ≠ S) (nTO : TO ≠ S) (n1 : i1 ≠ S) (n2 : i2 ≠ S) (m1 : l1 ≠ S) (m2 : l2 ≠ S) : ZSt h' z TI TO i1 i2 l1 l2 S xs ys i where
  own := by
    rcases Z.own with ⟨h1, a, b, h2⟩ | ⟨T, f, oT, h1, h2, h3, h4, h5, h6⟩
    · exact .inl ⟨k _ _ nz h1, a, b, k _ _ nTO h2⟩
    · exact .inr ⟨T, f, oT, k _ _ nz h1, k _ _ h6 h2, h3, h4, h5, h6⟩
  ti := k _ _ nTI Z.ti
  t1 := Z.t1.at fun o e => k _ _ n1 e
  t2 := Z.t2.at fun o e => k _ _ n2 e
  l1 := Z.l1.at fun o e => k _ _ m1 e
  l2 := Z.l2.at fun o e => k _ _ m2 e
structure ZlG (xs ys : Array Value) (lo : Addr) (h : Heap) (as : List Addr) : Prop where
  rise : as.Pairwise (· < ·)
  above : ∀ a ∈ as, lo < a
  pairs : ∀ (j : Nat) (a : Addr), as[j]? = some a → ∃ (hj : j < xs.size) (hk : j < ys.size), h.get? a = some { cls := .type "tuple", data := .seq #[xs[j], ys[j]] }
theorem ZlG.there {lo : Addr} {h : Heap} {as : List Addr} (g : ZlG xs ys lo h as) {a : Addr} (ha : a ∈ as) : a < h.objs.size := by
  obtain ⟨j, hj⟩ := List.mem_iff_getElem?.mp ha
  obtain ⟨_, _, e⟩ := g.pairs j a hj
  exact Heap.lt_size e
end
def pairO (x y : Value) : Obj := { cls := .type "tuple", data := .seq #[x, y] }
abbrev PrT := Addr × (Value × Value) × (V × V)
def PrT.ob (p : PrT) : HO := .frz (pairO p.2.1.1 p.2.1.2) (.tup [p.2.2.1, p.2.2.2])
section
variable {X : Cx} {pins : List (Addr × Obj)} {σ : L2.St} {s : Shared} {h' : Heap} {t : Nat}
end
section
variable {X : Cx} {W : WX} {p p2 pos pos2 : Pos} {a b : Expr} {ta : TA} {m1 m2 : Rho → M D}
end
end Dn
namespace Dn
open PySem PySem.Spec PyProof.Rows L2
def putD (f : Str) (d : D) : List (Str × D) → List (Str × D)
  | [] => [(f, d)]
  | (g, x) :: r => if g = f then (g, d) :: r else (g, x) :: putD f d r
section
variable {K : PySem.W.Frag} {F H : Hp} {ι : List Addr} {st : Sto}
theorem RepF.put {fs : List (Str × D)} {gs : List (Str × V)} {f : Str} {d : D} {v : V} (h : RepF K F ι fs gs) (r : Rep K F ι d v) : RepF K F ι (putD f d fs) (putF f v gs) := by
  induction h with
  | nil => exact .cons ⟨rfl, r⟩ .nil
  | @cons p q l1 l2 a b ih =>
    obtain ⟨k, d0⟩ := p
    obtain ⟨k', v0⟩ := q
    obtain rfl : k = k' := a.1
    unfold putD putF
    by_cases e : k = f
    · rw [if_pos e, if_pos e]; exact .cons ⟨rfl, r⟩ b
    · rw [if_neg e, if_neg e]; exact .cons a ih
theorem RepF.len {fs : List (Str × D)} {gs : List (Str × V)} (h : RepF K F ι fs gs) : gs.length = fs.length := by
  induction h with
  | nil => rfl
  | cons a b ih => simp [ih]
end
structure Kls (K : PySem.W.Frag) (mg : Str → Option Value) (nm : Str) (fs : List Str) : Prop where
  ex : ∃ C, PySem.W.nsIn K mainGlobals nm = some (some (.ref C)) ∧ mg nm = some (.ref C) ∧ Cls K C ∧ ∀ f ∈ fs, NoAttr K C f
section
variable {X : Cx} {W : WX} {nm f : Str} {fl : List Str} {e o value : Expr} {m mo mv : Rho → M D} {pos pos' : Pos}
end
structure FnM (P : Program) (w : World) (K : PySem.W.Frag) (mg : Str → Option Value) (base : Heap) (k : Nat) (nm m : Str) (np : Nat) (spec : List D → M D) : Prop where
  ex : ∃ (C f : Addr) (fd : FuncData) (ps : List Str), PySem.W.nsIn K mainGlobals nm = some (some (.ref C)) ∧ Meth K C m f ∧ FnG P w K mg base k f fd ps (spD K np spec) ∧ Binds K fd ps []
section
variable {X : Cx} {W : WX} {k j np : Nat} {nm m : Str} {fl : List Str} {spec : List D → M D} {e o : Expr} {es : List Expr} {mo : Rho → M D} {am : Rho → M (List D)} {pos apos : Pos}
end
structure FnI (P : Program) (w : World) (K : PySem.W.Frag) (mg : Str → Option Value) (base : Heap) (k : Nat) (nm : Str) (np : Nat) (spec : List D → M D) : Prop where
  ex : ∃ (C f : Addr) (fd : FuncData) (ps : List Str), PySem.W.nsIn K mainGlobals nm = some (some (.ref C)) ∧ mg nm = some (.ref C) ∧ Mk K C f ∧ FnG P w K mg base k f fd ps (spD K np spec) ∧ Binds K fd ps []
section
variable {K : PySem.W.Frag} {F H : Hp} {ι : List Addr} {st : Sto}
end
section
variable {X : Cx} {W : WX} {k j np : Nat} {nm : Str} {spec : List D → M D} {e : Expr} {es : List Expr} {am : Rho → M (List D)} {pos p : Pos}
end
end Dn
namespace PySem
namespace FldX
open PySem.W PySem.Calls PyProof.Rows PySem.HandSPX
def iA (f : Str) (p1 p2 : Pos) : Arguments := { posonlyargs := [], args := [{ arg := "self", annotation := none, pos := p1 }, { arg := f, annotation := none, pos := p2 }], vararg := none, kwonlyargs := [], kw_defaults := [], kwarg := none, defaults := [] }
def iB (f : Str) (q1 q2 q3 q4 : Pos) : List Stmt := [.Assign [.Attribute (.Name "self" q1) f q2] (.Name f q3) q4]
def iS (f : Str) : Scope := { kind := .function, names := [(PySem.Str.ofString "self", .local), (f, .local)], isGenerator := false, isCoroutine := false, more := [] }
def BasX (bm : List Value) (nid : String) : Prop := ∃ (B iid : String) (bmB : List Value), excTail bmB bm = true ∧ ExcBaseFacts B nid iid bmB ∧ StoreFacts B bmB "object.__setattr__" "object"
structure FldTxt (K : Frag) (f : Str) (C fI : Addr) : Prop where
  cls : ∃ nid nm q N bs bm sn sub ab col dd k0 k1 k2 k3 k5, K.lookup C = some (excClassObj nm q C N bs bm true sn sub ab col dd k0 k1 k2 k3 k5 nid) ∧ BasX bm nid
  sa : findIn K (.ref C) "__setattr__" = some (some (.builtin "object.__setattr__"))
  ga : findIn K (.ref C) "__getattribute__" = some (some (.builtin "BaseException.__getattribute__"))
  gg : findIn K (.ref C) "__getattr__" = some none
  noN : findIn K (.ref C) f = some none
  iC : findIn K (.ref C) "__init__" = some (some (.ref fI))
  tC : typeIn K (.ref fI) = some (.type "function")
  kC : keepIn K (.ref C) = true
  exC : subIn K (.ref C) (.type "BaseException") = some true
  tyC : typeIn K (.ref C) = some (.type "type")
  hdC : hasDictIn K C = true
  fn : ∃ (qn : Str) (oc : Value) (od : Option Addr) (doc pm : Value) (an : Option Addr) (cdv ct : Value) (osl : Array (Option Value)) (p1 p2 q1 q2 q3 q4 : Pos),
    K.lookup fI = some ⟨oc, od, .func (fnOf "__init__" qn (iA f p1 p2) (iB f q1 q2 q3 q4) (iS f) .none .none doc pm an cdv ct), osl⟩ ∧ codeIn K cdv qn = true
structure FOk (f : Str) : Prop where
  sf : (f == ("self" : Str)) = false
  fs : (("self" : Str) == f) = false
  db : (f == ("__debug__" : Str)) = false
structure InitEnd (f : Str) (h h' : Heap) (x C dx t1 : Addr) (v : Value) : Prop where
  keep : ∀ b o, b ≠ x → h.get? b = some o → h'.get? b = some o
  obj : h'.get? x = some { cls := .ref C, dict := some dx, data := .fields #[.ref t1, .none, .none, .none, .bool false, .none] }
  dbig : h.objs.size ≤ dx
  dne : dx ≠ x
  ns : h'.Ns1 dx (fun y => if y = f then some v else none)
structure OwnMade (f : Str) (h h' : Heap) (e C d : Addr) (v : Value) : Prop where
  keep : ∀ b o, h.get? b = some o → h'.get? b = some o
  new : h.objs.size ≤ e
  obj : ∃ oe vs, h'.get? e = some oe ∧ oe.cls = .ref C ∧ oe.dict = some d ∧ oe.data = .fields vs ∧ vs[1]? = some .none ∧ vs[2]? = some .none ∧ 4 < vs.size
  dbig : h.objs.size ≤ d
  dne : d ≠ e
  ns : h'.Ns1 d (fun y => if y = f then some v else none)
section
variable {prog : Program} {w : World} {A : Around} {E : Value → Shared → Prop} {R : Result → Shared → Prop} {s : Shared} {K : Frag} {f : Str} {C fI : Addr}
end
end FldX
end PySem
namespace Dn
open PySem PySem.Spec PyProof.Rows L2 PySem.FldX
section
variable {X : Cx} {W : WX} {nm f : Str} {C fI : Addr}
end
section
variable {X : Cx} {x : Xc} {e : D} {a : Addr} {oe : Obj} {pn : List (Addr × Obj)} {i : Nat} {p2 pos : Pos} {ev f : Str}
end
def FnBody (P : Program) (w : World) (K : PySem.W.Frag) (mg : Str → Option Value) (base : Heap) (k : Nat) (f : Addr) (fd : FuncData) (body : List Stmt) (ps : List Str) (sp : Sp) : Prop :=
  ∀ (B : Around) (fr : List Env) (s : Shared) (H : Hp) (us : List Value) (vs : List V) (Q : VK) (E : XK), Room k B → (5 < k → B.guards = some []) → Env0 P w K mg base B fr s H → Vals vs us → sp vs H Q E →
    wpAny (model P w) B.in1 (newFunctionEnv fd.scope fd.globals fd.closure (ps.zip us) (fd.qualname ++ ".<locals>.") (some f) fd.code none fd.builtins)
      (fun env s₂ => s₂.heap.NoLimit ∧ codeAny (model P w) B (.func body env) (CR (CXk k P w) fr P w H s Q E) s₂) (fun e s' => CR (CXk k P w) fr P w H s Q E (.error e) s') s
section
variable {P : Program} {w : World} {K : PySem.W.Frag} {mg : Str → Option Value} {base : Heap}
structure FnCV (P : Program) (w : World) (K : PySem.W.Frag) (mg : Str → Option Value) (base : Heap) (k : Nat) (x : Str) (spec : List D → M D) : Prop where
  ex : ∃ (f : Addr) (fd : FuncData) (p y qual : Str) (stm : Stmt), FnBody P w K mg base k f fd (defBody stm) [p] (spD K 1 spec) ∧ Fun K y qual stm f fd ∧ (defScope stm).isCoroutine = false ∧ (defScope stm).isGenerator = false ∧ mg x = some (.ref f) ∧ PySem.W.keepIn K (.ref f) = true ∧
    ∀ us : List Value, bindArgs fd ⟨us, []⟩ = (newTuple us >>= fun t => pure [(p, t)])
end
section
variable {X : Cx} {W : WX} {k j : Nat} {x : Str} {spec : List D → M D} {p pos : Pos} {e : Expr} {es : List Expr} {am : Rho → M (List D)}
end
end Dn
namespace Dn
open PySem PySem.Spec PyProof.Rows L2
def sFz (i : Nat) (m : Rho → Sto → Fl) : Rho → Sto → Fl := fun ρ st => match ρ[i]? with
  | some (some (.ref l)) => match st[l]? with
    | some (.lst xs) => m (ρ.set i (some (.lst xs))) (st.set l .gone)
    | _ => .bad
  | _ => .bad
theorem REnv.set1 {K : PySem.W.Frag} {F : Hp} {ι : List Addr} {ρ : Rho} {σ : L2.St} (h : REnv K F ι ρ σ) {i : Nat} {d : D} {v : V} (hv : σ[i]? = some (some v)) (r : Rep K F ι d v) : REnv K F ι (ρ.set i (some d)) σ := by
  refine ⟨by simp [h.len], fun j e q => ?_⟩
  by_cases hj : i = j
  · subst hj
    have hl : i < ρ.length := by have := (List.getElem?_eq_some_iff.mp q).1; simpa using this
    rw [List.getElem?_set_self hl] at q
    cases q
    exact ⟨v, hv, r⟩
  · rw [List.getElem?_set_ne hj] at q
    exact h.at_ j e q
theorem fz_of {K : PySem.W.Frag} {W : WX} {i : Nat} {m : Rho → Sto → Fl} {E : Ends} {σ : L2.St} {H : Hp} (h : tS K W (sFz i m) E σ H) : tS K W m E σ H := by
  obtain ⟨F, ι, ρ, st, S, R, q⟩ := h
  unfold sFz at q
  split at q
  · rename_i l e
    split at q
    · rename_i xs e2
      obtain ⟨v, q0, r⟩ := R.at_ i _ e
      obtain ⟨a, vs, rfl, q1, q2, q3⟩ := S.mut r e2
      have x := Ext.retire S q1 q2
      refine ⟨_, ι, _, _, S.retire q1 q2, (R.ext x).set1 (d := .lst xs) q0 ?_, sPost_ext q x⟩
      simp only [Rep]
      exact ⟨a, vs, rfl, upd_same, Reps.ext q3 x⟩
    · exact q.elim
  · exact q.elim
theorem dss_fz {X : Cx} {W : WX} {ss : List Stmt} {i : Nat} {m : Rho → Sto → Fl} (h : DSs X W ss m) : DSs X W ss (sFz i m) := PSs.weak h fun _ _ _ q => fz_of q
end Dn
namespace Dn
open PySem PySem.Spec PyProof.Rows L2
inductive Rs (S α : Type) where
  | ok (a : α) (s : S) | exc (x : Xc) (s : S) | bad | amb (P : Nat → Prop) (f : Nat → Rs S α)
def Mt (S α : Type) := S → Rs S α
section
variable {S α β γ : Type}
def rbind (r : Rs S α) (k : α → Mt S β) : Rs S β := match r with
  | .ok a s => k a s
  | .exc x s => .exc x s
  | .bad => .bad
  | .amb P f => .amb P fun n => rbind (f n) k
def mpure (a : α) : Mt S α := fun s => .ok a s
def mbind (m : Mt S α) (k : α → Mt S β) : Mt S β := fun s => rbind (m s) k
def mbad : Mt S α := fun _ => .bad
def mraise (x : Xc) : Mt S α := fun s => .exc x s
def mopt (o : Option α) : Mt S α := match o with
  | some a => mpure a
  | none => mbad
@[simp] theorem rbind_ok (a : α) (s : S) (k : α → Mt S β) : rbind (.ok a s) k = k a s := rfl
@[simp] theorem rbind_exc (x : Xc) (s : S) (k : α → Mt S β) : rbind (.exc x s) k = .exc x s := rfl
@[simp] theorem rbind_bad (k : α → Mt S β) : rbind .bad k = .bad := rfl
@[simp] theorem rbind_amb (P : Nat → Prop) (f : Nat → Rs S α) (k : α → Mt S β) : rbind (.amb P f) k = .amb P fun n => rbind (f n) k := rfl
theorem rbind_assoc (r : Rs S α) (k : α → Mt S β) (l : β → Mt S γ) : rbind (rbind r k) l = rbind r fun a => mbind (k a) l := by
  induction r with
  | ok a s => rfl
  | exc x s => rfl
  | bad => rfl
  | amb P f ih => exact congrArg (Rs.amb P) (funext ih)
theorem rbind_ret (r : Rs S α) : rbind r mpure = r := by
  induction r with
  | ok a s => rfl
  | exc x s => rfl
  | bad => rfl
  | amb P f ih => exact congrArg (Rs.amb P) (funext ih)
@[simp] theorem mbind_pure (a : α) (k : α → Mt S β) : mbind (mpure a) k = k a := rfl
@[simp] theorem mopt_some (a : α) : (mopt (some a) : Mt S α) = mpure a := rfl
@[simp] theorem mopt_none : (mopt none : Mt S α) = mbad := rfl
@[simp] theorem mbind_bad (k : α → Mt S β) : mbind mbad k = mbad := rfl
@[simp] theorem mbind_raise (x : Xc) (k : α → Mt S β) : mbind (mraise x) k = mraise x := rfl
theorem mbind_assoc (m : Mt S α) (k : α → Mt S β) (l : β → Mt S γ) : mbind (mbind m k) l = mbind m fun a => mbind (k a) l := by
  funext s
  exact rbind_assoc (m s) k l
theorem mbind_ret (m : Mt S α) : mbind m mpure = m := by
  funext s
  exact rbind_ret (m s)
end
structure Wd (S : Type) where
  has : S → Sto → Prop
  own : Sto → Nat → Prop
  inb : ∀ {s : S} {st : Sto} {l : Nat}, has s st → own st l → l < st.length
  grow : ∀ {s : S} {st : Sto} (g : Sto), (∀ m ∈ g, m.isIns = false) → has s st → has s (st ++ g)
  ownG : ∀ {s : S} {st : Sto} (g : Sto) {l : Nat}, (∀ m ∈ g, m.isIns = false) → has s st → own (st ++ g) l → own st l
  set : ∀ {s : S} {st : Sto} {l : Nat} (m : MO), m.isIns = false → has s st → ¬ own st l → has s (st.set l m)
  ownS : ∀ {s : S} {st : Sto} {l : Nat} (m : MO) {k : Nat}, m.isIns = false → has s st → ¬ own st l → own (st.set l m) k → own st k
  take : ∀ {s0 s : S} {b st : Sto}, has s0 b → has s st → Tidy b st → has s (st.take b.length)
  ownT : ∀ {s0 s : S} {b st : Sto} {l : Nat}, has s0 b → has s st → Tidy b st → own (st.take b.length) l → own st l
inductive Sl where
  | any | val (d : D) | mut (m : MO) | bor (m : MO)
def Sl.rd : Sl → Option MO
  | .mut m => some m
  | .bor m => some m
  | _ => none
structure Pre {S : Type} (W : Wd S) (b : Sto) (s : S) (st : Sto) : Prop where
  has : W.has s st
  long : b.length ≤ st.length
  keep : ∀ l : Nat, l < b.length → ¬ W.own b l → ¬ W.own st l ∧ st[l]? = b[l]?
structure Has {S : Type} (W : Wd S) (fr : Sto) (s : S) (Γ : List Sl) (ρ : Rho) (st : Sto) : Prop where
  len : ρ.length = Γ.length
  pre : Pre W fr s st
  val : ∀ (i : Nat) d, Γ[i]? = some (.val d) → ρ[i]? = some (some d)
  mt : ∀ (i : Nat) m, Γ[i]? = some (.mut m) → ∃ l, ρ[i]? = some (some (.ref l)) ∧ (fr.length ≤ l ∧ ¬ W.own st l) ∧ st[l]? = some m
  nal : ∀ (i j : Nat) m1 m2, Γ[i]? = some (.mut m1) → Γ[j]? = some (.mut m2) → ρ[i]? = ρ[j]? → i = j
  bo : ∀ (i : Nat) m, Γ[i]? = some (.bor m) → ∃ l, ρ[i]? = some (some (.ref l)) ∧ ¬ W.own fr l ∧ fr[l]? = some m
section
variable {S : Type} {W : Wd S} {fr : Sto} {s s' : S} {Γ Γ' : List Sl} {ρ ρ' : Rho} {st st' st2 : Sto}
theorem Pre.refl (h : W.has s st) : Pre W st s st := ⟨h, Nat.le_refl _, fun l _ n => ⟨n, rfl⟩⟩
theorem Pre.trans (h1 : Pre W fr s st) (h2 : Pre W st s' st') : Pre W fr s' st' := ⟨h2.has, Nat.le_trans h1.long h2.long, fun l hl n => by
  obtain ⟨a, b⟩ := h1.keep l hl n
  obtain ⟨c, d⟩ := h2.keep l (Nat.lt_of_lt_of_le hl h1.long) a
  exact ⟨c, d.trans b⟩⟩
theorem Pre.grow (h : Pre W fr s st) (g : Sto) (hg : ∀ m ∈ g, m.isIns = false) : Pre W fr s (st ++ g) := ⟨W.grow g hg h.has, by rw [List.length_append]; have := h.long; omega, fun l hl n => by
  obtain ⟨a, b⟩ := h.keep l hl n
  exact ⟨fun q => a (W.ownG g hg h.has q), by rw [List.getElem?_append_left (Nat.lt_of_lt_of_le hl h.long)]; exact b⟩⟩
theorem Pre.set (h : Pre W fr s st) {l : Nat} (m : MO) (hm : m.isIns = false) (hl : fr.length ≤ l) (n : ¬ W.own st l) : Pre W fr s (st.set l m) := ⟨W.set m hm h.has n, by rw [List.length_set]; exact h.long, fun k hk n2 => by
  obtain ⟨a, b⟩ := h.keep k hk n2
  exact ⟨fun q => a (W.ownS m hm h.has n q), by rw [List.getElem?_set_ne (by omega)]; exact b⟩⟩
theorem noIns1 {m : MO} (hm : m.isIns = false) : ∀ x ∈ [m], x.isIns = false := fun x hx => by rw [List.mem_singleton.mp hx]; exact hm
theorem Pre.fresh (h : Pre W fr s st) (m : MO) (hm : m.isIns = false) : ¬ W.own (st ++ [m]) st.length := fun q => Nat.lt_irrefl _ (W.inb h.has (W.ownG [m] (noIns1 hm) h.has q))
theorem Has.rd (h : Has W fr s Γ ρ st) (i : Nat) (m : MO) (e : (Γ[i]?).bind Sl.rd = some m) : ∃ l, ρ[i]? = some (some (.ref l)) ∧ ¬ W.own st l ∧ st[l]? = some m := by
  cases e1 : Γ[i]? with
  | none => rw [e1] at e; cases e
  | some a =>
    rw [e1, Option.bind_some] at e
    cases a with
    | any => cases e
    | val d => cases e
    | «mut» m' =>
      cases e
      obtain ⟨l, q1, q2, q3⟩ := h.mt i m e1
      exact ⟨l, q1, q2.2, q3⟩
    | bor m' =>
      cases e
      obtain ⟨l, q1, q2, q3⟩ := h.bo i m e1
      obtain ⟨a, b⟩ := h.pre.keep l (List.getElem?_eq_some_iff.mp q3).1 q2
      exact ⟨l, q1, a, b.trans q3⟩
theorem bor_set {Γ : List Sl} {ρ : Rho} {fr : Sto} {P : Nat → Prop} (h : ∀ (i : Nat) m, Γ[i]? = some (.bor m) → ∃ l, ρ[i]? = some (some (.ref l)) ∧ P l ∧ fr[l]? = some m) (i : Nat) (a : Sl) (o : Option D) (ha : ∀ m, a ≠ .bor m) : ∀ (j : Nat) m, (Γ.set i a)[j]? = some (.bor m) → ∃ l, (ρ.set i o)[j]? = some (some (.ref l)) ∧ P l ∧ fr[l]? = some m := fun j m e => by
  by_cases hj : i = j
  · subst hj
    have hl : i < Γ.length := by have := (List.getElem?_eq_some_iff.mp e).1; simpa using this
    rw [List.getElem?_set_self hl] at e
    exact absurd (Option.some.inj e) (ha m)
  · rw [List.getElem?_set_ne hj] at e ⊢
    exact h j m e
theorem Has.bound (h : Has W fr s Γ ρ st) : fr.length ≤ st.length := h.pre.long
theorem Has.setVal (h : Has W fr s Γ ρ st) (i : Nat) (d : D) : Has W fr s (Γ.set i (.val d)) (ρ.set i (some d)) st := by
  refine ⟨by simp [h.len], h.pre, fun j d' e => ?_, fun j m e => ?_, fun j k m1 m2 e1 e2 e3 => ?_, bor_set h.bo i _ _ (fun _ h => nomatch h)⟩
  · by_cases hj : i = j
    · subst hj
      have hl : i < Γ.length := by have := (List.getElem?_eq_some_iff.mp e).1; simpa using this
      rw [List.getElem?_set_self hl] at e
      cases e
      rw [List.getElem?_set_self (by rw [h.len]; exact hl)]
    · rw [List.getElem?_set_ne hj] at e ⊢
      exact h.val j d' e
  · have hj : i ≠ j := fun q => by
      subst q
      have hl : i < Γ.length := by have := (List.getElem?_eq_some_iff.mp e).1; simpa using this
      rw [List.getElem?_set_self hl] at e
      cases e
    rw [List.getElem?_set_ne hj] at e ⊢
    exact h.mt j m e
  · have key : ∀ (j : Nat) m, (Γ.set i (.val d))[j]? = some (.mut m) → i ≠ j := fun j m e q => by
      subst q
      have hl : i < Γ.length := by have := (List.getElem?_eq_some_iff.mp e).1; simpa using this
      rw [List.getElem?_set_self hl] at e
      cases e
    have h1 := key j m1 e1
    have h2 := key k m2 e2
    rw [List.getElem?_set_ne h1] at e1 e3
    rw [List.getElem?_set_ne h2] at e2 e3
    exact h.nal j k m1 m2 e1 e2 e3
theorem Has.setNew (h : Has W fr s Γ ρ st) (i : Nat) (m : MO) (hm : m.isIns = false := by rfl) : Has W fr s (Γ.set i (.mut m)) (ρ.set i (some (.ref st.length))) (st ++ [m]) := by
  have hb := h.bound
  have old : ∀ (j : Nat) m', Γ[j]? = some (.mut m') → ∃ l, ρ[j]? = some (some (.ref l)) ∧ l < st.length ∧ (fr.length ≤ l ∧ ¬ W.own st l) ∧ st[l]? = some m' := fun j m' e => by
    obtain ⟨l, q1, q2, q3⟩ := h.mt j m' e
    exact ⟨l, q1, (List.getElem?_eq_some_iff.mp q3).1, q2, q3⟩
  refine ⟨by simp [h.len], h.pre.grow _ (noIns1 hm), fun j d' e => ?_, fun j m' e => ?_, fun j k m1 m2 e1 e2 e3 => ?_, bor_set h.bo i _ _ (fun _ h => nomatch h)⟩
  · have hj : i ≠ j := fun q => by
      subst q
      have hl : i < Γ.length := by have := (List.getElem?_eq_some_iff.mp e).1; simpa using this
      rw [List.getElem?_set_self hl] at e
      cases e
    rw [List.getElem?_set_ne hj] at e ⊢
    exact h.val j d' e
  · by_cases hj : i = j
    · subst hj
      have hl : i < Γ.length := by have := (List.getElem?_eq_some_iff.mp e).1; simpa using this
      rw [List.getElem?_set_self hl] at e
      cases e
      exact ⟨st.length, by rw [List.getElem?_set_self (by rw [h.len]; exact hl)], ⟨hb, h.pre.fresh m hm⟩, by simp⟩
    · rw [List.getElem?_set_ne hj] at e ⊢
      obtain ⟨l, q1, q2, q3, q4⟩ := old j m' e
      exact ⟨l, q1, ⟨q3.1, fun q => q3.2 (W.ownG _ (noIns1 hm) h.pre.has q)⟩, by rw [List.getElem?_append_left q2]; exact q4⟩
  · by_cases hj : i = j
    · by_cases hk : i = k
      · rw [← hj, ← hk]
      · subst hj
        have hl : i < Γ.length := by have := (List.getElem?_eq_some_iff.mp e1).1; simpa using this
        rw [List.getElem?_set_self (by rw [h.len]; exact hl), List.getElem?_set_ne hk] at e3
        rw [List.getElem?_set_ne hk] at e2
        obtain ⟨l, q1, q2, _⟩ := old k m2 e2
        rw [q1] at e3
        injection e3 with e3
        injection e3 with e3
        injection e3 with e3
        omega
    · by_cases hk : i = k
      · subst hk
        have hl : i < Γ.length := by have := (List.getElem?_eq_some_iff.mp e2).1; simpa using this
        rw [List.getElem?_set_self (by rw [h.len]; exact hl), List.getElem?_set_ne hj] at e3
        rw [List.getElem?_set_ne hj] at e1
        obtain ⟨l, q1, q2, _⟩ := old j m1 e1
        rw [q1] at e3
        injection e3 with e3
        injection e3 with e3
        injection e3 with e3
        omega
      · rw [List.getElem?_set_ne hj] at e1 e3
        rw [List.getElem?_set_ne hk] at e2 e3
        exact h.nal j k m1 m2 e1 e2 e3
theorem Has.write (h : Has W fr s Γ ρ st) {i l : Nat} {m : MO} (m' : MO) (hi : Γ[i]? = some (.mut m)) (hl : ρ[i]? = some (some (.ref l))) (hm' : m'.isIns = false := by rfl) : Has W fr s (Γ.set i (.mut m')) ρ (st.set l m') := by
  obtain ⟨l', q1, q2, q3⟩ := h.mt i m hi
  rw [hl] at q1
  injection q1 with q1
  injection q1 with q1
  injection q1 with q1
  subst q1
  have hlt := (List.getElem?_eq_some_iff.mp q3).1
  have hil := (List.getElem?_eq_some_iff.mp hi).1
  refine ⟨by simp [h.len], h.pre.set m' hm' q2.1 q2.2, fun j d' e => ?_, fun j m2 e => ?_, fun j k m1 m2 e1 e2 e3 => ?_, fun j m2 e => by
    by_cases hj : i = j
    · subst hj
      rw [List.getElem?_set_self hil] at e
      cases e
    · rw [List.getElem?_set_ne hj] at e
      exact h.bo j m2 e⟩
  · by_cases hj : i = j
    · subst hj
      rw [List.getElem?_set_self hil] at e
      cases e
    · rw [List.getElem?_set_ne hj] at e
      exact h.val j d' e
  · have nown : ∀ k : Nat, ¬ W.own st k → ¬ W.own (st.set l m') k := fun k n q => n (W.ownS m' hm' h.pre.has q2.2 q)
    by_cases hj : i = j
    · subst hj
      rw [List.getElem?_set_self hil] at e
      cases e
      exact ⟨l, hl, ⟨q2.1, nown l q2.2⟩, by rw [List.getElem?_set_self hlt]⟩
    · rw [List.getElem?_set_ne hj] at e
      obtain ⟨k, p1, p2, p3⟩ := h.mt j m2 e
      refine ⟨k, p1, ⟨p2.1, nown k p2.2⟩, ?_⟩
      have hk : l ≠ k := fun q => by
        subst q
        exact hj (h.nal i j m m2 hi e (hl.trans p1.symm))
      rw [List.getElem?_set_ne hk]
      exact p3
  · have key : ∀ (j : Nat) m2, (Γ.set i (.mut m'))[j]? = some (.mut m2) → ∃ m3, Γ[j]? = some (.mut m3) := fun j m2 e => by
      by_cases hj : i = j
      · subst hj; exact ⟨m, hi⟩
      · rw [List.getElem?_set_ne hj] at e; exact ⟨m2, e⟩
    obtain ⟨n1, f1⟩ := key j m1 e1
    obtain ⟨n2, f2⟩ := key k m2 e2
    exact h.nal j k n1 n2 f1 f2 e3
theorem Has.grow (h : Has W fr s Γ ρ st) (g : Sto) (hg : ∀ m ∈ g, m.isIns = false) : Has W fr s Γ ρ (st ++ g) := by
  refine ⟨h.len, h.pre.grow g hg, h.val, fun j m e => ?_, h.nal, h.bo⟩
  obtain ⟨l, q1, q2, q3⟩ := h.mt j m e
  exact ⟨l, q1, ⟨q2.1, fun q => q2.2 (W.ownG g hg h.pre.has q)⟩, by rw [List.getElem?_append_left (List.getElem?_eq_some_iff.mp q3).1]; exact q3⟩
theorem Has.call (h : Has W fr s Γ ρ st) (p : Pre W st s' st') : Has W fr s' Γ ρ st' := by
  refine ⟨h.len, h.pre.trans p, h.val, fun j m e => ?_, h.nal, h.bo⟩
  obtain ⟨l, q1, q2, q3⟩ := h.mt j m e
  obtain ⟨a, b⟩ := p.keep l (List.getElem?_eq_some_iff.mp q3).1 q2.2
  exact ⟨l, q1, ⟨q2.1, a⟩, b.trans q3⟩
inductive Wk : List Sl → List Sl → Prop where
  | nil : Wk [] []
  | any {a : Sl} {Γ Γ' : List Sl} (h : Wk Γ Γ') : Wk (a :: Γ) (.any :: Γ')
  | same {a : Sl} {Γ Γ' : List Sl} (h : Wk Γ Γ') : Wk (a :: Γ) (a :: Γ')
theorem Wk.len {Γ Γ' : List Sl} (h : Wk Γ Γ') : Γ.length = Γ'.length := by
  induction h with
  | nil => rfl
  | any _ ih => simp [ih]
  | same _ ih => simp [ih]
theorem Wk.get {Γ Γ' : List Sl} (h : Wk Γ Γ') : ∀ (i : Nat) (a : Sl), Γ'[i]? = some a → a = .any ∨ Γ[i]? = some a := by
  induction h with
  | nil => intro i a e; simp at e
  | any _ ih =>
    intro i a e
    cases i with
    | zero => left; simpa using e.symm
    | succ i => simpa using ih i a (by simpa using e)
  | same _ ih =>
    intro i a e
    cases i with
    | zero => right; simpa using e
    | succ i => simpa using ih i a (by simpa using e)
theorem Wk.refl : ∀ Γ : List Sl, Wk Γ Γ
  | [] => .nil
  | _ :: Γ => .same (Wk.refl Γ)
theorem Has.wk (h : Has W fr s Γ ρ st) (w : Wk Γ Γ') : Has W fr s Γ' ρ st := by
  have g : ∀ (i : Nat) (a : Sl), Γ'[i]? = some a → a ≠ .any → Γ[i]? = some a := fun i a e n => (w.get i a e).resolve_left n
  exact ⟨h.len.trans w.len, h.pre, fun i d e => h.val i d (g i _ e (by simp)), fun i m e => h.mt i m (g i _ e (by simp)), fun i j m1 m2 e1 e2 => h.nal i j m1 m2 (g i _ e1 (by simp)) (g j _ e2 (by simp)), fun i m e => h.bo i m (g i _ e (by simp))⟩
theorem Has.drop (h : Has W fr s Γ ρ st) (i : Nat) : Has W fr s (Γ.set i .any) ρ st := by
  have g : ∀ (j : Nat) (a : Sl), (Γ.set i .any)[j]? = some a → a ≠ .any → Γ[j]? = some a := fun j a e n => by
    by_cases hj : i = j
    · subst hj
      have hl : i < Γ.length := by have := (List.getElem?_eq_some_iff.mp e).1; simpa using this
      rw [List.getElem?_set_self hl] at e
      cases e
      exact absurd rfl n
    · rw [List.getElem?_set_ne hj] at e; exact e
  exact ⟨by simp [h.len], h.pre, fun i d e => h.val i d (g i _ e (by simp)), fun i m e => h.mt i m (g i _ e (by simp)), fun i j m1 m2 e1 e2 => h.nal i j m1 m2 (g i _ e1 (by simp)) (g j _ e2 (by simp)), fun i m e => h.bo i m (g i _ e (by simp))⟩
end
def Xc.pl (_ : Xc) : Prop := True
section
variable {S : Type} (W : Wd S) (fr : Sto)
def OR {A β : Type} (Γ' : β → List Sl) (ρ : Rho) (enc : β → A) (r : Out A) (q : Rs S β) : Prop := match q with
  | .ok b s' => ∃ st', r = .ok (enc b) st' ∧ Has W fr s' (Γ' b) ρ st'
  | .exc x s' => ∃ st', r = .exc x st' ∧ Pre W fr s' st' ∧ x.pl
  | .bad => True
  | .amb P f => ∃ n, P n ∧ OR Γ' ρ enc r (f n)
def HT {A β : Type} (Γ : List Sl) (m : Rho → M A) (q : Mt S β) (enc : β → A) (Γ' : β → List Sl) : Prop := ∀ s ρ st, Has W fr s Γ ρ st → OR W fr Γ' ρ enc (m ρ st) (q s)
def HV {A : Type} (Γ : List Sl) (m : Rho → M A) (d : A) : Prop := ∀ s ρ st, Has W fr s Γ ρ st → m ρ st = .ok d st
def AC {A β : Type} (Γ : List Sl) (a : Rho → M (List D)) (F : List D → M A) (q : Mt S β) (enc : β → A) (Γ' : β → List Sl) : Prop := ∀ s ρ st, Has W fr s Γ ρ st → OR W fr Γ' ρ enc ((a ρ st).bind F) (q s)
def FO {β : Type} (st : Sto) (enc : β → D) (r : Out D) (q : Rs S β) : Prop := match q with
  | .ok b s' => ∃ st', r = .ok (enc b) st' ∧ Pre W st s' st'
  | .exc x s' => ∃ st', r = .exc x st' ∧ Pre W st s' st' ∧ x.pl
  | .bad => True
  | .amb P f => ∃ n, P n ∧ FO st enc r (f n)
def FN {β : Type} (d : List D → M D) (args : List D) (q : Mt S β) (enc : β → D) : Prop := ∀ (st : Sto) (s : S), W.has s st → FO W st enc (d args st) (q s)
end
section
variable {S : Type} {W : Wd S} {fr : Sto} {Γ Γ1 Γ2 : List Sl} {ρ : Rho}
theorem Out.bind_assoc {α β γ : Type} (r : Out α) (f : α → Sto → Out β) (g : β → Sto → Out γ) : (r.bind f).bind g = r.bind fun a st => (f a st).bind g := by cases r <;> rfl
theorem OR.bind {A B β γ : Type} {Γ' : β → List Sl} {Γ'' : γ → List Sl} {e : β → A} {e' : γ → B} {r : Out A} {q : Rs S β} {f : A → Sto → Out B} {k : β → Mt S γ} (h : OR W fr Γ' ρ e r q)
    (hk : ∀ b s st, Has W fr s (Γ' b) ρ st → OR W fr Γ'' ρ e' (f (e b) st) (k b s)) : OR W fr Γ'' ρ e' (r.bind f) (rbind q k) := by
  induction q with
  | ok b s =>
    obtain ⟨st', rfl, h2⟩ := h
    exact hk b s st' h2
  | exc x s =>
    obtain ⟨st', rfl, h2⟩ := h
    exact ⟨st', rfl, h2⟩
  | bad => trivial
  | amb P_ f_ ih_ => obtain ⟨n_, p_, h⟩ := h; exact ⟨n_, p_, ih_ n_ h⟩
theorem ht_ofV {A β : Type} {m : Rho → M A} {x : β} {enc : β → A} (h : HV W fr Γ m (enc x)) : HT W fr Γ m (mpure x) enc fun _ => Γ := fun s ρ st H => ⟨st, h s ρ st H, H⟩
theorem ac_nil {A β : Type} {F : List D → M A} {q : Mt S β} {enc : β → A} {Γ' : β → List Sl} (h : ∀ s ρ st, Has W fr s Γ ρ st → OR W fr Γ' ρ enc (F [] st) (q s)) : AC W fr Γ mNil F q enc Γ' := fun s ρ st H => h s ρ st H
theorem ac_ret {A β : Type} {F : List D → M A} {b : β} {enc : β → A} (h : ∀ st, F [] st = .ok (enc b) st) : AC W fr Γ mNil F (mpure b) enc fun _ => Γ := ac_nil fun s ρ st H => ⟨st, h st, H⟩
theorem ac_opt {A β : Type} {F : List D → M A} {o : Option β} {enc : β → A} (h : ∀ b, o = some b → ∀ st, F [] st = .ok (enc b) st) : AC W fr Γ mNil F (mopt o) enc fun _ => Γ := ac_nil fun s ρ st H => by
  cases o with
  | none => trivial
  | some b => exact ⟨st, h b rfl st, H⟩
theorem ac_if {A β : Type} {F : List D → M A} {c : Prop} [Decidable c] {b : β} {enc : β → A} (h : c → ∀ st, F [] st = .ok (enc b) st) : AC W fr Γ mNil F (if c then mpure b else mbad) enc fun _ => Γ := ac_nil fun s ρ st H => by
  by_cases hc : c
  · rw [if_pos hc]; exact ⟨st, h hc st, H⟩
  · rw [if_neg hc]; trivial
theorem ac_fn {β : Type} {F : List D → M D} {d : List D → M D} {args : List D} {q : Mt S β} {enc : β → D} (h : FN W d args q enc) (hF : F [] = d args := by rfl) : AC W fr Γ mNil F q enc fun _ => Γ := ac_nil fun s ρ st H => by
  have h := h st s H.pre.has
  rw [hF]
  revert h
  show FO W _ enc (d args st) (q s) → OR W fr _ ρ enc (d args st) (q s)
  generalize q s = r
  induction r with
  | ok b s' => rintro ⟨st', e, p⟩; exact ⟨st', e, H.call p⟩
  | exc x s' => rintro ⟨st', e, p, hx⟩; exact ⟨st', e, H.pre.trans p, hx⟩
  | bad => intro _; trivial
  | amb P_ f_ ih_ => rintro ⟨n_, p_, h_⟩; exact ⟨n_, p_, ih_ n_ h_⟩
theorem ac_V {A β : Type} {m : Rho → M D} {r : Rho → M (List D)} {F : List D → M A} {d : D} {q : Mt S β} {enc : β → A} {Γ' : β → List Sl} (h : HV W fr Γ m d) (hr : AC W fr Γ r (fun ds => F (d :: ds)) q enc Γ') : AC W fr Γ (mCons m r) F q enc Γ' := fun s ρ st H => by
  have := hr s ρ st H
  unfold mCons
  rw [h s ρ st H, Out.bind_ok, Out.bind_assoc]
  exact this
theorem ac_T {A β γ : Type} {m : Rho → M D} {r : Rho → M (List D)} {F : List D → M A} {q1 : Mt S γ} {e1 : γ → D} {Γ1 : γ → List Sl} {k : γ → Mt S β} {enc : β → A} {Γ' : β → List Sl} (h : HT W fr Γ m q1 e1 Γ1) (hr : ∀ x, AC W fr (Γ1 x) r (fun ds => F (e1 x :: ds)) (k x) enc Γ') : AC W fr Γ (mCons m r) F (mbind q1 k) enc Γ' := fun s ρ st H => by
  unfold mCons
  rw [Out.bind_assoc]
  refine OR.bind (h s ρ st H) fun b s1 st1 H1 => ?_
  rw [Out.bind_assoc]
  exact hr b s1 ρ st1 H1
theorem ac_star {A β γ : Type} {m : Rho → M D} {r : Rho → M (List D)} {F : List D → M A} {q1 : Mt S γ} {e1 : γ → D} {xs : γ → List D} {Γ1 : γ → List Sl} {k : γ → Mt S β} {enc : β → A} {Γ' : β → List Sl} (h : HT W fr Γ m q1 e1 Γ1) (hs : ∀ x st, seqOf st (e1 x) = some (xs x))
    (hr : ∀ x, AC W fr (Γ1 x) r (fun ds => F (xs x ++ ds)) (k x) enc Γ') : AC W fr Γ (mStar m r) F (mbind q1 k) enc Γ' := fun s ρ st H => by
  unfold mStar
  rw [Out.bind_assoc]
  refine OR.bind (h s ρ st H) fun b s1 st1 H1 => ?_
  rw [hs b st1]
  dsimp only
  rw [Out.bind_assoc]
  exact hr b s1 ρ st1 H1
theorem ac_starV {A β : Type} {m : Rho → M D} {r : Rho → M (List D)} {F : List D → M A} {d : D} {xs : List D} {q : Mt S β} {enc : β → A} {Γ' : β → List Sl} (h : HV W fr Γ m d) (hs : ∀ st, seqOf st d = some xs)
    (hr : AC W fr Γ r (fun ds => F (xs ++ ds)) q enc Γ') : AC W fr Γ (mStar m r) F q enc Γ' := fun s ρ st H => by
  have := hr s ρ st H
  unfold mStar
  rw [h s ρ st H, Out.bind_ok, hs st]
  dsimp only
  rw [Out.bind_assoc]
  exact this
theorem ac_M {A β : Type} {i : Nat} {r : Rho → M (List D)} {F : List D → M A} {xs ds : List D} {q : Mt S β} {enc : β → A} {Γ' : β → List Sl} (h : (Γ[i]?).bind Sl.rd = some (.lst xs)) (hv : HV W fr Γ r ds)
    (hd : ∀ st l, st[l]? = some (.lst xs) → F (.ref l :: ds) st = F (.lst xs :: ds) st) (hr : AC W fr Γ r (fun ds => F (.lst xs :: ds)) q enc Γ') : AC W fr Γ (mCons (mVar i) r) F q enc Γ' := fun s ρ st H => by
  have := hr s ρ st H
  obtain ⟨l, q1, q2, q3⟩ := H.rd i _ h
  rw [hv s ρ st H, Out.bind_ok] at this
  unfold mCons
  have e : mVar i ρ st = .ok (.ref l) st := by unfold mVar; rw [q1]
  rw [e, Out.bind_ok, Out.bind_assoc, hv s ρ st H, Out.bind_ok, Out.bind_ok, hd st l q3]
  exact this
theorem hv_nil : HV W fr Γ mNil [] := fun _ _ _ _ => rfl
theorem hv_cons {m : Rho → M D} {r : Rho → M (List D)} {d : D} {ds : List D} (h : HV W fr Γ m d) (hr : HV W fr Γ r ds) : HV W fr Γ (mCons m r) (d :: ds) := fun s ρ st H => by
  unfold mCons
  rw [h s ρ st H, Out.bind_ok, hr s ρ st H, Out.bind_ok]
def F2 (p : Sto → D → D → Option D) : List D → M D := fun ds st => match ds with
  | [a, b] => lift (p st a b) st
  | _ => .bad
def F2L (p : Sto → D → D → Option (List D)) : List D → M (List D) := fun ds st => match ds with
  | [a, b] => lift (p st a b) st
  | _ => .bad
def F1 (p : Sto → D → Option D) : List D → M D := fun ds st => match ds with
  | [a] => lift (p st a) st
  | _ => .bad
def FB {A : Type} (p : Sto → List D → Option A) : List D → M A := fun ds st => lift (p st ds) st
def FTup : List D → M D := fun xs st => if xs.length ≤ 100000 then .ok (.tup xs) st else .bad
def FDisp : List D → M (List D) := fun xs st => if xs.length ≤ 100000 then .ok xs st else .bad
section
variable {β : Type} {m1 m2 : Rho → M D} {a : Rho → M (List D)} {q : Mt S β} {Γ' : β → List Sl}
theorem ht_op {p : Sto → D → D → Option D} {enc : β → D} (h : AC W fr Γ (mCons m1 (mCons m2 mNil)) (F2 p) q enc Γ') : HT W fr Γ (mOp p m1 m2) q enc Γ' := fun s ρ st H => by
  have := h s ρ st H
  unfold mCons mNil at this
  simp only [Out.bind_assoc, Out.bind_ok] at this
  exact this
theorem ht_opL {p : Sto → D → D → Option (List D)} {enc : β → List D} (h : AC W fr Γ (mCons m1 (mCons m2 mNil)) (F2L p) q enc Γ') : HT W fr Γ (lOp p m1 m2) q enc Γ' := fun s ρ st H => by
  have := h s ρ st H
  unfold mCons mNil at this
  simp only [Out.bind_assoc, Out.bind_ok] at this
  exact this
theorem ht_b {p : Sto → List D → Option D} {enc : β → D} (h : AC W fr Γ a (FB p) q enc Γ') : HT W fr Γ (mB p a) q enc Γ' := h
theorem ht_bL {p : Sto → List D → Option (List D)} {enc : β → List D} (h : AC W fr Γ a (FB p) q enc Γ') : HT W fr Γ (lB p a) q enc Γ' := h
theorem ht_call {d : List D → M D} {enc : β → D} (h : AC W fr Γ a d q enc Γ') : HT W fr Γ (mCall d a) q enc Γ' := h
theorem ht_tup {enc : β → D} (h : AC W fr Γ a FTup q enc Γ') : HT W fr Γ (mTup a) q enc Γ' := h
theorem ht_disp {enc : β → List D} (h : AC W fr Γ a FDisp q enc Γ') : HT W fr Γ (lDisp a) q enc Γ' := h
theorem ht_frz {l : Rho → M (List D)} {enc : β → List D} (h : HT W fr Γ l q enc Γ') : HT W fr Γ (mFrz l) q (fun x => .lst (enc x)) Γ' := fun s ρ st H => by
  have := h s ρ st H
  unfold mFrz
  revert this
  induction (q s) with
  | ok b s' => rintro ⟨st', e, h2⟩; exact ⟨st', by rw [e]; rfl, h2⟩
  | exc x s' => rintro ⟨st', e, h2⟩; exact ⟨st', by rw [e]; rfl, h2⟩
  | bad => intro _; trivial
  | amb P_ f_ ih_ => rintro ⟨n_, p_, h_⟩; exact ⟨n_, p_, ih_ n_ h_⟩
theorem ht_isB {m : Rho → M D} {q : Mt S Bool} {Γ' : Bool → List Sl} (h : HT W fr Γ m q .bl Γ') : HT W fr Γ (isB m) q id Γ' := fun s ρ st H => by
  have := h s ρ st H
  unfold isB
  revert this
  induction (q s) with
  | ok b s' => rintro ⟨st', e, h2⟩; exact ⟨st', by rw [e]; rfl, h2⟩
  | exc x s' => rintro ⟨st', e, h2⟩; exact ⟨st', by rw [e]; rfl, h2⟩
  | bad => intro _; trivial
  | amb P_ f_ ih_ => rintro ⟨n_, p_, h_⟩; exact ⟨n_, p_, ih_ n_ h_⟩
theorem ht_tru {m : Rho → M D} {enc : β → D} {f : β → Bool} (h : HT W fr Γ m q enc fun _ => Γ) (hf : ∀ x st, (enc x).truth st = some (f x)) : HT W fr Γ (mTru m) (mbind q fun x => mpure (f x)) id fun _ => Γ := fun s ρ st H => by
  unfold mTru
  refine OR.bind (h s ρ st H) fun b s1 st1 H1 => ?_
  rw [hf b st1]
  exact ⟨st1, rfl, H1⟩
theorem ht_and {t1 t2 : Rho → M Bool} {q1 q2 : Mt S Bool} (h1 : HT W fr Γ t1 q1 id fun _ => Γ) (h2 : HT W fr Γ t2 q2 id fun _ => Γ) : HT W fr Γ (bAnd t1 t2) (mbind q1 fun b => if b = true then q2 else mpure false) id fun _ => Γ := fun s ρ st H => by
  unfold bAnd
  refine OR.bind (h1 s ρ st H) fun b s1 st1 H1 => ?_
  cases b
  · exact ⟨st1, rfl, H1⟩
  · exact h2 s1 ρ st1 H1
theorem ht_if {t : Rho → M Bool} {qt : Mt S Bool} {qa qb : Mt S β} {enc : β → D} (ht : HT W fr Γ t qt id fun _ => Γ) (h1 : HT W fr Γ m1 qa enc fun _ => Γ) (h2 : HT W fr Γ m2 qb enc fun _ => Γ) : HT W fr Γ (mIf t m1 m2) (mbind qt fun c => if c = true then qa else qb) enc fun _ => Γ := fun s ρ st H => by
  unfold mIf
  refine OR.bind (ht s ρ st H) fun b s1 st1 H1 => ?_
  cases b
  · exact h2 s1 ρ st1 H1
  · exact h1 s1 ρ st1 H1
end
theorem hv_lit {d : D} : HV W fr Γ (mLit d) d := fun _ _ _ _ => rfl
theorem hv_var {i : Nat} {d : D} (h : Γ[i]? = some (.val d)) : HV W fr Γ (mVar i) d := fun s ρ st H => by
  unfold mVar
  rw [H.val i d h]
theorem hv_op {p : Sto → D → D → Option D} {m1 m2 : Rho → M D} {d1 d2 d : D} (h1 : HV W fr Γ m1 d1) (h2 : HV W fr Γ m2 d2) (h : ∀ st, p st d1 d2 = some d) : HV W fr Γ (mOp p m1 m2) d := fun s ρ st H => by
  unfold mOp
  rw [h1 s ρ st H, Out.bind_ok, h2 s ρ st H, Out.bind_ok, h st, lift_some]
theorem hv_un {p : Sto → D → Option D} {m1 : Rho → M D} {d1 d : D} (h1 : HV W fr Γ m1 d1) (h : ∀ st, p st d1 = some d) : HV W fr Γ (mUn p m1) d := fun s ρ st H => by
  unfold mUn
  rw [h1 s ρ st H, Out.bind_ok, h st, lift_some]
theorem hv_b {A : Type} {p : Sto → List D → Option D} {a : Rho → M (List D)} {ds : List D} {d : D} (h1 : HV W fr Γ a ds) (h : ∀ st, p st ds = some d) : HV W fr Γ (mB p a) d := fun s ρ st H => by
  unfold mB
  rw [h1 s ρ st H, Out.bind_ok, h st, lift_some]
theorem hv_frz {l : Rho → M (List D)} {ds : List D} (h : HV W fr Γ l ds) : HV W fr Γ (mFrz l) (.lst ds) := fun s ρ st H => by
  unfold mFrz
  rw [h s ρ st H, Out.bind_ok]
theorem hv_tup {a : Rho → M (List D)} {ds : List D} (h : HV W fr Γ a ds) (hl : ds.length ≤ 100000) : HV W fr Γ (mTup a) (.tup ds) := fun s ρ st H => by
  unfold mTup
  rw [h s ρ st H, Out.bind_ok, if_pos hl]
theorem hv_disp {a : Rho → M (List D)} {ds : List D} (h : HV W fr Γ a ds) (hl : ds.length ≤ 100000) : HV W fr Γ (lDisp a) ds := fun s ρ st H => by
  unfold lDisp
  rw [h s ρ st H, Out.bind_ok, if_pos hl]
theorem hv_isB {m : Rho → M D} {b : Bool} (h : HV W fr Γ m (.bl b)) : HV W fr Γ (isB m) b := fun s ρ st H => by
  unfold isB
  rw [h s ρ st H, Out.bind_ok]
theorem hv_if {A β : Type} {t : Rho → M Bool} {m1 m2 : Rho → M D} {c : Bool} {x y : β} {e : β → D} (ht : HV W fr Γ t c) (h1 : HV W fr Γ m1 (e x)) (h2 : HV W fr Γ m2 (e y)) : HV W fr Γ (mIf t m1 m2) (e (if c = true then x else y)) := fun s ρ st H => by
  unfold mIf
  rw [ht s ρ st H, Out.bind_ok]
  cases c
  · exact h2 s ρ st H
  · exact h1 s ρ st H
theorem hv_oNone : HV W fr Γ oNone none := fun _ _ _ _ => rfl
theorem hv_oSome {m : Rho → M D} {i : Int} (h : HV W fr Γ m (.int i)) : HV W fr Γ (oSome m) (some i) := fun s ρ st H => by
  unfold oSome
  rw [h s ρ st H, Out.bind_ok]
end
end Dn
namespace Dn
open PySem PySem.Spec PyProof.Rows L2
inductive Lp (σ β : Type) where
  | nx (z : σ) | bk (z : σ) | rt (b : β)
section
variable {S α β σ τ : Type}
def forU (body : α → σ → Mt S σ) : List α → σ → Mt S σ
  | [], z => mpure z
  | x :: xs, z => mbind (body x z) fun z' => forU body xs z'
def forX (body : α → σ → Mt S (Lp σ β)) : List α → σ → Mt S (σ ⊕ β)
  | [], z => mpure (.inl z)
  | x :: xs, z => mbind (body x z) fun r => match r with
    | .nx z' => forX body xs z'
    | .bk z' => mpure (.inl z')
    | .rt b => mpure (.inr b)
def whileU (c : σ → Mt S Bool) (body : σ → Mt S σ) : Nat → σ → Mt S σ
  | 0, _ => mbad
  | n + 1, z => mbind (c z) fun b => if b = true then mbind (body z) fun z' => whileU c body n z' else mpure z
def mfin (q : Mt S (σ ⊕ β)) (k : σ → Mt S β) : Mt S β := mbind q fun r => match r with
  | .inl z => k z
  | .inr b => mpure b
def mfinL (q : Mt S (σ ⊕ β)) (k : σ → Mt S (Lp τ β)) : Mt S (Lp τ β) := mbind q fun r => match r with
  | .inl z => k z
  | .inr b => mpure (.rt b)
end
section
variable {S : Type} (W : Wd S) (fr : Sto)
def NR {σ : Type} (J : σ → List Sl) (r : Fl) (q : Rs S σ) : Prop := match q with
  | .ok z s' => ∃ ρ' st', r = .next ρ' st' ∧ Has W fr s' (J z) ρ' st'
  | .exc x s' => ∃ ρ' st', r = .exc x ρ' st' ∧ Pre W fr s' st' ∧ x.pl
  | .bad => True
  | .amb P f => ∃ n, P n ∧ NR J r (f n)
def TN {σ : Type} (Γ : List Sl) (m : Rho → Sto → Fl) (q : Mt S σ) (J : σ → List Sl) : Prop := ∀ s ρ st, Has W fr s Γ ρ st → NR W fr J (m ρ st) (q s)
def RR {β : Type} (enc : β → D) (r : Fl) (q : Rs S β) : Prop := match q with
  | .ok b s' => ∃ st', r = .ret (enc b) st' ∧ Pre W fr s' st'
  | .exc x s' => ∃ ρ' st', r = .exc x ρ' st' ∧ Pre W fr s' st' ∧ x.pl
  | .bad => True
  | .amb P f => ∃ n, P n ∧ RR enc r (f n)
def TR {β : Type} (Γ : List Sl) (m : Rho → Sto → Fl) (q : Mt S β) (enc : β → D) : Prop := ∀ s ρ st, Has W fr s Γ ρ st → RR W fr enc (m ρ st) (q s)
def LR {σ β : Type} (J : σ → List Sl) (enc : β → D) (r : Fl) (q : Rs S (Lp σ β)) : Prop := match q with
  | .ok (.nx z) s' => ∃ ρ' st', (r = .next ρ' st' ∨ r = .cnt ρ' st') ∧ Has W fr s' (J z) ρ' st'
  | .ok (.bk z) s' => ∃ ρ' st', r = .brk ρ' st' ∧ Has W fr s' (J z) ρ' st'
  | .ok (.rt b) s' => ∃ st', r = .ret (enc b) st' ∧ Pre W fr s' st'
  | .exc x s' => ∃ ρ' st', r = .exc x ρ' st' ∧ Pre W fr s' st' ∧ x.pl
  | .bad => True
  | .amb P f => ∃ n, P n ∧ LR J enc r (f n)
def TL {σ β : Type} (Γ : List Sl) (m : Rho → Sto → Fl) (q : Mt S (Lp σ β)) (J : σ → List Sl) (enc : β → D) : Prop := ∀ s ρ st, Has W fr s Γ ρ st → LR W fr J enc (m ρ st) (q s)
def XR {σ β : Type} (J : σ → List Sl) (enc : β → D) (r : Fl) (q : Rs S (Lp σ β)) : Prop := match q with
  | .ok (.nx z) s' => ∃ ρ' st', r = .cnt ρ' st' ∧ Has W fr s' (J z) ρ' st'
  | .ok (.bk z) s' => ∃ ρ' st', r = .brk ρ' st' ∧ Has W fr s' (J z) ρ' st'
  | .ok (.rt b) s' => ∃ st', r = .ret (enc b) st' ∧ Pre W fr s' st'
  | .exc x s' => ∃ ρ' st', r = .exc x ρ' st' ∧ Pre W fr s' st' ∧ x.pl
  | .bad => True
  | .amb P f => ∃ n, P n ∧ XR J enc r (f n)
def TX {σ β : Type} (Γ : List Sl) (m : Rho → Sto → Fl) (q : Mt S (Lp σ β)) (J : σ → List Sl) (enc : β → D) : Prop := ∀ s ρ st, Has W fr s Γ ρ st → XR W fr J enc (m ρ st) (q s)
def FR {σ β : Type} (J : σ → List Sl) (enc : β → D) (r : Fl) (q : Rs S (σ ⊕ β)) : Prop := match q with
  | .ok (.inl z) s' => ∃ ρ' st', r = .next ρ' st' ∧ Has W fr s' (J z) ρ' st'
  | .ok (.inr b) s' => ∃ st', r = .ret (enc b) st' ∧ Pre W fr s' st'
  | .exc x s' => ∃ ρ' st', r = .exc x ρ' st' ∧ Pre W fr s' st' ∧ x.pl
  | .bad => True
  | .amb P f => ∃ n, P n ∧ FR J enc r (f n)
def TF {σ β : Type} (Γ : List Sl) (m : Rho → Sto → Fl) (q : Mt S (σ ⊕ β)) (J : σ → List Sl) (enc : β → D) : Prop := ∀ s ρ st, Has W fr s Γ ρ st → FR W fr J enc (m ρ st) (q s)
def GT1 (Γ : List Sl) (gf : D → Rho → M Rho) (d : D) (Γ' : List Sl) (js : List Nat) : Prop := ∀ s ρ st, Has W fr s Γ ρ st → ∃ ρ', gf d ρ st = .ok ρ' st ∧ Has W fr s Γ' ρ' st ∧ ∀ j, j ∉ js → ρ'[j]? = ρ[j]?
def GTs (Γ : List Sl) (gs : List D → Rho → M Rho) (ds : List D) (Γ' : List Sl) (js : List Nat) : Prop := ∀ s ρ st, Has W fr s Γ ρ st → ∃ ρ', gs ds ρ st = .ok ρ' st ∧ Has W fr s Γ' ρ' st ∧ ∀ j, j ∉ js → ρ'[j]? = ρ[j]?
end
section
variable {S : Type} {W : Wd S} {fr : Sto} {Γ Γ1 Γ2 : List Sl}
theorem gt1_N (i : Nat) (d : D) : GT1 W fr Γ (gN i) d (Γ.set i (.val d)) [i] := fun s ρ st H => ⟨_, rfl, H.setVal i d, fun j hj => by
  rw [List.getElem?_set_ne (fun q => hj (by simp [q]))]⟩
theorem gts_nil : GTs W fr Γ gsNil [] Γ [] := fun s ρ st H => ⟨ρ, rfl, H, fun _ _ => rfl⟩
theorem gts_cons {g : D → Rho → M Rho} {gs : List D → Rho → M Rho} {d : D} {ds : List D} {j1 j2 : List Nat} (h1 : GT1 W fr Γ g d Γ1 j1) (h2 : GTs W fr Γ1 gs ds Γ2 j2) : GTs W fr Γ (gsCons g gs) (d :: ds) Γ2 (j1 ++ j2) := fun s ρ st H => by
  obtain ⟨ρ1, e1, H1, k1⟩ := h1 s ρ st H
  obtain ⟨ρ2, e2, H2, k2⟩ := h2 s ρ1 st H1
  refine ⟨ρ2, ?_, H2, fun j hj => ?_⟩
  · show (g d ρ st).bind (fun r s1 => gs ds r s1) = _
    rw [e1]
    exact e2
  · rw [k2 j fun q => hj (List.mem_append_right _ q), k1 j fun q => hj (List.mem_append_left _ q)]
theorem gt1_T {n : Nat} {gs : List D → Rho → M Rho} {ds : List D} {js : List Nat} (h : GTs W fr Γ gs ds Γ1 js) (hn : ds.length = n) : GT1 W fr Γ (gT n gs) (.tup ds) Γ1 js := fun s ρ st H => by
  have e : gT n gs (.tup ds) ρ st = gs ds ρ st := by
    show (if ds.length = n then gs ds ρ st else .bad) = _
    rw [if_pos hn]
  rw [e]
  exact h s ρ st H
theorem OR.fl {A β σ : Type} {Γ' : β → List Sl} {J : σ → List Sl} {ρ : Rho} {e : β → A} {r : Out A} {q : Rs S β} {f : A → Sto → Fl} {k : β → Mt S σ} (h : OR W fr Γ' ρ e r q)
    (hk : ∀ b s st, Has W fr s (Γ' b) ρ st → NR W fr J (f (e b) st) (k b s)) : NR W fr J (r.fl ρ f) (rbind q k) := by
  induction q with
  | ok b s =>
    obtain ⟨st', rfl, h2⟩ := h
    exact hk b s st' h2
  | exc x s =>
    obtain ⟨st', rfl, h2, h3⟩ := h
    exact ⟨ρ, st', rfl, h2, h3⟩
  | bad => trivial
  | amb P_ f_ ih_ => obtain ⟨n_, p_, h⟩ := h; exact ⟨n_, p_, ih_ n_ h⟩
theorem tn_map {σ τ : Type} {m : Rho → Sto → Fl} {q : Mt S σ} {J : σ → List Sl} {J' : τ → List Sl} {f : σ → τ} (h : TN W fr Γ m q J) (w : ∀ z, Wk (J z) (J' (f z))) : TN W fr Γ m (mbind q fun z => mpure (f z)) J' := fun s ρ st H => by
  have := h s ρ st H
  revert this
  show NR W fr J _ _ → NR W fr J' _ (rbind (q s) _)
  induction (q s) with
  | ok z s' => rintro ⟨ρ', st', e, h2⟩; exact ⟨ρ', st', e, h2.wk (w z)⟩
  | exc x s' => exact id
  | bad => exact id
  | amb P_ f_ ih_ => rintro ⟨n_, p_, h_⟩; exact ⟨n_, p_, ih_ n_ h_⟩
theorem tn_seq {σ τ : Type} {m1 m2 : Rho → Sto → Fl} {q : Mt S σ} {J : σ → List Sl} {k : σ → Mt S τ} {J' : τ → List Sl} (h1 : TN W fr Γ m1 q J) (h2 : ∀ z, TN W fr (J z) m2 (k z) J') : TN W fr Γ (sSeq m1 m2) (mbind q k) J' := fun s ρ st H => by
  have := h1 s ρ st H
  unfold sSeq
  revert this
  show NR W fr J _ _ → NR W fr J' _ (rbind (q s) _)
  induction (q s) with
  | ok z s' => rintro ⟨ρ', st', e, h3⟩; rw [e]; exact h2 z s' ρ' st' h3
  | exc x s' => rintro ⟨ρ', st', e, h3⟩; rw [e]; exact ⟨ρ', st', rfl, h3⟩
  | bad => intro _; trivial
  | amb P_ f_ ih_ => rintro ⟨n_, p_, h_⟩; exact ⟨n_, p_, ih_ n_ h_⟩
theorem tn_asg {β : Type} {i : Nat} {m : Rho → M D} {q : Mt S β} {enc : β → D} {Γ' : β → List Sl} (h : HT W fr Γ m q enc Γ') : TN W fr Γ (sAsg (gN i) m) q fun x => (Γ' x).set i (.val (enc x)) := fun s ρ st H => by
  have := OR.fl (J := fun x => (Γ' x).set i (.val (enc x))) (f := fun d st1 => (nox (gN i d ρ st1)).fl ρ fun ρ2 st2 => .next ρ2 st2) (k := mpure) (h s ρ st H) fun b s1 st1 H1 => ⟨_, st1, rfl, H1.setVal i (enc b)⟩
  have e : rbind (q s) mpure = q s := congrFun (mbind_ret q) s
  rw [e] at this
  exact this
theorem tn_new {β : Type} {i : Nat} {l : Rho → M (List D)} {q : Mt S β} {enc : β → List D} {Γ' : β → List Sl} (h : HT W fr Γ l q enc Γ') : TN W fr Γ (sAsg (gN i) (mNew l)) q fun x => (Γ' x).set i (.mut (.lst (enc x))) := fun s ρ st H => by
  have := OR.fl (J := fun x => (Γ' x).set i (.mut (.lst (enc x)))) (f := fun xs st1 => .next (ρ.set i (some (.ref st1.length))) (st1 ++ [.lst xs])) (k := mpure) (h s ρ st H) fun b s1 st1 H1 => ⟨_, _, rfl, H1.setNew i _⟩
  have e : rbind (q s) mpure = q s := congrFun (mbind_ret q) s
  rw [e] at this
  have e2 : sAsg (gN i) (mNew l) ρ st = (l ρ st).fl ρ fun xs st1 => .next (ρ.set i (some (.ref st1.length))) (st1 ++ [.lst xs]) := by
    unfold sAsg mNew
    cases l ρ st <;> rfl
  rw [e2]
  exact this
theorem tn_drop {β : Type} {m : Rho → M D} {q : Mt S β} {enc : β → D} {Γ' : β → List Sl} (h : HT W fr Γ m q enc Γ') : TN W fr Γ (sDrop m) q Γ' := fun s ρ st H => by
  have := OR.fl (J := Γ') (f := fun _ st1 => .next ρ st1) (k := mpure) (h s ρ st H) fun b s1 st1 H1 => ⟨_, st1, rfl, H1⟩
  have e : rbind (q s) mpure = q s := congrFun (mbind_ret q) s
  rw [e] at this
  exact this
theorem tn_if {σ : Type} {t : Rho → M Bool} {a b : Rho → Sto → Fl} {qt : Mt S Bool} {qa qb : Mt S σ} {J : σ → List Sl} {Γ' : Bool → List Sl} (ht : HT W fr Γ t qt id Γ') (ha : TN W fr (Γ' true) a qa J) (hb : TN W fr (Γ' false) b qb J) : TN W fr Γ (sIf t a b) (mbind qt fun c => if c = true then qa else qb) J := fun s ρ st H => by
  refine OR.fl (f := fun c st1 => if c = true then a ρ st1 else b ρ st1) (ht s ρ st H) fun c s1 st1 H1 => ?_
  cases c
  · exact hb s1 ρ st1 H1
  · exact ha s1 ρ st1 H1
def AP {σ : Type} (W : Wd S) (fr : Sto) (Γ : List Sl) (pd : List (D × Sl)) (a : Rho → M (List D)) (F : Rho → List D → Sto → Fl) (q : Mt S σ) (J : σ → List Sl) : Prop := ∀ s ρ st, Has W fr s (Γ ++ pd.map (·.2)) (ρ ++ pd.map fun p => some p.1) st → ρ.length = Γ.length → NR W fr J ((a ρ st).fl ρ (F ρ)) (q s)
theorem Has.front {s : S} {Γ Γ' : List Sl} {ρ ρ' : Rho} {st : Sto} (h : Has W fr s (Γ ++ Γ') (ρ ++ ρ') st) (hl : ρ.length = Γ.length) : Has W fr s Γ ρ st := by
  have g : ∀ (i : Nat) a, Γ[i]? = some a → (Γ ++ Γ')[i]? = some a ∧ (ρ ++ ρ')[i]? = ρ[i]? := fun i a e => by
    have hi := (List.getElem?_eq_some_iff.mp e).1
    exact ⟨by rw [List.getElem?_append_left hi]; exact e, by rw [List.getElem?_append_left (by omega)]⟩
  refine ⟨hl, h.pre, fun i d e => ?_, fun i m e => ?_, fun i j m1 m2 e1 e2 e3 => ?_, fun i m e => ?_⟩
  · rw [← (g i _ e).2]; exact h.val i d (g i _ e).1
  · rw [← (g i _ e).2]; exact h.mt i m (g i _ e).1
  · exact h.nal i j m1 m2 (g i _ e1).1 (g j _ e2).1 (by rw [(g i _ e1).2, (g j _ e2).2]; exact e3)
  · rw [← (g i _ e).2]; exact h.bo i m (g i _ e).1
theorem Has.snocVal {s : S} {Γ : List Sl} {ρ : Rho} {st : Sto} (h : Has W fr s Γ ρ st) (d : D) : Has W fr s (Γ ++ [.val d]) (ρ ++ [some d]) st := by
  have h2 : Has W fr s (Γ ++ [Sl.any]) (ρ ++ [some d]) st := by
    have g : ∀ (i : Nat) a, (Γ ++ [Sl.any])[i]? = some a → a ≠ .any → Γ[i]? = some a ∧ (ρ ++ [some d])[i]? = ρ[i]? := fun i a e n => by
      by_cases hi : i < Γ.length
      · rw [List.getElem?_append_left hi] at e
        exact ⟨e, by rw [List.getElem?_append_left (by rw [h.len]; exact hi)]⟩
      · rw [List.getElem?_append_right (by omega)] at e
        have := List.mem_of_getElem? e
        exact absurd (by simpa using this) n
    refine ⟨by simp [h.len], h.pre, fun i d e => ?_, fun i m e => ?_, fun i j m1 m2 e1 e2 e3 => ?_, fun i m e => ?_⟩
    · rw [(g i _ e (by simp)).2]; exact h.val i d (g i _ e (by simp)).1
    · rw [(g i _ e (by simp)).2]; exact h.mt i m (g i _ e (by simp)).1
    · exact h.nal i j m1 m2 (g i _ e1 (by simp)).1 (g j _ e2 (by simp)).1 (by rw [← (g i _ e1 (by simp)).2, ← (g j _ e2 (by simp)).2]; exact e3)
    · rw [(g i _ e (by simp)).2]; exact h.bo i m (g i _ e (by simp)).1
  have := h2.setVal Γ.length d
  rw [List.set_append_right _ _ (Nat.le_refl _), List.set_append_right _ _ (by rw [h.len]; exact Nat.le_refl _), h.len, Nat.sub_self] at this
  exact this
theorem Has.snocNew {s : S} {Γ : List Sl} {ρ : Rho} {st : Sto} (h : Has W fr s Γ ρ st) (m : MO) (hm : m.isIns = false := by rfl) : Has W fr s (Γ ++ [.mut m]) (ρ ++ [some (.ref st.length)]) (st ++ [m]) := by
  have := (h.snocVal .non).setNew Γ.length m hm
  rw [List.set_append_right _ _ (Nat.le_refl _), List.set_append_right _ _ (by rw [h.len]; exact Nat.le_refl _), h.len, Nat.sub_self] at this
  exact this
theorem ap_T {σ γ : Type} {m : Rho → M D} {r : Rho → M (List D)} {F : Rho → List D → Sto → Fl} {q1 : Mt S γ} {e1 : γ → D} {Γ1 : γ → List Sl} {k : γ → Mt S σ} {J : σ → List Sl} (h : HT W fr Γ m q1 e1 Γ1)
    (hl : ∀ x, (Γ1 x).length = Γ.length) (hr : ∀ x, AP W fr (Γ1 x) [(e1 x, .val (e1 x))] r (fun ρ ds => F ρ (e1 x :: ds)) (k x) J) : AP W fr Γ [] (mCons m r) F (mbind q1 k) J := fun s ρ st H hρ => by
  rw [List.map_nil, List.map_nil, List.append_nil, List.append_nil] at H
  have e : (mCons m r ρ st).fl ρ (F ρ) = (m ρ st).fl ρ fun d st1 => (r ρ st1).fl ρ fun ds st2 => F ρ (d :: ds) st2 := by
    unfold mCons
    cases m ρ st with
    | ok d st1 => simp only [Out.bind_ok, Out.fl_ok]; cases r ρ st1 <;> rfl
    | exc _ _ => rfl
    | bad => rfl
  rw [e]
  exact OR.fl (h s ρ st H) fun b s1 st1 H1 => hr b s1 ρ st1 (H1.snocVal _) (by rw [hl]; exact hρ)
theorem ap_V {σ : Type} {pd : List (D × Sl)} {m : Rho → M D} {r : Rho → M (List D)} {F : Rho → List D → Sto → Fl} {d : D} {q : Mt S σ} {J : σ → List Sl} (h : HV W fr Γ m d)
    (hr : AP W fr Γ (pd ++ [(d, .val d)]) r (fun ρ ds => F ρ (d :: ds)) q J) : AP W fr Γ pd (mCons m r) F q J := fun s ρ st H hρ => by
  have e : (mCons m r ρ st).fl ρ (F ρ) = (r ρ st).fl ρ fun ds st2 => F ρ (d :: ds) st2 := by
    unfold mCons
    rw [h s ρ st (H.front hρ), Out.bind_ok]
    cases r ρ st <;> rfl
  rw [e]
  refine hr s ρ st ?_ hρ
  have := H.snocVal d
  rw [List.append_assoc, List.append_assoc] at this
  rw [List.map_append, List.map_append]
  exact this
theorem ap_New {σ : Type} {pd : List (D × Sl)} {l : Rho → M (List D)} {r : Rho → M (List D)} {F : Rho → List D → Sto → Fl} {xs : List D} {q : Mt S σ} {J : σ → List Sl} (h : HV W fr Γ l xs)
    (hr : ∀ a, AP W fr Γ (pd ++ [(.ref a, .mut (.lst xs))]) r (fun ρ ds => F ρ (.ref a :: ds)) q J) : AP W fr Γ pd (mCons (mNew l) r) F q J := fun s ρ st H hρ => by
  have e : (mCons (mNew l) r ρ st).fl ρ (F ρ) = (r ρ (st ++ [.lst xs])).fl ρ fun ds st2 => F ρ (.ref st.length :: ds) st2 := by
    unfold mCons mNew
    rw [h s ρ st (H.front hρ), Out.bind_ok, Out.bind_ok]
    cases r ρ (st ++ [.lst xs]) <;> rfl
  rw [e]
  refine hr st.length s ρ _ ?_ hρ
  have := H.snocNew (.lst xs)
  rw [List.append_assoc, List.append_assoc] at this
  rw [List.map_append, List.map_append]
  exact this
theorem Has.put {s : S} {Γ : List Sl} {ρ : Rho} {st : Sto} {d : D} {a : Sl} {Γ' : List Sl} {ρ' : Rho} (h : Has W fr s (Γ ++ a :: Γ') (ρ ++ some d :: ρ') st) (hl : ρ.length = Γ.length) (i : Nat) (hi : i < Γ.length) : Has W fr s (Γ.set i a ++ Γ') (ρ.set i (some d) ++ ρ') st := by
  have hll : ρ'.length = Γ'.length := by have := h.len; simp at this; omega
  -- where slot j of the new slots stood
  let f : Nat → Nat := fun j => if j = i then Γ.length else if j < Γ.length then j else j + 1
  have key : ∀ (j : Nat) b, (Γ.set i a ++ Γ')[j]? = some b → (Γ ++ a :: Γ')[f j]? = some b ∧ (ρ.set i (some d) ++ ρ')[j]? = (ρ ++ some d :: ρ')[f j]? := fun j b e => by
    by_cases h1 : j = i
    · subst h1
      have ef : f j = Γ.length := if_pos rfl
      rw [ef]
      rw [List.getElem?_append_left (by simpa using hi), List.getElem?_set_self hi] at e
      rw [List.getElem?_append_right (Nat.le_refl _), Nat.sub_self, List.getElem?_append_left (by simpa [hl] using hi), List.getElem?_set_self (by omega), List.getElem?_append_right (by omega), hl, Nat.sub_self]
      exact ⟨by simpa using e, rfl⟩
    · by_cases h2 : j < Γ.length
      · have ef : f j = j := by simp only [f]; rw [if_neg h1, if_pos h2]
        rw [ef]
        rw [List.getElem?_append_left (by simpa using h2), List.getElem?_set_ne (Ne.symm h1)] at e
        rw [List.getElem?_append_left h2, List.getElem?_append_left (by simpa [hl] using h2), List.getElem?_set_ne (Ne.symm h1), List.getElem?_append_left (by omega)]
        exact ⟨e, rfl⟩
      · have ef : f j = j + 1 := by simp only [f]; rw [if_neg h1, if_neg h2]
        rw [ef]
        have e' := e
        rw [List.getElem?_append_right (by simp; omega), List.length_set] at e
        rw [List.getElem?_append_right (by omega), List.getElem?_append_right (by simp [hl]; omega), List.getElem?_append_right (by omega), List.length_set, hl]
        have e1 : j + 1 - Γ.length = (j - Γ.length) + 1 := by omega
        rw [e1, List.getElem?_cons_succ, List.getElem?_cons_succ]
        exact ⟨e, rfl⟩
  have fi : ∀ j k, f j = f k → j = k := fun j k e => by
    simp only [f] at e
    split at e <;> split at e <;> (try split at e) <;> (try split at e) <;> omega
  refine ⟨by simp [hl, hll], h.pre, fun j d' e => ?_, fun j m e => ?_, fun j k m1 m2 e1 e2 e3 => ?_, fun j m e => ?_⟩
  · obtain ⟨q1, q2⟩ := key j _ e
    rw [q2]; exact h.val _ _ q1
  · obtain ⟨q1, q2⟩ := key j _ e
    rw [q2]; exact h.mt _ _ q1
  · obtain ⟨q1, q2⟩ := key j _ e1
    obtain ⟨q3, q4⟩ := key k _ e2
    exact fi j k (h.nal _ _ m1 m2 q1 q3 (by rw [← q2, ← q4]; exact e3))
  · obtain ⟨q1, q2⟩ := key j _ e
    rw [q2]; exact h.bo _ _ q1
theorem ap_fin {σ : Type} {pd : List (D × Sl)} {F : Rho → List D → Sto → Fl} {z : σ} {J : σ → List Sl} (h : ∀ s ρ st, Has W fr s (Γ ++ pd.map (·.2)) (ρ ++ pd.map fun p => some p.1) st → ρ.length = Γ.length → ∃ ρ', F ρ [] st = .next ρ' st ∧ Has W fr s (J z) ρ' st) : AP W fr Γ pd mNil F (mpure z) J := fun s ρ st H hρ => by
  obtain ⟨ρ', e, h2⟩ := h s ρ st H hρ
  exact ⟨ρ', st, e, h2⟩
def FPar (i j : Nat) : Rho → List D → Sto → Fl := fun ρ ds st1 => match ds with
  | [x, y] => .next ((ρ.set i (some x)).set j (some y)) st1
  | _ => .bad
theorem tn_par {σ : Type} {i j : Nat} {a : Rho → M (List D)} {q : Mt S σ} {J : σ → List Sl} (h : AP W fr Γ [] a (FPar i j) q J) : TN W fr Γ (sPar i j a) q J := fun s ρ st H => h s ρ st (by simpa using H) H.len
theorem tn_tup2 {σ : Type} {i j : Nat} {a : Rho → M (List D)} {q : Mt S σ} {J : σ → List Sl} (h : AP W fr Γ [] a (FPar i j) q J) : TN W fr Γ (sAsg (gT 2 (gsCons (gN i) (gsCons (gN j) gsNil))) (mTup a)) q J := fun s ρ st H => by
  have e : sAsg (gT 2 (gsCons (gN i) (gsCons (gN j) gsNil))) (mTup a) ρ st = (a ρ st).fl ρ (FPar i j ρ) := by
    unfold sAsg mTup
    cases a ρ st with
    | exc _ _ => rfl
    | bad => rfl
    | ok ds st1 =>
      match ds with
      | [] => rfl
      | [_] => rfl
      | [_, _] => rfl
      | _ :: _ :: _ :: r =>
        simp only [Out.bind_ok, Out.fl_ok]
        split
        · rfl
        · rfl
  rw [e]
  exact h s ρ st (by simpa using H) H.len
theorem ap_two {i j : Nat} {d1 d2 : D} {a1 a2 : Sl} (hi : i < Γ.length) (hj : j < Γ.length) {σ : Type} {z : σ} {J : σ → List Sl} (hJ : J z = (Γ.set i a1).set j a2 := by rfl) : AP W fr Γ [(d1, a1), (d2, a2)] mNil (fun ρ ds => FPar i j ρ (d1 :: d2 :: ds)) (mpure z) J := ap_fin fun s ρ st H hρ => by
  have h1 : Has W fr s (Γ.set i a1 ++ [a2]) (ρ.set i (some d1) ++ [some d2]) st := Has.put (Γ' := [a2]) (ρ' := [some d2]) H hρ i hi
  have h2 := Has.put (Γ' := []) (ρ' := []) h1 (by simp [hρ]) j (by simpa using hj)
  rw [List.append_nil, List.append_nil] at h2
  exact ⟨_, rfl, by rw [hJ]; exact h2⟩
end
end Dn
namespace Dn
open PySem PySem.Spec PyProof.Rows L2
section
variable {S : Type} {W : Wd S} {fr : Sto} {Γ Γ1 Γ2 : List Sl}
section
variable {β : Type} {enc : β → D}
theorem tr_ret {m : Rho → M D} {q : Mt S β} {Γ' : β → List Sl} (h : HT W fr Γ m q enc Γ') : TR W fr Γ (sRet m) q enc := fun s ρ st H => by
  have := h s ρ st H
  unfold sRet
  revert this
  show OR W fr Γ' ρ enc _ _ → RR W fr enc _ _
  induction (q s) with
  | ok b s' => rintro ⟨st', e, h2⟩; exact ⟨st', by rw [e]; rfl, h2.pre⟩
  | exc x s' => rintro ⟨st', e, h2⟩; exact ⟨ρ, st', by rw [e]; rfl, h2⟩
  | bad => intro _; trivial
  | amb P_ f_ ih_ => rintro ⟨n_, p_, h_⟩; exact ⟨n_, p_, ih_ n_ h_⟩
theorem tr_seqN {σ : Type} {m1 m2 : Rho → Sto → Fl} {q : Mt S σ} {J : σ → List Sl} {k : σ → Mt S β} (h1 : TN W fr Γ m1 q J) (h2 : ∀ z, TR W fr (J z) m2 (k z) enc) : TR W fr Γ (sSeq m1 m2) (mbind q k) enc := fun s ρ st H => by
  have := h1 s ρ st H
  unfold sSeq
  revert this
  show NR W fr J _ _ → RR W fr enc _ (rbind (q s) _)
  induction (q s) with
  | ok z s' => rintro ⟨ρ', st', e, h3⟩; rw [e]; exact h2 z s' ρ' st' h3
  | exc x s' => rintro ⟨ρ', st', e, h3⟩; rw [e]; exact ⟨ρ', st', rfl, h3⟩
  | bad => intro _; trivial
  | amb P_ f_ ih_ => rintro ⟨n_, p_, h_⟩; exact ⟨n_, p_, ih_ n_ h_⟩
theorem OR.flR {A γ : Type} {Γ' : γ → List Sl} {ρ : Rho} {e : γ → A} {r : Out A} {q : Rs S γ} {f : A → Sto → Fl} {k : γ → Mt S β} (h : OR W fr Γ' ρ e r q)
    (hk : ∀ b s st, Has W fr s (Γ' b) ρ st → RR W fr enc (f (e b) st) (k b s)) : RR W fr enc (r.fl ρ f) (rbind q k) := by
  induction q with
  | ok b s =>
    obtain ⟨st', rfl, h2⟩ := h
    exact hk b s st' h2
  | exc x s =>
    obtain ⟨st', rfl, h2, h3⟩ := h
    exact ⟨ρ, st', rfl, h2, h3⟩
  | bad => trivial
  | amb P_ f_ ih_ => obtain ⟨n_, p_, h⟩ := h; exact ⟨n_, p_, ih_ n_ h⟩
theorem tr_if {t : Rho → M Bool} {a b : Rho → Sto → Fl} {qt : Mt S Bool} {qa qb : Mt S β} {Γ' : Bool → List Sl} (ht : HT W fr Γ t qt id Γ') (ha : TR W fr (Γ' true) a qa enc) (hb : TR W fr (Γ' false) b qb enc) : TR W fr Γ (sIf t a b) (mbind qt fun c => if c = true then qa else qb) enc := fun s ρ st H => by
  refine OR.flR (f := fun c st1 => if c = true then a ρ st1 else b ρ st1) (ht s ρ st H) fun c s1 st1 H1 => ?_
  cases c
  · exact hb s1 ρ st1 H1
  · exact ha s1 ρ st1 H1
theorem seq_if (t : Rho → M Bool) (a b c : Rho → Sto → Fl) : sSeq (sIf t a b) c = sIf t (sSeq a c) (sSeq b c) := by
  funext ρ st
  unfold sSeq sIf
  cases t ρ st with
  | ok k st1 => cases k <;> rfl
  | exc _ _ => rfl
  | bad => rfl
theorem tr_ifseq {t : Rho → M Bool} {a b c : Rho → Sto → Fl} {qt : Mt S Bool} {qa qb : Mt S β} {Γ' : Bool → List Sl} (ht : HT W fr Γ t qt id Γ') (ha : TR W fr (Γ' true) (sSeq a c) qa enc) (hb : TR W fr (Γ' false) (sSeq b c) qb enc) : TR W fr Γ (sSeq (sIf t a b) c) (mbind qt fun c => if c = true then qa else qb) enc := by
  rw [seq_if]
  exact tr_if ht ha hb
theorem tr_seqR {a c : Rho → Sto → Fl} {q : Mt S β} (h : TR W fr Γ a q enc) : TR W fr Γ (sSeq a c) q enc := fun s ρ st H => by
  have := h s ρ st H
  unfold sSeq
  revert this
  induction (q s) with
  | ok b s' => rintro ⟨st', e, h2⟩; exact ⟨st', by rw [e]; rfl, h2⟩
  | exc x s' => rintro ⟨ρ', st', e, h2⟩; exact ⟨ρ', st', by rw [e]; rfl, h2⟩
  | bad => intro _; trivial
  | amb P_ f_ ih_ => rintro ⟨n_, p_, h_⟩; exact ⟨n_, p_, ih_ n_ h_⟩
theorem tr_seqF {σ : Type} {m1 m2 : Rho → Sto → Fl} {q : Mt S (σ ⊕ β)} {J : σ → List Sl} {k : σ → Mt S β} (h1 : TF W fr Γ m1 q J enc) (h2 : ∀ z, TR W fr (J z) m2 (k z) enc) : TR W fr Γ (sSeq m1 m2) (mfin q k) enc := fun s ρ st H => by
  have := h1 s ρ st H
  unfold sSeq mfin
  revert this
  show FR W fr J enc _ _ → RR W fr enc _ (rbind (q s) _)
  induction (q s) with
  | ok z s' =>
    cases z with
    | inl z => rintro ⟨ρ', st', e, h3⟩; rw [e]; exact h2 z s' ρ' st' h3
    | inr b => rintro ⟨st', e, h3⟩; rw [e]; exact ⟨st', rfl, h3⟩
  | exc x s' => rintro ⟨ρ', st', e, h3⟩; rw [e]; exact ⟨ρ', st', rfl, h3⟩
  | bad => intro _; trivial
  | amb P_ f_ ih_ => rintro ⟨n_, p_, h_⟩; exact ⟨n_, p_, ih_ n_ h_⟩
end
section
variable {σ β : Type} {enc : β → D} {J : σ → List Sl}
theorem tl_ofX {m : Rho → Sto → Fl} {q : Mt S (Lp σ β)} (h : TX W fr Γ m q J enc) : TL W fr Γ m q J enc := fun s ρ st H => by
  have := h s ρ st H
  revert this
  induction (q s) with
  | ok r s' =>
    cases r with
    | nx z => rintro ⟨ρ', st', e, h2⟩; exact ⟨ρ', st', .inr e, h2⟩
    | bk z => exact id
    | rt b => exact id
  | exc x s' => exact id
  | bad => exact id
  | amb P_ f_ ih_ => rintro ⟨n_, p_, h_⟩; exact ⟨n_, p_, ih_ n_ h_⟩
theorem tl_next {z : σ} (w : Wk Γ (J z)) : TL W fr Γ sNext (mpure (.nx z)) J enc := fun s ρ st H => ⟨ρ, st, .inl rfl, H.wk w⟩
theorem tx_ofR {m : Rho → Sto → Fl} {q : Mt S β} (h : TR W fr Γ m q enc) : TX W fr Γ m (mbind q fun b => mpure (.rt b)) J enc := fun s ρ st H => by
  have := h s ρ st H
  revert this
  show RR W fr enc _ _ → XR W fr J enc _ (rbind (q s) _)
  induction (q s) with
  | ok z s' => exact id
  | exc x s' => exact id
  | bad => exact id
  | amb P_ f_ ih_ => rintro ⟨n_, p_, h_⟩; exact ⟨n_, p_, ih_ n_ h_⟩
theorem OR.flG {A γ : Type} {Γ' : γ → List Sl} {ρ : Rho} {e : γ → A} {r : Out A} {q : Rs S γ} {f : A → Sto → Fl} {δ : Type} {k : γ → Mt S δ} {P : Fl → Rs S δ → Prop} (h : OR W fr Γ' ρ e r q)
    (he : ∀ x s st, Pre W fr s st → x.pl → P (.exc x ρ st) (.exc x s)) (hb : ∀ r, P r .bad) (hk : ∀ b s st, Has W fr s (Γ' b) ρ st → P (f (e b) st) (k b s)) (ha : ∀ r (Pn : Nat → Prop) g n, Pn n → P r (g n) → P r (.amb Pn g) := by exact fun _ _ _ n p h => ⟨n, p, h⟩) : P (r.fl ρ f) (rbind q k) := by
  induction q with
  | ok b s =>
    obtain ⟨st', rfl, h2⟩ := h
    exact hk b s st' h2
  | exc x s =>
    obtain ⟨st', rfl, h2, h3⟩ := h
    exact he x s st' h2 h3
  | bad => exact hb _
  | amb P_ f_ ih_ => obtain ⟨n_, p_, h⟩ := h; exact ha _ _ _ n_ p_ (ih_ n_ h)
theorem tx_seqX {a c : Rho → Sto → Fl} {q : Mt S (Lp σ β)} (h : TX W fr Γ a q J enc) : TX W fr Γ (sSeq a c) q J enc := fun s ρ st H => by
  have := h s ρ st H
  unfold sSeq
  revert this
  induction (q s) with
  | ok r s' =>
    cases r with
    | nx z => rintro ⟨ρ', st', e, h2⟩; exact ⟨ρ', st', by rw [e]; rfl, h2⟩
    | bk z => rintro ⟨ρ', st', e, h2⟩; exact ⟨ρ', st', by rw [e]; rfl, h2⟩
    | rt b => rintro ⟨st', e, h2⟩; exact ⟨st', by rw [e]; rfl, h2⟩
  | exc x s' => rintro ⟨ρ', st', e, h2⟩; exact ⟨ρ', st', by rw [e]; rfl, h2⟩
  | bad => intro _; trivial
  | amb P_ f_ ih_ => rintro ⟨n_, p_, h_⟩; exact ⟨n_, p_, ih_ n_ h_⟩
theorem tl_seqN {τ : Type} {m1 m2 : Rho → Sto → Fl} {q : Mt S τ} {J1 : τ → List Sl} {k : τ → Mt S (Lp σ β)} (h1 : TN W fr Γ m1 q J1) (h2 : ∀ z, TL W fr (J1 z) m2 (k z) J enc) : TL W fr Γ (sSeq m1 m2) (mbind q k) J enc := fun s ρ st H => by
  have := h1 s ρ st H
  unfold sSeq
  revert this
  show NR W fr J1 _ _ → LR W fr J enc _ (rbind (q s) _)
  induction (q s) with
  | ok z s' => rintro ⟨ρ', st', e, h3⟩; rw [e]; exact h2 z s' ρ' st' h3
  | exc x s' => rintro ⟨ρ', st', e, h3⟩; rw [e]; exact ⟨ρ', st', rfl, h3⟩
  | bad => intro _; trivial
  | amb P_ f_ ih_ => rintro ⟨n_, p_, h_⟩; exact ⟨n_, p_, ih_ n_ h_⟩
theorem tl_if {t : Rho → M Bool} {a b : Rho → Sto → Fl} {qt : Mt S Bool} {qa qb : Mt S (Lp σ β)} {Γ' : Bool → List Sl} (ht : HT W fr Γ t qt id Γ') (ha : TL W fr (Γ' true) a qa J enc) (hb : TL W fr (Γ' false) b qb J enc) : TL W fr Γ (sIf t a b) (mbind qt fun c => if c = true then qa else qb) J enc := fun s ρ st H => by
  refine OR.flG (P := LR W fr J enc) (f := fun c st1 => if c = true then a ρ st1 else b ρ st1) (ht s ρ st H) (fun x s st h1 h2 => ⟨ρ, st, rfl, h1, h2⟩) (fun _ => trivial) fun c s1 st1 H1 => ?_
  cases c
  · exact hb s1 ρ st1 H1
  · exact ha s1 ρ st1 H1
theorem tl_ifseq {t : Rho → M Bool} {a b c : Rho → Sto → Fl} {qt : Mt S Bool} {qa qb : Mt S (Lp σ β)} {Γ' : Bool → List Sl} (ht : HT W fr Γ t qt id Γ') (ha : TL W fr (Γ' true) (sSeq a c) qa J enc) (hb : TL W fr (Γ' false) (sSeq b c) qb J enc) : TL W fr Γ (sSeq (sIf t a b) c) (mbind qt fun c => if c = true then qa else qb) J enc := by
  rw [seq_if]
  exact tl_if ht ha hb
theorem tl_seqX {a c : Rho → Sto → Fl} {q : Mt S (Lp σ β)} (h : TX W fr Γ a q J enc) : TL W fr Γ (sSeq a c) q J enc := tl_ofX (tx_seqX h)
end
def eSrc {α : Type} (e : α → D) (xs : List α) : Src := ⟨xs.map e, []⟩
section
variable {α σ β : Type} {enc : β → D} {e : α → D} {J : σ → List Sl} {gf : D → Rho → M Rho} {mb : Rho → Sto → Fl} {G : α → σ → List Sl} {js : List Nat}
theorem forL_U {held : List (Nat × List D)} {body : α → σ → Mt S σ} (hh : ∀ z s ρ st, Has W fr s (J z) ρ st → heldOk held st) (hg : ∀ x z, GT1 W fr (J z) gf (e x) (G x z) js) (hb : ∀ x z, TN W fr (G x z) mb (body x z) J) :
    ∀ (xs : List α) (z : σ) s ρ st, Has W fr s (J z) ρ st → NR W fr J (forL held (forB gf mb) (xs.map e) ρ st) (forU body xs z s)
  | [], z, s, ρ, st, H => by
    rw [List.map_nil]
    unfold forL
    rw [if_pos (hh z s ρ st H)]
    exact ⟨ρ, st, rfl, H⟩
  | x :: xs, z, s, ρ, st, H => by
    rw [List.map_cons]
    unfold forL
    rw [if_pos (hh z s ρ st H)]
    obtain ⟨ρ1, e1, H1, _⟩ := hg x z s ρ st H
    have h1 := hb x z s ρ1 st H1
    have eb : forB gf mb (e x) ρ st = mb ρ1 st := by unfold forB; rw [e1]; rfl
    rw [eb]
    show NR W fr J _ (rbind (body x z s) _)
    revert h1
    induction (body x z s) with
    | ok z' s' => rintro ⟨ρ', st', e2, h2⟩; rw [e2]; exact forL_U hh hg hb xs z' s' ρ' st' h2
    | exc y s' => rintro ⟨ρ', st', e2, h2⟩; rw [e2]; exact ⟨ρ', st', rfl, h2⟩
    | bad => intro _; trivial
    | amb P_ f_ ih_ => rintro ⟨n_, p_, h_⟩; exact ⟨n_, p_, ih_ n_ h_⟩
theorem forL_X {held : List (Nat × List D)} {body : α → σ → Mt S (Lp σ β)} (hh : ∀ z s ρ st, Has W fr s (J z) ρ st → heldOk held st) (hg : ∀ x z, GT1 W fr (J z) gf (e x) (G x z) js) (hb : ∀ x z, TL W fr (G x z) mb (body x z) J enc) :
    ∀ (xs : List α) (z : σ) s ρ st, Has W fr s (J z) ρ st → FR W fr J enc (forL held (forB gf mb) (xs.map e) ρ st) (forX body xs z s)
  | [], z, s, ρ, st, H => by
    rw [List.map_nil]
    unfold forL
    rw [if_pos (hh z s ρ st H)]
    exact ⟨ρ, st, rfl, H⟩
  | x :: xs, z, s, ρ, st, H => by
    rw [List.map_cons]
    unfold forL
    rw [if_pos (hh z s ρ st H)]
    obtain ⟨ρ1, e1, H1, _⟩ := hg x z s ρ st H
    have h1 := hb x z s ρ1 st H1
    have eb : forB gf mb (e x) ρ st = mb ρ1 st := by unfold forB; rw [e1]; rfl
    rw [eb]
    show FR W fr J enc _ (rbind (body x z s) _)
    revert h1
    induction (body x z s) with
    | ok r s' =>
      cases r with
      | nx z' =>
        rintro ⟨ρ', st', e2, h2⟩
        rcases e2 with e2 | e2
        · rw [e2]; exact forL_X hh hg hb xs z' s' ρ' st' h2
        · rw [e2]; exact forL_X hh hg hb xs z' s' ρ' st' h2
      | bk z' => rintro ⟨ρ', st', e2, h2⟩; rw [e2]; exact ⟨ρ', st', rfl, h2⟩
      | rt b => rintro ⟨st', e2, h2⟩; rw [e2]; exact ⟨st', rfl, h2⟩
    | exc y s' => rintro ⟨ρ', st', e2, h2⟩; rw [e2]; exact ⟨ρ', st', rfl, h2⟩
    | bad => intro _; trivial
    | amb P_ f_ ih_ => rintro ⟨n_, p_, h_⟩; exact ⟨n_, p_, ih_ n_ h_⟩
theorem tn_for {ms : Rho → M Src} {q : Mt S (List α)} {body : α → σ → Mt S σ} {Γ' : List α → List Sl} {z0 : σ} (hs : HT W fr Γ ms q (eSrc e) Γ') (w : ∀ xs, Wk (Γ' xs) (J z0)) (hg : ∀ x z, GT1 W fr (J z) gf (e x) (G x z) js) (hb : ∀ x z, TN W fr (G x z) mb (body x z) J) :
    TN W fr Γ (sFor ms gf mb) (mbind q fun xs => forU body xs z0) J := fun s ρ st H => by
  refine OR.fl (f := fun src st1 => forL src.held (forB gf mb) src.items ρ st1) (hs s ρ st H) fun xs s1 st1 H1 => ?_
  exact forL_U (fun _ _ _ _ _ => (heldOk_nil _).mpr trivial) hg hb xs z0 s1 ρ st1 (H1.wk (w xs))
theorem tf_for {ms : Rho → M Src} {q : Mt S (List α)} {body : α → σ → Mt S (Lp σ β)} {Γ' : List α → List Sl} {z0 : σ} (hs : HT W fr Γ ms q (eSrc e) Γ') (w : ∀ xs, Wk (Γ' xs) (J z0)) (hg : ∀ x z, GT1 W fr (J z) gf (e x) (G x z) js) (hb : ∀ x z, TL W fr (G x z) mb (body x z) J enc) :
    TF W fr Γ (sFor ms gf mb) (mbind q fun xs => forX body xs z0) J enc := fun s ρ st H => by
  refine OR.flG (P := FR W fr J enc) (f := fun src st1 => forL src.held (forB gf mb) src.items ρ st1) (hs s ρ st H) (fun x s st h1 h2 => ⟨ρ, st, rfl, h1, h2⟩) (fun _ => trivial) fun xs s1 st1 H1 => ?_
  exact forL_X (fun _ _ _ _ _ => (heldOk_nil _).mpr trivial) hg hb xs z0 s1 ρ st1 (H1.wk (w xs))
theorem whileL_U {n : Nat} {t : Rho → M Bool} {c : σ → Mt S Bool} {body : σ → Mt S σ} (hc : ∀ z, HT W fr (J z) t (c z) id fun _ => J z) (hb : ∀ z, TN W fr (J z) mb (body z) J) :
    ∀ (n : Nat) (z : σ) s ρ st, Has W fr s (J z) ρ st → NR W fr J (whileL t mb n ρ st) (whileU c body n z s)
  | 0, z, s, ρ, st, H => trivial
  | n + 1, z, s, ρ, st, H => by
    refine OR.fl (f := fun b st1 => if b = true then (match mb ρ st1 with
      | .next ρ' st' => whileL t mb n ρ' st'
      | .cnt ρ' st' => whileL t mb n ρ' st'
      | .brk ρ' st' => .next ρ' st'
      | r => r) else .next ρ st1) (hc z s ρ st H) fun b s1 st1 H1 => ?_
    cases b
    · exact ⟨ρ, st1, rfl, H1⟩
    · have h1 := hb z s1 ρ st1 H1
      show NR W fr J (match mb ρ st1 with
        | .next ρ' st' => whileL t mb n ρ' st'
        | .cnt ρ' st' => whileL t mb n ρ' st'
        | .brk ρ' st' => .next ρ' st'
        | r => r) (rbind (body z s1) _)
      revert h1
      induction (body z s1) with
      | ok z' s' => rintro ⟨ρ', st', e2, h2⟩; rw [e2]; exact whileL_U (n := n) hc hb n z' s' ρ' st' h2
      | exc y s' => rintro ⟨ρ', st', e2, h2⟩; rw [e2]; exact ⟨ρ', st', rfl, h2⟩
      | bad => intro _; trivial
      | amb P_ f_ ih_ => rintro ⟨n_, p_, h_⟩; exact ⟨n_, p_, ih_ n_ h_⟩
theorem tn_while {n : Nat} {t : Rho → M Bool} {c : σ → Mt S Bool} {body : σ → Mt S σ} {z0 : σ} (w : Wk Γ (J z0)) (hc : ∀ z, HT W fr (J z) t (c z) id fun _ => J z) (hb : ∀ z, TN W fr (J z) mb (body z) J) :
    TN W fr Γ (sWhile n t mb) (whileU c body n z0) J := fun s ρ st H => whileL_U (n := n) hc hb n z0 s ρ st (H.wk w)
end
theorem Has.fz {s : S} {ρ : Rho} {st : Sto} {i : Nat} {xs : List D} (H : Has W fr s Γ ρ st) (h : Γ[i]? = some (.mut (.lst xs))) : ∃ l, ρ[i]? = some (some (.ref l)) ∧ st[l]? = some (.lst xs) ∧ Has W fr s (Γ.set i (.val (.lst xs))) (ρ.set i (some (.lst xs))) (st.set l .gone) := by
  obtain ⟨l, q1, q2, q3⟩ := H.mt i _ h
  refine ⟨l, q1, q3, ?_⟩
  have := (H.write .gone h q1).setVal i (.lst xs)
  rwa [List.set_set] at this
theorem sFz_eq {ρ : Rho} {st : Sto} {i l : Nat} {xs : List D} {m : Rho → Sto → Fl} (q1 : ρ[i]? = some (some (.ref l))) (q3 : st[l]? = some (.lst xs)) : sFz i m ρ st = m (ρ.set i (some (.lst xs))) (st.set l .gone) := by
  unfold sFz
  rw [q1]
  dsimp only
  rw [q3]
section
variable {σ β : Type} {enc : β → D} {J : σ → List Sl} {i : Nat} {xs : List D} {m : Rho → Sto → Fl}
theorem tn_fz {q : Mt S σ} (h : Γ[i]? = some (.mut (.lst xs))) (hm : TN W fr (Γ.set i (.val (.lst xs))) m q J) : TN W fr Γ (sFz i m) q J := fun s ρ st H => by
  obtain ⟨l, q1, q2, H1⟩ := H.fz h
  rw [sFz_eq q1 q2]
  exact hm s _ _ H1
theorem tr_fz {q : Mt S β} (h : Γ[i]? = some (.mut (.lst xs))) (hm : TR W fr (Γ.set i (.val (.lst xs))) m q enc) : TR W fr Γ (sFz i m) q enc := fun s ρ st H => by
  obtain ⟨l, q1, q2, H1⟩ := H.fz h
  rw [sFz_eq q1 q2]
  exact hm s _ _ H1
end
def wipeG (Γ : List Sl) : List Nat → List Sl
  | [] => Γ
  | v :: vs => (wipeG Γ vs).set v .any
theorem Has.unset {s : S} {Γ : List Sl} {ρ : Rho} {st : Sto} (h : Has W fr s Γ ρ st) (i : Nat) : Has W fr s (Γ.set i .any) (ρ.set i none) st := by
  have g : ∀ (j : Nat) (a : Sl), (Γ.set i .any)[j]? = some a → a ≠ .any → Γ[j]? = some a ∧ (ρ.set i none)[j]? = ρ[j]? := fun j a e n => by
    by_cases hj : i = j
    · subst hj
      have hl : i < Γ.length := by have := (List.getElem?_eq_some_iff.mp e).1; simpa using this
      rw [List.getElem?_set_self hl] at e
      cases e
      exact absurd rfl n
    · rw [List.getElem?_set_ne hj] at e ⊢; exact ⟨e, rfl⟩
  refine ⟨by simp [h.len], h.pre, fun i d e => ?_, fun i m e => ?_, fun i j m1 m2 e1 e2 e3 => ?_, fun i m e => ?_⟩
  · rw [(g i _ e (by simp)).2]; exact h.val i d (g i _ e (by simp)).1
  · rw [(g i _ e (by simp)).2]; exact h.mt i m (g i _ e (by simp)).1
  · exact h.nal i j m1 m2 (g i _ e1 (by simp)).1 (g j _ e2 (by simp)).1 (by rw [← (g i _ e1 (by simp)).2, ← (g j _ e2 (by simp)).2]; exact e3)
  · rw [(g i _ e (by simp)).2]; exact h.bo i m (g i _ e (by simp)).1
theorem Has.wipe {s : S} {Γ : List Sl} {ρ : Rho} {st : Sto} (h : Has W fr s Γ ρ st) : ∀ vs : List Nat, Has W fr s (wipeG Γ vs) (wipeD ρ vs) st
  | [] => h
  | v :: vs => (h.wipe vs).unset v
theorem wipeD_get (ρ : Rho) : ∀ (vs : List Nat) (j : Nat), j ∉ vs → (wipeD ρ vs)[j]? = ρ[j]?
  | [], _, _ => rfl
  | v :: vs, j, h => by
    show ((wipeD ρ vs).set v none)[j]? = _
    rw [List.getElem?_set_ne (fun q => h (by simp [q])), wipeD_get ρ vs j fun q => h (List.mem_cons_of_mem _ q)]
def Kp (js : List Nat) (Γ Γ' : List Sl) : Prop := ∀ (i : Nat) m, Γ[i]? = some (.mut m) → i ∉ js ∧ Γ'[i]? = some (.mut m)
def kpB : List Sl → List Sl → Nat → List Nat → Prop
  | [], _, _, _ => True
  | .mut m :: Γ, Γ', n, js => n ∉ js ∧ Γ'[n]? = some (.mut m) ∧ kpB Γ Γ' (n + 1) js
  | _ :: Γ, Γ', n, js => kpB Γ Γ' (n + 1) js
theorem kpB_get {js : List Nat} {Γ' : List Sl} : ∀ {Γ : List Sl} {n : Nat}, kpB Γ Γ' n js → ∀ (i : Nat) m, Γ[i]? = some (.mut m) → i + n ∉ js ∧ Γ'[i + n]? = some (.mut m)
  | [], _, _, i, m, e => by simp at e
  | .mut m' :: Γ, n, h, 0, m, e => by
    have : m' = m := by simpa using e
    subst this
    rw [Nat.zero_add]
    exact ⟨h.1, h.2.1⟩
  | .any :: Γ, n, h, 0, m, e => by simp at e
  | .val _ :: Γ, n, h, 0, m, e => by simp at e
  | .bor _ :: Γ, n, h, 0, m, e => by simp at e
  | .mut m' :: Γ, n, h, i + 1, m, e => by
    have := kpB_get (Γ := Γ) h.2.2 i m (by simpa using e)
    rwa [show i + (n + 1) = i + 1 + n by omega] at this
  | .any :: Γ, n, h, i + 1, m, e => by
    have := kpB_get (Γ := Γ) h i m (by simpa using e)
    rwa [show i + (n + 1) = i + 1 + n by omega] at this
  | .val _ :: Γ, n, h, i + 1, m, e => by
    have := kpB_get (Γ := Γ) h i m (by simpa using e)
    rwa [show i + (n + 1) = i + 1 + n by omega] at this
  | .bor _ :: Γ, n, h, i + 1, m, e => by
    have := kpB_get (Γ := Γ) h i m (by simpa using e)
    rwa [show i + (n + 1) = i + 1 + n by omega] at this
theorem kp_of {js : List Nat} {Γ Γ' : List Sl} (h : kpB Γ Γ' 0 js) : Kp js Γ Γ' := fun i m e => kpB_get h i m e
theorem Has.back {s s' : S} {Γ Γ' : List Sl} {ρ ρ' : Rho} {st st' : Sto} {js : List Nat} (h : Has W fr s Γ ρ st) (h' : Has W fr s' Γ' ρ' st') (k : Kp js Γ Γ') (hr : ∀ j, j ∉ js → ρ'[j]? = ρ[j]?) : Has W fr s' Γ ρ st' := by
  refine ⟨h.len, h'.pre, h.val, fun i m e => ?_, h.nal, h.bo⟩
  obtain ⟨q1, q2⟩ := k i m e
  obtain ⟨l, p1, p2, p3⟩ := h'.mt i m q2
  exact ⟨l, by rw [← hr i q1]; exact p1, p2, p3⟩
section
variable {α β : Type}
def compT (f : α → Mt S (Option β)) : List α → Mt S (List β)
  | [] => mpure []
  | x :: xs => mbind (f x) fun o => mbind (compT f xs) fun ys => mpure (o.toList ++ ys)
def compG (c : α → Mt S Bool) (f : α → Mt S β) (xs : List α) : Mt S (List β) := if xs.length ≤ 100000 then compT (fun x => mbind (c x) fun b => if b = true then mbind (f x) fun y => mpure (some y) else mpure none) xs else mbad
def compV (c : α → Bool) (f : α → β) (xs : List α) : Mt S (List β) := if xs.length ≤ 100000 then mpure ((xs.filter c).map f) else mbad
def mapT (f : α → Mt S β) : List α → Mt S (List β)
  | [] => mpure []
  | x :: xs => mbind (f x) fun y => mbind (mapT f xs) fun ys => mpure (y :: ys)
def compM (c : α → Bool) (f : α → Mt S β) (xs : List α) : Mt S (List β) := if xs.length ≤ 100000 then mapT f (xs.filter c) else mbad
variable {e : α → D} {enc : β → D} {gf : D → Rho → M Rho} {mt : Rho → M Bool} {me : Rho → M D} {vs js : List Nat} {G : α → List Sl}
theorem lcL_T {f : α → Mt S (Option β)} {ρ : Rho} (hf : ∀ x s st, Has W fr s Γ ρ st → OR W fr (fun _ => Γ) ρ (fun o : Option β => o.map enc) (lcF gf mt me (wipeD ρ vs) (e x) st) (f x s)) :
    ∀ (xs : List α) s st, Has W fr s Γ ρ st → OR W fr (fun _ => Γ) ρ (fun ys : List β => ys.map enc) (lcL [] (lcF gf mt me (wipeD ρ vs)) (xs.map e) st) (compT f xs s)
  | [], s, st, H => by
    rw [List.map_nil]
    unfold lcL
    rw [if_pos ((heldOk_nil _).mpr trivial)]
    exact ⟨st, rfl, H⟩
  | x :: xs, s, st, H => by
    rw [List.map_cons]
    unfold lcL
    rw [if_pos ((heldOk_nil _).mpr trivial)]
    refine OR.bind (hf x s st H) fun o s1 st1 H1 => ?_
    refine OR.bind (lcL_T hf xs s1 st1 H1) fun ys s2 st2 H2 => ?_
    refine ⟨st2, ?_, H2⟩
    cases o <;> simp
def rcalm {γ : Type} (r : Rs S γ) : Rs S γ := match r with
  | .ok a s' => .ok a s'
  | .amb P f => .amb P fun n => rcalm (f n)
  | _ => .bad
def calmly {γ : Type} (q : Mt S γ) : Mt S γ := fun s => rcalm (q s)
theorem calm_OR {A : Type} {r : Out A} {γ : Type} {Γ' : γ → List Sl} {ρ : Rho} {en : γ → A} {q : Rs S γ} (h : OR W fr Γ' ρ en r q) : OR W fr Γ' ρ en (nox r) (rcalm q) := by
  induction q with
  | ok b s => obtain ⟨st', rfl, h2⟩ := h; exact ⟨st', rfl, h2⟩
  | exc x s => trivial
  | bad => trivial
  | amb P_ f_ ih_ => obtain ⟨n_, p_, h⟩ := h; exact ⟨n_, p_, ih_ n_ h⟩
theorem lcF_T {c : Mt S Bool} {f : Mt S β} {x : α} {Γw : List Sl} {Γx : List Sl} (hw : wipeG Γ vs = Γw) (hg : GT1 W fr Γw gf (e x) Γx js) (hjs : ∀ j, j ∈ js → j ∈ vs) (hk : Kp vs Γ Γx) (hc : HT W fr Γx mt c id fun _ => Γx) (hf : HT W fr Γx me f enc fun _ => Γx) (s : S) (ρ : Rho) (st : Sto) (H : Has W fr s Γ ρ st) :
    OR W fr (fun _ => Γ) ρ (fun o : Option β => o.map enc) (lcF gf mt me (wipeD ρ vs) (e x) st) (mbind c (fun b => if b = true then mbind f fun y => mpure (some y) else mpure none) s) := by
  have H0 := H.wipe vs
  rw [hw] at H0
  obtain ⟨ρ1, e1, H1, k1⟩ := hg s (wipeD ρ vs) st H0
  have kr : ∀ j, j ∉ vs → ρ1[j]? = ρ[j]? := fun j hj => by rw [k1 j fun q => hj (hjs j q), wipeD_get ρ vs j hj]
  unfold lcF
  rw [e1, Out.bind_ok]
  show OR W fr _ ρ _ _ (rbind (c s) _)
  have h1 := hc s ρ1 st H1
  revert h1
  induction (c s) with
  | ok b s1 =>
    rintro ⟨st1, e2, H2⟩
    rw [e2, Out.bind_ok]
    cases b
    · exact ⟨st1, rfl, H.back H2 hk kr⟩
    · have h2 := hf s1 ρ1 st1 H2
      show OR W fr _ ρ _ _ (rbind (f s1) _)
      revert h2
      induction (f s1) with
      | ok y s2 =>
        rintro ⟨st2, e3, H3⟩
        refine ⟨st2, ?_, H.back H3 hk kr⟩
        simp only [id, if_true, e3]
        rfl
      | exc y s2 =>
        rintro ⟨st2, e3, H3⟩
        refine ⟨st2, ?_, H3⟩
        simp only [id, if_true, e3]
        rfl
      | bad => intro _; trivial
      | amb P_ f_ ih_ => rintro ⟨n_, p_, h_⟩; exact ⟨n_, p_, ih_ n_ h_⟩
  | exc y s1 =>
    rintro ⟨st1, e2, H2⟩
    exact ⟨st1, by rw [e2]; rfl, H2⟩
  | bad => intro _; trivial
  | amb P_ f_ ih_ => rintro ⟨n_, p_, h_⟩; exact ⟨n_, p_, ih_ n_ h_⟩
theorem ht_compG {ms : Rho → M Src} {q : Mt S (List α)} {c : α → Mt S Bool} {f : α → Mt S β} {Γw : List Sl} (hs : HT W fr Γ ms q (eSrc e) fun _ => Γ) (hw : wipeG Γ vs = Γw) (hg : ∀ x, GT1 W fr Γw gf (e x) (G x) js) (hjs : ∀ j, j ∈ js → j ∈ vs) (hk : ∀ x, Kp vs Γ (G x))
    (hc : ∀ x, HT W fr (G x) mt (c x) id fun _ => G x) (hf : ∀ x, HT W fr (G x) me (f x) enc fun _ => G x) : HT W fr Γ (lLc ms gf mt me vs) (mbind q fun xs => calmly (compG c f xs)) (fun ys : List β => ys.map enc) fun _ => Γ := fun s ρ st H => by
  unfold lLc
  refine OR.bind (hs s ρ st H) fun xs s1 st1 H1 => ?_
  show OR W fr _ ρ _ (if (xs.map e).length ≤ SZ then nox (lcL [] (lcF gf mt me (wipeD ρ vs)) (xs.map e) st1) else .bad) (rcalm (compG c f xs s1))
  unfold compG
  rw [List.length_map]
  by_cases hl : xs.length ≤ 100000
  · rw [if_pos hl, if_pos (show xs.length ≤ SZ from hl)]
    exact calm_OR (lcL_T (fun x s st H => lcF_T hw (hg x) hjs (hk x) (hc x) (hf x) s ρ st H) xs s1 st1 H1)
  · rw [if_neg hl, if_neg (show ¬ xs.length ≤ SZ from hl)]
    trivial
theorem compT_V (c : α → Bool) (f : α → β) : ∀ xs : List α, compT (S := S) (fun x => mbind (mpure (c x)) fun b => if b = true then mbind (mpure (f x)) fun y => mpure (some y) else mpure none) xs = mpure ((xs.filter c).map f)
  | [] => rfl
  | x :: xs => by
    unfold compT
    rw [compT_V c f xs]
    simp only [mbind_pure]
    cases h : c x <;> simp [h]
theorem compT_M (c : α → Bool) (f : α → Mt S β) : ∀ xs : List α, compT (fun x => mbind (mpure (c x)) fun b => if b = true then mbind (f x) fun y => mpure (some y) else mpure none) xs = mapT f (xs.filter c)
  | [] => rfl
  | x :: xs => by
    unfold compT
    rw [compT_M c f xs]
    simp only [mbind_pure]
    cases h : c x
    · simp [h, mbind_ret]
    · simp only [h, if_true, List.filter_cons_of_pos]
      rw [mapT, mbind_assoc]
      rfl
theorem ht_compV {ms : Rho → M Src} {q : Mt S (List α)} {c : α → Bool} {f : α → β} {Γw : List Sl} (hs : HT W fr Γ ms q (eSrc e) fun _ => Γ) (hw : wipeG Γ vs = Γw) (hg : ∀ x, GT1 W fr Γw gf (e x) (G x) js) (hjs : ∀ j, j ∈ js → j ∈ vs) (hk : ∀ x, Kp vs Γ (G x))
    (hc : ∀ x, HV W fr (G x) mt (c x)) (hf : ∀ x, HV W fr (G x) me (enc (f x))) : HT W fr Γ (lLc ms gf mt me vs) (mbind q fun xs => compV c f xs) (fun ys : List β => ys.map enc) fun _ => Γ := by
  have h := ht_compG (c := fun x => mpure (c x)) (f := fun x => mpure (f x)) hs hw hg hjs hk (fun x => ht_ofV (enc := id) (hc x)) fun x => ht_ofV (hf x)
  have e : (fun xs : List α => calmly (compG (S := S) (fun x => mpure (c x)) (fun x => mpure (f x)) xs)) = fun xs => compV c f xs := by
    funext xs
    unfold compG compV
    rw [compT_V]
    split <;> rfl
  rw [e] at h
  exact h
theorem ht_compM {ms : Rho → M Src} {q : Mt S (List α)} {c : α → Bool} {f : α → Mt S β} {Γw : List Sl} (hs : HT W fr Γ ms q (eSrc e) fun _ => Γ) (hw : wipeG Γ vs = Γw) (hg : ∀ x, GT1 W fr Γw gf (e x) (G x) js) (hjs : ∀ j, j ∈ js → j ∈ vs) (hk : ∀ x, Kp vs Γ (G x))
    (hc : ∀ x, HV W fr (G x) mt (c x)) (hf : ∀ x, HT W fr (G x) me (f x) enc fun _ => G x) : HT W fr Γ (lLc ms gf mt me vs) (mbind q fun xs => calmly (compM c f xs)) (fun ys : List β => ys.map enc) fun _ => Γ := by
  have h := ht_compG (c := fun x => mpure (c x)) (f := f) hs hw hg hjs hk (fun x => ht_ofV (enc := id) (hc x)) hf
  have e : (fun xs : List α => calmly (compG (S := S) (fun x => mpure (c x)) f xs)) = fun xs => calmly (compM c f xs) := by
    funext xs
    unfold compG compM
    rw [compT_M]
  rw [e] at h
  exact h
end
theorem has_start {s : S} {np nN : Nat} {ds : List D} {fr : Sto} (hs : W.has s fr) (hl : ds.length ≤ nN) : Has W fr s (ds.map .val ++ List.replicate (nN - ds.length) .any) (rho0 nN ds) fr := by
  unfold rho0
  have g : ∀ (i : Nat) a, (ds.map Sl.val ++ List.replicate (nN - ds.length) Sl.any)[i]? = some a → a = .any ∨ ∃ d, a = .val d ∧ ds[i]? = some d := fun i a e => by
    by_cases hi : i < ds.length
    · rw [List.getElem?_append_left (by simpa using hi), List.getElem?_map] at e
      cases e1 : ds[i]? with
      | none => rw [e1] at e; cases e
      | some d => rw [e1] at e; cases e; exact .inr ⟨d, rfl, rfl⟩
    · rw [List.getElem?_append_right (by simpa using hi), List.getElem?_replicate] at e
      split at e
      · cases e; exact .inl rfl
      · cases e
  refine ⟨by simp, Pre.refl hs, fun i d e => ?_, fun i m e => ?_, fun i j m1 m2 e1 e2 e3 => ?_, fun i m e => ?_⟩
  · rcases g i _ e with q | ⟨d', q, h⟩
    · cases q
    · cases q
      have hi := (List.getElem?_eq_some_iff.mp h).1
      rw [List.getElem?_append_left (by simpa using hi), List.getElem?_map, h]
      rfl
  · rcases g i _ e with q | ⟨d', q, h⟩
    · cases q
    · cases q
  · rcases g i _ e1 with q | ⟨d', q, h⟩
    · cases q
    · cases q
  · rcases g i _ e with q | ⟨d', q, h⟩
    · cases q
    · cases q
theorem Pre.take {s0 s' : S} {b st' : Sto} (h0 : W.has s0 b) (h : Pre W b s' st') (t : Tidy b st') : Pre W b s' (st'.take b.length) := by
  refine ⟨W.take h0 h.has t, ?_, fun l hl n => ?_⟩
  · rw [List.length_take]
    have := h.long
    omega
  · obtain ⟨p, q⟩ := h.keep l hl n
    exact ⟨fun z => p (W.ownT h0 h.has t z), by rw [List.getElem?_take_of_lt hl]; exact q⟩
theorem clean_pre {s s' : S} {b st' : Sto} {d : D} (h0 : W.has s b) (h : Pre W b s' st') : ∃ st2, clean b (.ok d st') = .ok d st2 ∧ Pre W b s' st2 := by
  unfold clean
  dsimp only
  split
  · rename_i t
    exact ⟨_, rfl, h.take h0 t.2⟩
  · exact ⟨_, rfl, h⟩
theorem clean_preX {s s' : S} {b st' : Sto} {x : Xc} (h0 : W.has s b) (h : Pre W b s' st') : ∃ st2, clean b (.exc x st') = .exc x st2 ∧ Pre W b s' st2 := by
  unfold clean
  dsimp only
  split
  · rename_i t
    exact ⟨_, rfl, h.take h0 t.2⟩
  · exact ⟨_, rfl, h⟩
theorem fo_of {β : Type} {enc : β → D} {np nN : Nat} {m : Rho → Sto → Fl} {ds : List D} {q : Mt S β} (hn : ds.length = np) (hl : ds.length ≤ nN) (h : ∀ fr, TR W fr (ds.map .val ++ List.replicate (nN - ds.length) .any) m q enc) : FN W (fnD np nN m) ds q enc := fun fr s hs => by
  have := h fr s _ _ (has_start (W := W) (np := np) (s := s) (fr := fr) hs hl)
  unfold fnD
  rw [if_pos hn]
  revert this
  show RR W fr enc _ (q s) → FO W fr enc _ (q s)
  generalize q s = r
  induction r with
  | ok b s' =>
    rintro ⟨st', e, h2⟩
    rw [e]
    exact clean_pre hs h2
  | exc x s' =>
    rintro ⟨ρ', st', e, h2, h3⟩
    rw [e]
    obtain ⟨st2, e2, h4⟩ := clean_preX (x := x) hs h2
    exact ⟨st2, e2, h4, h3⟩
  | bad => intro _; trivial
  | amb P_ f_ ih_ => rintro ⟨n_, p_, h_⟩; exact ⟨n_, p_, ih_ n_ h_⟩
theorem fnT_of {β : Type} {enc : β → D} {np nN : Nat} {m : Rho → Sto → Fl} {ds : List D} {q : Mt S β} (hp : ∀ b, isP (enc b) = true) (hn : ds.length = np) (hl : ds.length ≤ nN) (h : ∀ fr, TR W fr (ds.map .val ++ List.replicate (nN - ds.length) .any) m q enc) : FN W (fnD np nN m) ds q enc := fo_of hn hl h
end
end Dn
namespace Dn
open PySem PySem.Spec PyProof.Rows L2
def eI : Int → D := .int
def eB : Bool → D := .bl
def eS : Str → D := .str
def eD : D → D := fun d => d
def eU : Unit → D := fun _ => .non
def eT {α : Type} (e : α → D) (xs : List α) : D := .tup (xs.map e)
def eL {α : Type} (e : α → D) (xs : List α) : D := .lst (xs.map e)
def eP {α β : Type} (e : α → D) (f : β → D) (z : α × β) : D := .tup [e z.1, f z.2]
def eP3 {α β γ : Type} (e : α → D) (f : β → D) (g : γ → D) (z : α × β × γ) : D := .tup [e z.1, f z.2.1, g z.2.2]
def eO {α : Type} (e : α → D) (o : Option α) : D := match o with
  | none => .non
  | some x => e x
class Ev {α : Type} [DecidableEq α] (e : α → D) (dp : outParam Nat) : Prop where
  p : ∀ x, isP (e x) = true
  dep : ∀ x, (toP (e x)).depth ≤ dp
  eq : ∀ x y, PyData.eqv (toP (e x)) (toP (e y)) = decide (x = y)
class Pl {α : Type} (e : α → D) : Prop where
  p : ∀ x, isP (e x) = true
instance : Pl eI := ⟨fun _ => rfl⟩
instance : Pl eB := ⟨fun _ => rfl⟩
instance : Pl eS := ⟨fun _ => rfl⟩
instance : Pl eU := ⟨fun _ => rfl⟩
theorem isPs_of {α : Type} {e : α → D} (h : ∀ x, isP (e x) = true) : ∀ xs : List α, isPs (xs.map e) = true
  | [] => rfl
  | x :: xs => by rw [List.map_cons, isPs, h x, isPs_of h xs] <;> rfl
instance {α : Type} {e : α → D} [Pl e] : Pl (eT e) := ⟨fun xs => by unfold eT; rw [isP]; exact isPs_of Pl.p xs⟩
instance {α : Type} {e : α → D} [Pl e] : Pl (eL e) := ⟨fun xs => by unfold eL; rw [isP]; exact isPs_of Pl.p xs⟩
instance {α β : Type} {e : α → D} {f : β → D} [Pl e] [Pl f] : Pl (eP e f) := ⟨fun z => by unfold eP; simp only [isP, isPs, Pl.p, Bool.and_self]⟩
instance {α β γ : Type} {e : α → D} {f : β → D} {g : γ → D} [Pl e] [Pl f] [Pl g] : Pl (eP3 e f g) := ⟨fun z => by unfold eP3; simp only [isP, isPs, Pl.p, Bool.and_self]⟩
instance {α : Type} {e : α → D} [Pl e] : Pl (eO e) := ⟨fun o => by cases o with
  | none => rfl
  | some x => exact Pl.p x⟩
instance : Ev eI 0 := ⟨fun _ => rfl, fun _ => Nat.le_refl _, fun x y => by
  show (x == y) = _
  rw [Bool.eq_iff_iff]; simp⟩
instance : Ev eB 0 := ⟨fun _ => rfl, fun _ => Nat.le_refl _, fun x y => by
  show (x == y) = _
  rw [Bool.eq_iff_iff]; simp⟩
instance : Ev eS 0 := ⟨fun _ => rfl, fun _ => Nat.le_refl _, fun x y => by
  show (x == y) = _
  rw [Bool.eq_iff_iff]; simp⟩
instance : Ev eU 0 := ⟨fun _ => rfl, fun _ => Nat.le_refl _, fun x y => rfl⟩
theorem depAll_of {α : Type} {e : α → D} {n : Nat} (h : ∀ x, (toP (e x)).depth ≤ n) : ∀ xs : List α, PyData.depthAll (toPs (xs.map e)) ≤ n
  | [] => Nat.zero_le _
  | x :: xs => by
    rw [List.map_cons, toPs, PyData.depthAll]
    exact Nat.max_le.mpr ⟨h x, depAll_of h xs⟩
theorem eqvAll_of {α : Type} [DecidableEq α] {e : α → D} (h : ∀ x y, PyData.eqv (toP (e x)) (toP (e y)) = decide (x = y)) : ∀ xs ys : List α, PyData.eqvAll (toPs (xs.map e)) (toPs (ys.map e)) = decide (xs = ys)
  | [], [] => rfl
  | [], y :: ys => by simp only [List.map_nil, List.map_cons, toPs, PyData.eqvAll]; rfl
  | x :: xs, [] => by simp only [List.map_nil, List.map_cons, toPs, PyData.eqvAll]; rfl
  | x :: xs, y :: ys => by
    simp only [List.map_cons, toPs, PyData.eqvAll]
    rw [h x y, eqvAll_of h xs ys, Bool.eq_iff_iff]
    simp
instance {α : Type} [DecidableEq α] {e : α → D} {n : Nat} [Ev e n] : Ev (eT e) (n + 1) := ⟨fun xs => by unfold eT; rw [isP]; exact isPs_of Ev.p xs, fun xs => by
  unfold eT
  rw [toP, PyData.depth]
  have := depAll_of (n := n) (e := e) Ev.dep xs
  omega, fun xs ys => by
  unfold eT
  rw [toP, toP, PyData.eqv]
  exact eqvAll_of Ev.eq xs ys⟩
instance {α : Type} [DecidableEq α] {e : α → D} {n : Nat} [Ev e n] : Ev (eL e) (n + 1) := ⟨fun xs => by unfold eL; rw [isP]; exact isPs_of Ev.p xs, fun xs => by
  unfold eL
  rw [toP, PyData.depth]
  have := depAll_of (n := n) (e := e) Ev.dep xs
  omega, fun xs ys => by
  unfold eL
  rw [toP, toP, PyData.eqv]
  exact eqvAll_of Ev.eq xs ys⟩
instance {α β : Type} [DecidableEq α] [DecidableEq β] {e : α → D} {f : β → D} {n m : Nat} [Ev e n] [Ev f m] : Ev (eP e f) (max n m + 1) := ⟨fun z => by unfold eP; simp only [isP, isPs, Ev.p, Bool.and_self], fun z => by
  unfold eP
  have h1 := Ev.dep (e := e) z.1
  have h2 := Ev.dep (e := f) z.2
  simp only [toP, toPs, PyData.depth, PyData.depthAll]
  omega, fun x y => by
  unfold eP
  simp only [toP, toPs, PyData.eqv, PyData.eqvAll, Ev.eq]
  rw [Bool.eq_iff_iff]
  simp [Prod.ext_iff]⟩
class Nn {α : Type} (e : α → D) : Prop where
  nn : ∀ x, toP (e x) ≠ .none
instance : Nn eI := ⟨fun _ h => nomatch h⟩
instance : Nn eB := ⟨fun _ h => nomatch h⟩
instance : Nn eS := ⟨fun _ h => nomatch h⟩
instance {α : Type} {e : α → D} : Nn (eT e) := ⟨fun _ h => by unfold eT at h; rw [toP] at h; cases h⟩
instance {α : Type} {e : α → D} : Nn (eL e) := ⟨fun _ h => by unfold eL at h; rw [toP] at h; cases h⟩
instance {α β : Type} {e : α → D} {f : β → D} : Nn (eP e f) := ⟨fun _ h => by unfold eP at h; rw [toP] at h; cases h⟩
theorem eqv_none_l {d : PyData} (h : d ≠ .none) : PyData.eqv .none d = false := by cases d <;> first | rfl | exact absurd rfl h
theorem eqv_none_r {d : PyData} (h : d ≠ .none) : PyData.eqv d .none = false := by cases d <;> first | rfl | exact absurd rfl h
instance {α : Type} [DecidableEq α] {e : α → D} {n : Nat} [Ev e n] [Nn e] : Ev (eO e) n := ⟨fun o => by cases o with
  | none => rfl
  | some x => exact Ev.p x, fun o => by cases o with
  | none => exact Nat.zero_le _
  | some x => exact Ev.dep x, fun o p => by
  cases o with
  | none =>
    cases p with
    | none => rfl
    | some y =>
      show PyData.eqv .none (toP (e y)) = _
      rw [eqv_none_l (Nn.nn (e := e) y)] <;> rfl
  | some x =>
    cases p with
    | none =>
      show PyData.eqv (toP (e x)) .none = _
      rw [eqv_none_r (Nn.nn (e := e) x)] <;> rfl
    | some y =>
      show PyData.eqv (toP (e x)) (toP (e y)) = _
      rw [Ev.eq (e := e)]
      simp⟩
section
variable {α : Type} [DecidableEq α] {e : α → D} {n : Nat}
theorem pEq_dat {st : Sto} {a b : D} {p q : PyData} (ha : dat st a = some p) (hb : dat st b = some q) (hd : min p.depth q.depth ≤ 64) : pEq st a b = some (.bl (PyData.eqv p q)) := by
  have gen : (match dat st a, dat st b with
    | some p, some q => if min p.depth q.depth ≤ 64 then some (D.bl (PyData.eqv p q)) else none
    | _, _ => none) = some (D.bl (PyData.eqv p q)) := by
    rw [ha, hb]
    exact if_pos hd
  unfold pEq
  split
  · rename_i x y
    cases ha
    cases hb
    rfl
  · exact gen
theorem pNe_dat {st : Sto} {a b : D} {p q : PyData} (ha : dat st a = some p) (hb : dat st b = some q) (hd : min p.depth q.depth ≤ 64) : pNe st a b = some (.bl (!PyData.eqv p q)) := by
  have gen : (match dat st a, dat st b with
    | some p, some q => if min p.depth q.depth ≤ 64 then some (D.bl (!PyData.eqv p q)) else none
    | _, _ => none) = some (D.bl (!PyData.eqv p q)) := by
    rw [ha, hb]
    exact if_pos hd
  unfold pNe
  split
  · rename_i x y
    cases ha
    cases hb
    rfl
  · exact gen
theorem t_eq [Ev e n] (x y : α) (h : n ≤ 64) (st : Sto) : pEq st (e x) (e y) = some (.bl (decide (x = y))) := by
  have hd := Ev.dep (e := e) x
  rw [pEq_dat (dat_P (Ev.p x)) (dat_P (Ev.p y)) (by omega), Ev.eq]
theorem t_ne [Ev e n] (x y : α) (h : n ≤ 64) (st : Sto) : pNe st (e x) (e y) = some (.bl (!decide (x = y))) := by
  have hd := Ev.dep (e := e) x
  rw [pNe_dat (dat_P (Ev.p x)) (dat_P (Ev.p y)) (by omega), Ev.eq]
theorem any_of [Ev e n] (x : α) : ∀ xs : List α, ((toPs (xs.map e)).any fun z => PyData.eqv z (toP (e x))) = decide (x ∈ xs)
  | [] => by simp [toPs]
  | y :: ys => by
    rw [List.map_cons, toPs, List.any_cons, any_of x ys, Ev.eq]
    by_cases h : y = x
    · subst h; simp
    · have h' : ¬ x = y := fun q => h q.symm
      simp [h, h']
theorem inD_seq {st : Sto} {a b : D} {p : PyData} {ds : List PyData} (ha : dat st a = some p) (hb : dat st b = some (.list ds) ∨ dat st b = some (.tuple ds)) (hd : p.depth ≤ 64) : inD st a b = some (ds.any fun z => PyData.eqv z p) := by
  unfold inD
  split
  · rcases hb with hb | hb <;> cases hb
  · rw [ha]
    rcases hb with hb | hb
    · rw [hb]
      exact if_pos hd
    · rw [hb]
      exact if_pos hd
theorem dat_eT [Ev e n] (xs : List α) (st : Sto) : dat st (eT e xs) = some (.tuple (toPs (xs.map e))) := by
  rw [dat_P (Ev.p xs)]
  unfold eT
  rw [toP]
theorem dat_eL [Ev e n] (xs : List α) (st : Sto) : dat st (eL e xs) = some (.list (toPs (xs.map e))) := by
  rw [dat_P (Ev.p xs)]
  unfold eL
  rw [toP]
theorem t_inT [Ev e n] (x : α) (xs : List α) (h : n ≤ 64) (st : Sto) : pIn st (e x) (eT e xs) = some (.bl (decide (x ∈ xs))) := by
  unfold pIn
  rw [inD_seq (dat_P (Ev.p x)) (.inr (dat_eT xs st)) (Nat.le_trans (Ev.dep (e := e) x) h), any_of] <;> rfl
theorem t_inL [Ev e n] (x : α) (xs : List α) (h : n ≤ 64) (st : Sto) : pIn st (e x) (eL e xs) = some (.bl (decide (x ∈ xs))) := by
  unfold pIn
  rw [inD_seq (dat_P (Ev.p x)) (.inl (dat_eL xs st)) (Nat.le_trans (Ev.dep (e := e) x) h), any_of] <;> rfl
theorem t_ninT [Ev e n] (x : α) (xs : List α) (h : n ≤ 64) (st : Sto) : pNotIn st (e x) (eT e xs) = some (.bl (!decide (x ∈ xs))) := by
  unfold pNotIn
  rw [inD_seq (dat_P (Ev.p x)) (.inr (dat_eT xs st)) (Nat.le_trans (Ev.dep (e := e) x) h), any_of] <;> rfl
theorem t_ninL [Ev e n] (x : α) (xs : List α) (h : n ≤ 64) (st : Sto) : pNotIn st (e x) (eL e xs) = some (.bl (!decide (x ∈ xs))) := by
  unfold pNotIn
  rw [inD_seq (dat_P (Ev.p x)) (.inl (dat_eL xs st)) (Nat.le_trans (Ev.dep (e := e) x) h), any_of] <;> rfl
end
theorem dr_seq {st : Sto} {l : Nat} {xs : List D} (h : st[l]? = some (.lst xs)) : seqOf st (.ref l) = seqOf st (.lst xs) := by rw [seqOf_ref h, seqOf_lst]
theorem dr_idx1 {st : Sto} {l : Nat} {xs : List D} {b : D} (h : st[l]? = some (.lst xs)) : pIdx st (.ref l) b = pIdx st (.lst xs) b := by
  unfold pIdx
  cases b <;> simp only [dr_seq h]
theorem t_add (a b : Int) (st : Sto) : pAdd st (eI a) (eI b) = some (eI (a + b)) := rfl
theorem t_neg (a : Int) (st : Sto) : pNeg st (eI a) = some (eI (-a)) := rfl
theorem t_lt (a b : Int) (st : Sto) : pLt st (eI a) (eI b) = some (.bl (decide (a < b))) := rfl
def b2z (b : Bool) : Int := if b = true then 1 else 0
theorem t_intB (b : Bool) (st : Sto) : pInt st [eB b] = some (eI (b2z b)) := by cases b <;> rfl
section
variable {α : Type} {e : α → D}
theorem t_lenT (xs : List α) (st : Sto) : pLen st [eT e xs] = some (eI (xs.length : Int)) := by
  show some (D.int ((xs.map e).length : Int)) = _
  rw [List.length_map] <;> rfl
theorem atI_map (xs : List α) (i : Int) : atI (xs.map e) i = (atI xs i).map e := by
  unfold atI
  rw [List.length_map]
  cases ixN xs.length i with
  | none => rfl
  | some j => simp
theorem t_idxT (xs : List α) (i : Int) (x : α) (h : atI xs i = some x) (st : Sto) : pIdx st (eT e xs) (eI i) = some (e x) := by
  show (seqOf st (eT e xs)).bind (fun xs => atI xs i) = _
  show atI (xs.map e) i = _
  rw [atI_map, h] <;> rfl
theorem t_idxL (xs : List α) (i : Int) (x : α) (h : atI xs i = some x) (st : Sto) : pIdx st (eL e xs) (eI i) = some (e x) := by
  show (seqOf st (eL e xs)).bind (fun xs => atI xs i) = _
  show atI (xs.map e) i = _
  rw [atI_map, h] <;> rfl
theorem t_catT (xs ys : List α) (h : xs.length + ys.length ≤ 100000) (st : Sto) : pAdd st (eT e xs) (eT e ys) = some (eT e (xs ++ ys)) := by
  show (if (xs.map e).length + (ys.map e).length ≤ 100000 then some (D.tup (xs.map e ++ ys.map e)) else none) = _
  rw [List.length_map, List.length_map, if_pos h, ← List.map_append] <;> rfl
theorem t_catL (xs ys : List α) (h : xs.length + ys.length ≤ 100000) (st : Sto) : pCat st (eL e xs) (eL e ys) = some ((xs ++ ys).map e) := by
  show (if (xs.map e).length + (ys.map e).length ≤ 100000 then some (xs.map e ++ ys.map e) else none) = _
  rw [List.length_map, List.length_map, if_pos h, ← List.map_append]
theorem map_rep (xs : List α) (k : Nat) : (List.replicate k (xs.map e)).flatten = ((List.replicate k xs).flatten).map e := by
  induction k with
  | zero => rfl
  | succ k ih => rw [List.replicate_succ, List.flatten_cons, ih, List.replicate_succ, List.flatten_cons, List.map_append]
theorem t_repT (xs : List α) (k : Int) (h : xs.length ≤ 1000 ∧ -1000 ≤ k ∧ k ≤ 1000) (st : Sto) : pMul st (eT e xs) (eI k) = some (eT e (List.replicate k.toNat xs).flatten) := by
  show (if (xs.map e).length ≤ 1000 ∧ -1000 ≤ k ∧ k ≤ 1000 then some (D.tup (List.replicate k.toNat (xs.map e)).flatten) else none) = _
  rw [List.length_map, if_pos h, map_rep] <;> rfl
theorem t_repL (xs : List α) (k : Int) (h : xs.length * k.toNat ≤ 100000 ∧ -1000000 ≤ k ∧ k ≤ 1000000) (st : Sto) : pRepL st (eL e xs) (eI k) = some ((List.replicate k.toNat xs).flatten.map e) := by
  show (if (xs.map e).length * k.toNat ≤ 100000 ∧ -1000000 ≤ k ∧ k ≤ 1000000 then some (List.replicate k.toNat (xs.map e)).flatten else none) = _
  rw [List.length_map, if_pos h, map_rep]
theorem t_tupL (xs : List α) (st : Sto) : pTuple st [eL e xs] = some (eT e xs) := rfl
theorem t_any (bs : List Bool) (st : Sto) : pAny st [eL eB bs] = some (eB (bs.any id)) := by
  show ((some (bs.map eB)).bind blOf).map _ = _
  show (blOf (bs.map D.bl)).map _ = _
  rw [blOf_map] <;> rfl
theorem t_isNotO (o : Option α) [Nn e] (st : Sto) : pIsNot st (eO e o) .non = some (.bl o.isSome) := by
  cases o with
  | none => rfl
  | some x =>
    show some (D.bl (!(e x).isNon)) = some (D.bl true)
    have := Nn.nn (e := e) x
    cases h : e x <;> first | rfl | (rw [h] at this; exact absurd rfl this)
theorem cutD_map (xs : List α) (lo hi : Option Int) : cutD (xs.map e) lo hi = (cutD xs lo hi).map e := by
  unfold cutD
  rw [List.length_map, ← List.map_drop, ← List.map_take]
theorem tr_B (b : Bool) (st : Sto) : (eB b).truth st = some b := rfl
end
section
variable {S : Type}
def midx {α : Type} (xs : List α) (i : Int) : Mt S α := mopt (atI xs i)
def mcat {α : Type} (xs ys : List α) : Mt S (List α) := if xs.length + ys.length ≤ 100000 then mpure (xs ++ ys) else mbad
def mrepT {α : Type} (xs : List α) (k : Int) : Mt S (List α) := if xs.length ≤ 1000 ∧ -1000 ≤ k ∧ k ≤ 1000 then mpure (List.replicate k.toNat xs).flatten else mbad
def mrepL {α : Type} (xs : List α) (k : Int) : Mt S (List α) := if xs.length * k.toNat ≤ 100000 ∧ -1000000 ≤ k ∧ k ≤ 1000000 then mpure (List.replicate k.toNat xs).flatten else mbad
def mdisp {α : Type} (xs : List α) : Mt S (List α) := if xs.length ≤ 100000 then mpure xs else mbad
def mapp {α : Type} (xs : List α) (x : α) : Mt S (List α) := if xs.length < 100000 then mpure (xs ++ [x]) else mbad
def rngI (lo hi : Int) : List Int := (List.range (hi - lo).toNat).map fun i : Nat => lo + (i : Int)
noncomputable def mrng (lo hi : Int) : Mt S (List Int) := @ite _ (-(2 ^ 62) ≤ lo ∧ lo < 2 ^ 62 ∧ -(2 ^ 62) ≤ hi ∧ hi < 2 ^ 62) (Classical.propDecidable _) (mpure (rngI lo hi)) mbad
noncomputable def mrngL (lo hi : Int) : Mt S (List Int) := @ite _ (rgOk lo hi) (Classical.propDecidable _) (mpure (rngI lo hi)) mbad
end
theorem rngD_rngI (lo hi : Int) : rngD lo (hi - lo).toNat = (rngI lo hi).map eI := by
  unfold rngD rngI
  rw [List.map_map] <;> rfl
section
variable {S : Type} {W : Wd S} {fr : Sto} {Γ : List Sl}
theorem af_op {p : Sto → D → D → Option D} {d1 d2 : D} {β : Type} {enc : β → D} {b : β} (h : ∀ st, p st d1 d2 = some (enc b)) : AC W fr Γ mNil (fun ds => F2 p (d1 :: d2 :: ds)) (mpure b) enc fun _ => Γ := ac_ret fun st => by
  show lift (p st d1 d2) st = _
  rw [h st] <;> rfl
theorem af_b1 {A β : Type} {p : Sto → List D → Option A} {d1 : D} {enc : β → A} {b : β} (h : ∀ st, p st [d1] = some (enc b)) : AC W fr Γ mNil (fun ds => FB p (d1 :: ds)) (mpure b) enc fun _ => Γ := ac_ret fun st => by
  show lift (p st [d1]) st = _
  rw [h st] <;> rfl
section
variable {α : Type} {e : α → D}
theorem af_idxT (xs : List α) (i : Int) : AC W fr Γ mNil (fun ds => F2 pIdx (eT e xs :: eI i :: ds)) (midx xs i) e fun _ => Γ := ac_opt fun b h st => by
  show lift (pIdx st (eT e xs) (eI i)) st = _
  rw [t_idxT xs i b h] <;> rfl
theorem af_idxL (xs : List α) (i : Int) : AC W fr Γ mNil (fun ds => F2 pIdx (eL e xs :: eI i :: ds)) (midx xs i) e fun _ => Γ := ac_opt fun b h st => by
  show lift (pIdx st (eL e xs) (eI i)) st = _
  rw [t_idxL xs i b h] <;> rfl
theorem af_catT (xs ys : List α) : AC W fr Γ mNil (fun ds => F2 pAdd (eT e xs :: eT e ys :: ds)) (mcat xs ys) (eT e) fun _ => Γ := ac_if fun h st => by
  show lift (pAdd st (eT e xs) (eT e ys)) st = _
  rw [t_catT xs ys h] <;> rfl
theorem af_catL (xs ys : List α) : AC W fr Γ mNil (fun ds => F2L pCat (eL e xs :: eL e ys :: ds)) (mcat xs ys) (fun zs => zs.map e) fun _ => Γ := ac_if fun h st => by
  show lift (pCat st (eL e xs) (eL e ys)) st = _
  rw [t_catL xs ys h] <;> rfl
theorem af_repT (xs : List α) (k : Int) : AC W fr Γ mNil (fun ds => F2 pMul (eT e xs :: eI k :: ds)) (mrepT xs k) (eT e) fun _ => Γ := ac_if fun h st => by
  show lift (pMul st (eT e xs) (eI k)) st = _
  rw [t_repT xs k h] <;> rfl
theorem af_repL (xs : List α) (k : Int) : AC W fr Γ mNil (fun ds => F2L pRepL (eL e xs :: eI k :: ds)) (mrepL xs k) (fun zs => zs.map e) fun _ => Γ := ac_if fun h st => by
  show lift (pRepL st (eL e xs) (eI k)) st = _
  rw [t_repL xs k h] <;> rfl
end
section
variable {α : Type} {e : α → D} {m : Rho → M D} {l h : Rho → M (Option Int)}
theorem hv_slL {xs : List α} {lo hi : Option Int} (hm : HV W fr Γ m (eL e xs)) (hl : HV W fr Γ l lo) (hh : HV W fr Γ h hi) : HV W fr Γ (lSlL m l h) ((cutD xs lo hi).map e) := fun s ρ st H => by
  unfold lSlL
  rw [hm s ρ st H, Out.bind_ok, hl s ρ st H, Out.bind_ok, hh s ρ st H, Out.bind_ok]
  show Out.ok (cutD (xs.map e) lo hi) st = _
  rw [cutD_map]
theorem hv_revL {xs : List α} (hm : HV W fr Γ m (eL e xs)) : HV W fr Γ (lRevL m) (xs.reverse.map e) := fun s ρ st H => by
  unfold lRevL
  rw [hm s ρ st H, Out.bind_ok]
  show Out.ok (xs.map e).reverse st = _
  rw [← List.map_reverse]
end
end
end Dn
namespace Dn
open PySem PySem.Spec PyProof.Rows L2
def lexB {α : Type} [DecidableEq α] (lt : α → α → Bool) : List α → List α → Bool
  | _, [] => false
  | [], _ :: _ => true
  | x :: xs, y :: ys => if x = y then lexB lt xs ys else lt x y
class Or {α : Type} [DecidableEq α] (e : α → D) (lt : outParam (α → α → Bool)) : Prop where
  al : ∀ x y, PySem.W.alike (toP (e x)) (toP (e y)) = true
  lt : ∀ x y, PySem.W.dataLt (toP (e x)) (toP (e y)) = lt x y
def ltI (a b : Int) : Bool := decide (a < b)
def ltS (a b : Str) : Bool := decide (a.cps.toList < b.cps.toList)
instance : Or eI ltI := ⟨fun _ _ => rfl, fun x y => PySem.W.dataLt_int x y⟩
instance : Or eS ltS := ⟨fun _ _ => rfl, fun x y => PySem.W.dataLt_str x y⟩
theorem alikeAll_of {α : Type} {e : α → D} (h : ∀ x y, PySem.W.alike (toP (e x)) (toP (e y)) = true) : ∀ xs ys : List α, PySem.W.alikeAll (toPs (xs.map e)) (toPs (ys.map e)) = true
  | [], ys => by rw [List.map_nil, toPs, PySem.W.alikeAll]
  | x :: xs, [] => by rw [List.map_nil, List.map_cons, toPs, toPs, PySem.W.alikeAll]
  | x :: xs, y :: ys => by rw [List.map_cons, List.map_cons, toPs, toPs, PySem.W.alikeAll, h x y, alikeAll_of h xs ys] <;> rfl
theorem ltAll_of {α : Type} [DecidableEq α] {e : α → D} {n : Nat} [Ev e n] {lt : α → α → Bool} (ha : ∀ x y, PySem.W.alike (toP (e x)) (toP (e y)) = true) (hl : ∀ x y, PySem.W.dataLt (toP (e x)) (toP (e y)) = lt x y) :
    ∀ xs ys : List α, PyProof.Rows.lexLt itemOrd (PySem.W.keyToksAll (toPs (xs.map e))) (PySem.W.keyToksAll (toPs (ys.map e))) = lexB lt xs ys
  | [], [] => rfl
  | [], y :: ys => rfl
  | x :: xs, [] => rfl
  | x :: xs, y :: ys => by
    rw [List.map_cons, List.map_cons, toPs, toPs]
    unfold lexB
    by_cases h : x = y
    · rw [if_pos h, PySem.W.dataLt_all_yes (ha x y) (by rw [Ev.eq, decide_eq_true h]), ltAll_of ha hl xs ys]
    · rw [if_neg h, PySem.W.dataLt_all_no (ha x y) (by rw [Ev.eq, decide_eq_false h]), hl]
instance {α : Type} [DecidableEq α] {e : α → D} {n : Nat} {lt : α → α → Bool} [Ev e n] [Or e lt] : Or (eT e) (lexB lt) := ⟨fun xs ys => by
  unfold eT
  rw [toP, toP, PySem.W.alike]
  exact alikeAll_of (Or.al (e := e)) xs ys, fun xs ys => by
  unfold eT
  rw [toP, toP, PySem.W.dataLt_tuple]
  exact ltAll_of (Or.al (e := e)) (Or.lt (e := e)) xs ys⟩
class Sb {α : Type} (e : α → D) : Prop where
  sb : (∀ x, ∃ xs, toP (e x) = .tuple xs) ∨ ∀ x, toP (e x) ≠ .none ∧ ∀ xs, toP (e x) ≠ .tuple xs
instance : Sb eI := ⟨.inr fun _ => ⟨(fun h => nomatch h), fun _ h => nomatch h⟩⟩
instance : Sb eS := ⟨.inr fun _ => ⟨(fun h => nomatch h), fun _ h => nomatch h⟩⟩
instance {α : Type} {e : α → D} : Sb (eT e) := ⟨.inl fun xs => ⟨_, by unfold eT; rw [toP]⟩⟩
section
variable {S : Type}
def leOf {α : Type} (lt : α → α → Bool) (a b : α) : Bool := !lt b a
def msort {α : Type} (lt : α → α → Bool) (xs : List α) : Mt S (List α) := if xs.length ≤ 100000 then mpure (xs.mergeSort (leOf lt)) else mbad
theorem t_sorted {α : Type} [DecidableEq α] {e : α → D} {n : Nat} {lt : α → α → Bool} [Ev e n] [Or e lt] [Sb e] (hn : n ≤ 50) (xs : List α) (h : xs.length ≤ 100000) {d : D} {st : Sto} (hd : seqOf st d = some (xs.map e)) : pSorted st [d] = some ((xs.mergeSort (leOf lt)).map e) := by
  unfold pSorted
  simp only [hd]
  rw [if_pos]
  · congr 1
    unfold sortD
    rw [← List.map_mergeSort (r := leOf lt)]
    intro a _ b _
    show (!lt b a) = !PySem.W.dataLt (toP (e b)) (toP (e a))
    rw [Or.lt]
  · refine ⟨by rw [List.length_map]; exact h, fun x hx => ?_, fun x hx y hy => ?_, ?_⟩
    · obtain ⟨a, _, rfl⟩ := List.mem_map.mp hx
      exact ⟨Ev.p a, Nat.le_trans (Ev.dep (e := e) a) hn⟩
    · rw [List.map_map] at hx hy
      obtain ⟨a, _, rfl⟩ := List.mem_map.mp hx
      obtain ⟨b, _, rfl⟩ := List.mem_map.mp hy
      exact Or.al a b
    · rcases Sb.sb (e := e) with q | q
      · refine .inl fun d hd => ?_
        rw [List.map_map] at hd
        obtain ⟨a, _, rfl⟩ := List.mem_map.mp hd
        exact q a
      · refine .inr fun d hd => ?_
        rw [List.map_map] at hd
        obtain ⟨a, _, rfl⟩ := List.mem_map.mp hd
        exact q a
end
def enumZ {α : Type} (n : Nat) : List α → List (Int × α)
  | [] => []
  | x :: r => ((n : Int), x) :: enumZ (n + 1) r
theorem enumD_map {α : Type} (e : α → D) : ∀ (xs : List α) (n : Nat), enumD n (xs.map e) = (enumZ n xs).map (eP eI e)
  | [], _ => rfl
  | x :: r, n => by rw [List.map_cons, enumD, enumZ, List.map_cons, enumD_map e r] <;> rfl
section
variable {S : Type} {W : Wd S} {fr : Sto} {Γ : List Sl}
section
variable {α β : Type} {e : α → D} {f : β → D} {m m2 : Rho → M D} {q : Mt S (List α)} {q2 : Mt S (List β)} {Γ' : List α → List Sl}
theorem sT (xs : List α) (st : Sto) : srcOf st (eT e xs) = some (eSrc e xs) := rfl
theorem sL (xs : List α) (st : Sto) : srcOf st (eL e xs) = some (eSrc e xs) := rfl
theorem src_seq {en : List α → D} (hs : ∀ xs st, srcOf st (en xs) = some (eSrc e xs)) (h : HT W fr Γ m q en Γ') : HT W fr Γ (iSeq m) q (eSrc e) Γ' := fun s ρ st H => by
  unfold iSeq
  have := OR.bind (f := fun d st1 => lift (srcOf st1 d) st1) (k := mpure) (e' := eSrc e) (Γ'' := Γ') (h s ρ st H) fun xs s1 st1 H1 => by
    refine ⟨st1, ?_, H1⟩
    rw [hs xs st1] <;> rfl
  have e1 : rbind (q s) mpure = q s := congrFun (mbind_ret q) s
  rw [e1] at this
  exact this
theorem src_enum {en : List α → D} (hs : ∀ xs st, srcOf st (en xs) = some (eSrc e xs)) (h : HT W fr Γ m q en fun _ => Γ) : HT W fr Γ (iEnumD m) (mbind q fun xs => mpure (enumZ 0 xs)) (eSrc (eP eI e)) fun _ => Γ := fun s ρ st H => by
  unfold iEnumD
  refine OR.bind (h s ρ st H) fun xs s1 st1 H1 => ?_
  refine ⟨st1, ?_, H1⟩
  rw [hs xs st1, lift_some, Out.bind_ok]
  show Out.ok (⟨enumD 0 (xs.map e), []⟩ : Src) st1 = _
  rw [enumD_map] <;> rfl
end
theorem src_rng1 {m : Rho → M D} {q : Mt S Int} (h : HT W fr Γ m q eI fun _ => Γ) : HT W fr Γ (iRng1D m) (mbind q fun n => mrng 0 n) (eSrc eI) fun _ => Γ := fun s ρ st H => by
  unfold iRng1D
  refine OR.bind (h s ρ st H) fun n s1 st1 H1 => ?_
  unfold mrng
  by_cases hc : -(2 ^ 62) ≤ (0 : Int) ∧ (0 : Int) < 2 ^ 62 ∧ -(2 ^ 62) ≤ n ∧ n < 2 ^ 62
  · rw [if_pos hc]
    refine ⟨st1, ?_, H1⟩
    show lift (rng1 (.int n)) st1 = _
    unfold rng1
    dsimp only
    rw [if_pos hc.2.2, lift_some]
    have := rngD_rngI 0 n
    rw [Int.sub_zero] at this
    rw [this] <;> rfl
  · rw [if_neg hc]; trivial
theorem ht_lstRg {m : Rho → M D} {q : Mt S Int} (h : HT W fr Γ m q eI fun _ => Γ) : HT W fr Γ (lLstRg m) (mbind q fun n => mrngL 0 n) (fun zs => zs.map eI) fun _ => Γ := fun s ρ st H => by
  unfold lLstRg
  refine OR.bind (h s ρ st H) fun b s2 st2 H2 => ?_
  unfold mrngL
  by_cases hc : rgOk 0 b
  · rw [if_pos hc]
    refine ⟨st2, ?_, H2⟩
    show lift (lRange (.int 0) (.int b)) st2 = _
    unfold lRange
    dsimp only
    rw [if_pos hc, rngD_rngI] <;> rfl
  · rw [if_neg hc]; trivial
theorem af_sortL {α : Type} [DecidableEq α] {e : α → D} {n : Nat} {lt : α → α → Bool} [Ev e n] [Or e lt] [Sb e] (hn : n ≤ 50) (xs : List α) : AC W fr Γ mNil (fun ds => FB pSorted (eL e xs :: ds)) (msort lt xs) (fun zs => zs.map e) fun _ => Γ := ac_if fun h st => by
  show lift (pSorted st [eL e xs]) st = _
  rw [t_sorted hn xs h rfl] <;> rfl
def msetS {S : Type} (xs : List Int) : Mt S (List Int) := if xs.length ≤ 1000 ∧ (setI xs).length < 64 then mpure (sortI xs) else mbad
theorem intsOf_eI : ∀ xs : List Int, intsOf (xs.map eI) = some xs
  | [] => rfl
  | x :: xs => by
    show (intsOf (xs.map eI)).map (x :: ·) = _
    rw [intsOf_eI xs] <;> rfl
theorem iT (xs : List Int) (st : Sto) : intsAt st (eT eI xs) = some xs := intsOf_eI xs
theorem ht_sortSet {m : Rho → M D} {q : Mt S (List Int)} {en : List Int → D} (hs : ∀ xs st, intsAt st (en xs) = some xs) (h : HT W fr Γ m q en fun _ => Γ) : HT W fr Γ (lSortSet m) (mbind q fun xs => msetS xs) (fun zs => zs.map eI) fun _ => Γ := fun s ρ st H => by
  unfold lSortSet
  refine OR.bind (h s ρ st H) fun xs s1 st1 H1 => ?_
  rw [hs xs st1]
  dsimp only
  unfold msetS
  split
  · exact ⟨st1, rfl, H1⟩
  · trivial
section
variable {α : Type} {e : α → D} {i : Nat} {xs : List α}
theorem onL_ref {st : Sto} {l : Nat} {ys : List D} {f : Nat → List D → Out D} (h : st[l]? = some (.lst ys)) : onL st (.ref l) f = f l ys := by
  unfold onL
  dsimp only
  rw [h]
theorem isTy_ref {st : Sto} {l : Nat} {ys : List D} (h : st[l]? = some (.lst ys)) : (D.ref l).isTy st "list" := ⟨rfl, ys, h⟩
theorem mMeth_one {p : D → List D → M D} {m : Rho → M D} {ρ : Rho} {st st1 : Sto} {l : Nat} {d : D} {ys : List D} (h1 : ρ[i]? = some (some (.ref l))) (h2 : st[l]? = some (.lst ys)) (h3 : m ρ st = .ok d st1) : mMeth "list" p (mVar i) (mCons m mNil) ρ st = nox (p (.ref l) [d] st1) := by
  have e1 : mVar i ρ st = .ok (.ref l) st := by unfold mVar; rw [h1]
  unfold mMeth
  rw [e1, Out.bind_ok, if_pos (isTy_ref h2)]
  unfold mCons mNil
  rw [h3] <;> rfl
theorem ht_append {m : Rho → M D} {q : Mt S α} (hi : Γ[i]? = some (.mut (.lst (xs.map e)))) (h : HT W fr Γ m q e fun _ => Γ) :
    HT W fr Γ (mMeth "list" pAppend (mVar i) (mCons m mNil)) (mbind q fun x => mapp xs x) (fun _ => .non) fun ys => Γ.set i (.mut (.lst (ys.map e))) := fun s ρ st H => by
  obtain ⟨l, q1, q2, q3⟩ := H.mt i _ hi
  have h1 := h s ρ st H
  show OR W fr _ ρ _ _ (rbind (q s) _)
  revert h1
  induction (q s) with
  | ok x s1 =>
    rintro ⟨st1, e1, H1⟩
    rw [mMeth_one q1 q3 e1]
    obtain ⟨l', p1, p2, p3⟩ := H1.mt i _ hi
    rw [q1] at p1
    injection p1 with p1
    injection p1 with p1
    injection p1 with p1
    subst p1
    show OR W fr _ ρ _ _ (mapp xs x s1)
    unfold mapp
    by_cases hl : xs.length < 100000
    · rw [if_pos hl]
      refine ⟨st1.set l (.lst ((xs ++ [x]).map e)), ?_, H1.write _ hi q1⟩
      unfold pAppend
      rw [onL_ref p3]
      dsimp only
      rw [List.length_map, if_pos (show xs.length < SZ from hl)]
      simp
    · rw [if_neg hl]; trivial
  | exc x s1 =>
    rintro ⟨st1, e1, H1⟩
    refine ⟨st1, ?_, H1⟩
    have e1' : mVar i ρ st = .ok (.ref l) st := by unfold mVar; rw [q1]
    unfold mMeth
    rw [e1', Out.bind_ok, if_pos (isTy_ref q3)]
    unfold mCons
    rw [e1] <;> rfl
  | bad => intro _; trivial
  | amb P_ f_ ih_ => rintro ⟨n_, p_, h_⟩; exact ⟨n_, p_, ih_ n_ h_⟩
theorem ht_extend {m : Rho → M D} {q : Mt S (List α)} (hi : Γ[i]? = some (.mut (.lst (xs.map e)))) (h : HT W fr Γ m q (eL e) fun _ => Γ) :
    HT W fr Γ (mMeth "list" pExtend (mVar i) (mCons m mNil)) (mbind q fun ys => mcat xs ys) (fun _ => .non) fun ys => Γ.set i (.mut (.lst (ys.map e))) := fun s ρ st H => by
  obtain ⟨l, q1, q2, q3⟩ := H.mt i _ hi
  have h1 := h s ρ st H
  show OR W fr _ ρ _ _ (rbind (q s) _)
  revert h1
  induction (q s) with
  | ok ys s1 =>
    rintro ⟨st1, e1, H1⟩
    rw [mMeth_one q1 q3 e1]
    obtain ⟨l', p1, p2, p3⟩ := H1.mt i _ hi
    rw [q1] at p1
    injection p1 with p1
    injection p1 with p1
    injection p1 with p1
    subst p1
    show OR W fr _ ρ _ _ (mcat xs ys s1)
    unfold mcat
    by_cases hl : xs.length + ys.length ≤ 100000
    · rw [if_pos hl]
      refine ⟨st1.set l (.lst ((xs ++ ys).map e)), ?_, H1.write _ hi q1⟩
      unfold pExtend
      rw [onL_ref p3]
      show nox (if (xs.map e).length + (ys.map e).length ≤ SZ then _ else _) = _
      rw [List.length_map, List.length_map, if_pos (show xs.length + ys.length ≤ SZ from hl), ← List.map_append] <;> rfl
    · rw [if_neg hl]; trivial
  | exc x s1 =>
    rintro ⟨st1, e1, H1⟩
    refine ⟨st1, ?_, H1⟩
    have e1' : mVar i ρ st = .ok (.ref l) st := by unfold mVar; rw [q1]
    unfold mMeth
    rw [e1', Out.bind_ok, if_pos (isTy_ref q3)]
    unfold mCons
    rw [e1] <;> rfl
  | bad => intro _; trivial
  | amb P_ f_ ih_ => rintro ⟨n_, p_, h_⟩; exact ⟨n_, p_, ih_ n_ h_⟩
end
end
end Dn
namespace Dn
open PySem PySem.Spec PyProof.Rows L2
section
variable {S : Type} {W : Wd S} {fr : Sto} {Γ Γ1 Γ2 : List Sl}
theorem ht_conv {β γ : Type} {m : Rho → M D} {q : Mt S β} {e : β → D} {e2 : γ → D} {f : β → γ} (h : HT W fr Γ m q e fun _ => Γ) (he : ∀ x, e x = e2 (f x)) : HT W fr Γ m (mbind q fun x => mpure (f x)) e2 fun _ => Γ := fun s ρ st H => by
  have := h s ρ st H
  show OR W fr _ ρ _ _ (rbind (q s) _)
  revert this
  induction (q s) with
  | ok b s' => rintro ⟨st', e1, h2⟩; exact ⟨st', by rw [e1, he], h2⟩
  | exc x s' => exact id
  | bad => exact id
  | amb P_ f_ ih_ => rintro ⟨n_, p_, h_⟩; exact ⟨n_, p_, ih_ n_ h_⟩
theorem af_tupE {α : Type} {e : α → D} {F : List D → M D} (xs : List α) (h : F [] = FTup (xs.map e)) : AC W fr Γ mNil F (mdisp xs) (eT e) fun _ => Γ := ac_if fun hl st => by
  rw [h]
  unfold FTup
  rw [List.length_map, if_pos hl] <;> rfl
theorem af_dispE {α : Type} {e : α → D} {F : List D → M (List D)} (xs : List α) (h : F [] = FDisp (xs.map e)) : AC W fr Γ mNil F (mdisp xs) (fun zs => zs.map e) fun _ => Γ := ac_if fun hl st => by
  rw [h]
  unfold FDisp
  rw [List.length_map, if_pos hl]
theorem le_c {a b : Nat} (h : Nat.ble a b = true) : a ≤ b := Nat.le_of_ble_eq_true h
theorem lt_c {a b : Nat} (h : Nat.ble (a + 1) b = true) : a < b := Nat.le_of_ble_eq_true h
theorem hv_yes : HV W fr Γ bYes true := fun _ _ _ _ => rfl
theorem tn_skip {σ : Type} {z : σ} {J : σ → List Sl} (w : Wk Γ (J z)) : TN W fr Γ sNext (mpure z) J := fun s ρ st H => ⟨ρ, st, rfl, H.wk w⟩
theorem tl_endF {σ τ β : Type} {m : Rho → Sto → Fl} {q : Mt S (τ ⊕ β)} {J1 : τ → List Sl} {J : σ → List Sl} {enc : β → D} {f : τ → σ} (h : TF W fr Γ m q J1 enc) (w : ∀ z, Wk (J1 z) (J (f z))) : TL W fr Γ m (mfinL q fun z => mpure (.nx (f z))) J enc := fun s ρ st H => by
  have := h s ρ st H
  revert this
  show FR W fr J1 enc _ _ → LR W fr J enc _ (rbind (q s) _)
  induction (q s) with
  | ok z s' =>
    cases z with
    | inl z => rintro ⟨ρ', st', e, h2⟩; exact ⟨ρ', st', .inl e, h2.wk (w z)⟩
    | inr b => exact id
  | exc x s' => exact id
  | bad => exact id
  | amb P_ f_ ih_ => rintro ⟨n_, p_, h_⟩; exact ⟨n_, p_, ih_ n_ h_⟩
theorem mCons_fl {m : Rho → M D} {r : Rho → M (List D)} {F : Rho → List D → Sto → Fl} (ρ : Rho) (st : Sto) : (mCons m r ρ st).fl ρ (F ρ) = (m ρ st).fl ρ fun d st1 => (r ρ st1).fl ρ fun ds st2 => F ρ (d :: ds) st2 := by
  unfold mCons
  cases m ρ st with
  | ok d st1 => simp only [Out.bind_ok, Out.fl_ok]; cases r ρ st1 <;> rfl
  | exc _ _ => rfl
  | bad => rfl
theorem ap_T1 {σ γ : Type} {m : Rho → M D} {r : Rho → M (List D)} {F : Rho → List D → Sto → Fl} {d : D} {q1 : Mt S γ} {e1 : γ → D} {k : γ → Mt S σ} {J : σ → List Sl} (h : HT W fr Γ m q1 e1 fun _ => Γ)
    (hr : ∀ x, AP W fr Γ [(d, .val d), (e1 x, .val (e1 x))] r (fun ρ ds => F ρ (e1 x :: ds)) (k x) J) : AP W fr Γ [(d, .val d)] (mCons m r) F (mbind q1 k) J := fun s ρ st H hρ => by
  rw [mCons_fl]
  refine OR.fl (h s ρ st (H.front hρ)) fun b s1 st1 H1 => hr b s1 ρ st1 ?_ hρ
  have := (H1.snocVal d).snocVal (e1 b)
  simpa using this
end
end Dn
namespace Dn
open PySem PySem.Spec PyProof.Rows L2
section
variable {S α β γ σ : Type}
@[simp] theorem calmly_pure' (a : α) : calmly (mpure a : Mt S α) = mpure a := rfl
@[simp] theorem calmly_bad' : calmly (mbad : Mt S α) = mbad := rfl
@[simp] theorem mfin_inl (z : σ) (k : σ → Mt S β) : mfin (mpure (.inl z)) k = k z := rfl
@[simp] theorem mfin_inr (b : β) (k : σ → Mt S β) : mfin (mpure (.inr b)) k = mpure b := rfl
@[simp] theorem mfinL_inl (z : σ) (k : σ → Mt S (Lp γ β)) : mfinL (mpure (.inl z)) k = k z := rfl
@[simp] theorem mfinL_inr (b : β) (k : σ → Mt S (Lp γ β)) : mfinL (mpure (.inr b)) k = mpure (.rt b) := rfl
theorem forU_inv {body : α → σ → Mt S σ} (xs : List α) (z0 : σ) (f : List α → σ) (h0 : f [] = z0) (hb : ∀ pre x post, xs = pre ++ x :: post → body x (f pre) = mpure (f (pre ++ [x]))) : forU body xs z0 = mpure (f xs) := by
  suffices h : ∀ (post pre : List α), xs = pre ++ post → forU body post (f pre) = mpure (f xs) by
    rw [← h0]
    exact h xs [] rfl
  intro post
  induction post with
  | nil =>
    intro pre e
    rw [List.append_nil] at e
    rw [e] <;> rfl
  | cons x post ih =>
    intro pre e
    unfold forU
    rw [hb pre x post e, mbind_pure]
    exact ih (pre ++ [x]) (by rw [e]; simp)
theorem forX_find {body : α → Unit → Mt S (Lp Unit β)} (p : α → Bool) (b : α → β) : ∀ (xs : List α), (∀ x ∈ xs, body x () = mpure (if p x = true then .rt (b x) else .nx ())) → forX body xs () = mpure (match xs.find? p with
    | some x => .inr (b x)
    | none => .inl ())
  | [], _ => rfl
  | x :: xs, hb => by
    unfold forX
    rw [hb x (by simp), mbind_pure]
    cases h : p x
    · simp only [Bool.false_eq_true, if_false, List.find?_cons, h]
      exact forX_find p b xs fun y hy => hb y (by simp [hy])
    · simp only [if_true, List.find?_cons, h]
theorem compV_ok {c : α → Bool} {f : α → β} {xs : List α} (h : xs.length ≤ 100000) : compV (S := S) c f xs = mpure ((xs.filter c).map f) := if_pos h
theorem mapT_pure {f : α → Mt S β} (g : α → β) : ∀ xs : List α, (∀ x ∈ xs, f x = mpure (g x)) → mapT f xs = mpure (xs.map g)
  | [], _ => rfl
  | x :: xs, h => by
    unfold mapT
    rw [h x (by simp), mbind_pure, mapT_pure g xs fun y hy => h y (by simp [hy]), mbind_pure] <;> rfl
theorem compM_pure {c : α → Bool} {f : α → Mt S β} (g : α → β) {xs : List α} (hl : xs.length ≤ 100000) (h : ∀ x ∈ xs, c x = true → f x = mpure (g x)) : compM c f xs = mpure ((xs.filter c).map g) := by
  unfold compM
  rw [if_pos hl]
  exact mapT_pure g _ fun x hx => h x (List.mem_filter.mp hx).1 (List.mem_filter.mp hx).2
theorem compT_pure {f : α → Mt S (Option β)} (g : α → Option β) : ∀ xs : List α, (∀ x ∈ xs, f x = mpure (g x)) → compT f xs = mpure (xs.filterMap g)
  | [], _ => rfl
  | x :: xs, h => by
    unfold compT
    rw [h x (by simp), mbind_pure, compT_pure g xs fun y hy => h y (by simp [hy]), mbind_pure]
    cases e : g x <;> simp [List.filterMap_cons, e]
theorem compG_pure {c : α → Mt S Bool} {f : α → Mt S β} (p : α → Bool) (g : α → β) {xs : List α} (hl : xs.length ≤ 100000) (hc : ∀ x ∈ xs, c x = mpure (p x)) (hf : ∀ x ∈ xs, p x = true → f x = mpure (g x)) : compG c f xs = mpure ((xs.filter p).map g) := by
  unfold compG
  rw [if_pos hl, compT_pure (fun x => if p x = true then some (g x) else none)]
  · congr 1
    clear hl hc hf
    induction xs with
    | nil => rfl
    | cons x xs ih => cases e : p x <;> simp [List.filterMap_cons, e, ih]
  · intro x hx
    rw [hc x hx, mbind_pure]
    cases e : p x
    · rfl
    · rw [if_pos rfl, if_pos rfl, hf x hx e] <;> rfl
theorem filter_true {α : Type} (xs : List α) : xs.filter (fun _ => true) = xs := by simp
theorem midx_ok {xs : List α} {i : Int} {x : α} (h0 : 0 ≤ i) (h : xs[i.toNat]? = some x) : midx (S := S) xs i = mpure x := by
  have hl := (List.getElem?_eq_some_iff.mp h).1
  have e : ixN xs.length i = some i.toNat := by
    unfold ixN
    rw [if_pos h0, if_pos (by omega)]
  unfold midx atI
  rw [e]
  show mopt xs[i.toNat]? = _
  rw [h] <;> rfl
theorem midx_cons0 (x : α) (xs : List α) : midx (S := S) (x :: xs) 0 = mpure x := midx_ok (by decide) rfl
theorem midx_last {xs : List α} {x : α} (h : xs.getLast? = some x) : midx (S := S) xs (-1) = mpure x := by
  have hne : xs ≠ [] := fun q => by subst q; cases h
  have hl : 0 < xs.length := List.length_pos_iff.mpr hne
  have e : ixN xs.length (-1) = some (xs.length - 1) := by
    unfold ixN
    rw [if_neg (by decide), if_pos (by omega)]
    congr 1
    omega
  unfold midx atI
  rw [e]
  show mopt xs[xs.length - 1]? = _
  rw [← List.getLast?_eq_getElem?, h] <;> rfl
theorem mcat_ok {xs ys : List α} (h : xs.length + ys.length ≤ 100000) : mcat (S := S) xs ys = mpure (xs ++ ys) := if_pos h
theorem mapp_ok {xs : List α} {x : α} (h : xs.length < 100000) : mapp (S := S) xs x = mpure (xs ++ [x]) := if_pos h
theorem mdisp_ok {xs : List α} (h : xs.length ≤ 100000) : mdisp (S := S) xs = mpure xs := if_pos h
theorem msort_ok {lt : α → α → Bool} {xs : List α} (h : xs.length ≤ 100000) : msort (S := S) lt xs = mpure (xs.mergeSort (leOf lt)) := if_pos h
theorem mrepT_ok {x : α} {k : Int} (h0 : 0 ≤ k) (h : k ≤ 1000) : mrepT (S := S) [x] k = mpure (List.replicate k.toNat x) := by
  unfold mrepT
  rw [if_pos ⟨by simp, by omega, h⟩]
  congr 1
  generalize k.toNat = n
  induction n with
  | zero => rfl
  | succ n ih => rw [List.replicate_succ, List.flatten_cons, ih] <;> rfl
def upto (n : Nat) : List Int := (List.range n).map fun i : Nat => (i : Int)
theorem upto_length (n : Nat) : (upto n).length = n := by simp [upto]
theorem mem_upto {n : Nat} {a : Int} : a ∈ upto n ↔ 0 ≤ a ∧ a < n := by
  unfold upto
  simp only [List.mem_map, List.mem_range]
  constructor
  · rintro ⟨i, h, rfl⟩; omega
  · intro ⟨h1, h2⟩; exact ⟨a.toNat, by omega, by omega⟩
theorem rngI_upto (n : Int) : rngI 0 n = upto n.toNat := by
  unfold rngI upto
  rw [Int.sub_zero]
  congr 1
  funext i
  exact Int.zero_add _
theorem mrng_ok {n : Int} (h : n ≤ 1000000000) (h0 : -1000000000 ≤ n) : mrng (S := S) 0 n = mpure (upto n.toNat) := by
  unfold mrng
  have e1 : (2 : Int) ^ 62 = 4611686018427387904 := by decide
  rw [if_pos (by rw [e1]; omega), rngI_upto]
theorem mrng_nat (n : Nat) (h : n ≤ 1000000000) : mrng (S := S) 0 (n : Int) = mpure (upto n) := by rw [mrng_ok (by omega) (by omega), Int.toNat_natCast]
theorem mrngL_ok {n : Int} (h0 : 0 ≤ n) (h : n ≤ 100000) : mrngL (S := S) 0 n = mpure (upto n.toNat) := by
  unfold mrngL
  have e1 : (2 : Int) ^ 62 = 4611686018427387904 := by decide
  have hs : (SZ : Nat) = 100000 := rfl
  rw [if_pos (by unfold rgOk; rw [e1, hs]; omega), rngI_upto]
theorem mrngL_nat (n : Nat) (h : n ≤ 100000) : mrngL (S := S) 0 (n : Int) = mpure (upto n) := by rw [mrngL_ok (by omega) (by omega), Int.toNat_natCast]
theorem enumZ_get : ∀ (xs : List α) (n i : Nat), (enumZ n xs)[i]? = xs[i]?.map fun x => (((n + i : Nat) : Int), x)
  | [], _, _ => by simp [enumZ]
  | x :: xs, n, 0 => by simp [enumZ]
  | x :: xs, n, i + 1 => by
    rw [enumZ, List.getElem?_cons_succ, enumZ_get xs (n + 1) i, List.getElem?_cons_succ]
    rw [show n + 1 + i = n + (i + 1) by omega]
theorem upto_get (n i : Nat) : (upto n)[i]? = if i < n then some (i : Int) else none := by
  unfold upto
  rw [List.getElem?_map]
  by_cases h : i < n
  · rw [List.getElem?_range h, if_pos h] <;> rfl
  · rw [List.getElem?_eq_none (by simpa using h), if_neg h] <;> rfl
theorem enumZ_upto (n : Nat) (w : Int → α) : enumZ 0 ((upto n).map w) = (upto n).map fun i => (i, w i) := by
  apply List.ext_getElem?
  intro i
  rw [enumZ_get, List.getElem?_map, List.getElem?_map, upto_get, Nat.zero_add]
  by_cases h : i < n
  · simp [h]
  · simp [h]
theorem sort_ints (xs : List Int) : xs.mergeSort (leOf ltI) = xs.mergeSort (fun a b => decide (a ≤ b)) := by
  congr 1
  funext a b
  unfold leOf ltI
  by_cases h : b < a
  · have : ¬ a ≤ b := by omega
    simp [h, this]
  · have : a ≤ b := by omega
    simp [h, this]
theorem sort_eq {xs ys : List Int} (hp : xs.Perm ys) (hs : ys.Pairwise (· < ·)) : xs.mergeSort (leOf ltI) = ys := by
  rw [sort_ints]
  have h1 : (xs.mergeSort (fun a b => decide (a ≤ b))).Pairwise (fun a b => decide (a ≤ b) = true) := List.pairwise_mergeSort (by intro a b c; simp; omega) (by intro a b; simp; omega) xs
  have h2 : ys.Pairwise (fun a b => decide (a ≤ b) = true) := hs.imp fun {a b} h => by
    have : a ≤ b := Int.le_of_lt h
    simpa using this
  exact List.Perm.eq_of_pairwise (fun a b _ _ h1 h2 => by simp at h1 h2; omega) h1 h2 ((List.mergeSort_perm _ _).trans hp)
end
end Dn
namespace Dn
open PySem PySem.Spec PyProof.Rows L2
section
variable {S : Type} {W : Wd S} {fr : Sto} {Γ : List Sl}
theorem ht_unopt {α : Type} {m : Rho → M D} {o : Option α} {e : α → D} (h : HV W fr Γ m (eO e o)) : HT W fr Γ m (mopt o) e fun _ => Γ := fun s ρ st H => by
  cases o with
  | none => trivial
  | some x => exact ⟨st, h s ρ st H, H⟩
end
theorem rok_eI {z : Int} (h0 : 0 ≤ z) (h : z < 1000) : ROk 0 0 (eI z) := by
  obtain ⟨n, rfl⟩ : ∃ n : Nat, z = n := ⟨z.toNat, by omega⟩
  exact rok_nI (by omega)
section
variable {α β : Type} {dp bk n : Nat}
theorem rok_eT {e : α → D} {xs : List α} (h : ∀ x ∈ xs, ROk dp bk (e x)) (hn : xs.length ≤ n) : ROk (dp + 1) (n * (bk + 1)) (eT e xs) := by
  refine rok_tup (xs := xs.map e) (fun x hx => ?_) (by rw [List.length_map]; exact hn)
  obtain ⟨a, ha, rfl⟩ := List.mem_map.mp hx
  exact h a ha
theorem rok_eL {e : α → D} {xs : List α} (h : ∀ x ∈ xs, ROk dp bk (e x)) (hn : xs.length ≤ n) : ROk (dp + 1) (n * (bk + 1)) (eL e xs) := by
  refine rok_lst (xs := xs.map e) (fun x hx => ?_) (by rw [List.length_map]; exact hn)
  obtain ⟨a, ha, rfl⟩ := List.mem_map.mp hx
  exact h a ha
theorem rok_row {r : List Int} {m : Nat} (hm : m ≤ 1000) (h : ∀ a ∈ r, 0 ≤ a ∧ a < (m : Int)) (hl : r.length ≤ n) : ROk 1 n (eT eI r) := by
  have := rok_eT (e := eI) (dp := 0) (bk := 0) (fun a ha => rok_eI (h a ha).1 (by have := (h a ha).2; omega)) hl
  simpa using this
end
theorem nodup_len_sub {l m : List Int} (hn : l.Nodup) : (∀ a ∈ l, a ∈ m) → l.length ≤ m.length := by
  induction l generalizing m with
  | nil => intro _; exact Nat.zero_le _
  | cons a l ih =>
    intro h
    have h1 := ih (m := m.erase a) (List.nodup_cons.mp hn).2 fun b hb => (List.mem_erase_of_ne (fun q => (List.nodup_cons.mp hn).1 (by rw [← q]; exact hb))).mpr (h b (by simp [hb]))
    have h2 : a ∈ m := h a (by simp)
    rw [List.length_erase_of_mem h2] at h1
    have := List.length_pos_of_mem h2
    rw [List.length_cons]
    omega
theorem nodup_upto (n : Nat) : (upto n).Nodup := by
  unfold upto
  exact List.Pairwise.map _ (fun _ _ h q => h (by omega)) List.nodup_range
theorem sorted_upto (n : Nat) : (upto n).Pairwise (· < ·) := by
  unfold upto
  exact List.Pairwise.map _ (fun _ _ h => by omega) List.pairwise_lt_range
theorem sortI_perm (xs : List Int) : (sortI xs).Perm (setI xs) := List.mergeSort_perm _ _
theorem mem_sortI {a : Int} {xs : List Int} : a ∈ sortI xs ↔ a ∈ xs := by rw [(sortI_perm xs).mem_iff, mem_setI]
theorem setI_small {xs : List Int} {n : Nat} (h : ∀ a ∈ xs, 0 ≤ a ∧ a < (n : Int)) : (setI xs).length ≤ n := by
  have := nodup_len_sub (m := upto n) (nodup_setI xs) fun a ha => mem_upto.mpr (h a (mem_setI.mp ha))
  rwa [upto_length] at this
theorem msetS_ok {S : Type} {xs : List Int} {n : Nat} (hn : n < 64) (h : ∀ a ∈ xs, 0 ≤ a ∧ a < (n : Int)) (hl : xs.length ≤ 1000) : msetS (S := S) xs = mpure (sortI xs) := by
  unfold msetS
  have := setI_small h
  rw [if_pos ⟨hl, by omega⟩]
theorem sortI_sorted (xs : List Int) : (sortI xs).Pairwise (· < ·) := by
  have hn : (sortI xs).Nodup := (sortI_perm xs).nodup_iff.mpr (nodup_setI xs)
  have h2 := List.pairwise_mergeSort (le := fun a b : Int => decide (a ≤ b)) (by intro a b c; simp; omega) (by intro a b; simp; omega) (setI xs)
  exact (List.Pairwise.and h2 hn).imp fun {a b} h => by
    have h1 : a ≤ b := by simpa using h.1
    have h2 : a ≠ b := h.2
    omega
def rowAt (pan : List (List Int)) (b : Int) : List Int := pan.getD b.toNat []
theorem midx_row {S : Type} {pan : List (List Int)} {b : Int} (h0 : 0 ≤ b) (h : b < pan.length) : midx (S := S) pan b = mpure (rowAt pan b) := by
  have hl : b.toNat < pan.length := by omega
  refine midx_ok h0 ?_
  unfold rowAt
  rw [List.getElem?_eq_getElem hl, List.getD_eq_getElem?_getD, List.getElem?_eq_getElem hl] <;> rfl
theorem midx_getD {S α : Type} {xs : List α} {b : Int} (d : α) (h0 : 0 ≤ b) (h : b < xs.length) : midx (S := S) xs b = mpure (xs.getD b.toNat d) := by
  have hl : b.toNat < xs.length := by omega
  refine midx_ok h0 ?_
  rw [List.getElem?_eq_getElem hl, List.getD_eq_getElem?_getD, List.getElem?_eq_getElem hl] <;> rfl
theorem getD_mem {α : Type} {xs : List α} {b : Int} (d : α) (h0 : 0 ≤ b) (h : b < xs.length) : xs.getD b.toNat d ∈ xs := by
  have hl : b.toNat < xs.length := by omega
  rw [List.getD_eq_getElem?_getD, List.getElem?_eq_getElem hl]
  exact List.getElem_mem hl
structure Pan (K : Nat) (pan : List (List Int)) : Prop where
  pos : 1 ≤ pan.length
  le : pan.length ≤ K
  len : ∀ r ∈ pan, r.length ≤ K
  rng : ∀ r ∈ pan, ∀ a ∈ r, 0 ≤ a ∧ a < (pan.length : Int)
theorem Pan.row {K : Nat} {pan : List (List Int)} (h : Pan K pan) {b : Int} (h0 : 0 ≤ b) (h1 : b < pan.length) : rowAt pan b ∈ pan := getD_mem [] h0 h1
theorem Pan.rok {K : Nat} {pan : List (List Int)} (h : Pan K pan) (hK : K ≤ 1000) : ROk 2 (K * (K + 1)) (eT (eT eI) pan) :=
  rok_eT (fun r hr => rok_row (m := pan.length) (by have := h.le; omega) (h.rng r hr) (h.len r hr)) h.le
def Bel (n : Nat) (r : List Int) : Prop := ∀ a ∈ r, 0 ≤ a ∧ a < (n : Int)
end Dn
namespace Dn
open PySem PySem.Spec PyProof.Rows L2
section
variable {S : Type} {W : Wd S} {fr : Sto} {Γ : List Sl} {α β : Type} {e : α → D} {enc : β → D} {gf : D → Rho → M Rho} {mt : Rho → M Bool} {me : Rho → M D} {vs js : List Nat} {G : α → List Sl} {i : Nat}
end
section
variable {S : Type} {W : Wd S} {fr : Sto} {Γ : List Sl} {α : Type} [DecidableEq α] {e : α → D} {n : Nat}
end
section
variable {S : Type} {W : Wd S} {fr : Sto} {Γ : List Sl} {σ β : Type} {J : σ → List Sl} {enc : β → D} {c : Rho → Sto → Fl}
theorem tl_nextR {q : Mt S (Lp σ β)} (h : TL W fr Γ c q J enc) : TL W fr Γ (sSeq sNext c) q J enc := fun s ρ st H => h s ρ st H
theorem tr_nextR {q : Mt S β} (h : TR W fr Γ c q enc) : TR W fr Γ (sSeq sNext c) q enc := fun s ρ st H => h s ρ st H
end
section
variable {S : Type} {W : Wd S} {fr : Sto} {Γ : List Sl}
end
section
variable {S : Type} {W : Wd S} {fr : Sto} {Γ : List Sl}
end
section
variable {S : Type} {W : Wd S} {fr : Sto} {Γ : List Sl}
end
end Dn
namespace Dn
open PySem PySem.Spec PyProof.Rows L2
end Dn
namespace Dn
open PySem PySem.Spec PyProof.Rows L2
abbrev Kv (α : Type) := List (List Int × α)
section
variable {α : Type}
def eK (kv : Kv α) : List (List Int) := kv.map Prod.fst
def eW (e : α → D) (kv : Kv α) : List D := kv.map fun p => e p.2
def eDc (e : α → D) (kv : Kv α) : D := .fd (eK kv) (eW e kv)
def hasP (kv : Kv α) (k : List Int) : Bool := decide (k ∈ eK kv)
def setP (kv : Kv α) (k : List Int) (x : α) : Kv α := kv.map fun p => (p.1, if p.1 = k then x else p.2)
def putP (kv : Kv α) (k : List Int) (x : α) : Kv α := if k ∈ eK kv then setP kv k x else kv ++ [(k, x)]
def mputD {S : Type} (kv : Kv α) (k : List Int) (x : α) : Mt S (Kv α) := if kv.length ≤ SZ then mpure (putP kv k x) else mbad
theorem keyOf_e (k : List Int) : keyOf (eT eI k) = some k := intsOf_eI k
theorem setK_e (e : α → D) (k : List Int) (x : α) : ∀ kv : Kv α, setK (eK kv) (eW e kv) k (e x) = eW e (setP kv k x)
  | [] => rfl
  | p :: ps => by
    show (if p.1 = k then e x else e p.2) :: setK (eK ps) (eW e ps) k (e x) = e (if p.1 = k then x else p.2) :: eW e (setP ps k x)
    rw [setK_e e k x ps]
    by_cases h : p.1 = k
    · rw [if_pos h, if_pos h]
    · rw [if_neg h, if_neg h]
theorem eK_set (kv : Kv α) (k : List Int) (x : α) : eK (setP kv k x) = eK kv := by
  unfold eK setP
  rw [List.map_map] <;> rfl
theorem putKs_e (kv : Kv α) (k : List Int) (x : α) : putKs (eK kv) k = eK (putP kv k x) := by
  unfold putKs putP
  by_cases h : k ∈ eK kv
  · rw [if_pos h, if_pos h, eK_set]
  · rw [if_neg h, if_neg h]
    show _ = (kv ++ [(k, x)]).map Prod.fst
    rw [List.map_append] <;> rfl
theorem putVs_e (e : α → D) (kv : Kv α) (k : List Int) (x : α) : putVs (eK kv) (eW e kv) k (e x) = eW e (putP kv k x) := by
  unfold putVs putP
  by_cases h : k ∈ eK kv
  · rw [if_pos h, if_pos h, setK_e]
  · rw [if_neg h, if_neg h]
    show _ = (kv ++ [(k, x)]).map fun p => e p.2
    rw [List.map_append] <;> rfl
theorem eK_len (kv : Kv α) : (eK kv).length = kv.length := List.length_map ..
theorem dct_ref {st : Sto} {l : Nat} {ks : List (List Int)} {ds : List D} (h : st[l]? = some (.dct ks ds)) : dctOf st (.ref l) = some (ks, ds) := by
  unfold dctOf
  dsimp only
  rw [h]
theorem low_eW {e : α → D} (he : ∀ x n, (e x).low n = true) (n : Nat) : ∀ kv : Kv α, D.lows n (eW e kv) = true
  | [] => by show D.lows n [] = true; simp only [D.lows]
  | p :: ps => by
    show D.lows n (e p.2 :: eW e ps) = true
    simp only [D.lows, Bool.and_eq_true]
    exact ⟨he _ _, low_eW he n ps⟩
end
class Lo {α : Type} (e : α → D) : Prop where
  lo : ∀ x n, (e x).low n = true
instance (priority := low) {α : Type} {e : α → D} [Pl e] : Lo e := ⟨fun x n => low_of_isP n _ (Pl.p x)⟩
instance {α : Type} {e : α → D} [Lo e] : Lo (eDc e) := ⟨fun x n => by
  unfold eDc
  rw [D.low]
  exact low_eW Lo.lo n x⟩
section
variable {S : Type} {W : Wd S} {fr : Sto} {Γ : List Sl} {α : Type} {e : α → D} {i : Nat} {m mi mk mv : Rho → M D}
theorem ht_ninDM {kv : Kv α} {q : Mt S (List Int)} (h : HT W fr Γ m q (eT eI) fun _ => Γ) (hi : Γ[i]? = some (.mut (.dct (eK kv) (eW e kv)))) : HT W fr Γ (mOp pNotInD m (mVar i)) (mbind q fun k => mpure (!hasP kv k)) eB fun _ => Γ := fun s ρ st H => by
  unfold mOp
  refine OR.bind (h s ρ st H) fun k s1 st1 H1 => ?_
  obtain ⟨l, q1, q2, q3⟩ := H1.mt i _ hi
  have e1 : mVar i ρ st1 = .ok (.ref l) st1 := by unfold mVar; rw [q1]
  rw [e1, Out.bind_ok]
  refine ⟨st1, ?_, H1⟩
  unfold pNotInD
  rw [keyOf_e, dct_ref q3] <;> rfl
theorem tn_dput {kv : Kv α} {q : Mt S α} {qi : Mt S (List Int)} (hi : Γ[i]? = some (.mut (.dct (eK kv) (eW e kv)))) (h : HT W fr Γ m q e fun _ => Γ) (hj : HT W fr Γ mi qi (eT eI) fun _ => Γ) :
    TN W fr Γ (sDPut (mVar i) mi m) (mbind q fun x => mbind qi fun k => mputD kv k x) fun z => Γ.set i (.mut (.dct (eK z) (eW e z))) := fun s ρ st H => by
  refine OR.fl (h s ρ st H) fun x s1 st1 H1 => ?_
  obtain ⟨l, q1, q2, q3⟩ := H1.mt i _ hi
  have e1 : mVar i ρ st1 = .ok (.ref l) st1 := by unfold mVar; rw [q1]
  rw [e1, Out.fl_ok]
  refine OR.fl (hj s1 ρ st1 H1) fun k s2 st2 H2 => ?_
  obtain ⟨l', p1, p2, p3⟩ := H2.mt i _ hi
  rw [q1] at p1
  injection p1 with p1
  injection p1 with p1
  injection p1 with p1
  subst p1
  show NR W fr _ (match st2[l]? with
    | some (.dct ks ds) => match keyOf (eT eI k) with
      | some j => if ks.length ≤ SZ then .next ρ (st2.set l (.dct (putKs ks j) (putVs ks ds j (e x)))) else .bad
      | none => .bad
    | _ => .bad) _
  rw [p3]
  dsimp only
  rw [keyOf_e]
  dsimp only
  rw [eK_len]
  unfold mputD
  by_cases hc : kv.length ≤ SZ
  · rw [if_pos hc, if_pos hc]
    refine ⟨ρ, _, rfl, ?_⟩
    rw [putKs_e kv k x, putVs_e]
    exact H2.write _ hi q1
  · rw [if_neg hc, if_neg hc]
    trivial
theorem ap_NewD {σ : Type} {pd : List (D × Sl)} {r : Rho → M (List D)} {F : Rho → List D → Sto → Fl} {k : List Int} {x : α} {q : Mt S σ} {J : σ → List Sl} (hk : HV W fr Γ mk (eT eI k)) (hv : HV W fr Γ mv (e x))
    (hr : ∀ a, AP W fr Γ (pd ++ [(.ref a, .mut (.dct (eK [(k, x)]) (eW e [(k, x)])))]) r (fun ρ ds => F ρ (.ref a :: ds)) q J) : AP W fr Γ pd (mCons (mNewD1 mk mv) r) F q J := fun s ρ st H hρ => by
  have e1 : (mCons (mNewD1 mk mv) r ρ st).fl ρ (F ρ) = (r ρ (st ++ [.dct [k] [e x]])).fl ρ fun ds st2 => F ρ (.ref st.length :: ds) st2 := by
    unfold mCons mNewD1
    rw [hk s ρ st (H.front hρ), Out.bind_ok, hv s ρ st (H.front hρ), Out.bind_ok, keyOf_e]
    dsimp only
    rw [Out.bind_ok]
    cases r ρ (st ++ [.dct [k] [e x]]) <;> rfl
  rw [e1]
  refine hr st.length s ρ _ ?_ hρ
  have := H.snocNew (.dct [k] [e x])
  rw [List.append_assoc, List.append_assoc] at this
  rw [List.map_append, List.map_append]
  exact this
section
variable {σ β : Type} {enc : β → D} {J : σ → List Sl} {ks : List (List Int)} {xs : List D} {m : Rho → Sto → Fl}
end
end
end Dn
namespace Dn
open PySem PySem.Spec PyProof.Rows L2
def ErrX (K : PySem.W.Frag) (mg : Str → Option Value) (x : Str) : Prop := ∃ C, ErrN K mg x C
section
variable {X : Cx} {x : Xc} {e : D} {a : Addr} {oe : Obj} {pn : List (Addr × Obj)} {i : Nat} {p p2 p3 p4 p5 pos : Pos} {yes no : List Str} {y z ev : Str} {kk : Nat}
end
section
variable {S : Type} {W : Wd S} {fr : Sto} {Γ : List Sl} {β : Type} {enc : β → D}
end
def eQ {α β : Type} (e : α → D) (f : β → D) (z : α × β) : D := .lst [e z.1, f z.2]
instance {α β : Type} {e : α → D} {f : β → D} [Pl e] [Pl f] : Pl (eQ e f) := ⟨fun z => by unfold eQ; simp only [isP, isPs, Pl.p, Bool.and_self]⟩
instance {α β : Type} [DecidableEq α] [DecidableEq β] {e : α → D} {f : β → D} {n m : Nat} [Ev e n] [Ev f m] : Ev (eQ e f) (max n m + 1) := ⟨fun z => by unfold eQ; simp only [isP, isPs, Ev.p, Bool.and_self], fun z => by
  unfold eQ
  have h1 := Ev.dep (e := e) z.1
  have h2 := Ev.dep (e := f) z.2
  simp only [toP, toPs, PyData.depth, PyData.depthAll]
  omega, fun x y => by
  unfold eQ
  simp only [toP, toPs, PyData.eqv, PyData.eqvAll, Ev.eq]
  rw [Bool.eq_iff_iff]
  simp [Prod.ext_iff]⟩
end Dn
namespace Dn
open PySem PySem.Spec PyProof.Rows L2
section
variable {S : Type} {W : Wd S} {fr : Sto} {Γ : List Sl} {α β : Type}
end
inductive CV where
  | two (w : Str) (xs : List Int) | three (w : Str) (b : Int) (ms : List Int)
def eCV : CV → D
  | .two w xs => eP eS (eT eI) (w, xs)
  | .three w b ms => eP3 eS eI (eT eI) (w, b, ms)
def CV.w : CV → Str
  | .two w _ => w
  | .three w _ _ => w
def CV.len : CV → Int
  | .two _ _ => 2
  | .three _ _ _ => 3
instance : Pl eCV := ⟨fun v => by
  cases v with
  | two w xs => exact Pl.p (e := eP eS (eT eI)) (w, xs)
  | three w b ms => exact Pl.p (e := eP3 eS eI (eT eI)) (w, b, ms)⟩
section
variable {S : Type} {W : Wd S} {fr : Sto} {Γ : List Sl}
end
section
variable {S : Type} {W : Wd S} {fr : Sto} {Γ : List Sl} {β γ : Type} {enc : β → D} {enc' : γ → D}
end
section
variable {S : Type} {W : Wd S} {fr : Sto} {Γ : List Sl}
end
end Dn
namespace Dn
open PySem PySem.Spec PyProof.Rows L2
def MaskB (m : Nat) : Prop := m = 7 ∨ m = 31 ∨ m = 127 ∨ m = 511 ∨ m = 2047
theorem inB_way (m : Nat) (h : Int) (k : Nat) : way m h k ≤ m := by
  have hi : SetTable.bits h % (m + 1) < m + 1 := Nat.mod_lt _ (Nat.succ_pos _)
  have r := runEnd_bd (Nat.le_of_lt_succ hi)
  refine Nat.le_trans (Nat.le_add_right _ _) (nth_in k (runAt m (SetTable.bits h % (m + 1)) (SetTable.bits h)) ?_)
  show SetTable.bits h % (m + 1) + (SetTable.runEnd m (SetTable.bits h % (m + 1)) - SetTable.bits h % (m + 1)) ≤ m
  omega
structure TbB (t : SetTable) (hs : List Int) : Prop where
  ris : Ris t.place.toList
  dm : t.dummies = #[]
  len : t.place.toList.length = hs.length
  mask : MaskB t.mask
  bd : ∀ x ∈ t.place.toList, x ≤ t.mask
  met : ∀ q ∈ hs.zip t.place.toList, ∃ k, way t.mask q.1 k = q.2 ∧ ∀ k', k' < k → way t.mask q.1 k' ∈ t.place.toList
theorem zip_cut {α β : Type} {A : List α} {B : List β} (hl : A.length = B.length) {p : Nat} {x : α} {y : β} {q : α × β} (h : q ∈ (A.take p ++ x :: A.drop p).zip (B.take p ++ y :: B.drop p)) : q = (x, y) ∨ q ∈ A.zip B := by
  have e : (A.take p).length = (B.take p).length := by rw [List.length_take, List.length_take, hl]
  have z : A.zip B = (A.take p).zip (B.take p) ++ (A.drop p).zip (B.drop p) := by
    rw [← List.zip_append e, List.take_append_drop, List.take_append_drop]
  rw [List.zip_append e, List.zip_cons_cons, List.mem_append, List.mem_cons] at h
  rw [z, List.mem_append]
  rcases h with h | h | h
  · exact .inr (.inl h)
  · exact .inl h
  · exact .inr (.inr h)
theorem TbB.more {t : SetTable} {hs : List Int} (T : TbB t hs) {h : Int} {K j p : Nat} (ej : way t.mask h K = j) (ep : SetTable.below t.place j = p) (hK : j ∉ t.place.toList) (hb : ∀ k, k < K → way t.mask h k ∈ t.place.toList) :
    (t.put j).2 = p ∧ TbB (t.put j).1 (hs.take p ++ h :: hs.drop p) ∧ (t.put j).1.mask = t.mask ∧ (t.put j).1.led = t.led ∧ (t.put j).1.plain = t.plain := by
  have e1 : (t.put j).1.place.toList = t.place.toList.take p ++ j :: t.place.toList.drop p := by
    rw [put_place, ep]
  have hno : ¬ t.place[SetTable.below t.place j]? = some j := fun z => hK (by rw [← Array.getElem?_toList] at z; exact List.mem_of_getElem? z)
  have old : ∀ x ∈ t.place.toList, x ∈ (t.put j).1.place.toList := fun x hx => by
    rw [e1]
    exact mem_ins.mpr (.inr hx)
  have hpl : p ≤ t.place.toList.length := by
    rw [← ep, Array.length_toList]
    exact (below_cut T.ris j).1
  refine ⟨ep, { ris := ris_insert T.ris hno, dm := put_dm T.dm j, len := ?_, mask := T.mask, bd := fun x hx => ?_, met := fun q hq => ?_ }, rfl, rfl, rfl⟩
  · rw [e1, len_ins _ hpl, len_ins _ (by rw [← T.len]; exact hpl), T.len]
  · rw [e1] at hx
    rcases mem_ins.mp hx with rfl | hx
    · rw [← ej]; exact inB_way _ _ _
    · exact T.bd x hx
  · rw [e1] at hq
    rcases zip_cut T.len.symm hq with rfl | hq
    · exact ⟨K, ej, fun k hk => old _ (hb k hk)⟩
    · obtain ⟨k, a1, a2⟩ := T.met q hq
      exact ⟨k, a1, fun k' hk' => old _ (a2 k' hk')⟩
structure SetB (P : Program) (w : World) (h : Heap) (a : Addr) (L : List (Addr × List Int)) (es : Array (Int × Value)) (ep : Nat) (t : SetTable) : Prop where
  ob : ∃ o, h.get? a = some o ∧ o.ExactSet ∧ o.data = .set es ep t
  rw_ : es.toList = rowsOf P w L
  tb : TbB t (L.map fun p => thash P w p.2)
  once : (L.map (·.2)).Nodup
  tups : ∀ p ∈ L, IsT P w h p.2 p.1
  pv : t.plain = true
  lead : w.params.followText "set-order" = true ∨ t.led = true
  gap : L.length * 5 < t.mask * 3
  lim : L.length < 1200
section
variable {P : Program} {w : World} {A : Around} {E : Value → Shared → Prop} {s : Shared} {a : Addr} {L : List (Addr × List Int)} {es : Array (Int × Value)} {ep : Nat} {t : SetTable}
end
section
variable {P : Program} {w : World} {A : Around} {E : Value → Shared → Prop}
theorem SetB.stay {h h' : Heap} {a : Addr} {L : List (Addr × List Int)} {es : Array (Int × Value)} {ep : Nat} {t : SetTable} (R : SetB P w h a L es ep t) (ha : ∀ o, h.get? a = some o → h'.get? a = some o) (ht : ∀ p ∈ L, IsT P w h' p.2 p.1) : SetB P w h' a L es ep t :=
  { R with ob := by obtain ⟨o, go, r⟩ := R.ob; exact ⟨o, ha o go, r⟩, tups := ht }
end
section
variable {P : Program} {w : World} {A : Around} {E : Value → Shared → Prop} {s : Shared}
end
end Dn
namespace Dn
open PySem PySem.Spec PyProof.Rows L2
section
variable {X : Cx} {W : WX} {a : Expr} {m : Rho → M D} {p p2 q pos : Pos}
end
section
variable {S : Type} {W : Wd S} {fr : Sto} {Γ : List Sl}
end
def inB {α : Type} [DecidableEq α] (x : α) (xs : List α) : Bool := decide (x ∈ xs)
theorem inB_iff {α : Type} [DecidableEq α] {x : α} {xs : List α} : inB x xs = true ↔ x ∈ xs := by unfold inB; simp
section
variable {α : Type} [DecidableEq α] {e : α → D} {n : Nat}
theorem t_inLB [Ev e n] (x : α) (xs : List α) (h : n ≤ 64) (st : Sto) : pIn st (e x) (eL e xs) = some (.bl (inB x xs)) := t_inL x xs h st
theorem t_ninLB [Ev e n] (x : α) (xs : List α) (h : n ≤ 64) (st : Sto) : pNotIn st (e x) (eL e xs) = some (.bl (!inB x xs)) := t_ninL x xs h st
end
section
variable {S : Type} {W : Wd S} {fr : Sto} {Γ : List Sl}
end
section
variable {S : Type} {W : Wd S} {fr : Sto} {Γ : List Sl} {α : Type} [DecidableEq α] {e : α → D} {n : Nat}
end
section
variable {X : Cx} {W : WX} {k : Nat} {y : Str} {body suite : List Stmt} {b₀ : Stmt} {np pos pos' : Pos} {mb : Rho → Sto → Fl}
end
section
variable {X : Cx}
end
section
variable {S : Type} {W : Wd S} {fr : Sto} {Γ : List Sl}
end
section
variable {S : Type} {W : Wd S} {fr : Sto} {Γ : List Sl} {α : Type} {e : α → D}
end
section
variable {P : Program} {w : World} {A : Around} {E : Value → Shared → Prop} {s : Shared}
theorem walk_from {I : Addr} {fp wr : List Addr} {G : Array GenState → Array GenState → Prop} {n k : Nat} {Pv : Nat → Value → Prop} {St : Nat → Shared → Prop} (W : WalksS P w A I fp wr G (k + n) Pv St) :
    WalksS P w A I fp wr G n (fun j => Pv (k + j)) (fun j => St (k + j)) where
  sub := W.sub
  grefl := W.grefl
  gtrans := W.gtrans
  frame := fun j => W.frame (k + j)
  item := fun j s Q E hj => W.item (k + j) s Q E (by omega)
  done := W.done
  self := fun j => W.self (k + j)
theorem items_list {Pv : Nat → Value → Prop} {acc : Array Value} {xs : List Value} (h : ItemsOf Pv acc xs.length) (hp : ∀ j v, Pv j v → xs[j]? = some v) : acc.toList = xs := by
  refine List.ext_getElem? fun j => ?_
  by_cases hj : j < acc.size
  · have e : acc[j]? = some acc[j] := Array.getElem?_eq_getElem hj
    rw [Array.getElem?_toList, e, hp j _ (h.2 j _ e)]
  · have hl := h.1
    rw [Array.getElem?_toList, Array.getElem?_eq_none (by omega), List.getElem?_eq_none (by omega)]
end
section
variable {X : Cx} {pos : Pos}
end
def gS (i : Nat) (gs : List D → Rho → M Rho) : D → Rho → M Rho := fun d ρ st => match d with
  | .tup xs => if i ≤ xs.length then gs (xs.take i ++ [.lst (xs.drop i)]) ρ st else .bad
  | _ => .bad
section
variable {X : Cx} {pos : Pos}
end
section
variable {S : Type} {W : Wd S} {fr : Sto} {Γ Γ1 : List Sl}
end
end Dn
namespace Dn
open PySem PySem.Spec PyProof.Rows L2
section
variable {P : Program} {w : World} {A : Around} {E : Value → Shared → Prop} {s : Shared} {a : Addr} {L : List (Addr × List Int)} {es : Array (Int × Value)} {ep : Nat} {t : SetTable}
end
section
variable {X : Cx} {W : WX} {a b : Expr} {m1 m2 : Rho → M D} {p p2 q q2 pos : Pos}
end
section
variable {S : Type} {W : Wd S} {fr : Sto} {Γ : List Sl}
end
section
variable {S : Type} {W : Wd S} {fr : Sto} {Γ : List Sl}
end
section
variable {S : Type} {W : Wd S} {fr : Sto} {Γ : List Sl}
end
end Dn
namespace Dn
open PySem PySem.Spec PyProof.Rows L2
mutual
def isR : D → Bool
  | .non => true | .bl _ => true | .int _ => true | .str _ => true | .sd _ => true
  | .tup xs => isRs xs | .lst xs => isRs xs
  | .scr _ => false | .ref _ => false | .adr _ => false | .fd _ _ => false | .exo _ _ _ _ => false | .obj _ _ _ => false | .fnv _ => false
def isRs : List D → Bool
  | [] => true
  | d :: ds => isR d && isRs ds
end
mutual
theorem isR_of : ∀ d : D, isP d = true → isR d = true
  | .non, _ => by simp only [isR]
  | .bl _, _ => by simp only [isR]
  | .int _, _ => by simp only [isR]
  | .str _, _ => by simp only [isR]
  | .tup xs, h => by simp only [isR]; exact isRs_of xs (by simpa only [isP] using h)
  | .lst xs, h => by simp only [isR]; exact isRs_of xs (by simpa only [isP] using h)
  | .scr _, h => by simp [isP] at h
  | .ref _, h => by simp [isP] at h
  | .adr _, h => by simp [isP] at h
  | .fd _ _, h => by simp [isP] at h
  | .exo _ _ _ _, h => by simp [isP] at h
  | .obj _ _ _, h => by simp [isP] at h
  | .sd _, h => by simp [isP] at h
  | .fnv _, h => by simp [isP] at h
theorem isRs_of : ∀ ds : List D, isPs ds = true → isRs ds = true
  | [], _ => by simp only [isRs]
  | d :: ds, h => by
    simp only [isPs, Bool.and_eq_true] at h
    simp only [isRs, Bool.and_eq_true]
    exact ⟨isR_of d h.1, isRs_of ds h.2⟩
end
section
variable {X : Cx} {pins : List (Addr × Obj)} {σ : L2.St} {s : Shared} {F H : Hp} {ι : List Addr} {st : Sto}
def oP : Option Int → PyData
  | none => .none
  | some i => .int i
theorem toP_sd (kvs : List (Str × Option Int)) : toP (.sd kvs) = .dict (kvs.map fun p => (.str p.1, oP p.2)) := by
  simp only [toP]
  congr 1
theorem sd_reads {h : Heap} : ∀ {kvs : List (Str × Option Int)} {vs : List (Key × Value)} {es : List DictEntry}, KV (sdK kvs) vs → Pairs (mixKind X.prog X.w) es vs →
    ReadsAll h (es.map (·.key)) (kvs.map fun p => PyData.str p.1) [] ∧ ReadsAll h (es.map (·.val)) (kvs.map fun p => oP p.2) []
  | [], vs, es, r, p => by
    cases r
    cases p
    exact ⟨.nil, .nil⟩
  | (x, o) :: kvs, vs, es, r, p => by
    have r : KV ((Sum.inr x, oV o) :: sdK kvs) vs := r
    cases r with
    | @cons a b as bs h1 t =>
      cases p with
      | @cons e kv es kvs' hk hv hp =>
        obtain ⟨i1, i2⟩ := sd_reads (h := h) t hp
        obtain ⟨e1, e2⟩ := h1
        have hk2 : keyIs b.1 e.key = true := hk
        have hb : b.1 = Sum.inr x := e1.symm
        rw [hb] at hk2
        rcases keyIs_shape hk2 with ⟨i, t, q, _⟩ | ⟨y, t, q, q2⟩
        · cases q
        · cases q
          refine ⟨?_, ?_⟩
          · have := ReadsAll.cons (Reads.str (h := h) x t) i1
            rw [← q2] at this
            exact this
          · have r2 : Reads h e.val (oP o) [] := by
              rw [hv]
              cases o with
              | none =>
                have e3 : b.2 = Value.none := e2
                rw [e3]
                exact .none
              | some i =>
                obtain ⟨t2, e3⟩ := (show ∃ t, b.2 = Value.int i t from e2)
                rw [e3]
                exact .int i t2
            exact ReadsAll.cons r2 i2
theorem sd_at (I : Inv X pins σ H s) (S : Sim X.K F ι st H) {kvs : List (Str × Option Int)} {a : Addr} (q : F a = some (.dK (sdK kvs))) : (a == sysModules) = false ∧ Reads s.heap (.ref a) (toP (.sd kvs)) [a] := by
  obtain ⟨z, hd, vs, rel, o, es, ep, h1, h2, h3, h4, h5, h6⟩ := dk_of I.hok (S.sub _ _ q)
  obtain ⟨i1, i2⟩ := sd_reads (X := X) (h := s.heap) rel h5
  refine ⟨hd, ?_⟩
  rw [toP_sd]
  have := Reads.dict (kvs := kvs.map fun p => (PyData.str p.1, oP p.2)) h1 h2.1 h3 (as := []) (bs := []) (by rw [List.map_map]; exact i1) (by rw [List.map_map]; exact i2)
  exact this
mutual
theorem kR (I : Inv X pins σ H s) (S : Sim X.K F ι st H) : ∀ (d : D) (v : V) (u : Value), isR d = true → Rep X.K F ι d v → RelV v u → (toP d).showable = true → (toP d).shown.length ≤ sizeLine →
    ∃ as, Reads s.heap u (toP d) as ∧ ∃ bs, ReadAtMost s.heap (toP d).depth bs ∧ ReprK X.prog X.w bs s.heap (toP d).depth u (toP d).shown
  | .non, v, u, _, r, rv, hs, hz => by
    simp only [Rep] at r
    subst r
    obtain rfl : u = Value.none := rv
    exact ⟨[], .none, ReprK.of_reads .none hs (fun _ h => nomatch h) hz⟩
  | .bl b, v, u, _, r, rv, hs, hz => by
    simp only [Rep] at r
    subst r
    obtain rfl : u = Value.bool b := rv
    exact ⟨[], .bool b, ReprK.of_reads (.bool b) hs (fun _ h => nomatch h) hz⟩
  | .int i, v, u, _, r, rv, hs, hz => by
    simp only [Rep] at r
    subst r
    obtain ⟨t, rfl⟩ := (show ∃ t, u = Value.int i t from rv)
    exact ⟨[], .int i t, ReprK.of_reads (.int i t) hs (fun _ h => nomatch h) hz⟩
  | .str x, v, u, _, r, rv, hs, hz => by
    simp only [Rep] at r
    subst r
    obtain ⟨t, rfl⟩ := (show ∃ t, u = Value.str x t from rv)
    exact ⟨[], .str x t, ReprK.of_reads (.str x t) hs (fun _ h => nomatch h) hz⟩
  | .sd kvs, v, u, _, r, rv, hs, hz => by
    simp only [Rep] at r
    obtain ⟨a, rfl, q⟩ := r
    obtain rfl : u = Value.ref a := rv
    obtain ⟨hd, rd⟩ := sd_at I S q
    exact ⟨[a], rd, ReprK.of_reads rd hs (fun _ h => by
      rw [List.mem_singleton.mp h] at hd
      simp at hd) hz⟩
  | .tup xs, v, u, p, r, rv, hs, hz => by
    simp only [Rep] at r
    obtain ⟨a, vs, rfl, q, rr⟩ := r
    obtain rfl : u = Value.ref a := rv
    obtain ⟨its, rs, ⟨o, h1, h2, n, h3⟩, _⟩ := I.tuple (S.sqT q)
    simp only [toP] at hs hz ⊢
    have hz' : (tupleText (PyData.shownAll (toPs xs))).length ≤ sizeLine := by simpa only [PyData.shown] using hz
    obtain ⟨as, ra, bs, hb, hk⟩ := ksR I S xs vs its (by simpa only [isR] using p) rr rs (by simpa only [PyData.showable] using hs) fun t ht => Nat.le_trans (tupleText_mem_le ht) hz'
    have rd : Reads s.heap (.ref a) (.tuple (toPs xs)) as := .tuple h1 h2 h3 (by simpa using ra)
    have hna : a ∉ bs := not_mem_of_deeper rd (by simp only [PyData.depth]; omega) hb
    refine ⟨_, rd, a :: bs, ReadAtMost.cons rd (by simp only [PyData.depth]; omega) hb, ?_⟩
    simp only [PyData.depth, PyData.shown]
    exact ReprK.tuple h1 h2 h3 hna (by simpa using hk)
  | .lst xs, v, u, p, r, rv, hs, hz => by
    simp only [Rep] at r
    obtain ⟨a, vs, rfl, q, rr⟩ := r
    obtain rfl : u = Value.ref a := rv
    obtain ⟨its, rs, pl, _⟩ := I.list (SqL.of (S.sub _ _ q))
    obtain ⟨o, h1, h2, n, h3⟩ := pl.isList
    simp only [toP] at hs hz ⊢
    have hz' : (listText (PyData.shownAll (toPs xs))).length ≤ sizeLine := by simpa only [PyData.shown] using hz
    obtain ⟨as, ra, bs, hb, hk⟩ := ksR I S xs vs its (by simpa only [isR] using p) rr rs (by simpa only [PyData.showable] using hs) fun t ht => Nat.le_trans (listText_mem_le ht) hz'
    have rd : Reads s.heap (.ref a) (.list (toPs xs)) (a :: as) := .list h1 h2 h3 (by simpa using ra)
    have hna : a ∉ bs := not_mem_of_deeper rd (by simp only [PyData.depth]; omega) hb
    refine ⟨_, rd, a :: bs, ReadAtMost.cons rd (by simp only [PyData.depth]; omega) hb, ?_⟩
    simp only [PyData.depth, PyData.shown]
    cases its with
    | nil =>
      cases rs
      cases xs with
      | nil =>
        have : listText (PyData.shownAll (toPs [])) = ("[]" : Str) := listText_nil
        rw [this]
        exact ReprK.listEmpty h1 h2 h3
      | cons d ds =>
        simp only [Reps] at rr
        obtain ⟨_, _, e, _⟩ := rr
        cases e
    | cons x l => exact ReprK.list h1 h2 h3 hna (by simpa using hk.length_eq) (fun i y e => hk.item i y (by simpa using e))
  | .scr _, _, _, p, _, _, _, _ => by simp [isR] at p
  | .ref _, _, _, p, _, _, _, _ => by simp [isR] at p
  | .adr _, _, _, p, _, _, _, _ => by simp [isR] at p
  | .fd _ _, _, _, p, _, _, _, _ => by simp [isR] at p
  | .exo _ _ _ _, _, _, p, _, _, _, _ => by simp [isR] at p
  | .obj _ _ _, _, _, p, _, _, _, _ => by simp [isR] at p
  | .fnv _, _, _, p, _, _, _, _ => by simp [isR] at p
theorem ksR (I : Inv X pins σ H s) (S : Sim X.K F ι st H) : ∀ (ds : List D) (vs : List V) (us : List Value), isRs ds = true → Reps X.K F ι ds vs → Vals vs us → PyData.showableAll (toPs ds) = true → (∀ t ∈ PyData.shownAll (toPs ds), t.length ≤ sizeLine) →
    ∃ as, ReadsAll s.heap us (toPs ds) as ∧ ∃ bs, ReadAtMost s.heap (PyData.depthAll (toPs ds)) bs ∧ ReprAllK X.prog X.w bs s.heap (PyData.depthAll (toPs ds)) us (PyData.shownAll (toPs ds))
  | [], vs, us, _, r, rv, _, _ => by
    simp only [Reps] at r
    subst r
    cases rv
    exact ⟨[], .nil, [], (fun _ h => nomatch h), by simp only [toPs, PyData.shownAll]; exact .nil⟩
  | d :: ds, vs, us, p, r, rv, hs, hz => by
    simp only [Reps] at r
    obtain ⟨v, r', rfl, h1, h2⟩ := r
    cases rv with
    | @cons v u vs us hu t =>
      simp only [isRs, Bool.and_eq_true] at p
      simp only [toPs] at hs hz ⊢
      have hs' : (toP d).showable = true ∧ PyData.showableAll (toPs ds) = true := by simpa [PyData.showableAll] using hs
      obtain ⟨a1, r1, b1, hb1, k1⟩ := kR I S d v u p.1 h1 hu hs'.1 (hz _ (by simp only [PyData.shownAll]; exact List.mem_cons_self ..))
      obtain ⟨a2, r2, b2, hb2, k2⟩ := ksR I S ds r' us p.2 h2 t hs'.2 fun x hx => hz x (by simp only [PyData.shownAll]; exact List.mem_cons_of_mem _ hx)
      refine ⟨_, .cons r1 r2, b1 ++ b2, ?_, ?_⟩
      · simp only [PyData.depthAll]
        exact (hb1.mono (Nat.le_max_left _ _)).append (hb2.mono (Nat.le_max_right _ _))
      · simp only [PyData.depthAll, PyData.shownAll]
        exact .cons ((k1.more fun b hb => List.mem_append_left _ hb).level_le (Nat.le_max_left _ _)) (k2.more_le (fun b hb => List.mem_append_right _ hb) (Nat.le_max_right _ _))
end
def richR (d : D) : Option D := if isR d = true ∧ (toP d).depth ≤ 64 ∧ (toP d).showable = true ∧ (toP d).shown.length ≤ sizeLine then some (.str (toP d).shown) else none
def pReprR : Sto → List D → Option D := fun st ds => match pRepr st ds with
  | some d => some d
  | none => match ds with
    | [d] => richR d
    | _ => none
theorem call_pReprR (hg : X.A.guards = some []) (hu : X.A.units + 70 < cLine) : CallR X (.builtin "repr") (rB X.K pReprR) := by
  intro pins s σ H vs us Q I rv ⟨F, ι, st, ds, d, S, ra, e, q⟩
  unfold pReprR at e
  split at e
  · rename_i d1 e1
    cases e
    exact call_pRepr hg hu pins s σ H vs us Q I rv ⟨F, ι, st, ds, d, S, ra, e1, q⟩
  · rename_i e0
    clear e0
    split at e
    · rename_i d'
      unfold richR at e
      split at e
      · rename_i hc
        cases e
        obtain ⟨p, hdep, hs, hz⟩ := hc
        obtain ⟨v, e2, r⟩ := ra.one
        subst e2
        obtain ⟨u, eu, ru⟩ := rv.one
        subst eu
        have hq : ∀ (h' : Heap) (t : Tok) (tk : Nat), (∀ b o, s.heap.get? b = some o → h'.get? b = some o) → EP X pins σ Q (.str (toP d').shown t) { s with heap := h', toks := tk } := fun h' t tk k =>
          ⟨.str (toP d').shown, H, I.kept k, ⟨t, rfl⟩, q F H _ Ext.refl S (by simp only [Rep])⟩
        cases d' with
        | non =>
          simp only [Rep] at r
          subst r
          obtain rfl : u = Value.none := ru
          exact PySem.P.repr_of_none (hq s.heap _ _ fun _ _ h => h)
        | bl b =>
          simp only [Rep] at r
          subst r
          obtain rfl : u = Value.bool b := ru
          exact PySem.P.repr_of_bool (hq s.heap _ _ fun _ _ h => h)
        | int i =>
          simp only [Rep] at r
          subst r
          obtain ⟨t, rfl⟩ := (show ∃ t, u = Value.int i t from ru)
          simp only [toP, PyData.showable, decide_eq_true_eq] at hs
          exact PySem.P.repr_of_int hs (hq s.heap _ _ fun _ _ h => h)
        | str x =>
          simp only [Rep] at r
          subst r
          obtain ⟨t, rfl⟩ := (show ∃ t, u = Value.str x t from ru)
          exact PySem.P.repr_of_str (hq s.heap _ _ fun _ _ h => h) hz
        | sd kvs =>
          simp only [Rep] at r
          obtain ⟨a, rfl, qa⟩ := r
          obtain rfl : u = Value.ref a := ru
          obtain ⟨hd, rd⟩ := sd_at I S qa
          exact repr_of_reads' rd hs (fun _ h => by
            rw [List.mem_singleton.mp h] at hd
            simp at hd) hg (by omega) (fun _ _ h => h) (fun h' t tk k => hq h' t tk k) hz
        | tup xs =>
          simp only [Rep] at r
          obtain ⟨a, vs, rfl, qa, rr⟩ := r
          obtain rfl : u = Value.ref a := ru
          obtain ⟨its, rs, ⟨o, h1, h2, n, h3⟩, _⟩ := I.tuple (S.sqT qa)
          simp only [toP] at hs hz hdep hq
          have hz' : (tupleText (PyData.shownAll (toPs xs))).length ≤ sizeLine := by simpa only [PyData.shown] using hz
          obtain ⟨as, r1, bs, hb, hk⟩ := ksR I S xs vs its (by simpa only [isR] using p) rr rs (by simpa only [PyData.showable] using hs) fun t ht => Nat.le_trans (tupleText_mem_le ht) hz'
          have rd : Reads s.heap (.ref a) (.tuple (toPs xs)) as := .tuple h1 h2 h3 (by simpa using r1)
          have hna : a ∉ bs := not_mem_of_deeper rd (by simp only [PyData.depth]; omega) hb
          simp only [PyData.depth] at hdep
          exact call_repr_slot (by omega) ⟨o, h1, h2⟩ PySem.F.slot_tuple_repr (call_tuple_reprK h1 h2 h3 hna (by simpa using hk) (A := X.A.in1) hg (fun b _ => Clear.nil b) (by show X.A.units + 1 + _ < cLine; omega) (fun _ _ h => h) (fun h' t tk k => ⟨_, _, rfl, hq h' t tk k⟩) hz')
        | lst xs =>
          simp only [Rep] at r
          obtain ⟨a, vs, rfl, qa, rr⟩ := r
          obtain rfl : u = Value.ref a := ru
          obtain ⟨its, rs, pl, _⟩ := I.list (SqL.of (S.sub _ _ qa))
          obtain ⟨o, h1, h2, n, h3⟩ := pl.isList
          simp only [toP] at hs hz hdep hq
          have hz' : (listText (PyData.shownAll (toPs xs))).length ≤ sizeLine := by simpa only [PyData.shown] using hz
          obtain ⟨as, r1, bs, hb, hk⟩ := ksR I S xs vs its (by simpa only [isR] using p) rr rs (by simpa only [PyData.showable] using hs) fun t ht => Nat.le_trans (listText_mem_le ht) hz'
          have rd : Reads s.heap (.ref a) (.list (toPs xs)) (a :: as) := .list h1 h2 h3 (by simpa using r1)
          have hna : a ∉ bs := not_mem_of_deeper rd (by simp only [PyData.depth]; omega) hb
          simp only [PyData.depth] at hdep
          cases its with
          | nil =>
            cases rs
            cases xs with
            | nil =>
              have e0 : (PyData.list (toPs [])).shown = ("[]" : Str) := by
                simp only [toPs, PyData.shown, PyData.shownAll]
                exact listText_nil
              rw [e0] at hq
              exact call_repr_slot (by omega) ⟨o, h1, h2⟩ PySem.F.slot_list_repr.toG (call_list_repr_empty ⟨o, h1, h2⟩ h1 h3 ⟨_, _, rfl, hq s.heap _ _ fun _ _ e => e⟩)
            | cons d ds =>
              simp only [Reps] at rr
              obtain ⟨_, _, e, _⟩ := rr
              cases e
          | cons x l => exact call_repr_slot (by omega) ⟨o, h1, h2⟩ PySem.F.slot_list_repr.toG (call_list_reprK h1 h2 h3 hna (by simpa using hk.length_eq) (fun i y e => hk.item i y (by simpa using e)) (A := X.A.in1) hg (fun b _ => Clear.nil b) (by show X.A.units + 1 + _ < cLine; omega) (fun _ _ h => h) (fun h' t tk k => ⟨_, _, rfl, hq h' t tk k⟩) hz')
        | scr _ => simp [isR] at p
        | ref _ => simp [isR] at p
        | adr _ => simp [isR] at p
        | fd _ _ => simp [isR] at p
        | exo _ _ _ _ => simp [isR] at p
        | obj _ _ _ => simp [isR] at p
        | fnv _ => simp [isR] at p
      · cases e
    · cases e
end
section
variable {S : Type} {W : Wd S} {fr : Sto} {Γ : List Sl}
noncomputable def mreprR {S : Type} (d : D) : Mt S Str := @ite _ (isR d = true ∧ (toP d).depth ≤ 64 ∧ (toP d).showable = true ∧ (toP d).shown.length ≤ sizeLine) (Classical.propDecidable _) (mpure (toP d).shown) mbad
theorem dat_R {st : Sto} {d : D} {p : PyData} (h : isR d = true) (e : dat st d = some p) : p = toP d := by
  unfold dat at e
  split at e
  · simp [isR] at h
  · split at e
    · exact (Option.some.inj e).symm
    · cases e
theorem reprR_at {d : D} (h : isR d = true ∧ (toP d).depth ≤ 64 ∧ (toP d).showable = true ∧ (toP d).shown.length ≤ sizeLine) (st : Sto) : pReprR st [d] = some (.str (toP d).shown) := by
  unfold pReprR
  split
  · rename_i d1 e1
    unfold pRepr at e1
    dsimp only at e1
    cases e2 : dat st d with
    | none => rw [e2] at e1; cases e1
    | some p =>
      rw [e2] at e1
      have e1 : (if SeqAt.shaped p = true ∧ p.showable = true ∧ p.shown.length ≤ sizeLine then some (D.str p.shown) else none) = some d1 := e1
      split at e1
      · rw [← e1, dat_R h.1 e2]
      · cases e1
  · show richR d = _
    exact if_pos h
theorem af_reprR (d : D) : AC W fr Γ mNil (fun ds => FB pReprR (d :: ds)) (mreprR d) eS fun _ => Γ := by
  unfold mreprR
  exact @ac_if _ _ _ _ _ _ _ _ (Classical.propDecidable _) _ _ fun h st => by
    show lift (pReprR st [d]) st = _
    rw [reprR_at h st] <;> rfl
end
structure ROkR (dp bk : Nat) (d : D) : Prop where
  p : isR d = true
  dep : (toP d).depth ≤ dp
  show_ : (toP d).showable = true
  leaf : (toP d).leavesShort 60 = true
  blk : (toP d).bulk ≤ bk
theorem ROk.rich {dp bk : Nat} {d : D} (h : ROk dp bk d) : ROkR dp bk d := ⟨isR_of d h.p, h.dep, h.show_, h.leaf, h.blk⟩
theorem ROkR.mono {dp bk dp' bk' : Nat} {d : D} (h : ROkR dp bk d) (h1 : dp ≤ dp') (h2 : bk ≤ bk') : ROkR dp' bk' d := ⟨h.p, Nat.le_trans h.dep h1, h.show_, h.leaf, Nat.le_trans h.blk h2⟩
theorem mreprR_ok {S : Type} {dp bk : Nat} {d : D} (h : ROkR dp bk d) (h1 : dp ≤ 64) (h2 : bk ≤ 200000) : mreprR (S := S) d = mpure (toP d).shown := by
  have hl := PyData.shown_le_bulk 60 (by decide) (toP d) h.leaf
  have hb := h.blk
  have hs : (toP d).shown.length ≤ sizeLine := by rw [sizeLine_eq]; omega
  unfold mreprR
  rw [if_pos ⟨h.p, Nat.le_trans h.dep h1, h.show_, hs⟩]
section
variable {X : Cx} {W : WX} {pos : Pos}
inductive SdE (X : Cx) : List (Option Expr) → List Expr → List (Str × Option Int) → Prop where
  | nil : SdE X [] [] []
  | cons {k v : Expr} {ks : List (Option Expr)} {vs : List Expr} {x : Str} {o : Option Int} {kvs : List (Str × Option Int)} (hk : PE X k (tC (.str x))) (hv : PE X v (tC (oV o))) (t : SdE X ks vs kvs) : SdE X (some k :: ks) (v :: vs) ((x, o) :: kvs)
end
section
variable {X : Cx} {x : Xc} {e : D} {a : Addr} {oe : Obj} {pn : List (Addr × Obj)} {i : Nat} {p p2 p3 pos : Pos} {yes no : List Str}
def KitT (K : PySem.W.Frag) (n : Str) (T : String) (b : Bool) : Prop := ∀ C, PySem.W.nsIn K mainGlobals n = some (some (.ref C)) → PySem.W.kitOne K (.ref C) (.type T) = some b
end
end Dn
namespace Dn
open PySem PySem.Spec PyProof.Rows L2
def spE (K : PySem.W.Frag) (spec : List D → M D) : Sp := fun vs H Q E => ∃ F ι st ds, Sim K F ι st H ∧ Reps K F ι ds vs ∧ post K (wE E) [] F ι H (pV K) (spec ds st) Q
def RunE (P : Program) (w : World) (K : PySem.W.Frag) (mg : Str → Option Value) (base : Heap) (k : Nat) (f : Addr) (spec : List D → M D) : Prop :=
  ∀ (B : Around) (fr : List Env) (s : Shared) (H : Hp) (us : List Value) (vs : List V) (Q : VK) (E : XK), Room k B → (5 < k → B.guards = some []) → Env0 P w K mg base B fr s H → K.In s.heap → Vals vs us → spE K spec vs H Q E →
    codeAny (model P w) B (.call (.ref f) ⟨us, []⟩) (CR (CXk k P w) fr P w H s Q E) s
section
variable {P : Program} {w : World} {K : PySem.W.Frag} {mg : Str → Option Value} {base : Heap} {k k' : Nat} {f : Addr} {spec : List D → M D}
theorem RunE.mono (h : RunE P w K mg base k f spec) (hk : k ≤ k') : RunE P w K mg base k' f spec := fun B fr s H us vs Q E hr hg e0 KI r q => codeAny_mono (h B fr s H us vs Q E (hr.mono hk) (fun h5 => hg (by omega)) e0 KI r q) fun _ _ z => crk_mono hk z
def padN (j : Nat) (spec : List D → M D) : List D → M D := fun ds st => spec (ds ++ List.replicate j D.non) st
theorem reps_non {F : Hp} {ι : List Addr} : ∀ j : Nat, Reps K F ι (List.replicate j D.non) (List.replicate j V.non)
  | 0 => Reps.nil
  | j + 1 => Reps.cons (by simp only [Rep]) (reps_non j)
theorem runE_pad {fd : FuncData} {ps : List Str} {np j : Nat} {us0 : List Value} (F : FnG P w K mg base k f fd ps (spD K np spec)) (nn : NeedN np spec) (hb : Binds K fd ps us0) (hv : Vals (List.replicate j V.non) us0) : RunE P w K mg base k f (padN j spec) := by
  intro B fr s H us vs Q E hr hg e0 KI r h
  obtain ⟨F0, ι, st, ds, S, rs, q⟩ := h
  by_cases hn : (ds ++ List.replicate j D.non).length = np
  · have hsp : spD K np spec (vs ++ List.replicate j V.non) H Q E := ⟨by rw [← hn, ← (rs.append (reps_non j)).length], F0, ι, st, _, S, rs.append (reps_non j), q⟩
    have hl : (us ++ us0).length = ps.length := by rw [← (r.append hv).length]; exact F.len _ _ _ _ hsp
    exact F.run B fr s H ⟨us, []⟩ (us ++ us0) (vs ++ List.replicate j V.non) Q E hr hg e0 (hb s us KI hl) (r.append hv) hsp
  · have q : post K (wE E) [] F0 ι H (pV K) (spec (ds ++ List.replicate j D.non) st) Q := q
    rw [nn _ _ hn] at q
    exact (q : False).elim
theorem runE_of {fd : FuncData} {ps : List Str} {np : Nat} (F : FnG P w K mg base k f fd ps (spD K np spec)) (nn : NeedN np spec) (hb : Binds K fd ps []) : RunE P w K mg base k f spec := by
  have h := runE_pad (j := 0) F nn hb .nil
  have e : padN 0 spec = spec := by
    funext ds st
    unfold padN
    rw [List.replicate_zero, List.append_nil]
  rwa [e] at h
end
structure FnN (P : Program) (w : World) (K : PySem.W.Frag) (mg : Str → Option Value) (base : Heap) (k : Nat) (x : Str) (spec : List D → M D) : Prop where
  ex : ∃ f : Addr, mg x = some (.ref f) ∧ PySem.W.keepIn K (.ref f) = true ∧ RunE P w K mg base k f spec
theorem FnC.n {P : Program} {w : World} {K : PySem.W.Frag} {mg : Str → Option Value} {base : Heap} {k np : Nat} {x : Str} {spec : List D → M D} (C : FnC P w K mg base k x np spec) (nn : NeedN np spec) : FnN P w K mg base k x spec := by
  obtain ⟨f, fd, ps, F, hm, kp, hb⟩ := C.ex
  exact ⟨f, hm, kp, runE_of F nn hb⟩
section
variable {X : Cx} {W : WX} {k j : Nat} {x : Str} {spec : List D → M D} {p pos : Pos} {e : Expr} {es : List Expr} {am : Rho → M (List D)}
end
def KlsF (K : PySem.W.Frag) (nm f : Str) : Prop := ∃ C, PySem.W.nsIn K mainGlobals nm = some (some (.ref C)) ∧ Cls K C ∧ NoAttr K C f
theorem Kls.f {K : PySem.W.Frag} {mg : Str → Option Value} {nm f : Str} {fs : List Str} (h : Kls K mg nm fs) (hf : f ∈ fs) : KlsF K nm f := let ⟨C, h1, _, h2, h3⟩ := h.ex; ⟨C, h1, h2, h3 f hf⟩
section
variable {X : Cx} {W : WX} {f : Str} {nms : List Str} {e o value : Expr} {m mo mv : Rho → M D} {pos pos' : Pos}
end
abbrev Tbl := List (Str × (List D → M D))
def EntM (P : Program) (w : World) (K : PySem.W.Frag) (mg : Str → Option Value) (base : Heap) (k : Nat) (m n : Str) (spec : List D → M D) : Prop :=
  ∃ C f, PySem.W.nsIn K mainGlobals n = some (some (.ref C)) ∧ Cls K C ∧ Meth K C m f ∧ RunE P w K mg base k f spec
section
variable {P : Program} {w : World} {K : PySem.W.Frag} {mg : Str → Option Value} {base : Heap} {k k' : Nat} {m n : Str} {spec : List D → M D} {t : Tbl}
theorem EntM.mono (h : EntM P w K mg base k m n spec) (hk : k ≤ k') : EntM P w K mg base k' m n spec := let ⟨C, f, a, b, c, d⟩ := h; ⟨C, f, a, b, c, d.mono hk⟩
end
section
variable {X : Cx} {W : WX} {k j : Nat} {m : Str} {t : Tbl} {e o : Expr} {es : List Expr} {mo : Rho → M D} {am : Rho → M (List D)} {pos apos : Pos}
end
end Dn
namespace Dn
open PySem PySem.Spec PyProof.Rows L2
def EntP (P : Program) (w : World) (K : PySem.W.Frag) (mg : Str → Option Value) (base : Heap) (k : Nat) (f n : Str) (spec : List D → M D) : Prop :=
  ∃ C p g, PySem.W.nsIn K mainGlobals n = some (some (.ref C)) ∧ Cls K C ∧ PropOf K C f p g ∧ RunE P w K mg base k g spec
section
variable {P : Program} {w : World} {K : PySem.W.Frag} {mg : Str → Option Value} {base : Heap} {k k' : Nat} {f n : Str} {spec : List D → M D} {t : Tbl}
theorem EntP.mono (h : EntP P w K mg base k f n spec) (hk : k ≤ k') : EntP P w K mg base k' f n spec := let ⟨C, p, g, a, b, c, d⟩ := h; ⟨C, p, g, a, b, c, d.mono hk⟩
end
section
variable {X : Cx} {W : WX} {k j : Nat} {f : Str} {t : Tbl} {e : Expr} {mo : Rho → M D} {pos : Pos} {spec : List D → M D}
end
section
variable {X : Cx} {W : WX} {k j : Nat} {m : Str} {t : Tbl} {e : Expr} {mo : Rho → M D} {p pos : Pos} {spec : List D → M D} {ok : D → Bool}
end
section
variable {K : PySem.W.Frag} {F H : Hp} {ι : List Addr} {st : Sto}
end
structure FnIE (P : Program) (w : World) (K : PySem.W.Frag) (mg : Str → Option Value) (base : Heap) (k : Nat) (nm : Str) (spec : List D → M D) : Prop where
  ex : ∃ C f : Addr, PySem.W.nsIn K mainGlobals nm = some (some (.ref C)) ∧ mg nm = some (.ref C) ∧ Mk K C f ∧ RunE P w K mg base k f spec
theorem FnI.e {P : Program} {w : World} {K : PySem.W.Frag} {mg : Str → Option Value} {base : Heap} {k np : Nat} {nm : Str} {spec : List D → M D} (C : FnI P w K mg base k nm np spec) (nn : NeedN np spec) : FnIE P w K mg base k nm spec := by
  obtain ⟨C, f, fd, ps, hC, hmg, Mk, F, hb⟩ := C.ex
  exact ⟨C, f, hC, hmg, Mk, runE_of F nn hb⟩
section
variable {X : Cx} {W : WX} {k j : Nat} {nm : Str} {spec : List D → M D} {e : Expr} {es : List Expr} {am : Rho → M (List D)} {pos p : Pos}
end
end Dn
namespace Dn
open PySem PySem.Spec PyProof.Rows L2
section
variable {X : Cx} {W : WX}
end
end Dn
namespace Dn
open PySem PySem.Spec PyProof.Rows L2
def eR : Nat → D := .ref
class Dec {α : Type} (e : α → D) where
  dec : D → Option α
  ok : ∀ d a, dec d = some a → d = e a
  full : ∀ a, dec (e a) = some a
instance : Dec eI where
  dec d := match d with | .int i => some i | _ => none
  ok d a h := by
    cases d <;> first | (cases h; rfl) | cases h
  full a := rfl
instance : Dec eB where
  dec d := match d with | .bl i => some i | _ => none
  ok d a h := by
    cases d <;> first | (cases h; rfl) | cases h
  full a := rfl
instance : Dec eS where
  dec d := match d with | .str i => some i | _ => none
  ok d a h := by
    cases d <;> first | (cases h; rfl) | cases h
  full a := rfl
instance : Dec eR where
  dec d := match d with | .ref i => some i | _ => none
  ok d a h := by
    cases d <;> first | (cases h; rfl) | cases h
  full a := rfl
instance : Dec eU where
  dec d := match d with | .non => some () | _ => none
  ok d a h := by
    cases d <;> first | (cases h; rfl) | cases h
  full a := rfl
instance : Dec eD := ⟨some, fun d a h => by cases h; rfl, fun a => rfl⟩
def decs {α : Type} (e : α → D) [Dec e] : List D → Option (List α)
  | [] => some []
  | d :: ds => (Dec.dec e d).bind fun a => (decs e ds).map fun as => a :: as
theorem decs_ok {α : Type} {e : α → D} [Dec e] : ∀ (ds : List D) (as : List α), decs e ds = some as → ds = as.map e
  | [], as, h => by cases h; rfl
  | d :: ds, as, h => by
    unfold decs at h
    cases h1 : Dec.dec e d with
    | none => rw [h1] at h; cases h
    | some a =>
      rw [h1, Option.bind_some] at h
      cases h2 : decs e ds with
      | none => rw [h2] at h; cases h
      | some bs =>
        rw [h2] at h
        cases h
        rw [List.map_cons, ← decs_ok ds bs h2, ← Dec.ok d a h1]
theorem decs_full {α : Type} {e : α → D} [Dec e] : ∀ as : List α, decs e (as.map e) = some as
  | [] => rfl
  | a :: as => by
    rw [List.map_cons]
    unfold decs
    rw [Dec.full, Option.bind_some, decs_full as] <;> rfl
instance {α : Type} {e : α → D} [Dec e] : Dec (eT e) where
  dec d := match d with | .tup ds => decs e ds | _ => none
  ok d a h := by
    cases d <;> first | (have := decs_ok _ _ h; subst this; rfl) | cases h
  full a := decs_full a
instance {α : Type} {e : α → D} [Dec e] : Dec (eL e) where
  dec d := match d with | .lst ds => decs e ds | _ => none
  ok d a h := by
    cases d <;> first | (have := decs_ok _ _ h; subst this; rfl) | cases h
  full a := decs_full a
instance {α β : Type} {e : α → D} {f : β → D} [Dec e] [Dec f] : Dec (eP e f) where
  dec d := match d with | .tup [a, b] => (Dec.dec e a).bind fun x => (Dec.dec f b).map fun y => (x, y) | _ => none
  ok d a h := by
    split at h
    · rename_i x y
      cases h1 : Dec.dec e x with
      | none => rw [h1] at h; cases h
      | some u =>
        rw [h1, Option.bind_some] at h
        cases h2 : Dec.dec f y with
        | none => rw [h2] at h; cases h
        | some v =>
          rw [h2] at h
          cases h
          rw [Dec.ok _ _ h1, Dec.ok _ _ h2]
          rfl
    · cases h
  full a := by
    show (Dec.dec e (e a.1)).bind _ = _
    rw [Dec.full, Option.bind_some, Dec.full]
    rfl
def mdec {S α : Type} (e : α → D) [Dec e] (d : D) : Mt S α := mopt (Dec.dec e d)
def mdecs {S α : Type} (e : α → D) [Dec e] (ds : List D) : Mt S (List α) := mopt (decs e ds)
@[simp] theorem mdec_full {S α : Type} {e : α → D} [Dec e] (a : α) : mdec (S := S) e (e a) = mpure a := by unfold mdec; rw [Dec.full] <;> rfl
@[simp] theorem mdecs_full {S α : Type} {e : α → D} [Dec e] (as : List α) : mdecs (S := S) e (as.map e) = mpure as := by unfold mdecs; rw [decs_full] <;> rfl
section
variable {S : Type} {W : Wd S} {fr : Sto} {Γ : List Sl}
end
structure DkR (A : Type) where
  d0 : A → MO
  d1 : A → MO
  n0 : ∀ a, (d0 a).isIns = false
  n1 : ∀ a, (d1 a).isIns = false
structure OS (A : Type) where
  dk : A
  m : Nat → Option MO
def OS.put {A : Type} (s : OS A) (l : Nat) (o : MO) : OS A := ⟨s.dk, fun k => if k = l then some o else s.m k⟩
def Own (st : Sto) (l : Nat) : Prop := l < 2 ∨ (∃ n fs, st[l]? = some (MO.ins n fs)) ∨ ∃ (k : Nat) (n : Str) (fs : List (Str × D)) (f : Str), st[k]? = some (.ins n fs) ∧ (f, D.ref l) ∈ fs
structure HasO {A : Type} (R : DkR A) (s : OS A) (st : Sto) : Prop where
  a0 : st[0]? = some (R.d0 s.dk)
  a1 : st[1]? = some (R.d1 s.dk)
  at_ : ∀ l o, s.m l = some o → 2 ≤ l ∧ st[l]? = some o ∧ Own st l
  ins : ∀ l n fs, st[l]? = some (.ins n fs) → s.m l ≠ none
  ref : ∀ (k : Nat) n fs f l, st[k]? = some (.ins n fs) → (f, D.ref l) ∈ fs → 2 ≤ l ∧ l < st.length
section
variable {A : Type} {R : DkR A} {s : OS A} {st : Sto}
theorem HasO.len (h : HasO R s st) : 2 ≤ st.length := by have := (List.getElem?_eq_some_iff.mp h.a1).1; omega
theorem HasO.inb (h : HasO R s st) {l : Nat} (o : Own st l) : l < st.length := by
  rcases o with o | ⟨n, fs, o⟩ | ⟨k, n, fs, f, o, i⟩
  · have := h.len; omega
  · exact (List.getElem?_eq_some_iff.mp o).1
  · exact (h.ref k n fs f l o i).2
theorem getApp {g : Sto} {l : Nat} (hg : ∀ m ∈ g, m.isIns = false) {n : Str} {fs : List (Str × D)} (e : (st ++ g)[l]? = some (.ins n fs)) : st[l]? = some (.ins n fs) := by
  by_cases hl : l < st.length
  · rw [List.getElem?_append_left hl] at e; exact e
  · rw [List.getElem?_append_right (by omega)] at e
    have := hg _ (List.mem_of_getElem? e)
    cases this
theorem appGet {g : Sto} {l : Nat} {m : MO} (e : st[l]? = some m) : (st ++ g)[l]? = some m := by
  rw [List.getElem?_append_left (List.getElem?_eq_some_iff.mp e).1]; exact e
theorem Own.app {g : Sto} {l : Nat} (h : Own st l) : Own (st ++ g) l := by
  rcases h with o | ⟨n, fs, o⟩ | ⟨k, n, fs, f, o, i⟩
  · exact .inl o
  · exact .inr (.inl ⟨n, fs, appGet o⟩)
  · exact .inr (.inr ⟨k, n, fs, f, appGet o, i⟩)
theorem Own.unapp {g : Sto} {l : Nat} (hg : ∀ m ∈ g, m.isIns = false) (h : Own (st ++ g) l) : Own st l := by
  rcases h with o | ⟨n, fs, o⟩ | ⟨k, n, fs, f, o, i⟩
  · exact .inl o
  · exact .inr (.inl ⟨n, fs, getApp hg o⟩)
  · exact .inr (.inr ⟨k, n, fs, f, getApp hg o, i⟩)
theorem setNe {l k : Nat} {m : MO} (hm : m.isIns = false) {n : Str} {fs : List (Str × D)} (e : (st.set l m)[k]? = some (.ins n fs)) : st[k]? = some (.ins n fs) := by
  by_cases hk : l = k
  · subst hk
    have hl : l < st.length := by have := (List.getElem?_eq_some_iff.mp e).1; simpa using this
    rw [List.getElem?_set_self hl] at e
    cases e
    cases hm
  · rw [List.getElem?_set_ne hk] at e; exact e
theorem Own.unset {l k : Nat} {m : MO} (hm : m.isIns = false) (h : Own (st.set l m) k) : Own st k := by
  rcases h with o | ⟨n, fs, o⟩ | ⟨k', n, fs, f, o, i⟩
  · exact .inl o
  · exact .inr (.inl ⟨n, fs, setNe hm o⟩)
  · exact .inr (.inr ⟨k', n, fs, f, setNe hm o, i⟩)
theorem nIns {l k : Nat} {m : MO} (no : ∀ n fs, st[l]? ≠ some (.ins n fs)) {n : Str} {fs : List (Str × D)} (e : st[k]? = some (.ins n fs)) : (st.set l m)[k]? = some (.ins n fs) := by
  rw [List.getElem?_set_ne (fun q => no n fs (by rw [q]; exact e))]; exact e
theorem Own.set {l k : Nat} {m : MO} (no : ∀ n fs, st[l]? ≠ some (.ins n fs)) (h : Own st k) : Own (st.set l m) k := by
  rcases h with o | ⟨n, fs, o⟩ | ⟨k', n, fs, f, o, i⟩
  · exact .inl o
  · exact .inr (.inl ⟨n, fs, nIns no o⟩)
  · exact .inr (.inr ⟨k', n, fs, f, nIns no o, i⟩)
theorem HasO.grow (h : HasO R s st) (g : Sto) (hg : ∀ m ∈ g, m.isIns = false) : HasO R s (st ++ g) :=
  ⟨appGet h.a0, appGet h.a1, fun l o e => let ⟨a, b, c⟩ := h.at_ l o e; ⟨a, appGet b, c.app⟩, fun l n fs e => h.ins l n fs (getApp hg e), fun k n fs f l e i => by
    obtain ⟨a, b⟩ := h.ref k n fs f l (getApp hg e) i
    exact ⟨a, by rw [List.length_append]; omega⟩⟩
theorem HasO.set (h : HasO R s st) {l : Nat} (m : MO) (hm : m.isIns = false) (no : ¬ Own st l) : HasO R s (st.set l m) := by
  have ni : ∀ n fs, st[l]? ≠ some (.ins n fs) := fun n fs e => no (.inr (.inl ⟨n, fs, e⟩))
  have l2 : 2 ≤ l := by
    by_cases q : 2 ≤ l
    · exact q
    · exact absurd (Or.inl (by omega)) no
  refine ⟨by rw [List.getElem?_set_ne (by omega)]; exact h.a0, by rw [List.getElem?_set_ne (by omega)]; exact h.a1, fun k o e => ?_, fun k n fs e => h.ins k n fs (setNe hm e), fun k n fs f l' e i => ?_⟩
  · obtain ⟨a, b, c⟩ := h.at_ k o e
    exact ⟨a, by rw [List.getElem?_set_ne (fun q => no (by rw [q]; exact c))]; exact b, c.set ni⟩
  · rw [List.length_set]; exact h.ref k n fs f l' (setNe hm e) i
theorem HasO.take {s0 : OS A} {b : Sto} (h0 : HasO R s0 b) (h : HasO R s st) (t : Tidy b st) : HasO R s (st.take b.length) := by
  have low : ∀ k n fs f l, st[k]? = some (.ins n fs) → (f, D.ref l) ∈ fs → k < b.length ∧ l < b.length := fun k n fs f l e i => by
    have hk : k < b.length := by
      by_cases q : k < b.length
      · exact q
      · have := t.2.2 k _ (by omega) e; cases this
    refine ⟨hk, ?_⟩
    rcases t.2.1 k _ hk e with q | q
    · exact (h0.ref k n fs f l q i).2
    · simp only [MO.low, List.all_eq_true] at q
      have := q _ i
      simp only [D.low, decide_eq_true_eq] at this
      exact this
  have tk : ∀ k (m : MO), k < b.length → st[k]? = some m → (st.take b.length)[k]? = some m := fun k m hk e => by rw [List.getElem?_take_of_lt hk]; exact e
  have un : ∀ k (m : MO), (st.take b.length)[k]? = some m → st[k]? = some m := fun k m e => by
    have hk := (List.getElem?_eq_some_iff.mp e).1
    rw [List.length_take] at hk
    rw [List.getElem?_take_of_lt (by omega)] at e; exact e
  have b2 := h0.len
  refine ⟨tk 0 _ (by omega) h.a0, tk 1 _ (by omega) h.a1, fun l o e => ?_, fun l n fs e => h.ins l n fs (un _ _ e), fun k n fs f l e i => ?_⟩
  · obtain ⟨a, c, d⟩ := h.at_ l o e
    rcases d with d | ⟨n, fs, d⟩ | ⟨k, n, fs, f, d, i⟩
    · omega
    · have hl : l < b.length := by
        by_cases q : l < b.length
        · exact q
        · have := t.2.2 l _ (by omega) d; cases this
      exact ⟨a, tk _ _ hl c, .inr (.inl ⟨n, fs, tk _ _ hl d⟩)⟩
    · obtain ⟨h1, h2⟩ := low k n fs f l d i
      exact ⟨a, tk _ _ h2 c, .inr (.inr ⟨k, n, fs, f, tk _ _ h1 d, i⟩)⟩
  · have z := un _ _ e
    refine ⟨(h.ref k n fs f l z i).1, ?_⟩
    rw [List.length_take]
    have := (low k n fs f l z i).2
    have := (h.ref k n fs f l z i).2
    omega
theorem Own.untake {n l : Nat} (h : Own (st.take n) l) : Own st l := by
  have un : ∀ k (m : MO), (st.take n)[k]? = some m → st[k]? = some m := fun k m e => by
    have hk := (List.getElem?_eq_some_iff.mp e).1
    rw [List.length_take] at hk
    rw [List.getElem?_take_of_lt (by omega)] at e; exact e
  rcases h with o | ⟨n, fs, o⟩ | ⟨k, n, fs, f, o, i⟩
  · exact .inl o
  · exact .inr (.inl ⟨n, fs, un _ _ o⟩)
  · exact .inr (.inr ⟨k, n, fs, f, un _ _ o, i⟩)
end
def WO {A : Type} (R : DkR A) : Wd (OS A) where
  has := HasO R
  own := Own
  inb := fun h o => h.inb o
  grow := fun g hg h => h.grow g hg
  ownG := fun g _ hg _ o => Own.unapp hg o
  set := fun m hm h no => h.set m hm no
  ownS := fun m _ hm _ _ o => Own.unset hm o
  take := fun h0 h t => HasO.take h0 h t
  ownT := fun _ _ _ o => Own.untake o
end Dn
namespace Dn
open PySem PySem.Spec PyProof.Rows L2
section
variable {A : Type} {R : DkR A} {fr : Sto} {Γ : List Sl} {ρ : Rho} {s s' : OS A} {st : Sto}
theorem HasO.put (h : HasO R s st) {l : Nat} {o o' : MO} (e : s.m l = some o) (hi : o.isIns = false) (hi' : o'.isIns = false) : HasO R (s.put l o') (st.set l o') := by
  obtain ⟨l2, b, c⟩ := h.at_ l o e
  have ni : ∀ n fs, st[l]? ≠ some (.ins n fs) := fun n fs q => by rw [b] at q; cases q; cases hi
  have hl := (List.getElem?_eq_some_iff.mp b).1
  refine ⟨by rw [List.getElem?_set_ne (by omega)]; exact h.a0, by rw [List.getElem?_set_ne (by omega)]; exact h.a1, fun k u q => ?_, fun k n fs q => ?_, fun k n fs f l' q i => ?_⟩
  · unfold OS.put at q
    dsimp only at q
    by_cases hk : k = l
    · subst hk
      rw [if_pos rfl] at q
      cases q
      exact ⟨l2, by rw [List.getElem?_set_self hl], c.set ni⟩
    · rw [if_neg hk] at q
      obtain ⟨x, y, z⟩ := h.at_ k u q
      exact ⟨x, by rw [List.getElem?_set_ne (Ne.symm hk)]; exact y, z.set ni⟩
  · unfold OS.put
    dsimp only
    by_cases hk : k = l
    · subst hk; simp
    · rw [if_neg hk]; exact h.ins k n fs (setNe hi' q)
  · rw [List.length_set]; exact h.ref k n fs f l' (setNe hi' q) i
theorem HasO.pre (h : HasO R s st) {l : Nat} {o o' : MO} (e : s.m l = some o) (hi : o.isIns = false) (hi' : o'.isIns = false) : Pre (WO R) st (s.put l o') (st.set l o') :=
  ⟨h.put e hi hi', by rw [List.length_set]; exact Nat.le_refl _, fun k _ no => ⟨fun o => no (o.unset hi'), by
    obtain ⟨_, _, c⟩ := h.at_ l o e
    rw [List.getElem?_set_ne (fun q => no (by rw [← q]; exact c))]⟩⟩
def hcl (n : Str) (l : Nat) : Mt (OS A) Unit := fun s => match s.m l with
  | some (.ins n' fs) => if n' = n then .ok () s else .bad
  | _ => .bad
end
section
variable {A : Type} {R : DkR A} {fr : Sto} {Γ : List Sl} {ρ : Rho} {s s' : OS A} {st : Sto}
theorem HasO.fresh {l : Nat} (h : HasO R s st) (no : ¬ Own st l) : s.m l = none := by
  cases e : s.m l with
  | none => rfl
  | some o => exact absurd (h.at_ l o e).2.2 no
end
end Dn
namespace Dn
open PySem PySem.Spec PyProof.Rows L2
section
variable {S : Type} {W : Wd S} {fr : Sto} {Γ : List Sl}
end
section
variable {A : Type} {R : DkR A} {fr : Sto} {Γ : List Sl}
end
end Dn
namespace Dn
open PySem PySem.Spec PyProof.Rows L2
def RunK (P : Program) (w : World) (K : PySem.W.Frag) (mg : Str → Option Value) (base : Heap) (k : Nat) (nm : Str) (f : Addr) (spec : List D → M D) : Prop :=
  ∀ (B : Around) (fr : List Env) (s : Shared) (H : Hp) (us : List Value) (u : Value) (vs : List V) (Q : VK) (E : XK), Room k B → (5 < k → B.guards = some []) → Env0 P w K mg base B fr s H → K.In s.heap → Vals vs (us ++ [u]) → spE K spec vs H Q E →
    codeAny (model P w) B (.call (.ref f) ⟨us, [(nm, u)]⟩) (CR (CXk k P w) fr P w H s Q E) s
section
variable {P : Program} {w : World} {K : PySem.W.Frag} {mg : Str → Option Value} {base : Heap} {k k' : Nat} {f : Addr} {spec : List D → M D} {nm m n : Str} {t : Tbl}
theorem RunK.mono (h : RunK P w K mg base k nm f spec) (hk : k ≤ k') : RunK P w K mg base k' nm f spec := fun B fr s H us u vs Q E hr hg e0 KI r q => codeAny_mono (h B fr s H us u vs Q E (hr.mono hk) (fun h5 => hg (by omega)) e0 KI r q) fun _ _ z => crk_mono hk z
end
section
variable {X : Cx} {W : WX} {k j : Nat} {m nm : Str} {t : Tbl} {e o ke : Expr} {es : List Expr} {mo mk : Rho → M D} {am : Rho → M (List D)} {pos apos kp : Pos} {spec : List D → M D}
end
section
variable {X : Cx} {x : Xc} {e : D} {a : Addr} {oe : Obj} {pn : List (Addr × Obj)} {i : Nat} {p p2 pos : Pos} {yes no : List Str} {y z u ev : Str} {p3 p4 p5 p6 : Pos} {kk : Nat}
end
end Dn
namespace Dn
open PySem PySem.Spec PyProof.Rows L2
def envK (ρ : Rho) (i : Nat) (e : D) : Rho := ρ.set i (some e)
section
variable {X : Cx} {W : WX} {y n : Str} {i : Nat} {body suite : List Stmt} {b₀ : Stmt} {np pos pos' : Pos} {mb : Rho → Sto → Fl} {mh : Xc → D → Rho → Sto → Fl} {yes no : List Str} {Cy : Addr}
end
structure AgI (i : Nat) (e e' : D) (ρ ρ' : Rho) : Prop where
  l : ρ'.length = ρ.length
  a : ρ[i]? = some (some e)
  b : ρ'[i]? = some (some e')
  o : ∀ j, j ≠ i → ρ'[j]? = ρ[j]?
def AgF (i : Nat) (e e' : D) (r r' : Fl) : Prop := match r, r' with
  | .next ρ st, .next ρ' st' => AgI i e e' ρ ρ' ∧ st = st'
  | .brk ρ st, .brk ρ' st' => AgI i e e' ρ ρ' ∧ st = st'
  | .cnt ρ st, .cnt ρ' st' => AgI i e e' ρ ρ' ∧ st = st'
  | .ret d st, .ret d' st' => d = d' ∧ st = st'
  | .exc _ _ _, .exc _ _ _ => True
  | .bad, .bad => True
  | _, _ => False
def IndS (i : Nat) (m : D → Rho → Sto → Fl) : Prop := ∀ e e' ρ ρ' st, AgI i e e' ρ ρ' → AgF i e e' (m e ρ st) (m e' ρ' st)
section
variable {i j : Nat} {α β : Type}
end
end Dn
namespace Dn
open PySem PySem.Spec PyProof.Rows L2
def KX (mb : Rho → Sto → Fl) : Prop := ∀ ρ st x ρ' st', mb ρ st = .exc x ρ' st' → ρ' = ρ
abbrev keepK : List Sl → List Sl := List.map fun a => match a with | .mut _ => .any | a => a
section
variable {S : Type} {W : Wd S} {fr : Sto} {Γ : List Sl} {σ : Type}
end
section
variable {S : Type} {W : Wd S} {fr : Sto} {α β σ : Type}
end
section
variable {S : Type} {W : Wd S} {fr : Sto} {Γ : List Sl} {β σ : Type}
end
end Dn
namespace Dn
open PySem PySem.Spec PyProof.Rows L2
inductive ClA (X : Cx) (n : Str) : List ExceptHandler → List (Value × (Addr → Value → Option Addr → TS)) → Prop
  | nil : ClA X n [] []
  | cons {x : Str} {c : Value} {ts : Addr → Value → Option Addr → TS} {b₀ : Stmt} {suite : List Stmt} {np pos' : Pos} {hds : List ExceptHandler} {l : List (Value × (Addr → Value → Option Addr → TS))} (hc : Names X x c)
      (hsu : ∀ (a : Addr) (oe : Obj) (cls : Value) (d : Option Addr) (pn : List (Addr × Obj)), Zc cls d oe → (∃ vs, oe.data = .fields vs) → PSs (X.suite a ((a, oe) :: pn)) (b₀ :: suite) (ts a cls d)) (r : ClA X n hds l) :
      ClA X n (.ExceptHandler (some (.Name x np)) (some n) (b₀ :: suite) pos' :: hds) ((c, ts) :: l)
section
variable {X : Cx} {n : Str} {i : Nat} {body : List Stmt} {h₀ : ExceptHandler} {hds : List ExceptHandler} {l : List (Value × (Addr → Value → Option Addr → TS))} {pos : Pos} {tb : WX → TS} {Wout : WX}
end
abbrev Clz := List (List Str × List Str × (Xc → D → Rho → Sto → Fl))
def hdC (i : Nat) (x : Xc) (ρ : Rho) (st : Sto) : Clz → Fl
  | [] => .exc x ρ st
  | (yes, no, mh) :: r => if x.nm ∈ yes then tidyF i (mh x (e0 x) (envK ρ i (e0 x)) st) else if x.nm ∈ no then hdC i x ρ st r else .bad
inductive CLs (X : Cx) (n : Str) (i : Nat) : List ExceptHandler → Clz → Prop
  | nil : CLs X n i [] []
  | cons {y : Str} {suite : List Stmt} {b₀ : Stmt} {np pos' : Pos} {mh : Xc → D → Rho → Sto → Fl} {yes no : List Str} {hds : List ExceptHandler} {cl : Clz} (hg : Gl X y) (T : ErrX X.K X.mg y) (hE1 : ∀ z ∈ yes, ErrX X.K X.mg z) (hE2 : ∀ z ∈ no, ErrX X.K X.mg z) (hyes : ∀ z ∈ yes, ExmB X.K z y true) (hno : ∀ z ∈ no, ExmB X.K z y false)
      (hh : ∀ (x : Xc) (e : D) (a : Addr) (oe : Obj) (pn : List (Addr × Obj)), x.nm ∈ yes → HC X x e a oe → DSs (X.suite a ((a, oe) :: pn)) wN (b₀ :: suite) (mh x e)) (hu : ∀ x, IndS i (mh x)) (r : CLs X n i hds cl) (hdb : (y == ("__debug__" : Str)) = false := by decide) :
      CLs X n i (.ExceptHandler (some (.Name y np)) (some n) (b₀ :: suite) pos' :: hds) ((yes, no, mh) :: cl)
section
variable {X : Cx} {W : WX} {n : Str} {i : Nat} {body : List Stmt} {h₀ : ExceptHandler} {hds : List ExceptHandler} {cl : Clz} {pos : Pos} {mb : Rho → Sto → Fl}
end
end Dn
namespace Dn
open PySem PySem.Spec PyProof.Rows L2
abbrev Clm (S σ : Type) := List (List Str × List Str × (Xc → Mt S σ))
section
variable {S : Type} {W : Wd S} {fr : Sto} {Γ : List Sl} {σ β : Type} {i : Nat}
inductive ClN (W : Wd S) (fr : Sto) (Γ : List Sl) (i : Nat) (J : σ → List Sl) : Clz → Clm S σ → Prop
  | nil : ClN W fr Γ i J [] []
  | cons {yes no : List Str} {mh : Xc → D → Rho → Sto → Fl} {qh : Xc → Mt S σ} {cl : Clz} {cm : Clm S σ} (hh : ∀ x, TN W fr ((keepK Γ).set i (.val (e0 x))) (mh x (e0 x)) (qh x) J) (r : ClN W fr Γ i J cl cm) : ClN W fr Γ i J ((yes, no, mh) :: cl) ((yes, no, qh) :: cm)
inductive ClR (W : Wd S) (fr : Sto) (Γ : List Sl) (i : Nat) (enc : β → D) : Clz → Clm S β → Prop
  | nil : ClR W fr Γ i enc [] []
  | cons {yes no : List Str} {mh : Xc → D → Rho → Sto → Fl} {qh : Xc → Mt S β} {cl : Clz} {cm : Clm S β} (hh : ∀ x, TR W fr ((keepK Γ).set i (.val (e0 x))) (mh x (e0 x)) (qh x) enc) (r : ClR W fr Γ i enc cl cm) : ClR W fr Γ i enc ((yes, no, mh) :: cl) ((yes, no, qh) :: cm)
end
section
variable {X : Cx} {W : WX} {k j : Nat} {m nm : Str} {t : Tbl} {o ke e1 : Expr} {mo mk m1 : Rho → M D} {pos apos kp : Pos}
end
section
variable {i : Nat}
end
section
variable {S : Type} {W : Wd S} {fr : Sto} {Γ : List Sl} {α : Type} {n : Nat}
end
end Dn
namespace Dn
open PySem PySem.Spec PyProof.Rows L2
inductive CK where
  | own (n : Str) | bt (T : String)
inductive KitL (K : PySem.W.Frag) (n : Str) : List CK → Bool → Prop
  | nil : KitL K n [] false
  | own1 {y : Str} {r : List CK} (h : KitB K n y true) : KitL K n (.own y :: r) true
  | own0 {y : Str} {r : List CK} {b : Bool} (h : KitB K n y false) (t : KitL K n r b) : KitL K n (.own y :: r) b
  | bt1 {T : String} {r : List CK} (h : KitT K n T true) : KitL K n (.bt T :: r) true
  | bt0 {T : String} {r : List CK} {b : Bool} (h : KitT K n T false) (t : KitL K n r b) : KitL K n (.bt T :: r) b
inductive CkV (K : PySem.W.Frag) : List CK → List V → List Value → Prop
  | nil : CkV K [] [] []
  | own {y : Str} {C : Addr} {r : List CK} {vs : List V} {us : List Value} (h : PySem.W.nsIn K mainGlobals y = some (some (.ref C))) (t : CkV K r vs us) : CkV K (.own y :: r) (.ref C :: vs) (.ref C :: us)
  | bt {T : String} {r : List CK} {vs : List V} {us : List Value} (t : CkV K r vs us) : CkV K (.bt T :: r) (.ty T :: vs) (.type T :: us)
section
variable {X : Cx} {x : Xc} {e : D} {a : Addr} {oe : Obj} {pn : List (Addr × Obj)} {i : Nat} {p p2 p5 pos : Pos} {yes no : List Str} {kk : Nat}
end
end Dn
namespace Dn
open PySem PySem.Spec PyProof.Rows L2
section
variable {S : Type} {W : Wd S} {fr : Sto} {Γ : List Sl} {α β : Type}
end
section
variable {A : Type} {R : DkR A} {fr : Sto} {Γ : List Sl} {α : Type}
end
end Dn
namespace Dn
open PySem PySem.Spec PyProof.Rows L2
section
variable {S : Type} {W : Wd S} {fr : Sto} {Γ : List Sl} {α σ β : Type} {e : α → D} {gf : D → Rho → M Rho} {mb : Rho → Sto → Fl} {J : σ → List Sl} {G : α → σ → List Sl} {js : List Nat} {i : Nat} {xs : List α} {z0 : σ}
end
section
variable {S : Type} {W : Wd S} {fr : Sto} {Γ : List Sl} {α β : Type} {e : α → D} {enc : β → D} {gf : D → Rho → M Rho} {mt : Rho → M Bool} {me : Rho → M D} {vs js : List Nat} {G : (Int × α) → List Sl} {i : Nat}
end
end Dn
namespace Dn
open PySem PySem.Spec PyProof.Rows L2
inductive GEn (P : Params) : List DictEntry → List (Str × Int) → Prop
  | nil : GEn P [] []
  | cons {h : Int} {x : Str} {i : Int} {t u : Tok} {es : List DictEntry} {kvs : List (Str × Int)} (e : h = PyData.keyHash P x) (r : GEn P es kvs) : GEn P (⟨h, .str x t, .int i u⟩ :: es) ((x, i) :: kvs)
def gdGet : List (Str × Int) → Str → Option Int
  | [], _ => none
  | (x, i) :: r, s => if x = s then some i else gdGet r s
structure GDict (K : PySem.W.Frag) (w : World) (mg : Str → Option Value) (x : Str) (kvs : List (Str × Int)) (d : Addr) : Prop where
  ex : ∃ (es : List DictEntry) (n : Nat), K.lookup d = some ⟨.type "dict", none, .dict es.toArray n, #[]⟩ ∧ GEn w.params es kvs
  low : (d == sysModules) = false
  mg_ : mg x = some (.ref d)
theorem GEn.lit {P : Params} {es : List DictEntry} {kvs : List (Str × Int)} (h : GEn P es kvs) : PySem.W.KeysLit P es := by
  induction h with
  | nil => trivial
  | cons e r ih => exact ⟨⟨_, _, rfl, e⟩, ih⟩
theorem GEn.find {P : Params} {es : List DictEntry} {kvs : List (Str × Int)} (h : GEn P es kvs) (s : Str) : match gdGet kvs s with | some i => ∃ u, (es.find? fun e => Value.isStrOf s e.key).map (·.val) = some (.int i u) | none => (es.find? fun e => Value.isStrOf s e.key).map (·.val) = none := by
  induction h with
  | nil => rfl
  | @cons h x i t u es kvs e r ih =>
    unfold gdGet
    have hk : Value.isStrOf s (.str x t) = decide (x = s) := by
      show (x == s) = decide (x = s)
      by_cases q : x = s
      · subst q; simp
      · rw [decide_eq_false q]; exact beq_eq_false_iff_ne.mpr q
    by_cases q : x = s
    · rw [if_pos q]
      refine ⟨u, ?_⟩
      rw [List.find?_cons_of_pos (by rw [hk]; exact decide_eq_true q)]
      rfl
    · rw [if_neg q]
      rw [List.find?_cons_of_neg (by rw [hk, decide_eq_false q]; exact Bool.false_ne_true)]
      exact ih
section
variable {X : Cx} {W : WX} {a : Expr} {x : Str} {p1 p2 : Pos} {kvs : List (Str × Int)} {m : Rho → M D} {d : Addr} {es : List DictEntry} {n : Nat}
theorem GEn.map {h : Heap} (g : GEn X.w.params es kvs) (I : X.K.In h) (hl : X.K.lookup d = some ⟨.type "dict", none, .dict es.toArray n, #[]⟩) : h.MapOf (strKind X.prog X.w) d (fun k => findBy Value.isStrOf es.toArray k) :=
  PySem.W.mapOf_K (prog := X.prog) I hl (by simpa using g.lit)
end
section
variable {X : Cx} {W : WX} {k : Nat} {body : List Stmt} {h₀ : ExceptHandler} {hds : List ExceptHandler} {pos : Pos} {mb : Rho → Sto → Fl}
end
theorem Bd.nx {X : Cx} {W : WX} {k : Nat} (b : Bd X W k) : Bd X.nox wN k := ⟨b.room, b.gd, b.calm, b.nd, .of takes_wN⟩
section
variable {X : Cx} {W : WX} {k : Nat} {body : List Stmt} {f₀ : Stmt} {fs : List Stmt} {pos : Pos} {mb mf : Rho → Sto → Fl}
end
section
variable {X : Cx} {W : WX} {pos : Pos}
end
section
variable {X : Cx} {W : WX} {tg e e2 e3 : Expr} {m1 m2 m3 : Rho → M D} {p pos : Pos}
end
section
variable {S : Type} {W : Wd S} {fr : Sto} {Γ : List Sl} {σ τ β : Type}
end
section
variable {X : Cx} {W : WX} {pos p p5 : Pos} {e : Expr} {es : List Expr} {m : Rho → M D} {ts : List String} {kk : Nat}
end
section
variable {S : Type} {W : Wd S} {fr : Sto} {Γ : List Sl}
end
end Dn
namespace Dn
open PySem PySem.Spec PyProof.Rows L2
section
variable {X : Cx} {W : WX} {pos p apos p2 : Pos} {o e tg : Expr} {mo m : Rho → M D}
end
section
variable {S : Type} {W : Wd S} {fr : Sto} {Γ : List Sl}
end
end Dn
namespace Dn
open PySem PySem.Spec PyProof.Rows L2
def stepD {α : Type} (xs : List α) (lo hi st : Option Int) : List α := (sliceRange (sliceBounds lo hi st xs.length).1 (sliceBounds lo hi st xs.length).2.1 (sliceBounds lo hi st xs.length).2.2).filterMap (xs[·]?)
theorem stepD_map {α β : Type} (f : α → β) (xs : List α) (lo hi st : Option Int) : stepD (xs.map f) lo hi st = (stepD xs lo hi st).map f := by
  unfold stepD
  rw [List.length_map, List.map_filterMap]
  congr 1
  funext i
  rw [List.getElem?_map]
theorem pick_vals : ∀ (ns : List Nat) {vs : List V} {us : List Value}, Vals vs us → Vals (ns.filterMap (vs[·]?)) (ns.filterMap (us[·]?))
  | [], _, _, _ => .nil
  | n :: ns, vs, us, h => by
    have ih := pick_vals ns h
    rw [List.filterMap_cons, List.filterMap_cons]
    cases e : vs[n]? with
    | none =>
      have : us[n]? = none := by
        rw [List.getElem?_eq_none_iff] at e ⊢
        rw [← h.length]
        exact e
      rw [this]
      exact ih
    | some v =>
      obtain ⟨u, e2, r⟩ := h.get e
      rw [e2]
      exact .cons r ih
theorem pick_reps {K : PySem.W.Frag} {F : Hp} {ι : List Addr} : ∀ (ns : List Nat) {ds : List D} {vs : List V}, Reps K F ι ds vs → Reps K F ι (ns.filterMap (ds[·]?)) (ns.filterMap (vs[·]?))
  | [], _, _, _ => Reps.nil
  | n :: ns, ds, vs, h => by
    have ih := pick_reps ns h
    rw [List.filterMap_cons, List.filterMap_cons]
    cases e : ds[n]? with
    | none =>
      have : vs[n]? = none := by
        rw [List.getElem?_eq_none_iff] at e ⊢
        rw [← h.length]
        exact e
      rw [this]
      exact ih
    | some d =>
      obtain ⟨v, e2, r⟩ := h.get e
      rw [e2]
      exact Reps.cons r ih
section
variable {X : Cx} {W : WX} {e : Expr} {te : TE} {lo hi : Option Expr} {st : Expr} {tl th tz : TO} {pos p2 : Pos}
def SlR4 (X : Cx) (r : V → Option Int → Option Int → Option Int → Hp → VK → Prop) : Prop :=
  ∀ (pins : List (Addr × Obj)) (s : Shared) (σ : L2.St) (H : Hp) (x : V) (v vl vu vk : Value) (lo hi st : Option Int) (sl : Addr) (Q : VK), Inv X pins σ H s → RelV x v → s.heap.IsSliceOf sl vl vu vk → IsPart vl lo → IsPart vu hi → IsPart vk st → r x lo hi st H Q →
    ∃ T id, typeLookup (.type T) "__getitem__" = pure (some (.builtin id)) ∧ s.TypeIs v T ∧ wpAny (model X.prog X.w) X.A (getItem v (.ref sl)) (EP X pins σ Q) X.xe s
theorem pe_slice4 {r : V → Option Int → Option Int → Option Int → Hp → VK → Prop} (hr : SlR4 X r) (he : PE X e te) (hl : PO X lo tl) (hu : PO X hi th) (hz : PO X (some st) tz) : PE X (.Subscript e (.Slice lo hi (some st) p2) pos) (fun σ H Q => te σ H fun x H1 => tl σ H1 fun l H2 => th σ H2 fun u H3 => tz σ H3 fun k H4 => r x l u k H4 Q) := by
  refine ⟨fun pins s σ H Q I h => ?_⟩
  refine Subscript_ (thn (he.run pins s σ H _ I h) fun v s1 ⟨x, H1, I1, r1, q1⟩ => ?_)
  refine wpAny_Slice (thn (hl.run pins s1 σ H1 _ I1 q1) fun vl s2 ⟨l, H2, I2, pl, q2⟩ => thn (hu.run pins s2 σ H2 _ I2 q2) fun vu s3 ⟨u, H3, I3, pu, q3⟩ => thn (hz.run pins s3 σ H3 _ I3 q3) fun vk s4 ⟨k, H4, I4, pk, q4⟩ => ?_)
  have I5 : Inv X pins σ H4 { s4 with heap := s4.heap.push { cls := .type "slice", data := .fields #[vl, vu, vk] } } := I4.kept (t' := s4.toks) fun b ob q => Heap.get?_push_of_some _ q
  obtain ⟨T, id, hT, ht, hg⟩ := hr pins { s4 with heap := s4.heap.push { cls := .type "slice", data := .fields #[vl, vu, vk] } } σ H4 x v vl vu vk l u k s4.heap.objs.size Q I5 r1 (Heap.IsSliceOf.new ..) pl pu pk q4
  show wpAny (model X.prog X.w) X.A (subscriptTail e (.Slice lo hi (some st) p2) v (.ref s4.heap.objs.size)) (EP X pins σ Q) X.xe { s4 with heap := s4.heap.push { cls := .type "slice", data := .fields #[vl, vu, vk] } }
  exact tail_any (ops := [v, .ref s4.heap.objs.size]) ht hT hg (by with_unfolding_all rfl)
end
section
variable {S : Type} {W : Wd S} {fr : Sto} {Γ : List Sl} {α : Type} {e : α → D}
end
end Dn
namespace PySem
open Sem (wp)
section
variable {M : Model} {A : Around} {R : GenEnd} {Y : Protocol} {n : Nat} {s₀ : Shared} {c : Code} {fs : List Frame} {s : Shared} {env : Env}
  {K : Flow → Sem Fin} {H : Value → Sem Fin} {gd : Bool → Bool} {lv : List Value → List Value}
theorem seg_If {test : Expr} {body orelse : List Stmt} {pos : Pos}
    (h : wpAny M (A.over c fs) (isTrue test env (eval test env)) (fun b s' => Seg M A R Y n s₀ c ((execs (if b = true then body else orelse) env).wrap K H gd lv) fs s') (fun x s' => Seg M A R Y n s₀ c (H x) fs s') s) :
    Seg M A R Y n s₀ c ((exec (.If test body orelse pos) env).wrap K H gd lv) fs s := by
  rw [exec_If]
  refine seg_bind_wrap (wpAny_standAt ?_)
  refine seg_bind_wrap (wpAny_mono h (fun b s' hb => ?_) fun _ _ e => e)
  cases b <;> exact hb
theorem seg_For {target iter : Expr} {body orelse : List Stmt} {pos : Pos} (hs : ∀ x, foldedSetIterable iter env x = pure x)
    (h : wpAny M (A.over c fs) (eval iter env) (fun x s₁ => wpAny M (A.over c fs) (pyIter x) (fun it s₂ => ∀ p, Seg M A R Y n s₀ (.forLoop target it body orelse env) (M.den (.forLoop target it body orelse env))
      (.ret (fun r => ((match r with | .ok f => (.pure f : Sem Flow) | .error e => .raise e).onRaise fun (x : Value) => do
        if (← field x 1) == Value.none then unsupported "frame.own-activation:exception-without-traceback"
        setFlight x env.frame).wrap K H gd lv) none (gd false) (lv []) c p [] :: fs) s₂) (fun x s' => Seg M A R Y n s₀ c (H x) fs s') s₁) (fun x s' => Seg M A R Y n s₀ c (H x) fs s') s) :
    Seg M A R Y n s₀ c ((exec (.For target iter body orelse pos) env).wrap K H gd lv) fs s := by
  rw [exec_For]
  refine seg_bind_wrap (wpAny_standAt ?_)
  refine seg_bind_wrap (wpAny_mono h (fun x s₁ h₁ => ?_) fun _ _ e => e)
  refine seg_bind_wrap (wpAny_of_eq (hs x) ?_)
  refine seg_bind_wrap (wpAny_standAt ?_)
  refine seg_bind_wrap (wpAny_holding (wpAny_mono h₁ (fun it s₂ h₂ => ?_) fun _ _ e => e))
  exact seg_call h₂
end
section
variable {prog : Program} {w : World} {A : Around} {R : GenEnd} {Y : Protocol} {n : Nat} {s₀ : Shared} {fs : List Frame} {s : Shared} {env : Env}
abbrev loopExc (env : Env) (e : Value) : Sem Fin := (do noteFrame e env; theTreesLotGoes e : Sem Unit).wrap (fun _ => .raise e) .raise id id
theorem seg_forLoop {target : Expr} {it : Value} {body orelse : List Stmt}
    (h : wpAny (model prog w) (A.over (.forLoop target it body orelse env) fs) (pyNext it) (fun r s₁ => match r with
        | none => Seg (model prog w) A R Y n s₀ (.forLoop target it body orelse env) (.pure (.again (.block orelse env))) fs s₁
        | some v => wpAny (model prog w) (A.over (.forLoop target it body orelse env) fs) (letOwnedTupleGo target it v) (fun _ s₁' =>
            wpAny (model prog w) (A.over (.forLoop target it body orelse env) fs) (assign target env v) (fun _ s₂ =>
              Seg (model prog w) A R Y n s₀ (.forLoop target it body orelse env) ((execs body env).wrap (fun f => match f with
                | .next | .cont => .pure (.again (.forLoop target it body orelse env))
                | .brk => .pure (.done .next)
                | .ret v => .pure (.done (.ret v))) (loopExc env) id id) fs s₂)
              (fun x s' => Seg (model prog w) A R Y n s₀ (.forLoop target it body orelse env) (loopExc env x) fs s') s₁')
            (fun x s' => Seg (model prog w) A R Y n s₀ (.forLoop target it body orelse env) (loopExc env x) fs s') s₁)
      (fun x s' => Seg (model prog w) A R Y n s₀ (.forLoop target it body orelse env) (loopExc env x) fs s') s) :
    Seg (model prog w) A R Y n s₀ (.forLoop target it body orelse env) ((model prog w).den (.forLoop target it body orelse env)) fs s := by
  show Seg _ A R Y n s₀ _ ((forTurn target it body orelse env).onRaise (fun x => do noteFrame x env; theTreesLotGoes x)) fs s
  have hx : ∀ x : Value, ((do noteFrame x env; theTreesLotGoes x : Sem Unit).bind fun _ => (Sem.raise x : Sem Fin)) = loopExc env x := fun x => Sem.bind_eq_wrap _ _
  unfold forTurn
  rw [Sem.onRaise_eq_wrap]
  refine seg_bind_wrap (wpAny_standAt ?_)
  refine seg_bind_wrap (wpAny_onRaise (wpAny_mono h (fun r s₁ h₁ => ?_) fun x s' h' => wpAny_standAt ?_))
  · cases r with
    | none => exact h₁
    | some v =>
      refine seg_bind_wrap (wpAny_mono h₁ (fun _ s₁' h₁' => ?_) fun x s' h' => ?_)
      · refine seg_bind_wrap (wpAny_mono h₁' (fun _ s₂ h₂ => ?_) fun x s' h' => ?_)
        · rw [Sem.bind_eq_wrap', Sem.wrap_wrap]
          refine Eq.mpr (congrArg (fun t => Seg (model prog w) A R Y n s₀ (.forLoop target it body orelse env) t fs s₂) (Sem.wrap_congr (execs body env) _ _ (fun f => ?_) fun e => ?_)) h₂
          · cases f <;> rfl
          · exact hx e
        · exact hx x ▸ h'
      · exact hx x ▸ h'
  · exact hx x ▸ h'
end
end PySem
namespace L2
open PySem PySem.Spec PyProof.Rows GenW
section
variable {X : Cx} {tg : Expr}
def tGIf (c : TT) (t u : TGn) : TGn := fun D ys σ H => c σ H fun b H1 => if b = true then t D ys σ H1 else u D ys σ H1
theorem gs_if {c : Expr} {a b : List Stmt} {pos : Pos} {tc : TT} {t u : TGn} (hc : PT X c tc) (ha : GSs X a t) (hb : GSs X b u) : GS X (.If c a b pos) (tGIf tc t u) := by
  refine ⟨fun A S ip R n ys s₀ cd fs K J gd lv s σ H D g hn k hI ht => ?_⟩
  obtain ⟨acc, cc, r, I⟩ := hI
  refine seg_If ?_
  rw [g.over]
  refine wpAny_mono (hc.run _ s σ H _ I ht) (fun d s1 q => ?_) fun x s' hx => k.exc n s₀ x s' hx
  obtain ⟨H1, I1, q1⟩ := q
  cases d with
  | true => exact ha.run A S ip R n ys s₀ cd fs K J gd lv s1 σ H1 D g hn k ⟨acc, cc, r, I1⟩ q1
  | false => exact hb.run A S ip R n ys s₀ cd fs K J gd lv s1 σ H1 D g hn k ⟨acc, cc, r, I1⟩ q1
def tGFor (wi : TI) (g : TG) (tb : TGn) : TGn := fun D ys σ H => wi σ H fun J H1 => ∃ W : Nat → Nat → List V → St → Hp → Prop, (∃ m, W 0 m ys σ H1) ∧ ∀ i m ys σ H, W i m ys σ H →
  (J.stop i H ∧ D.nx ys σ H) ∨ (J.go i H ∧ ∃ N : List V → St → Hp → Prop, (∀ ys' σ' H', N ys' σ' H' → ∃ m', m' < m ∧ W (i + 1) m' ys' σ' H') ∧ ∀ x H', J.yld i H x H' → g x σ H' fun σ2 H2 => tb { D with nx := N, ct := N, bk := D.nx } ys σ2 H2)
theorem gs_for {iter : Expr} {body : List Stmt} {wi : TI} {g : TG} {tb : TGn} {pos : Pos} (hp : PassesOwn (model X.prog X.w) X.A X.env X.xe) (hc : X.calm = true) (hi : PI X tg iter wi) (hg : PG X tg g) (hb : GSs X body tb)
    (hs : ∀ x, foldedSetIterable iter X.env x = pure x := by intro _; rfl) : GS X (.For tg iter body [] pos) (tGFor wi g tb) := by
  refine ⟨fun A S ip R n ys s₀ c fs K J gd lv s σ H D gc hn k hI ht => ?_⟩
  obtain ⟨acc, cc, r, I⟩ := hI
  refine seg_For hs ?_
  rw [gc.over]
  refine wpAny_mono (hi.run _ s σ H _ I ht) (fun v s1 h1 => wpAny_mono h1 (fun itv s2 h2 => fun p => ?_) fun x s' hx => k.exc n s₀ x s' hx) fun x s' hx => k.exc n s₀ x s' hx
  obtain ⟨it, fp, tn, JJ, H2, e, I2, T, st2, f2, W, ⟨m0, w0⟩, turn⟩ := h2
  subst e
  have gl := fun (kk : Result → Sem PySem.Fin) => gc_loop (k := kk) (c' := .forLoop tg (.ref it) body [] X.env) (l := lv []) (kp := []) (p := p) gc rfl rfl
  have stat : ∀ {H' : Hp} {acc' : Array Value} {c' : Nat}, (∀ b ∈ fp, H' b = none) → ∀ b ∈ fp, FpOk X ((S, lstObj acc' c') :: ip) H' b := fun hn b hb => by
    obtain ⟨z1, z2, z3, z4, z5⟩ := (f2 b hb).2
    refine ⟨hn b hb, z1, z2, z3, z4, fun p hp => ?_⟩
    rcases List.mem_append.mp hp with q | q
    · exact z5 p (List.mem_append_left _ q)
    · rcases List.mem_cons.mp q with q | q
      · rw [q]; exact z5 (S, lstObj acc cc) (List.mem_append_right _ List.mem_cons_self)
      · exact z5 p (List.mem_append_right _ (List.mem_cons_of_mem _ q))
  have fpS : ∀ b ∈ fp, b ≠ S := fun b hb e => (f2 b hb).2.2.2.2.2 (S, lstObj acc cc) (List.mem_append_right _ List.mem_cons_self) e.symm
  have ee : ∀ (n : Nat) (s₀ : Shared) (x : Value) (s' : Shared), X.xe x s' → Seg (model X.prog X.w) A R (GY X S) n s₀ (.forLoop tg (.ref it) body [] X.env) (loopExc X.env x)
      (.ret (fun r => ((match r with | .ok f => (.pure f : Sem Flow) | .error e => .raise e).onRaise (cameBack X.env)).wrap K J gd lv) none (gd false) (lv []) c p [] :: fs) s' := fun n s₀ x s' hx => by
    refine seg_wrap ?_
    rw [(gl _).over]
    refine wpAny_bind (wpAny_mono (hp x s' hx) (fun _ s'' hcb => wpAny_theTreesLotGoes ?_) fun y s'' hcb => ?_)
    · exact seg_leaf (.error x) (seg_cameBack gc k hcb)
    · exact seg_leaf (.error y) (seg_cameBack gc k hcb)
  have loop : ∀ (m i n : Nat) (ys : List V) (s₀ s : Shared) (σ : St) (H : Hp), n + ys.length = sizeLine → W i m ys σ H → tn i s.heap → (∀ b ∈ fp, H b = none) → GI X S ip ys σ H s →
      Seg (model X.prog X.w) A R (GY X S) n s₀ (.forLoop tg (.ref it) body [] X.env) ((model X.prog X.w).den (.forLoop tg (.ref it) body [] X.env))
        (.ret (fun r => ((match r with | .ok f => (.pure f : Sem Flow) | .error e => .raise e).onRaise (cameBack X.env)).wrap K J gd lv) none (gd false) (lv []) c p [] :: fs) s := by
    intro m
    induction m using Nat.strongRecOn with
    | ind m ih =>
      intro i n ys s₀ s σ H hn w st fr hI
      obtain ⟨acc, cc, r, I⟩ := hI
      refine seg_forLoop ?_
      rw [(gl _).over]
      rcases turn i m ys σ H w with ⟨stop, qn⟩ | ⟨go, N, hN, step⟩
      · refine wpAny_mono (T.done X rfl rfl rfl hc i _ s σ H X.xe I (stat fr) st stop) (fun r' s4 ⟨hr, I4⟩ => ?_) fun x s' hx => ee n s₀ x s' hx
        subst hr
        refine seg_again rfl ?_
        show Seg _ _ _ _ _ _ _ (leafOf (.ok .next)) _ _
        exact seg_leaf (.ok .next) (k.ok n ys s₀ s4 .next hn ⟨σ, H, ⟨acc, cc, r, I4⟩, qn⟩)
      · refine wpAny_mono (T.item X rfl rfl rfl hc i _ s σ H X.xe I (stat fr) st go) (fun r' s4 ⟨u, hr, h4⟩ => ?_) fun x s' hx => ee n s₀ x s' hx
        subst hr
        refine wpAny_mono h4 (fun _ s5 ⟨x, H5, I5, r5, y5, st5, fr5⟩ => ?_) fun x s' hx => ee n s₀ x s' hx
        have I5' := I5.pinned (stat fr5) (T.obj _ _ st5)
        refine wpAny_mono (hg.run _ s5 σ H5 x u _ I5' r5 (step x H5 y5)) (fun _ s6 ⟨σ6, H6, I6, q6⟩ => ?_) fun x s' hx => ee n s₀ x s' hx
        have gc2 : GC X S (ip ++ pinsAt fp s5.heap) A (.forLoop tg (.ref it) body [] X.env) (.ret (fun r => ((match r with | .ok f => (.pure f : Sem Flow) | .error e => .raise e).onRaise (cameBack X.env)).wrap K J gd lv) none (gd false) (lv []) c p [] :: fs) id :=
          { gl _ with ip := fun p hp => (List.mem_append.mp hp).elim (fun z => gc.ip p z) fun z => fpS p.1 (of_pinsAt z).1 }
        have down : ∀ {ys7 : List V} {σ7 : St} {H7 : Hp} {s7 : Shared}, GI X S (ip ++ pinsAt fp s5.heap) ys7 σ7 H7 s7 → GI X S ip ys7 σ7 H7 s7 := fun ⟨a7, c7, r7, I7⟩ => ⟨a7, c7, r7, Inv.unpinned (pins := (S, lstObj a7 c7) :: ip) I7⟩
        have again : ∀ {n' : Nat} {s₀' s7 : Shared} {ys7 : List V} {σ7 : St} {H7 : Hp}, n' + ys7.length = sizeLine → GI X S (ip ++ pinsAt fp s5.heap) ys7 σ7 H7 s7 → N ys7 σ7 H7 →
            Seg (model X.prog X.w) A R (GY X S) n' s₀' (.forLoop tg (.ref it) body [] X.env) (.pure (.again (.forLoop tg (.ref it) body [] X.env))) (.ret (fun r => ((match r with | .ok f => (.pure f : Sem Flow) | .error e => .raise e).onRaise (cameBack X.env)).wrap K J gd lv) none (gd false) (lv []) c p [] :: fs) s7 := fun {n' s₀' s7 ys7 σ7 H7} hn7 G7 n7 => by
          obtain ⟨m', hm, w7⟩ := hN ys7 σ7 H7 n7
          have G7' := down G7
          obtain ⟨a7, c7, r7, I7⟩ := G7
          have pin : ∀ b ∈ fp, ∀ o, s5.heap.get? b = some o → s7.heap.get? b = some o ∧ H7 b = none := fun b hb o e => by
            have z := I7.pin (b, o) (List.mem_append_right _ (List.mem_cons_of_mem _ (List.mem_append_right _ (mem_pinsAt hb e))))
            exact ⟨z.1, z.2.1⟩
          refine seg_again rfl (ih m' hm (i + 1) n' ys7 s₀' s7 σ7 H7 hn7 w7 (T.keep _ _ _ st5 fun b hb o e => (pin b hb o e).1) (fun b hb => ?_) G7')
          obtain ⟨o, e, _⟩ := T.obj _ _ st5 b hb
          exact (pin b hb o e).2
        refine hb.run A S (ip ++ pinsAt fp s5.heap) R n ys s₀ _ _ _ _ id id s6 σ6 H6 { D with nx := N, ct := N, bk := D.nx } gc2 hn ⟨fun n' ys' s₀' s3 f hn' hs => ?_, fun n' s₀' x s3 hx => ee n' s₀' x s3 hx⟩ ⟨acc, cc, r, I6⟩ q6
        cases f with
        | next => obtain ⟨σ3, H3, I3, n3⟩ := hs; exact again hn' I3 n3
        | cont => obtain ⟨σ3, H3, I3, n3⟩ := hs; exact again hn' I3 n3
        | brk => obtain ⟨σ3, H3, I3, n3⟩ := hs; exact seg_leaf (.ok .next) (k.ok n' ys' s₀' s3 .next hn' ⟨σ3, H3, down I3, n3⟩)
        | ret v => obtain ⟨x3, σ3, H3, I3, r3, n3⟩ := hs; exact seg_leaf (.ok (.ret v)) (k.ok n' ys' s₀' s3 (.ret v) hn' ⟨x3, σ3, H3, down I3, r3, n3⟩)
  exact loop m0 0 n ys s₀ s2 σ H2 hn w0 st2 (fun b hb => (f2 b hb).1) ⟨acc, cc, r, I2⟩
end
end L2
namespace Dn
open PySem PySem.Spec PyProof.Rows L2
theorem last_app {ρ : Rho} {y : Option D} : (ρ ++ [y]).getLast? = some y := by simp
theorem drop_app {ρ : Rho} {y : Option D} : (ρ ++ [y]).dropLast = ρ := by simp
def Hid (F : Hp) (ι : List Addr) (K : PySem.W.Frag) (ρ : Rho) (σ : L2.St) (ys : List V) : Prop := ∃ yd, ρ.getLast? = some (some (.lst yd)) ∧ REnv K F ι ρ.dropLast σ ∧ Reps K F ι yd ys
def gPost (K : PySem.W.Frag) (W : WX) (E : GEnds) (F : Hp) (ι : List Addr) (H : Hp) (r : Fl) : Prop := match r with
  | .next ρ' st' => ∀ F' ι' H' σ' ys', Ext F ι H F' ι' H' → Sim K F' ι' st' H' → Hid F' ι' K ρ' σ' ys' → E.nx ys' σ' H'
  | .brk ρ' st' => ∀ F' ι' H' σ' ys', Ext F ι H F' ι' H' → Sim K F' ι' st' H' → Hid F' ι' K ρ' σ' ys' → E.bk ys' σ' H'
  | .cnt ρ' st' => ∀ F' ι' H' σ' ys', Ext F ι H F' ι' H' → Sim K F' ι' st' H' → Hid F' ι' K ρ' σ' ys' → E.ct ys' σ' H'
  | .ret _ _ => False
  | .exc x ρ' st' => ∀ F' ι' H' cls dd σ' ys', Ext F ι H F' ι' H' → Sim K F' ι' st' H' → Hid F' ι' K ρ' σ' ys' → XcR K F' ι' H' x cls dd → W cls dd σ' H'
  | .bad => False
theorem gPost_ext {K : PySem.W.Frag} {W : WX} {E : GEnds} {F F1 : Hp} {ι ι1 : List Addr} {H H1 : Hp} {r : Fl} (h : gPost K W E F ι H r) (x : Ext F ι H F1 ι1 H1) : gPost K W E F1 ι1 H1 r := by
  cases r with
  | next ρ st => exact fun F' ι' H' σ' ys y => h F' ι' H' σ' ys (x.trans y)
  | brk ρ st => exact fun F' ι' H' σ' ys y => h F' ι' H' σ' ys (x.trans y)
  | cnt ρ st => exact fun F' ι' H' σ' ys y => h F' ι' H' σ' ys (x.trans y)
  | ret d st => exact h
  | exc e ρ st => exact fun F' ι' H' c d σ' ys y => h F' ι' H' c d σ' ys (x.trans y)
  | bad => exact h
def tGm (K : PySem.W.Frag) (W : WX) (m : Rho → Sto → Fl) : TGn := fun E ys σ H => ∃ F ι ρ st, Sim K F ι st H ∧ Hid F ι K ρ σ ys ∧ gPost K W E F ι H (m ρ st)
def DGn (X : Cx) (W : WX) (s : Stmt) (m : Rho → Sto → Fl) : Prop := GS X s (tGm X.K W m)
def DGns (X : Cx) (W : WX) (s : List Stmt) (m : Rho → Sto → Fl) : Prop := GSs X s (tGm X.K W m)
theorem GS.weak {X : Cx} {e : Stmt} {t t' : TGn} (h : GS X e t) (w : ∀ D ys σ H, t' D ys σ H → t D ys σ H) : GS X e t' :=
  ⟨fun A S ip R n ys s₀ c fs K J gd lv s σ H D a1 a2 a3 a4 q => h.run A S ip R n ys s₀ c fs K J gd lv s σ H D a1 a2 a3 a4 (w D ys σ H q)⟩
theorem GSs.weak {X : Cx} {e : List Stmt} {t t' : TGn} (h : GSs X e t) (w : ∀ D ys σ H, t' D ys σ H → t D ys σ H) : GSs X e t' :=
  ⟨fun A S ip R n ys s₀ c fs K J gd lv s σ H D a1 a2 a3 a4 q => h.run A S ip R n ys s₀ c fs K J gd lv s σ H D a1 a2 a3 a4 (w D ys σ H q)⟩
theorem Hid.ext {K : PySem.W.Frag} {F F1 H H1 : Hp} {ι ι1 : List Addr} {ρ : Rho} {σ : L2.St} {ys : List V} (h : Hid F ι K ρ σ ys) (x : Ext F ι H F1 ι1 H1) : Hid F1 ι1 K ρ σ ys :=
  let ⟨yd, a, b, c⟩ := h; ⟨yd, a, b.ext x, c.ext x⟩
def onD {α : Type} (m : Rho → M α) : Rho → M α := fun ρ => m ρ.dropLast
theorem gl_seq {α β : Type} {K : PySem.W.Frag} {W : WX} {P : Hp → Hp → List Addr → Hp → α → β → Prop} {m : Rho → M α} {E : GEnds} {σ : L2.St} {ys : List V} {F : Hp} {ι : List Addr} {H : Hp} {ρ : Rho} {st : Sto} {f : α → Sto → Fl} {Q' : β → Hp → Prop}
    (S : Sim K F ι st H) (R : Hid F ι K ρ σ ys) (h : gPost K W E F ι H ((onD m ρ st).fl ρ f))
    (k : ∀ a st1 F1 ι1 H1 b, Ext F ι H F1 ι1 H1 → Sim K F1 ι1 st1 H1 → Hid F1 ι1 K ρ σ ys → P H F1 ι1 H1 a b → gPost K W E F1 ι1 H1 (f a st1) → Q' b H1) : tG K W P m σ H Q' := by
  obtain ⟨yd, e0, R0, r0⟩ := id R
  refine ⟨F, ι, ρ.dropLast, st, S, R0, ?_⟩
  unfold onD at h
  cases e : m ρ.dropLast st with
  | ok a st1 =>
    rw [e] at h
    exact fun F1 ι1 H1 b x S1 p => k a st1 F1 ι1 H1 b x S1 (R.ext x) p (gPost_ext h x)
  | exc y st1 =>
    rw [e] at h
    exact fun F1 ι1 H1 c d x S1 p => h F1 ι1 H1 c d σ ys x S1 (R.ext x) p
  | bad =>
    rw [e] at h
    exact h
section
variable {X : Cx} {W : WX} {pos : Pos} {st : Stmt} {rest : List Stmt} {s1 s2 : Rho → Sto → Fl}
theorem dgn_nil : DGns X W [] sNext := GSs.weak gss_nil fun E ys σ H ⟨F, ι, ρ, st, S, R, q⟩ => q F ι H σ ys Ext.refl S R
theorem dgn_cons (h1 : DGn X W st s1) (h2 : DGns X W rest s2) : DGns X W (st :: rest) (sSeq s1 s2) := by
  refine GSs.weak (gss_cons h1 h2) fun E ys σ H ⟨F, ι, ρ, st, S, R, q⟩ => ⟨F, ι, ρ, st, S, R, ?_⟩
  unfold sSeq Fl.seq at q
  generalize s1 ρ st = r at q
  cases r with
  | next ρ1 st1 => exact fun F' ι' H' σ' ys' x S' R' => ⟨F', ι', ρ1, st1, S', R', gPost_ext q x⟩
  | ret d st1 => exact q
  | brk ρ1 st1 => exact q
  | cnt ρ1 st1 => exact q
  | exc x ρ1 st1 => exact q
  | bad => exact q
theorem dgn_one (h1 : DGn X W st s1) : DGns X W [st] (sSeq s1 sNext) := dgn_cons h1 dgn_nil
def Fl.push (r : Fl) (y : Option D) : Fl := match r with
  | .next ρ st => .next (ρ ++ [y]) st
  | .brk ρ st => .brk (ρ ++ [y]) st
  | .cnt ρ st => .cnt (ρ ++ [y]) st
  | .exc x ρ st => .exc x (ρ ++ [y]) st
  | .ret _ _ => .bad
  | .bad => .bad
def sUp (s : Rho → Sto → Fl) : Rho → Sto → Fl := fun ρ st => match ρ.getLast? with
  | some y => (s ρ.dropLast st).push y
  | none => .bad
theorem dgn_plain (h : DS X W st s1) : DGn X W st (sUp s1) := by
  refine GS.weak (gs_ps h) fun E ys σ H ⟨F, ι, ρ, st, S, ⟨yd, e0, R0, r0⟩, q⟩ => ⟨F, ι, ρ.dropLast, st, S, R0, ?_⟩
  unfold sUp at q
  rw [e0] at q
  dsimp only at q
  have hid : ∀ {F' : Hp} {ι' : List Addr} {H' : Hp} {ρ' : Rho} {σ' : L2.St}, Ext F ι H F' ι' H' → REnv X.K F' ι' ρ' σ' → Hid F' ι' X.K (ρ' ++ [some (.lst yd)]) σ' ys := fun x R' => ⟨yd, last_app, by rw [drop_app]; exact R', r0.ext x⟩
  cases e : s1 ρ.dropLast st with
  | next ρ1 st1 => rw [e] at q; exact fun F' ι' H' σ' x S' R' => q F' ι' H' σ' ys x S' (hid x R')
  | brk ρ1 st1 => rw [e] at q; exact fun F' ι' H' σ' x S' R' => q F' ι' H' σ' ys x S' (hid x R')
  | cnt ρ1 st1 => rw [e] at q; exact fun F' ι' H' σ' x S' R' => q F' ι' H' σ' ys x S' (hid x R')
  | exc x1 ρ1 st1 => rw [e] at q; exact fun F' ι' H' c d σ' x S' R' p => q F' ι' H' c d σ' ys x S' (hid x R') p
  | ret d st1 => rw [e] at q; exact (q : False).elim
  | bad => rw [e] at q; exact (q : False).elim
def sYield (m : Rho → M D) : Rho → Sto → Fl := fun ρ st => match ρ.getLast? with
  | some (some (.lst yd)) => if yd.length < sizeLine then (onD m ρ st).fl ρ fun d st1 => .next (ρ.dropLast ++ [some (.lst (yd ++ [d]))]) st1 else .bad
  | _ => .bad
theorem dgn_yield {e : Expr} {yp : Pos} {m : Rho → M D} (he : DE X W e m) (hco : X.env.scope.isCoroutine = false := by rfl) (hi : interactive X.env = false := by rfl) : DGn X W (.Expr (.Yield (some e) yp) pos) (sYield m) := by
  refine GS.weak (gs_yield he hco hi) fun E ys σ H ⟨F, ι, ρ, st, S, R, q⟩ => ?_
  obtain ⟨yd, e0, R0, r0⟩ := id R
  unfold sYield at q
  rw [e0] at q
  dsimp only at q
  split at q
  · rename_i hl
    refine ⟨by rw [← r0.length]; exact hl, gl_seq S R q fun d st1 F1 ι1 H1 v x1 S1 R1 p1 q1 => ?_⟩
    exact q1 F1 ι1 H1 σ (ys ++ [v]) Ext.refl S1 ⟨yd ++ [d], last_app, by rw [drop_app]; exact R0.ext x1, (r0.ext x1).snoc p1⟩
  · exact q.elim
theorem dgn_if {c : Expr} {mt : Rho → M Bool} {p1 p2 : List Stmt} (hc : DT X W c mt) (h1 : DGns X W p1 s1) (h2 : DGns X W p2 s2) : DGn X W (.If c p1 p2 pos) (sIf (onD mt) s1 s2) := by
  refine GS.weak (gs_if hc h1 h2) fun E ys σ H ⟨F, ι, ρ, st, S, R, q⟩ => gl_seq S R q fun a st1 F1 ι1 H1 b x1 S1 R1 r1 q1 => ?_
  have r1 : a = b := r1
  subst r1
  cases a with
  | true => exact ⟨F1, ι1, ρ, st1, S1, R1, q1⟩
  | false => exact ⟨F1, ι1, ρ, st1, S1, R1, q1⟩
def gUp (gf : D → Rho → M Rho) : D → Rho → M Rho := fun d ρ st => match ρ.getLast? with
  | some y => (gf d ρ.dropLast st).bind fun ρ' st' => .ok (ρ' ++ [y]) st'
  | none => .bad
theorem dgn_for {tg iter : Expr} {body : List Stmt} {ms : Rho → M Src} {js : List Nat} {gf : D → Rho → M Rho} {mb : Rho → Sto → Fl} (hp : PassesOwn (model X.prog X.w) X.A X.env X.xe) (hc : X.calm = true) (hi : DI X W tg iter ms) (hg : DG X js tg gf) (hb : DGns X W body mb)
    (hs : ∀ x, foldedSetIterable iter X.env x = pure x := by intro _; rfl) : DGn X W (.For tg iter body [] pos) (sFor (onD ms) (gUp gf) mb) := by
  refine GS.weak (gs_for hp hc hi hg hb hs) fun E ys σ H ⟨F, ι, ρ, st, S, R, q⟩ => gl_seq S R q fun src st1 F1 ι1 H1 J x1 S1 R1 hJ q1 => ?_
  have hJ : SrcIt X.K F1 ι1 src J := hJ
  refine ⟨fun i m ys' σ' H' => m = src.items.length - i ∧ i ≤ src.items.length ∧ ∃ F' ι' ρ' st', Ext F1 ι1 H1 F' ι' H' ∧ Sim X.K F' ι' st' H' ∧ Hid F' ι' X.K ρ' σ' ys' ∧ gPost X.K W E F' ι' H' (forL src.held (forB (gUp gf) mb) (src.items.drop i) ρ' st'),
    ⟨_, rfl, Nat.zero_le _, F1, ι1, ρ, st1, Ext.refl, S1, R1, q1⟩, ?_⟩
  rintro i m ys' σ' H' ⟨rfl, hi, F', ι', ρ', st', x', S', R', q'⟩
  by_cases hlt : i < src.items.length
  · right
    rw [List.drop_eq_getElem_cons hlt] at q'
    unfold forL at q'
    split at q'
    rotate_left
    · exact q'.elim
    rename_i ho
    obtain ⟨yd, e0, R0, r0⟩ := id R'
    refine ⟨hJ.go i F' ι' st' H' x'.grow S' ho hlt, fun ys'' σ'' H'' => ∃ m', m' < src.items.length - i ∧ _, fun ys'' σ'' H'' h => h, fun x H2 y => ?_⟩
    obtain ⟨F2, x2, S2, r2⟩ := hJ.yld i F' ι' st' H' x H2 src.items[i] x'.grow S' ho (by simp [hlt]) y
    refine ⟨F2, ι', ρ'.dropLast, st', _, S2, R0.ext x2, r2, ?_⟩
    unfold forB gUp at q'
    rw [e0] at q'
    dsimp only at q'
    cases e1 : gf src.items[i] ρ'.dropLast st' with
    | exc _ _ => rw [e1] at q'; exact (q' : False).elim
    | bad => rw [e1] at q'; exact (q' : False).elim
    | ok ρ2 st2 =>
      rw [e1] at q'
      intro F3 ι3 H3 σ3 x3 S3 R3
      have xx : Ext F' ι' H' F3 ι3 H3 := x2.trans x3
      refine ⟨F3, ι3, ρ2 ++ [some (.lst yd)], st2, S3, ⟨yd, last_app, by rw [drop_app]; exact R3.1, r0.ext xx⟩, ?_⟩
      have q'' := gPost_ext q' xx
      simp only [Out.bind_ok, nox_ok, Out.fl_ok] at q''
      cases e2 : mb (ρ2 ++ [some (.lst yd)]) st2 with
      | next ρ4 st4 =>
        rw [e2] at q''
        intro F4 ι4 H4 σ4 ys4 x4 S4 R4
        exact ⟨src.items.length - (i + 1), by omega, rfl, hlt, F4, ι4, ρ4, st4, (x'.trans xx).trans x4, S4, R4, gPost_ext q'' x4⟩
      | cnt ρ4 st4 =>
        rw [e2] at q''
        intro F4 ι4 H4 σ4 ys4 x4 S4 R4
        exact ⟨src.items.length - (i + 1), by omega, rfl, hlt, F4, ι4, ρ4, st4, (x'.trans xx).trans x4, S4, R4, gPost_ext q'' x4⟩
      | brk ρ4 st4 => rw [e2] at q''; exact q''
      | ret d st4 => rw [e2] at q''; exact q''
      | exc x ρ4 st4 => rw [e2] at q''; exact q''
      | bad => rw [e2] at q''; exact q''
  · left
    have e0 : i = src.items.length := by omega
    subst e0
    rw [List.drop_length] at q'
    unfold forL at q'
    split at q'
    rotate_left
    · exact q'.elim
    rename_i ho
    exact ⟨hJ.stop F' ι' st' H' x'.grow S' ho, q' F' ι' H' σ' ys' Ext.refl S' R'⟩
end
end Dn
namespace Dn
open PySem PySem.Spec PyProof.Rows L2
section
variable {S : Type} {W : Wd S} {fr : Sto} {s : S} {Γ Γ' : List Sl} {ρ : Rho} {st : Sto} {y : D}
theorem Has.push (h : Has W fr s Γ ρ st) (y : D) : Has W fr s (Γ ++ [.val y]) (ρ ++ [some y]) st := by
  have hl := h.len
  have key : ∀ (i : Nat) (a : Sl), (Γ ++ [.val y])[i]? = some a → (i < Γ.length ∧ Γ[i]? = some a ∧ (ρ ++ [some y])[i]? = ρ[i]?) ∨ (i = Γ.length ∧ a = .val y) := fun i a e => by
    by_cases hi : i < Γ.length
    · rw [List.getElem?_append_left hi] at e
      exact .inl ⟨hi, e, List.getElem?_append_left (by omega)⟩
    · rw [List.getElem?_append_right (by omega)] at e
      have h0 : i - Γ.length = 0 := by
        cases q : i - Γ.length with
        | zero => rfl
        | succ n => rw [q] at e; simp at e
      rw [h0] at e
      exact .inr ⟨by omega, (Option.some.inj e).symm⟩
  refine ⟨by rw [List.length_append, List.length_append, hl]; rfl, h.pre, fun i d e => ?_, fun i m e => ?_, fun i j m1 m2 e1 e2 e3 => ?_, fun i m e => ?_⟩
  · rcases key i _ e with ⟨_, q, r⟩ | ⟨q, r⟩
    · rw [r]; exact h.val i d q
    · cases r
      rw [q, ← hl]
      simp
  · rcases key i _ e with ⟨_, q, r⟩ | ⟨_, r⟩
    · rw [r]; exact h.mt i m q
    · cases r
  · rcases key i _ e1 with ⟨_, q, r⟩ | ⟨_, r⟩
    · rcases key j _ e2 with ⟨_, q2, r2⟩ | ⟨_, r2⟩
      · exact h.nal i j m1 m2 q q2 (by rw [← r, ← r2]; exact e3)
      · cases r2
    · cases r
  · rcases key i _ e with ⟨_, q, r⟩ | ⟨_, r⟩
    · rw [r]; exact h.bo i m q
    · cases r
theorem Has.pop (h : Has W fr s (Γ ++ [.val y]) ρ st) : ∃ ρ0, ρ = ρ0 ++ [some y] ∧ Has W fr s Γ ρ0 st := by
  have hl := h.len
  rw [List.length_append] at hl
  have hlast := h.val Γ.length y (by simp)
  have hne : ρ ≠ [] := fun e => by rw [e] at hl; simp at hl
  have e0 : ρ.dropLast ++ [ρ.getLast hne] = ρ := List.dropLast_concat_getLast hne
  have hdl : ρ.dropLast.length = Γ.length := by rw [List.length_dropLast]; simp at hl; omega
  have ey : ρ.getLast hne = some y := by
    have : (ρ.dropLast ++ [ρ.getLast hne])[Γ.length]? = some (some y) := by rw [e0]; exact hlast
    rw [List.getElem?_append_right (by omega), hdl, Nat.sub_self] at this
    exact Option.some.inj this
  rw [ey] at e0
  refine ⟨ρ.dropLast, e0.symm, ?_⟩
  have low : ∀ (i : Nat) (a : Sl), Γ[i]? = some a → (Γ ++ [.val y])[i]? = some a ∧ ρ[i]? = ρ.dropLast[i]? := fun i a e => by
    have hi := (List.getElem?_eq_some_iff.mp e).1
    refine ⟨by rw [List.getElem?_append_left hi]; exact e, ?_⟩
    have : (ρ.dropLast ++ [some y])[i]? = ρ.dropLast[i]? := List.getElem?_append_left (by omega)
    rw [e0] at this
    exact this
  refine ⟨hdl, h.pre, fun i d e => ?_, fun i m e => ?_, fun i j m1 m2 e1 e2 e3 => ?_, fun i m e => ?_⟩
  · obtain ⟨a, b⟩ := low i _ e; rw [← b]; exact h.val i d a
  · obtain ⟨a, b⟩ := low i _ e; rw [← b]; exact h.mt i m a
  · obtain ⟨a, b⟩ := low i _ e1
    obtain ⟨a2, b2⟩ := low j _ e2
    exact h.nal i j m1 m2 a a2 (by rw [b, b2]; exact e3)
  · obtain ⟨a, b⟩ := low i _ e; rw [← b]; exact h.bo i m a
theorem OR.push {A β : Type} {J : β → List Sl} {enc : β → A} {r : Out A} {q : Rs S β} (h : OR W fr J ρ enc r q) (y : D) : OR W fr (fun b => J b ++ [.val y]) (ρ ++ [some y]) enc r q := by
  induction q with
  | ok b s' => obtain ⟨st', e, H⟩ := h; exact ⟨st', e, H.push y⟩
  | exc x s' => exact h
  | bad => trivial
  | amb P f ih => obtain ⟨n, p, q⟩ := h; exact ⟨n, p, ih n q⟩
theorem ht_onD {A β : Type} {m : Rho → M A} {q : Mt S β} {enc : β → A} {J : β → List Sl} (h : HT W fr Γ m q enc J) : HT W fr (Γ ++ [.val y]) (onD m) q enc (fun b => J b ++ [.val y]) := fun s ρ st H => by
  obtain ⟨ρ0, rfl, H0⟩ := H.pop
  unfold onD
  rw [drop_app]
  exact (h s ρ0 st H0).push y
theorem NR.push {σ : Type} {J : σ → List Sl} {r : Fl} {q : Rs S σ} (h : NR W fr J r q) (y : D) : NR W fr (fun z => J z ++ [.val y]) (r.push (some y)) q := by
  induction q with
  | ok b s' => obtain ⟨ρ', st', rfl, H⟩ := h; exact ⟨_, st', rfl, H.push y⟩
  | exc x s' => obtain ⟨ρ', st', rfl, H⟩ := h; exact ⟨_, st', rfl, H⟩
  | bad => trivial
  | amb P f ih => obtain ⟨n, p, q⟩ := h; exact ⟨n, p, ih n q⟩
theorem tn_up {σ : Type} {m : Rho → Sto → Fl} {q : Mt S σ} {J : σ → List Sl} (h : TN W fr Γ m q J) : TN W fr (Γ ++ [.val y]) (sUp m) q (fun z => J z ++ [.val y]) := fun s ρ st H => by
  obtain ⟨ρ0, rfl, H0⟩ := H.pop
  unfold sUp
  rw [last_app]
  dsimp only
  rw [drop_app]
  exact (h s ρ0 st H0).push y
theorem gt1_up {gf : D → Rho → M Rho} {d : D} {js : List Nat} (h : GT1 W fr Γ gf d Γ' js) (hG : Γ'.length = Γ.length) : GT1 W fr (Γ ++ [.val y]) (gUp gf) d (Γ' ++ [.val y]) js := fun s ρ st H => by
  obtain ⟨ρ0, rfl, H0⟩ := H.pop
  obtain ⟨ρ', e, H1, k⟩ := h s ρ0 st H0
  refine ⟨ρ' ++ [some y], ?_, H1.push y, fun j hj => ?_⟩
  · unfold gUp
    rw [last_app]
    dsimp only
    rw [drop_app, e]
    rfl
  · have hk := k j hj
    have hl : ρ'.length = ρ0.length := by rw [H1.len, H0.len, hG]
    by_cases hj2 : j < ρ0.length
    · rw [List.getElem?_append_left (by omega), List.getElem?_append_left hj2]; exact hk
    · rw [List.getElem?_append_right (by omega), List.getElem?_append_right (by omega), hl]
def myield {β : Type} (out : List β) (q : Mt S β) : Mt S (List β) := if out.length < 100000 then mbind q fun x => mpure (out ++ [x]) else mbad
theorem tn_yield {β : Type} {m : Rho → M D} {q : Mt S β} {e : β → D} {out : List β} (h : HT W fr Γ m q e fun _ => Γ') :
    TN W fr (Γ ++ [.val (.lst (out.map e))]) (sYield m) (myield out q) (fun out' => Γ' ++ [.val (.lst (out'.map e))]) := fun s ρ st H => by
  obtain ⟨ρ0, rfl, H0⟩ := H.pop
  have h1 := h s ρ0 st H0
  unfold myield
  by_cases hl : out.length < 100000
  · rw [if_pos hl]
    show NR W fr _ _ (rbind (q s) fun x => mpure (out ++ [x]))
    unfold sYield onD
    rw [last_app]
    dsimp only
    rw [drop_app, List.length_map, if_pos (by unfold sizeLine; omega)]
    generalize q s = r at h1
    induction r with
    | ok x s' =>
      obtain ⟨st', e1, H1⟩ := h1
      rw [e1]
      exact ⟨_, st', rfl, by dsimp only; rw [List.map_append]; exact H1.push _⟩
    | exc x s' =>
      obtain ⟨st', e1, H1⟩ := h1
      rw [e1]
      exact ⟨_, st', rfl, H1⟩
    | bad => trivial
    | amb P f ih =>
      obtain ⟨n, p, z⟩ := h1
      exact ⟨n, p, ih n z⟩
  · rw [if_neg hl]
    trivial
end
end Dn
namespace Dn
open PySem PySem.Spec PyProof.Rows L2
structure FnCls (P : Program) (w : World) (K : PySem.W.Frag) (mg : Str → Option Value) (base : Heap) (k : Nat) (nm m : Str) (spec : List D → M D) : Prop where
  ex : ∃ (C f : Addr) (mc : Value), mg nm = some (.ref C) ∧ ClX.CRead K C mc ∧ PySem.W.findCls K (.ref C) mc m = some (.val (.ref f)) ∧ PySem.W.keepIn K (.ref f) = true ∧ RunE P w K mg base k f spec
section
variable {X : Cx} {W : WX} {k j : Nat} {nm m : Str} {spec : List D → M D} {e : Expr} {es : List Expr} {am : Rho → M (List D)} {pos apos p : Pos}
end
structure FunS (K : PySem.W.Frag) (x qual : Str) (st : Stmt) (f : Addr) (fd : FuncData) (cda cc : Addr) : Prop where
  ex : ∃ (oc : Value) (od : Option Addr) (kV doc pm : Value) (an : Option Addr) (ct : Value) (osl : Array (Option Value)),
    fd = PySem.W.ksFn x qual (defArgs st) (defBody st) (defScope st) .none kV doc pm an (.ref cda) ct cc ∧ K.lookup f = some ⟨oc, od, .func fd, osl⟩ ∧ PySem.W.codeIn K (.ref cda) qual = true
structure SupK (P : Program) (K : PySem.W.Frag) (mg : Str → Option Value) (nm : Str) (cda cc Dc fD : Addr) : Prop where
  cell : ∃ cl cld csl, K.lookup cc = some ⟨cl, cld, .cell (some (.ref Dc)), csl⟩
  cls : ∃ cd, PySem.W.clsIn K Dc = some cd
  at_ : PySem.W.nsIn K mainGlobals nm = some (some (.ref Dc))
  own : PySem.W.mroIn K Dc (.ref Dc) = some true
  nsup : mg "super" = none
  code : ∃ ccl cdd vs ccs file tf, K.lookup cda = some ⟨ccl, cdd, .fields vs, ccs⟩ ∧ vs[2]? = some (.str file tf) ∧ ((P.main.file : Str) == file) = true
  top : (P.main.scope.names.lookup ("super" : Str)).isSome = false
  up : PySem.W.ks_superIn K Dc Dc "__init__" = some (some (.ref fD))
  ty : PySem.W.typeIn K (.ref fD) = some (.type "function")
  fi : PySem.W.fnIn K fD = true
  op : PySem.W.nsIn K cStatics "thirdparty.any" = some none
structure ScS (sc : Scope) : Prop where
  kind : sc.kind = .function
  co : sc.isCoroutine = false
  gen : sc.isGenerator = false
  nocell : ∀ y ∈ sc.names, y.2 ≠ .cell
  free : ∀ y, sc.names.lookup y = some .free → y = "__class__"
  cl : sc.names.lookup ("__class__" : Str) = some .free
  p0 : sc.names.lookup ("self" : Str) = some .local
  p1 : sc.names.lookup ("panel" : Str) = some .local
  p2 : sc.names.lookup ("state" : Str) = some .local
  sup : sc.names.lookup ("super" : Str) = some .globalImplicit
section
variable {P : Program} {w : World} {K : PySem.W.Frag} {mg : Str → Option Value} {base : Heap} {qual nm : Str} {scope : Scope} {f cda cc Dc fD : Addr} {A : Around} {outer : List Env} {s0 : Shared} {H0 : Hp} {E : XK}
end
end Dn
namespace Dn
open PySem PySem.Spec PyProof.Rows L2
section
variable {P : Program} {w : World} {A : Around} {E : Value → Shared → Prop} {s : Shared}
end
section
variable {X : Cx} {pos : Pos}
end
end Dn
namespace Dn
open PySem PySem.Spec PyProof.Rows L2
section
variable {A : Type} {R : DkR A} {fr : Sto} {Γ : List Sl} {ρ : Rho} {s s' : OS A} {st : Sto}
end
section
variable {S : Type} {W : Wd S} {fr : Sto} {Γ : List Sl}
end
end Dn
namespace Dn
open PySem PySem.Spec PyProof.Rows L2
structure IsK (K : PySem.W.Frag) (n : Str) (Dc : Addr) (b : Bool) : Prop where
  ex : ∃ C, PySem.W.nsIn K mainGlobals n = some (some (.ref C)) ∧ Cls K C ∧ PySem.W.findIn K (.ref C) "__class__" = some (some (.builtin "object.__class__")) ∧ PySem.W.specialIn K (.builtin "object.__class__") "__get__" = some (some (.builtin "getset_descriptor.__get__")) ∧
    PySem.W.takesIn K (.builtin "object.__class__") = some true ∧ PySem.W.mroIn K C (.type "object") = some true ∧ PySem.W.kitOne K (.ref C) (.ref Dc) = some b
def IsT (K : PySem.W.Frag) (mg : Str → Option Value) (nm : Str) (t : List (Str × Bool)) : Prop := ∃ Dc, mg nm = some (.ref Dc) ∧ ∀ n b, t.lookup n = some b → IsK K n Dc b
section
variable {X : Cx} {W : WX} {pos p p2 : Pos} {e : Expr} {m : Rho → M D}
end
section
open PySem.W
variable {prog : Program} {w : World} {A : Around} {E : Value → Shared → Prop} {s : Shared} {K : Frag} {x C L f : Addr} {h₀ : Heap} {m : Str → Option Value} {ox : Obj} {od : Option Obj}
end
section
variable {X : Cx} {W : WX} {k j : Nat} {t : Tbl} {rf : List (Str × Str)}
variable {a b : Expr} {m1 m2 : Rho → M D} {pos : Pos}
end
section
variable {A : Type} {R : DkR A} {fr : Sto} {Γ : List Sl} {ρ : Rho} {s s' : OS A} {st : Sto}
end
end Dn
namespace Dn
open PySem PySem.Spec PyProof.Rows L2
section
variable {A : Type} {R : DkR A} {fr : Sto} {Γ : List Sl} {α σ β : Type} {e : α → D} {J : σ → List Sl} {gf : D → Rho → M Rho} {mb : Rho → Sto → Fl} {G : α → σ → List Sl} {js : List Nat}
end
end Dn
namespace Dn
open PySem PySem.Spec PyProof.Rows L2
abbrev KF := PySem.W.Frag
def frcK {α : Type} : List (Addr × Obj) → (List (Addr × Obj) → α) → α
  | [], k => k []
  | (a, o) :: r, k => HandSHeadRun.frNat a fun a => frcK r fun r' => k ((a, o) :: r')
theorem frcK_eq {α : Type} : ∀ (l : List (Addr × Obj)) (k : List (Addr × Obj) → α), frcK l k = k l
  | [], _ => rfl
  | (a, o) :: r, k => by
    show HandSHeadRun.frNat a (fun a => frcK r fun r' => k ((a, o) :: r')) = _
    rw [HandSHeadRun.frNat_eq, frcK_eq r]
structure FnQ where
  at_ : KF → Addr
  name : Str
  qual : Str
  params : Arguments
  body : List Stmt
  scope : Scope
  clo : List Str := []
abbrev FvQ : Type := Option (Str × Str × Arguments × FuncBody × Scope × Addr × List Str × Value × Addr)
def fvQ (K : KF) (a : Addr) : FvQ := match K.lookup a with
  | some ⟨_, _, .func fd, _⟩ => some (fd.name, fd.qualname, fd.params, fd.body, fd.scope, fd.globals, fd.closure.map (·.1), fd.defaults, fd.builtins)
  | _ => none
def FnQ.val (d : FnQ) : FvQ := some (d.name, d.qual, d.params, .stmts d.body, d.scope, mainGlobals, d.clo, .none, builtinsNs)
def fnB (K : KF) (a : Addr) (q : Str) : Bool := PySem.W.keepIn K (.ref a) && (PySem.W.isFn K (.ref a) && (match K.lookup a with
  | some ⟨_, _, .func fd, _⟩ => PySem.W.codeIn K fd.code q
  | _ => false))
theorem fnq_of {K : KF} {a : Addr} {name qual : Str} {params : Arguments} {body : List Stmt} {scope : Scope} (e : fvQ K a = some (name, qual, params, .stmts body, scope, mainGlobals, [], .none, builtinsNs)) (c : fnB K a qual = true) :
    ∃ oc od sl kV dc pm an cd ct, K.lookup a = some ⟨oc, od, .func (PySem.W.fnOf name qual params body scope .none kV dc pm an cd ct), sl⟩ ∧ PySem.W.codeIn K cd qual = true ∧ PySem.W.keepIn K (.ref a) = true ∧ PySem.W.isFn K (.ref a) = true := by
  obtain ⟨c1, c0⟩ := Bool.and_eq_true_iff.mp c
  obtain ⟨c2, c3⟩ := Bool.and_eq_true_iff.mp c0
  unfold fvQ at e
  cases q : K.lookup a with
  | none =>
    rw [q] at e
    cases e
  | some o =>
    obtain ⟨oc, od, dt, sl⟩ := o
    rw [q] at e c3
    cases dt with
    | func fd =>
      obtain ⟨n1, n2, n3, n4, n5, n6, n7, n8, n9, n10, n11, n12, n13, n14, n15⟩ := fd
      have e2 : (some (n1, n2, n3, n4, n5, n6, n7.map (·.1), n8, n15) : FvQ) = some (name, qual, params, .stmts body, scope, mainGlobals, [], .none, builtinsNs) := e
      simp only [Option.some.injEq, Prod.mk.injEq] at e2
      obtain ⟨h1, h2, h3, h4, h5, h6, h7, h8, h9⟩ := e2
      have h7 : n7 = [] := List.map_eq_nil_iff.mp h7
      subst h1 h2 h3 h4 h5 h6 h7 h8 h9
      exact ⟨oc, od, sl, n9, n10, n11, n12, n13, n14, rfl, c3, c1, c2⟩
    | _ => cases e
def strB (K : KF) (x z : Str) : Bool := match PySem.W.nsIn K mainGlobals x with
  | some (some (.str j _)) => decide (j = z)
  | _ => false
theorem str_of {K : KF} {x z : Str} (c : strB K x z = true) : ∃ t, PySem.W.nsIn K mainGlobals x = some (some (.str z t)) := by
  unfold strB at c
  cases q : PySem.W.nsIn K mainGlobals x with
  | none => rw [q] at c; cases c
  | some o =>
    rw [q] at c
    cases o with
    | none => cases c
    | some v =>
      cases v with
      | str j t => exact ⟨t, by rw [show j = z from of_decide_eq_true c]⟩
      | _ => cases c
def gdH (K : KF) (a : Addr) : List Int := match K.lookup a with
  | some ⟨_, _, .dict es _, _⟩ => es.toList.map (·.hash)
  | _ => []
abbrev AlQ : Type := Bool × List FvQ × List (List Int)
abbrev HdQ : Type := List ((KF → Addr) × List Str)
def obsQ (fa : List (KF → Bool)) (fn : List FnQ) (hd : HdQ) (K : KF) : AlQ := (fa.all fun f => f K, fn.map fun d => fvQ K (d.at_ K), hd.map fun p => gdH K (p.1 K))
def valQ (fn : List FnQ) (hd : HdQ) (P : Params) : AlQ := (true, fn.map FnQ.val, hd.map fun p => p.2.map (PyData.keyHash P))
def SaysQ (fa : List (KF → Bool)) (fn : List FnQ) (hd : HdQ) (P : Params) (K : KF) : Prop := obsQ fa fn hd K = valQ fn hd P
def obsQG (fa : List (KF → Bool)) (fn : List FnQ) (hd : HdQ) (g : Addr → Option Obj) (n : Nat) : AlQ := frcK (He.frG g (List.range n)) fun K => obsQ fa fn hd K
def hookQ (fa : List (KF → Bool)) (fn : List FnQ) (hd : HdQ) : PySem.W.Hook where
  α := AlQ
  obs := fun s => obsQG fa fn hd s.heap.get? s.heap.objs.size
  val := fun w => valQ fn hd w.params
  says := fun w h => ∃ K : KF, K.In h ∧ SaysQ fa fn hd w.params K
  of := fun w s e => by
    have e : frcK (He.frG s.heap.get? (List.range s.heap.objs.size)) (fun K => obsQ fa fn hd K) = valQ fn hd w.params := e
    rw [frcK_eq] at e
    exact ⟨_, He.frG_in, e⟩
  keeps := fun _ _ _ ⟨K, hK, c⟩ k => ⟨K, PySem.W.Frag.In.keeps hK k, c⟩
def obQ (fa : List (KF → Bool)) (fn : List FnQ) (hd : HdQ) (s : PySem.W.SharedT) : AlQ := obsQG fa fn hd (HandSHeadRun.getT s) s.n
theorem obQ_eq {fa : List (KF → Bool)} {fn : List FnQ} {hd : HdQ} (s : PySem.W.SharedT) : obQ fa fn hd s = (hookQ fa fn hd).obs s.abs := by
  have e : HandSHeadRun.getT s = s.abs.heap.get? := funext (HandSHeadRun.getT_eq s)
  have n : s.n = s.abs.heap.objs.size := (PySem.W.absHeap_size s.tree s.n s.life).symm
  unfold obQ
  rw [e, n] <;> rfl
section
variable {fa : List (KF → Bool)} {fn : List FnQ} {hd : HdQ} {P : Params} {K : KF}
theorem SaysQ.fact (c : SaysQ fa fn hd P K) (i : Nat) {f : KF → Bool} (h : fa[i]? = some f := by rfl) : f K = true := by
  have c1 : (fa.all fun f => f K) = true := congrArg (fun z : AlQ => z.1) c
  exact List.all_eq_true.mp c1 f (List.mem_of_getElem? h)
theorem SaysQ.def_ (c : SaysQ fa fn hd P K) (i : Nat) {d : FnQ} (h : fn[i]? = some d := by rfl) : fvQ K (d.at_ K) = d.val := by
  have e : (fn.map fun d => fvQ K (d.at_ K)) = fn.map FnQ.val := congrArg (fun z : AlQ => z.2.1) c
  have e2 : (fn.map fun d => fvQ K (d.at_ K))[i]? = (fn.map FnQ.val)[i]? := by rw [e]
  rw [List.getElem?_map, List.getElem?_map, h] at e2
  exact Option.some.inj e2
theorem SaysQ.hash (c : SaysQ fa fn hd P K) (i : Nat) {p : (KF → Addr) × List Str} (h : hd[i]? = some p := by rfl) : gdH K (p.1 K) = p.2.map (PyData.keyHash P) := by
  have e : (hd.map fun p => gdH K (p.1 K)) = hd.map fun p => p.2.map (PyData.keyHash P) := congrArg (fun z : AlQ => z.2.2) c
  have e2 : (hd.map fun p => gdH K (p.1 K))[i]? = (hd.map fun p => p.2.map (PyData.keyHash P))[i]? := by rw [e]
  rw [List.getElem?_map, List.getElem?_map, h] at e2
  exact Option.some.inj e2
end
theorem walkQ {l : PySem.W.OpenLaw} {k : Nat} {q : Program} {loose : List Str} {XP : (Str → Option Value) → Heap → Prop} {YP : World → Heap → Prop} {d : DefRec} {spec : List D → M D} {x : Str}
    (hn : l.most = some 63) (hdf : d.params.defaults = []) (hr : Room k callerA)
    (hspec : ∀ ns : List Int, ns.length ≤ 63 → (∀ z ∈ ns, Builtin.Int.intBits z ≤ 1048576) → ∃ st', spec [.scr (ns.map D.int)] [] = .ok (.bl true) st')
    (G : ∀ (w : World) (mg : Str → Option Value) (fa : Addr) (h : Heap), YP w h → h.Ns mainGlobals mg → mg d.name = some (.ref fa) →
      ∃ (K : PySem.W.Frag) (fd : FuncData), K.In h ∧ (∀ (s : Shared) (u : Value), BindsTo s fd ⟨[u], []⟩ [(x, u)]) ∧ ∀ base : Heap, K.In base → base.Ns mainGlobals mg → FnG l.prog w K mg base k fa fd [x] (spD K 1 spec)) :
    PySem.W.WalkO q loose XP YP l.row.toRowW d [] (fun f vs => PySem.call f vs) := by
  refine Att.attach_callB hn hdf fun w s0 t mg mb fa o pm cd doc a vs ns Gr Y ho hd hcd hmg hobj hints hlen hbits hg => ?_
  obtain ⟨K, fd, KX, hb, hF⟩ := G w mg fa _ Y Gr.T.g hmg
  obtain ⟨st', e⟩ := hspec ns hlen hbits
  exact end_law KX Gr.T.g Gr.T.b Gr.T.builtins Gr.T.nolimit hg hobj hints (Nat.le_trans hlen (by decide)) hr hF hb fun H hO hS => sp_start e hO hS
end Dn
namespace Dn
open PySem PySem.Spec PyProof.Rows L2
section
variable {X : Cx} {W : WX} {k j : Nat} {te tx : Tbl} {ctx : Expr} {body : List Stmt} {m : Rho → M D} {mb : Rho → Sto → Fl} {pos : Pos}
end
end Dn
namespace Dn
open PySem PySem.Spec PyProof.Rows L2
open Classical in
noncomputable def cleanG (st0 : Sto) (r : Out (List D)) : Out (List D) := match r with
  | .ok ds st => if (D.lst ds).low st0.length = true ∧ Tidy st0 st then .ok ds (st.take st0.length) else .ok ds st
  | .exc x st => if x.low st0.length = true ∧ Tidy st0 st then .exc x (st.take st0.length) else .exc x st
  | .bad => .bad
def gOut : Fl → Out (List D)
  | .next ρ st => match ρ.getLast? with
    | some (some (.lst yd)) => .ok yd st
    | _ => .bad
  | .exc x _ st => .exc x st
  | _ => .bad
noncomputable def gnD (np nN : Nat) (body : Rho → Sto → Fl) : List D → M (List D) := fun ds st => if ds.length = np then cleanG st (gOut (body (rho0 nN ds ++ [some (.lst [])]) st)) else .bad
def spG (K : PySem.W.Frag) (np : Nat) (spec : List D → M (List D)) : SpG := fun vs H cont E => vs.length = np ∧ ∃ F ι st ds, Sim K F ι st H ∧ Reps K F ι ds vs ∧ post K (wE E) [] F ι H (pA K) (spec ds st) cont
section
variable {K : PySem.W.Frag} {W : WX} {σ : L2.St} {F F' : Hp} {ι ι' : List Addr} {H H' : Hp} {st st' : Sto}
theorem clean_okG {ds : List D} {vs : List V} {Q : List V → Hp → Prop} (S : Sim K F ι st H) (x : Ext F ι H F' ι' H') (S' : Sim K F' ι' st' H') (r : Reps K F' ι' ds vs) (q : post K W σ F ι H (pA K) (cleanG st (.ok ds st')) Q) : Q vs H' := by
  unfold cleanG at q
  dsimp only at q
  split at q
  · rename_i h
    have hl := h.1
    simp only [D.low] at hl
    exact q F' (ι'.take st.length) H' vs (x.take (by rw [S.len]; exact Nat.le_refl _)) (S'.take (clean_low S h.2)) (Reps.cut _ _ r hl)
  · exact q F' ι' H' vs x S' r
theorem clean_excG {e : Xc} {cls : Value} {dd : Option Addr} {Q : List V → Hp → Prop} (S : Sim K F ι st H) (x : Ext F ι H F' ι' H') (S' : Sim K F' ι' st' H') (r : XcR K F' ι' H' e cls dd) (q : post K W σ F ι H (pA K) (cleanG st (.exc e st')) Q) : W cls dd σ H' := by
  refine clean_exc (Q := fun _ _ => True) S x S' r ?_
  unfold cleanG at q
  unfold clean
  dsimp only at q ⊢
  split
  · rename_i h
    rw [if_pos h] at q
    exact q
  · rename_i h
    rw [if_neg h] at q
    exact q
theorem gbody_end {E : XK} {cont : List V → Hp → Prop} {r : Fl} (S : Sim K F ι st H) (q : post K (wE E) [] F ι H (pA K) (cleanG st (gOut r)) cont) :
    gPost K (wE E) { nx := fun ys _ H' => cont ys H', rt := fun ys v H' => v = .non ∧ cont ys H' } F ι H r := by
  cases r with
  | next ρ st1 =>
    intro F' ι' H' σ' ys' x S' ⟨yd, e0, R0, r0⟩
    unfold gOut at q
    dsimp only at q
    rw [e0] at q
    exact clean_okG S x S' r0 q
  | exc e ρ st1 =>
    intro F' ι' H' cls dd σ' ys' x S' R' r'
    exact clean_excG (σ := []) S x S' r' q
  | ret _ _ => exact (q : False).elim
  | brk _ _ => exact (q : False).elim
  | cnt _ _ => exact (q : False).elim
  | bad => exact (q : False).elim
end
section
variable {P : Program} {w : World} {K : PySem.W.Frag} {mg : Str → Option Value} {base : Heap}
theorem gen_of {x qual : Str} {stm : Stmt} {f : Addr} {fd : FuncData} {N ps : List Str} {k : Nat} {m : Rho → Sto → Fl} (Fn : Fun K x qual stm f fd) (SC : GScope N ps (defScope stm)) (hN : ps.length ≤ N.length) (hk : k ≤ 5)
    (hb : ∀ (cdv : Value) (B : Around) (fr : List Env) (s : Shared) (H : Hp) (E : XK) (pn : List (Addr × Obj)), Bd (gcxOf P w K mg base N qual (defScope stm) f cdv B fr s H E pn) (wE E) k →
      PassesOwn (model P w) (gcxOf P w K mg base N qual (defScope stm) f cdv B fr s H E pn).A (gcxOf P w K mg base N qual (defScope stm) f cdv B fr s H E pn).env (gcxOf P w K mg base N qual (defScope stm) f cdv B fr s H E pn).xe →
      DGns (gcxOf P w K mg base N qual (defScope stm) f cdv B fr s H E pn) (wE E) (defBody stm) m) :
    GFn P w K mg base (k + 1) f fd ps (spG K ps.length (gnD ps.length N.length m)) := by
  obtain ⟨oc, od, kV, doc, pm, an, cdv, ct, osl, rfl, lk, hcd⟩ := Fn.ex
  refine gfn_of lk hcd SC (fun vs H Q E h => h.1) fun A outer s H vs Q E pn hr hsp => ?_
  obtain ⟨hl, F, ι, st, ds, S, rs, q⟩ := hsp
  have hds : ds.length = ps.length := by rw [rs.length]; exact hl
  have bd : Bd (gcxOf P w K mg base N qual (defScope stm) f cdv A outer s H E pn) (wE E) k := ⟨hr, fun h => absurd h (by omega), rfl, SC.nd, .of takes_gcx⟩
  refine ⟨tGm K (wE E) m, hb cdv A outer s H E pn bd owns_gcx, F, ι, rho0 N.length ds ++ [some (.lst [])], st, S, ⟨[], last_app, by rw [drop_app]; exact REnv.start rs (by omega), Reps.nil⟩, ?_⟩
  unfold gnD at q
  rw [if_pos hds] at q
  exact gbody_end S q
end
structure GnC (P : Program) (w : World) (K : PySem.W.Frag) (mg : Str → Option Value) (base : Heap) (k : Nat) (x : Str) (np : Nat) (spec : List D → M (List D)) : Prop where
  ex : ∃ (f : Addr) (fd : FuncData) (ps : List Str), GFn P w K mg base k f fd ps (spG K np spec) ∧ mg x = some (.ref f) ∧ PySem.W.keepIn K (.ref f) = true ∧ Binds K fd ps []
structure GnM (P : Program) (w : World) (K : PySem.W.Frag) (mg : Str → Option Value) (base : Heap) (k : Nat) (m n : Str) (np : Nat) (spec : List D → M (List D)) : Prop where
  ex : ∃ (C f : Addr) (fd : FuncData) (ps : List Str), PySem.W.nsIn K mainGlobals n = some (some (.ref C)) ∧ Cls K C ∧ Meth K C m f ∧ GFn P w K mg base k f fd ps (spG K np spec) ∧ Binds K fd ps []
def NeedG (np : Nat) (spec : List D → M (List D)) : Prop := ∀ ds st, ds.length ≠ np → spec ds st = .bad
theorem needG_gnD {np nN : Nat} {m : Rho → Sto → Fl} : NeedG np (gnD np nN m) := fun _ _ h => if_neg h
def lGen (spec : List D → M (List D)) (am : Rho → M (List D)) : Rho → M (List D) := fun ρ st => (am ρ st).bind fun ds st1 => nox (spec ds st1)
section
variable {X : Cx} {W : WX} {k j np : Nat} {x : Str} {spec : List D → M (List D)} {p p2 pos pos2 : Pos} {e : Expr} {es : List Expr} {am : Rho → M (List D)}
theorem passE0 {X : Cx} : Passes (CX X.prog X.w) X (fun _ _ _ => False) := fun _ _ _ _ _ _ _ h => by
  obtain ⟨_, _, _, _, _, _, _, _, _, _, _, _, z⟩ := h
  exact z.elim
theorem gen_post {σ : L2.St} {F : Hp} {ι : List Addr} {H : Hp} {st : Sto} {ds : List D} {Q : VK} (q : post X.K W σ F ι H (pL X.K) (nox (spec ds st)) Q) :
    post X.K (wE fun _ _ _ => False) [] F ι H (pA X.K) (spec ds st) (fun out H2 => ∀ p, H2 p = none → Q (.ref p) (upd H2 p (.lst out))) := by
  cases e : spec ds st with
  | ok ys st1 =>
    rw [e] at q
    exact fun F' ι' H' vs x S r p hp => q F' ι' _ _ (x.trans (Ext.laid hp)) (S.laid hp) (back_L _ _ _ _ _ _ _ x.there (pL_new S hp r))
  | exc _ _ => rw [e] at q; exact (q : False).elim
  | bad => rw [e] at q; exact (q : False).elim
theorem noStop0 {K : PySem.W.Frag} : NoStop K (fun _ _ _ => False) := fun _ _ _ h => h.elim
theorem dl_listG (B : Bd X W j) (C : GnC X.prog X.w X.K X.mg X.base k x np spec) (nn : NeedG np spec) (hk : k + 3 ≤ j) (hgl : Gl X "list") (hml : X.mg "list" = none) (hg : Gl X x) (ha : DA X W (e :: es) am) (hdb : (x == ("__debug__" : Str)) = false := by decide)
    (he : starEach (e :: es) X.env = (false, eval e X.env) :: starEach es X.env := by rfl) (hpl : (backTo pos2 (starEach (e :: es) X.env)).any (·.1) = false := by rfl) (hpl2 : (backTo pos2 (starEach es X.env)).any (·.1) = false := by rfl)
    (hn : starEach [.Call (.Name x p2) (e :: es) [] pos2] X.env = (false, eval (.Call (.Name x p2) (e :: es) [] pos2) X.env) :: starEach [] X.env := by rfl) :
    DL X W (.Call (.Name "list" p) [.Call (.Name x p2) (e :: es) [] pos2] [] pos) (lGen spec am) := by
  obtain ⟨f, fd, ps, F, hm, kp, hb⟩ := C.ex
  refine PE.weak (pe_listG (pgen_call (E := fun _ _ _ => False) (dvs := []) (ds := []) F (B.room.mono (by omega)) hg hm kp hb .nil ha hdb he hpl2) passE0 noStop0 (B.room.mono hk) hgl hml rfl (by decide) (by decide) hn) fun σ H Q ⟨F0, ι, ρ, st, S, R, q⟩ => ?_
  refine tG_seq back_L S R q fun ds st1 F1 ι1 H1 vs x1 S1 R1 r1 q1 => ?_
  by_cases hl : (vs ++ []).length = np
  · exact ⟨hl, F1, ι1, st1, ds, S1, by rw [List.append_nil]; exact r1, gen_post q1⟩
  · have hd : ds.length ≠ np := fun e => hl (by rw [List.append_nil, ← r1.length]; exact e)
    rw [nn ds st1 hd] at q1
    exact (q1 : False).elim
end
end Dn
namespace Dn
open PySem PySem.Spec PyProof.Rows L2
section
variable {S : Type} {W : Wd S} {fr : Sto} {Γ : List Sl} {β : Type}
def FOG (W : Wd S) (st : Sto) (enc : β → D) (r : Out (List D)) (q : Rs S (List β)) : Prop := match q with
  | .ok b s' => ∃ st', r = .ok (b.map enc) st' ∧ Pre W st s' st'
  | .exc x s' => ∃ st', r = .exc x st' ∧ Pre W st s' st' ∧ x.pl
  | .bad => True
  | .amb P f => ∃ n, P n ∧ FOG W st enc r (f n)
def FGn (W : Wd S) (d : List D → M (List D)) (args : List D) (q : Mt S (List β)) (enc : β → D) : Prop := ∀ (st : Sto) (s : S), W.has s st → FOG W st enc (d args st) (q s)
theorem cleanG_pre {s s' : S} {b st' : Sto} {ds : List D} (h0 : W.has s b) (h : Pre W b s' st') : ∃ st2, cleanG b (.ok ds st') = .ok ds st2 ∧ Pre W b s' st2 := by
  unfold cleanG
  dsimp only
  split
  · rename_i t
    exact ⟨_, rfl, h.take h0 t.2⟩
  · exact ⟨_, rfl, h⟩
theorem cleanG_preX {s s' : S} {b st' : Sto} {x : Xc} (h0 : W.has s b) (h : Pre W b s' st') : ∃ st2, cleanG b (.exc x st') = .exc x st2 ∧ Pre W b s' st2 := by
  unfold cleanG
  dsimp only
  split
  · rename_i t
    exact ⟨_, rfl, h.take h0 t.2⟩
  · exact ⟨_, rfl, h⟩
theorem fg_of {enc : β → D} {np nN : Nat} {m : Rho → Sto → Fl} {ds : List D} {q : Mt S (List β)} {Γ' : List β → List Sl} (hn : ds.length = np) (hl : ds.length ≤ nN)
    (h : ∀ fr, TN W fr ((ds.map .val ++ List.replicate (nN - ds.length) .any) ++ [.val (.lst (([] : List β).map enc))]) m q fun out => Γ' out ++ [.val (.lst (out.map enc))]) : FGn W (gnD np nN m) ds q enc := fun st s hs => by
  have h0 := (has_start (W := W) (np := np) (s := s) (fr := st) hs hl).push (.lst (([] : List β).map enc))
  have := h st s _ _ h0
  unfold gnD
  rw [if_pos hn]
  revert this
  show NR W st _ (m (rho0 nN ds ++ [some (.lst [])]) st) (q s) → _
  generalize q s = r
  generalize m (rho0 nN ds ++ [some (.lst [])]) st = fl
  intro h
  induction r with
  | ok b s' =>
    obtain ⟨ρ', st', rfl, H⟩ := h
    obtain ⟨ρ0, rfl, H0⟩ := H.pop
    show FOG W st enc (cleanG st (gOut (.next (ρ0 ++ [some (.lst (b.map enc))]) st'))) _
    unfold gOut
    dsimp only
    rw [last_app]
    exact cleanG_pre hs H.pre
  | exc x s' =>
    obtain ⟨ρ', st', rfl, h2, h3⟩ := h
    obtain ⟨st2, e2, h4⟩ := cleanG_preX (x := x) hs h2
    exact ⟨st2, e2, h4, h3⟩
  | bad => trivial
  | amb P_ f_ ih_ =>
    obtain ⟨n_, p_, h_⟩ := h
    exact ⟨n_, p_, ih_ n_ h_⟩
end
theorem wk_push {a b : List Sl} {x : Sl} (h : Wk a b) : Wk (a ++ [x]) (b ++ [x]) := by
  induction h with
  | nil => exact .same .nil
  | same _ ih => exact .same ih
  | any _ ih => exact .any ih
end Dn
namespace Dn
open PySem PySem.Spec PyProof.Rows L2
abbrev TblG := List (Str × (List D → M (List D)))
section
variable {P : Program} {w : World} {K : PySem.W.Frag} {mg : Str → Option Value} {base : Heap} {k k' np : Nat} {m n : Str} {spec : List D → M (List D)} {t : TblG}
end
section
variable {X : Cx} {W : WX} {k j np : Nat} {m : Str} {t : TblG} {e o : Expr} {es : List Expr} {mo : Rho → M D} {am : Rho → M (List D)} {p pos pos2 apos : Pos}
end
section
variable {A : Type} {R : DkR A} {fr : Sto} {Γ : List Sl} {β : Type}
end
end Dn
namespace Dn
open PySem PySem.Spec PyProof.Rows L2
inductive ClT (X : Cx) : Expr → List Value → Prop
  | one {x : Str} {c : Value} {np : Pos} (hc : Names X x c) : ClT X (.Name x np) [c]
  | two {x y : Str} {c d : Value} {np nq tp : Pos} {kk : Nat} (hc : Names X x c) (hd : Names X y d) : ClT X (.Tuple [.Name x np, .Name y nq] kk tp) [c, d]
inductive ClB (X : Cx) (n : Str) : List ExceptHandler → List (List Value × (Addr → Value → Option Addr → TS)) → Prop
  | nil : ClB X n [] []
  | cons {t : Expr} {cs : List Value} {ts : Addr → Value → Option Addr → TS} {b₀ : Stmt} {suite : List Stmt} {pos' : Pos} {hds : List ExceptHandler} {l : List (List Value × (Addr → Value → Option Addr → TS))} (hc : ClT X t cs)
      (hsu : ∀ (a : Addr) (oe : Obj) (cls : Value) (d : Option Addr) (pn : List (Addr × Obj)), Zc cls d oe → (∃ vs, oe.data = .fields vs) → PSs (X.suite a ((a, oe) :: pn)) (b₀ :: suite) (ts a cls d)) (r : ClB X n hds l) :
      ClB X n (.ExceptHandler (some t) (some n) (b₀ :: suite) pos' :: hds) ((cs, ts) :: l)
section
variable {X : Cx} {n : Str} {i : Nat} {body : List Stmt} {h₀ : ExceptHandler} {hds : List ExceptHandler} {l : List (List Value × (Addr → Value → Option Addr → TS))} {pos : Pos} {tb : WX → TS} {Wout : WX}
end
end Dn
namespace Dn
open PySem PySem.Spec PyProof.Rows L2
def ExmP (K : PySem.W.Frag) (n y1 y2 : Str) (b : Bool) : Prop := ∀ C D1 D2, PySem.W.nsIn K mainGlobals n = some (some (.ref C)) → PySem.W.nsIn K mainGlobals y1 = some (some (.ref D1)) → PySem.W.nsIn K mainGlobals y2 = some (some (.ref D2)) →
  PySem.W.exmAny K (.ref C) [.ref D1, .ref D2] = some b
inductive CLb (X : Cx) (n : Str) (i : Nat) : List ExceptHandler → Clz → Prop
  | nil : CLb X n i [] []
  | cons {y : Str} {suite : List Stmt} {b₀ : Stmt} {np pos' : Pos} {mh : Xc → D → Rho → Sto → Fl} {yes no : List Str} {hds : List ExceptHandler} {cl : Clz} (hg : Gl X y) (T : ErrX X.K X.mg y) (hE1 : ∀ z ∈ yes, ErrX X.K X.mg z) (hE2 : ∀ z ∈ no, ErrX X.K X.mg z) (hyes : ∀ z ∈ yes, ExmB X.K z y true) (hno : ∀ z ∈ no, ExmB X.K z y false)
      (hh : ∀ (x : Xc) (e : D) (a : Addr) (oe : Obj) (pn : List (Addr × Obj)), x.nm ∈ yes → HC X x e a oe → DSs (X.suite a ((a, oe) :: pn)) wN (b₀ :: suite) (mh x e)) (hu : ∀ x, IndS i (mh x)) (r : CLb X n i hds cl) (hdb : (y == ("__debug__" : Str)) = false := by decide) :
      CLb X n i (.ExceptHandler (some (.Name y np)) (some n) (b₀ :: suite) pos' :: hds) ((yes, no, mh) :: cl)
  | two {y y2 : Str} {suite : List Stmt} {b₀ : Stmt} {np nq tp pos' : Pos} {kk : Nat} {mh : Xc → D → Rho → Sto → Fl} {yes no : List Str} {hds : List ExceptHandler} {cl : Clz} (hg : Gl X y) (T : ErrX X.K X.mg y) (hg2 : Gl X y2) (T2 : ErrX X.K X.mg y2) (hE1 : ∀ z ∈ yes, ErrX X.K X.mg z) (hE2 : ∀ z ∈ no, ErrX X.K X.mg z) (hyes : ∀ z ∈ yes, ExmP X.K z y y2 true) (hno : ∀ z ∈ no, ExmP X.K z y y2 false)
      (hh : ∀ (x : Xc) (e : D) (a : Addr) (oe : Obj) (pn : List (Addr × Obj)), x.nm ∈ yes → HC X x e a oe → DSs (X.suite a ((a, oe) :: pn)) wN (b₀ :: suite) (mh x e)) (hu : ∀ x, IndS i (mh x)) (r : CLb X n i hds cl) (hdb : (y == ("__debug__" : Str)) = false := by decide) (hdb2 : (y2 == ("__debug__" : Str)) = false := by decide) :
      CLb X n i (.ExceptHandler (some (.Tuple [.Name y np, .Name y2 nq] kk tp)) (some n) (b₀ :: suite) pos' :: hds) ((yes, no, mh) :: cl)
section
variable {X : Cx} {W : WX} {n : Str} {i : Nat} {body : List Stmt} {h₀ : ExceptHandler} {hds : List ExceptHandler} {cl : Clz} {pos : Pos} {mb : Rho → Sto → Fl}
end
end Dn
namespace HotX
open PySem PySem.Spec PyProof.Rows
end HotX
namespace L2H
open PySem PySem.Spec PyProof.Rows L2 HotX
end L2H
namespace Dn
open PySem PySem.Spec PyProof.Rows L2
abbrev suiteE (X : Cx) (a : Addr) (pn : List (Addr × Obj)) (xe : Value → Shared → Prop) : Cx := { X with A := X.A.mark (some (.ref a)), calm := false, pn := pn, xe := xe }
section
variable {X : Cx} {pins : List (Addr × Obj)} {σ : L2.St} {H : Hp} {s : Shared}
end
def sxe (X : Cx) (Wr : WX) (i : Nat) : Value → Shared → Prop := fun u s' => L2.XE X (fun cls d σ H => Wr cls d (σ.set i none) H) u s'
abbrev ZL := List (List Value × Bool × (Addr → Value → Option Addr → TS))
inductive ClZ (X : Cx) (Wr : WX) (i : Nat) (n : Str) : List ExceptHandler → ZL → Prop
  | nil : ClZ X Wr i n [] []
  | named {t : Expr} {cs : List Value} {ts : Addr → Value → Option Addr → TS} {b₀ : Stmt} {suite : List Stmt} {pos' : Pos} {hds : List ExceptHandler} {l : ZL} (hc : ClT X t cs) (hi : X.N[i]? = some n) (hln : X.env.kindOf n = some .local)
      (hsu : ∀ (a : Addr) (oe : Obj) (cls : Value) (d : Option Addr) (pn : List (Addr × Obj)), L2N.Zn cls d oe → (∃ vs, oe.data = .fields vs) → (∀ W' : WX, (∀ c d σ H, W' c d σ H → Wr c d (σ.set i none) H) → L2.Takes (suiteE X a ((a, oe) :: pn) (sxe X Wr i)) W') → PSs (suiteE X a ((a, oe) :: pn) (sxe X Wr i)) (b₀ :: suite) (ts a cls d)) (r : ClZ X Wr i n hds l) :
      ClZ X Wr i n (.ExceptHandler (some t) (some n) (b₀ :: suite) pos' :: hds) ((cs, true, ts) :: l)
  | bare {t : Expr} {cs : List Value} {ts : Addr → Value → Option Addr → TS} {b₀ : Stmt} {suite : List Stmt} {pos' : Pos} {hds : List ExceptHandler} {l : ZL} (hc : ClT X t cs)
      (hsu : ∀ (a : Addr) (oe : Obj) (cls : Value) (d : Option Addr) (pn : List (Addr × Obj)), L2N.Zn cls d oe → (∃ vs, oe.data = .fields vs) → PSs (X.suite a ((a, oe) :: pn)) (b₀ :: suite) (ts a cls d)) (r : ClZ X Wr i n hds l) :
      ClZ X Wr i n (.ExceptHandler (some t) none (b₀ :: suite) pos' :: hds) ((cs, false, ts) :: l)
section
variable {X : Cx} {n : Str} {i : Nat} {body : List Stmt} {h₀ : ExceptHandler} {hds : List ExceptHandler} {l : ZL} {pos : Pos} {tb : WX → TS} {Wout Wr : WX}
end
end Dn
namespace HotX
open PySem PySem.Spec PyProof.Rows
section
variable {prog : Program} {w : World} {A : Around} {E : Value → Shared → Prop} {s : Shared}
theorem HotAt.keep {x1 : Addr} {h h' : Heap} (q : HotAt A x1 h) (k : ∀ o, h.get? x1 = some o → h'.get? x1 = some o) : HotAt A x1 h' := by
  obtain ⟨q1, o, vs, q2, q3, q4⟩ := q
  exact ⟨q1, o, vs, k o q2, q3, q4⟩
end
end HotX
namespace Dn
open PySem PySem.Spec PyProof.Rows L2 HotX L2H
section
variable {X : Cx} {W : WX} {m1 m2 : Rho → M D}
end
end Dn
namespace Dn
open PySem PySem.Spec PyProof.Rows L2 HotX L2H
def FnX (P : Program) (w : World) (K : PySem.W.Frag) (mg : Str → Option Value) (base : Heap) (k : Nat) (f : Addr) (fd : FuncData) (p1 : Str) (nms : List Str) : Prop :=
  ∀ (A : Around) (outer : List Env) (s : Shared) (H : Hp) (ar : Args) (a : Addr) (oe : Obj) (x : Xc) (e : D) (F : Hp) (ι : List Addr) (st : Sto) (Q : VK) (E : XK), RoomH k A → A.handled = some (.ref a) → PinOk outer H s (a, oe) →
    (∃ C d, PySem.W.nsIn K mainGlobals x.nm = some (some (.ref C)) ∧ ExcC K C ∧ Zc (.ref C) d oe ∧ EV x a d e) → (∃ vs, oe.data = .fields vs) → PXN.CtxN oe → x.nm ∈ nms → Env0 P w K mg base A outer s H → BindsTo s fd ar [(p1, .ref a)] →
    Sim K F ι st H → Rep K F ι e (.ref a) → (∀ F' ι' H' v, Ext F ι H F' ι' H' → Sim K F' ι' st H' → Rep K F' ι' (.str x.nm) v → Q v H') → codeAny (model P w) A (.call (.ref f) ar) (CR (L2.CX P w) outer P w H s Q E) s
section
variable {P : Program} {w : World} {K : PySem.W.Frag} {mg : Str → Option Value} {base : Heap}
structure FnXC (P : Program) (w : World) (K : PySem.W.Frag) (mg : Str → Option Value) (base : Heap) (k : Nat) (x : Str) (nms : List Str) : Prop where
  ex : ∃ (f : Addr) (fd : FuncData) (p1 : Str), FnX P w K mg base k f fd p1 nms ∧ mg x = some (.ref f) ∧ PySem.W.keepIn K (.ref f) = true ∧ Binds K fd [p1] []
end
section
variable {X : Cx} {W : WX} {x : Xc} {e : D} {a : Addr} {oe : Obj} {pn : List (Addr × Obj)} {i k j : Nat} {p p2 pos : Pos} {ev fn : Str} {nms : List Str}
end
end Dn
namespace Dn
open PySem PySem.Spec PyProof.Rows L2 HotX L2H PySem.FldX
structure ClTX (X : Cx) (t : Expr) (yes no : List Str) : Prop where
  ex : ∃ cs, ClT X t cs ∧ (∀ z ∈ yes, ∀ C, PySem.W.nsIn X.K mainGlobals z = some (some (.ref C)) → PySem.W.exmAny X.K (.ref C) cs = some true) ∧ (∀ z ∈ no, ∀ C, PySem.W.nsIn X.K mainGlobals z = some (some (.ref C)) → PySem.W.exmAny X.K (.ref C) cs = some false)
section
variable {X : Cx} {y y2 : Str} {np nq tp : Pos} {kk : Nat} {yes no : List Str}
end
inductive CLz (X : Cx) (n : Str) (i : Nat) : List ExceptHandler → Clz → Prop
  | nil : CLz X n i [] []
  | cons {t : Expr} {suite : List Stmt} {b₀ : Stmt} {pos' : Pos} {mh : Xc → D → Rho → Sto → Fl} {yes no : List Str} {hds : List ExceptHandler} {cl : Clz} (hct : ClTX X t yes no) (hE1 : ∀ z ∈ yes, ErrX X.K X.mg z) (hE2 : ∀ z ∈ no, ErrX X.K X.mg z)
      (hh : ∀ (x : Xc) (e : D) (a : Addr) (oe : Obj) (pn : List (Addr × Obj)), x.nm ∈ yes → HC X x e a oe → PXN.CtxN oe → DSs (X.suite a ((a, oe) :: pn)) wN (b₀ :: suite) (mh x e)) (hu : ∀ x, IndS i (mh x)) (r : CLz X n i hds cl) :
      CLz X n i (.ExceptHandler (some t) (some n) (b₀ :: suite) pos' :: hds) ((yes, no, mh) :: cl)
section
variable {X : Cx} {W : WX} {n : Str} {i : Nat} {body : List Stmt} {h₀ : ExceptHandler} {hds : List ExceptHandler} {cl : Clz} {pos : Pos} {mb : Rho → Sto → Fl}
end
section
variable {X : Cx} {W : WX} {body suite : List Stmt} {b₀ : Stmt} {t : Expr} {pos pos' : Pos} {mb mh : Rho → Sto → Fl} {yes no : List Str}
end
section
variable {X : Cx} {W : WX} {body : List Stmt} {t arg : Expr} {pos pos' pr pc p pos2 : Pos} {mb : Rho → Sto → Fl} {yes no : List Str} {n nm f : Str} {i : Nat} {m : Rho → M D}
end
end Dn
namespace Dn
open PySem PySem.Spec PyProof.Rows L2
section
variable {X : Cx} {W : WX} {o e f : Expr} {apos cpos : Pos} {mo mi me : Rho → M D}
end
section
variable {P : Program} {w : World} {K : PySem.W.Frag} {mg : Str → Option Value} {base : Heap} {k k' : Nat} {m n : Str} {spec : List D → M D} {t : Tbl}
end
section
variable {X : Cx} {W : WX} {k j : Nat} {m : Str} {t : Tbl} {o e2 : Expr} {mo m2 : Rho → M D} {p pos apos : Pos}
end
end Dn
namespace Dn
open PySem PySem.Spec PyProof.Rows L2
section
variable {S σ β : Type}
end
section
variable {S : Type} {W : Wd S} {fr : Sto} {Γ : List Sl} {σ β : Type} {i : Nat} {enc : β → D}
end
section
variable {S : Type} {W : Wd S} {fr : Sto} {Γ : List Sl}
end
end Dn
namespace Dn
open PySem PySem.Spec PyProof.Rows L2 HotX L2H
structure NdX (X : Cx) : Prop where nd : X.N.Nodup
end Dn
namespace Dn
open PySem PySem.Spec PyProof.Rows L2
structure FnIC (P : Program) (w : World) (K : PySem.W.Frag) (mg : Str → Option Value) (base : Heap) (k : Nat) (nm : Str) (spec : List D → M D) (C : Addr) : Prop where
  ex : ∃ f : Addr, PySem.W.nsIn K mainGlobals nm = some (some (.ref C)) ∧ Mk K C f ∧ RunE P w K mg base k f spec
section
variable {X : Cx} {W : WX} {k j i : Nat} {a : Addr} {nm x : Str} {spec : List D → M D} {e : Expr} {es : List Expr} {am : Rho → M (List D)} {pos p : Pos}
end
structure FnCM (P : Program) (w : World) (K : PySem.W.Frag) (mg : Str → Option Value) (base : Heap) (k : Nat) (nm m : Str) (spec : Addr → List D → M D) : Prop where
  ex : ∃ (C p g : Addr) (mc : Value), mg nm = some (.ref C) ∧ ClX.CRead K C mc ∧ ClX.CMet K C mc m p g ∧ RunE P w K mg base k g (spec C)
  ind : ∀ a ds st, spec a (.adr a :: ds) st = spec 0 (.adr 0 :: ds) st
section
variable {X : Cx} {W : WX} {k j : Nat} {nm m : Str} {spec : Addr → List D → M D} {e : Expr} {es : List Expr} {am : Rho → M (List D)} {pos apos p : Pos}
end
section
variable {S : Type} {W : Wd S} {fr : Sto} {Γ : List Sl}
end
end Dn
namespace Dn
open PySem PySem.Spec PyProof.Rows L2
end Dn
namespace Dn
open PySem PySem.Spec PyProof.Rows L2
structure IsKU (K : PySem.W.Frag) (n : Str) (T : String) (b : Bool) : Prop where
  ex : ∃ C, PySem.W.nsIn K mainGlobals n = some (some (.ref C)) ∧ Cls K C ∧ PySem.W.findIn K (.ref C) "__class__" = some (some (.builtin "object.__class__")) ∧ PySem.W.specialIn K (.builtin "object.__class__") "__get__" = some (some (.builtin "getset_descriptor.__get__")) ∧
    PySem.W.takesIn K (.builtin "object.__class__") = some true ∧ PySem.W.mroIn K C (.type "object") = some true ∧ PySem.W.kitOne K (.ref C) (.type T) = some b
section
variable {X : Cx} {W : WX} {pos p p2 : Pos} {e : Expr} {m : Rho → M D}
end
section
variable {S : Type} {W : Wd S} {fr : Sto} {Γ : List Sl}
end
section
variable {A : Type} {R : DkR A} {fr : Sto} {Γ : List Sl}
end
structure ConK (K : PySem.W.Frag) (n f : Str) (i : Int) : Prop where
  ex : ∃ C t, PySem.W.nsIn K mainGlobals n = some (some (.ref C)) ∧ Cls K C ∧ PySem.W.findIn K (.ref C) f = some (some (.int i t)) ∧ PySem.W.specialIn K (.int i t) "__get__" = some none
section
variable {X : Cx} {W : WX} {f : Str} {i : Int} {nms : List Str} {e : Expr} {m : Rho → M D} {pos : Pos}
end
section
variable {A : Type} {R : DkR A} {fr : Sto} {Γ : List Sl}
end
end Dn
namespace Dn
open PySem PySem.Spec PyProof.Rows L2
section
variable {S : Type} {W : Wd S} {fr : Sto} {Γ : List Sl}
end
section
variable {S τ β : Type}
end
section
variable {S : Type} {W : Wd S} {fr : Sto} {Γ : List Sl} {τ β : Type} {i : Nat} {enc : β → D}
inductive ClF (W : Wd S) (fr : Sto) (Γ : List Sl) (i : Nat) (J : τ → List Sl) (enc : β → D) : Clz → Clm S (τ ⊕ β) → Prop
  | nil : ClF W fr Γ i J enc [] []
  | cons {yes no : List Str} {mh : Xc → D → Rho → Sto → Fl} {qh : Xc → Mt S (τ ⊕ β)} {cl : Clz} {cm : Clm S (τ ⊕ β)} (hh : ∀ x, TF W fr ((keepK Γ).set i (.val (e0 x))) (mh x (e0 x)) (qh x) J enc) (r : ClF W fr Γ i J enc cl cm) : ClF W fr Γ i J enc ((yes, no, mh) :: cl) ((yes, no, qh) :: cm)
end
section
variable {A : Type} {R : DkR A} {fr : Sto} {Γ : List Sl}
end
end Dn
namespace Dn
open PySem PySem.Spec PyProof.Rows L2
section
variable {P : Program} {w : World} {K : PySem.W.Frag} {mg : Str → Option Value} {base : Heap}
structure FnV (P : Program) (w : World) (K : PySem.W.Frag) (mg : Str → Option Value) (base : Heap) (k : Nat) (x : Str) (np : Nat) (spec : List D → M D) : Prop where
  ex : ∃ (f : Addr) (fd : FuncData) (ps : List Str), FnG P w K mg base k f fd ps (spD K np spec) ∧ mg x = some (.ref f) ∧ PySem.W.keepIn K (.ref f) = true ∧ Binds K fd ps []
  at_ : ∃ f, mg x = some (.ref f) ∧ PySem.W.nsIn K mainGlobals x = some (some (.ref f))
end
section
variable {X : Cx} {W : WX} {j k np i : Nat} {x a : Str} {spec : List D → M D} {tb : Tbl} {p pos : Pos} {e : Expr} {es : List Expr} {am : Rho → M (List D)}
end
section
variable {X : Cx} {W : WX} {k : Nat} {body : List Stmt} {f₀ : Stmt} {fs : List Stmt} {pos : Pos} {mb mf : Rho → Sto → Fl}
end
section
variable {S : Type} {W : Wd S} {fr : Sto} {Γ : List Sl} {σ β τ : Type} {enc : β → D}
end
section
variable {A : Type} {R : DkR A} {fr : Sto} {Γ : List Sl}
end
section
variable {A : Type} {R : DkR A} {fr : Sto} {Γ : List Sl}
end
section
variable {S : Type} {W : Wd S} {fr : Sto} {Γ : List Sl}
end
structure ConC (K : PySem.W.Frag) (mg : Str → Option Value) (nm f : Str) (i : Int) : Prop where
  ex : ∃ (C : Addr) (t : Tok), mg nm = some (.ref C) ∧ ClX.CRead K C (.type "type") ∧ PySem.W.findCls K (.ref C) (.type "type") f = some (.val (.int i t))
end Dn
namespace Dn
open PySem PySem.Spec PyProof.Rows L2
section
variable {X : Cx} {W : WX} {a b c : Expr} {ta : TA} {p p2 pos pos2 : Pos} {m1 m2 m3 : Rho → M D}
end
section
variable {S : Type} {W : Wd S} {fr : Sto} {Γ : List Sl}
end
end Dn
namespace Dn
open PySem PySem.Spec PyProof.Rows L2
section
variable {S : Type} {W : Wd S} {fr : Sto} {Γ : List Sl}
end
end Dn
namespace Dn
open PySem PySem.Spec PyProof.Rows L2
def txOf (e : Int × Value) : Str := match e.2 with | .str k _ => k | _ => Str.empty
def TxRow (w : World) (e : Int × Value) : Prop := ∃ k u, e.2 = Value.str k u ∧ e.1 = hashStr w k
def SetX (w : World) (h : Heap) (b : Addr) (M : Str → Bool) (c : Nat) : Prop :=
  ∃ ob rw_ ep tb, h.get? b = some ob ∧ ob.ExactSet ∧ ob.data = .set rw_ ep tb ∧ (∀ e ∈ rw_.toList, TxRow w e) ∧ (rw_.toList.map txOf).Nodup ∧ (∀ k, M k = true ↔ k ∈ rw_.toList.map txOf) ∧
    rw_.size < scanBound ∧ tb.fits rw_.size = true ∧ rw_.size = c ∧ Ris tb.place.toList ∧ (w.params.followText "set-order" = true ∨ tb.led = true)
section
variable {P : Program} {w : World} {h h' : Heap} {b : Addr} {M : Str → Bool} {c : Nat}
theorem SetX.at (X : SetX w h b M c) (k : ∀ ob, h.get? b = some ob → h'.get? b = some ob) : SetX w h' b M c := by
  obtain ⟨ob, rw_, ep, tb, ho, q⟩ := X
  exact ⟨ob, rw_, ep, tb, k ob ho, q⟩
theorem SetX.same {M' : Str → Bool} (X : SetX w h b M c) (e : ∀ k, M' k = M k) : SetX w h b M' c := by
  rw [show M' = M from funext e]; exact X
end
section
variable {P : Program} {w : World} {A : Around} {E : Value → Shared → Prop} {s : Shared} {b : Addr} {M : Str → Bool} {c : Nat}
end
section
variable {P : Program} {w : World} {A : Around} {E : Value → Shared → Prop} {s : Shared}
end
section
variable {X : Cx} {W : WX} {a : Expr} {m : Rho → M D} {p p2 q pos : Pos}
end
section
variable {S : Type} {W : Wd S} {fr : Sto} {Γ : List Sl}
end
end Dn
namespace Dn
open PySem PySem.Spec PyProof.Rows L2
theorem stepD_leA {α : Type} (xs : List α) (lo hi st : Option Int) : (stepD xs lo hi st).length ≤ xs.length := by
  unfold stepD
  refine Nat.le_trans (List.length_filterMap_le _ _) (sliceRange_length_le _ _ _ _ (fun hc => ?_) fun hc => ?_)
  · unfold sliceBounds at hc ⊢
    simp only at hc
    simp only [hc, if_true]
    refine ⟨?_, ?_⟩
    · cases lo with
      | none => exact Int.le_refl _
      | some i => dsimp only; omega
    · cases hi with
      | none => exact Int.le_refl _
      | some i => dsimp only; omega
  · unfold sliceBounds at hc ⊢
    simp only at hc
    simp only [hc, if_false]
    refine ⟨?_, ?_⟩
    · cases lo with
      | none => exact Int.le_refl _
      | some i => dsimp only; omega
    · cases hi with
      | none => exact Int.le_refl _
      | some i => dsimp only; omega
section
variable {X : Cx} {W : WX} {e : Expr} {lo hi : Option Expr} {pos p2 : Pos}
theorem sl_stepA : SlR4 X (fun x lo hi st H Q => ∃ a xs c, x = .ref a ∧ SqL X.K H a xs ∧ st = some c ∧ c ≠ 0 ∧ ∀ p, H p = none → Q (.ref p) (upd H p (.lst (stepD xs lo hi st)))) := by
  intro pins s σ H x v vl vu vk lo hi st sl Q I rx hs pl pu pk ⟨a, xs, c, e, hx, est, hc, q⟩
  subst e est
  cases rx
  obtain ⟨its, r, ht, hz⟩ := I.list hx
  have hlen := r.length
  refine ⟨"list", _, slot_list_getitem.lookup, ht.isList.typeIs, ?_⟩
  refine wpAny_getItem_list_slice ht.isList hs pl pu pk (by intro h; cases h; exact hc rfl) ?_ (by rw [List.size_toArray]; omega)
  have e1 : slicePick its.toArray lo hi (some c) = (stepD its lo hi (some c)).toArray := by
    unfold slicePick stepD
    rw [List.size_toArray]
    congr 2
    funext i
    exact List.getElem?_toArray
  rw [e1]
  have hv : Vals (stepD xs lo hi (some c)) (stepD its lo hi (some c)) := by
    unfold stepD
    rw [hlen]
    exact pick_vals _ r
  refine ⟨.ref s.heap.objs.size, _, I.laid (t' := s.toks) (o := .lst (stepD xs lo hi (some c))) (fun b ob q => Heap.get?_push_of_some _ q) (Nat.le_refl _) ?_, rfl, q _ (I.hok.fresh (Nat.le_refl _))⟩
  exact ⟨Nat.le_trans (stepD_leA xs lo hi _) hz, stepD its lo hi (some c), 0, hv, Heap.get?_push_size _ rfl⟩
def lSlNeg (m : Rho → M D) (l : Rho → M (Option Int)) : Rho → M (List D) := fun ρ st => (m ρ st).bind fun d st1 => (l ρ st1).bind fun lo st2 => (lift (lstOf st2 d) st2).bind fun xs st3 => .ok (stepD xs lo none (some (-1))) st3
theorem dl_slNeg {m : Rho → M D} {l : Rho → M (Option Int)} {j : Nat} {p3 p4 : Pos} (ha : DE X W e m) (hl : DO X W lo l) : DL X W (.Subscript e (.Slice lo none (some (.UnaryOp .USub (.Constant (.int 1) j p3) p4)) p2) pos) (lSlNeg m l) := by
  refine PE.weak (pe_slice4 sl_stepA ha hl po_none (po_some (pe_un un_neg (pe_int (i := 1))))) fun σ H Q ⟨F, ι, ρ, st, S, R, q⟩ => ?_
  refine tG_seq back_L S R q fun d st1 F1 ι1 H1 v1 x1 S1 R1 r1 q1 => ?_
  refine tG_seq back_L S1 R1 q1 fun lo st2 F2 ι2 H2 lo' x2 S2 R2 r2 q2 => ?_
  have r2 : lo = lo' := r2
  subst r2
  cases e : lstOf st2 d with
  | none => rw [e] at q2; exact (q2 : False).elim
  | some xs =>
    rw [e] at q2
    obtain ⟨p, vs, e2, hq, rr⟩ := S2.lst (Rep.ext r1 x2) e
    refine ⟨1, rfl, -1, rfl, p, vs, -1, e2, SqL.of hq, rfl, by decide, fun n hn => q2 F2 ι2 _ _ (Ext.laid hn) (S2.laid hn) (pL_new S2 hn ?_)⟩
    unfold stepD
    rw [rr.length]
    exact pick_reps _ rr
end
section
variable {S : Type} {W : Wd S} {fr : Sto} {Γ : List Sl} {α : Type} {e : α → D}
theorem ht_slNeg {m : Rho → M D} {l : Rho → M (Option Int)} {q : Mt S (List α)} {ql : Mt S (Option Int)} (hm : HT W fr Γ m q (eL e) fun _ => Γ) (hl : HT W fr Γ l ql id fun _ => Γ) : HT W fr Γ (lSlNeg m l) (mbind q fun xs => mbind ql fun lo => mpure (stepD xs lo none (some (-1)))) (fun zs => zs.map e) fun _ => Γ := fun s ρ st H => by
  unfold lSlNeg
  refine OR.bind (hm s ρ st H) fun xs s1 st1 H1 => ?_
  refine OR.bind (hl s1 ρ st1 H1) fun lo s2 st2 H2 => ⟨st2, ?_, H2⟩
  show Out.ok (stepD (xs.map e) lo none (some (-1))) st2 = _
  rw [stepD_map] <;> rfl
end
section
variable {α : Type} {e : α → D} {n : Nat}
def inO [DecidableEq α] (x : Option α) (xs : List α) : Bool := match x with
  | some y => inB y xs
  | none => false
theorem inB_some [DecidableEq α] (x : Option α) (xs : List α) : inB x (xs.map some) = inO x xs := by
  cases hx : inO x xs with
  | true =>
    rw [inB_iff]
    cases x with
    | none => cases hx
    | some y => exact List.mem_map.mpr ⟨y, inB_iff.mp hx, rfl⟩
  | false =>
    rw [Bool.eq_false_iff]
    intro h
    have h := inB_iff.mp h
    obtain ⟨y, hy, e⟩ := List.mem_map.mp h
    cases e
    have : inB y xs = true := inB_iff.mpr hy
    have hx : inB y xs = false := hx
    rw [this] at hx
    cases hx
theorem eO_some (xs : List α) : (xs.map some).map (eO e) = xs.map e := by
  rw [List.map_map] <;> rfl
theorem t_inLO [DecidableEq α] [Ev e n] [Nn e] (x : Option α) (xs : List α) (h : n ≤ 64) (st : Sto) : pIn st (eO e x) (eL e xs) = some (.bl (inO x xs)) := by
  have := t_inLB (e := eO e) x (xs.map some) h st
  rw [inB_some] at this
  unfold eL at this ⊢
  rwa [eO_some] at this
end
end Dn
namespace Dn
open PySem PySem.Spec PyProof.Rows L2
open PySem.SeqAt PySem.MeetsSeq
section
variable {P : Program} {w : World} {A : Around} {E : Value → Shared → Prop} {s : Shared}
end
section
variable {S : Type} {W : Wd S} {fr : Sto} {Γ : List Sl}
end
end Dn
namespace Dn
open PySem PySem.Spec PyProof.Rows L2
open Classical in
noncomputable def lcN (held : List (Nat × List D)) (f : D → Sto → Out (List D)) : List D → Sto → Out (List D)
  | [], st => if heldOk held st then .ok [] st else .bad
  | d :: ds, st => if heldOk held st then (f d st).bind fun o st1 => (lcN held f ds st1).bind fun ys st2 => .ok (o ++ ys) st2 else .bad
noncomputable def lcF2 (gf : D → Rho → M Rho) (mt : Rho → M Bool) (ms1 : Rho → M Src) (gf1 : D → Rho → M Rho) (mt1 : Rho → M Bool) (me : Rho → M D) (vs1 : List Nat) (ρ : Rho) : D → Sto → Out (List D) := fun d st =>
  (gf d ρ st).bind fun ρ2 s2 => (mt ρ2 s2).bind fun b s3 => if b = true then (ms1 ρ2 s3).bind fun src s4 => if src.items.length ≤ SZ then lcL src.held (lcF gf1 mt1 me (wipeD ρ2 vs1)) src.items s4 else .bad else .ok [] s3
noncomputable def lLc2 (ms : Rho → M Src) (gf : D → Rho → M Rho) (mt : Rho → M Bool) (ms1 : Rho → M Src) (gf1 : D → Rho → M Rho) (mt1 : Rho → M Bool) (me : Rho → M D) (vs vs1 : List Nat) : Rho → M (List D) := fun ρ st =>
  (ms ρ st).bind fun src st1 => if src.items.length ≤ SZ then (nox (lcN src.held (lcF2 gf mt ms1 gf1 mt1 me vs1 (wipeD ρ vs)) src.items st1)).bind fun ys st2 => if ys.length ≤ SZ then .ok ys st2 else .bad else .bad
theorem Grow.trans {F F1 F2 : Hp} {ι ι1 ι2 : List Addr} (a : Grow F ι F1 ι1) (b : Grow F1 ι1 F2 ι2) : Grow F ι F2 ι2 := ⟨fun x o h => b.f x o (a.f x o h), fun l x h => b.i l x (a.i l x h)⟩
theorem lc2_of {K : PySem.W.Frag} {W : WX} {ms ms1 : Rho → M Src} {js js1 : List Nat} {gf gf1 : D → Rho → M Rho} {mt mt1 : Rho → M Bool} {me : Rho → M D} {vs vs1 : List Nat} (hjs : ∀ j, j ∈ js → j ∈ vs) (hjs1 : ∀ j, j ∈ js1 → j ∈ vs1) {σ : L2.St} {H : Hp} {Q : VK} (h : tL K W (lLc2 ms gf mt ms1 gf1 mt1 me vs vs1) σ H Q) :
    tLc2 (tG K W (pI K) ms) (tGt K js gf) (tT K wN mt) (tG K wN (pI K) ms1) (tGt K js1 gf1) (tT K wN mt1) (tV K wN me) vs vs1 σ H Q := by
  obtain ⟨F, ι, ρ, st, S, R, q⟩ := h
  refine tG_seq back_L S R q fun src st1 F1 ι1 H1 J x1 S1 R1 hJ q1 => ?_
  have hJ : SrcIt K F1 ι1 src J := hJ
  split at q1
  rotate_left
  · exact q1.elim
  rename_i hsz
  intro D hD
  cases er : lcN src.held (lcF2 gf mt ms1 gf1 mt1 me vs1 (wipeD ρ vs)) src.items st1 with
  | exc _ _ => rw [er] at q1; exact (q1 : False).elim
  | bad => rw [er] at q1; exact (q1 : False).elim
  | ok tot stf =>
    rw [er] at q1
    have q1 : post K W σ F1 ι1 H1 (pL K) (if tot.length ≤ SZ then .ok tot stf else .bad) Q := q1
    split at q1
    rotate_left
    · exact q1.elim
    rename_i htz
    have q1 : ∀ F' ι' H' b, Ext F1 ι1 H1 F' ι' H' → Sim K F' ι' stf H' → pL K H1 F' ι' H' tot b → Q b H' := q1
    refine ⟨fun i m H' => m = src.items.length - i ∧ i ≤ src.items.length ∧ ∃ F' ι' st' acc av, Ext F1 ι1 H1 F' ι' H' ∧ Sim K F' ι' st' H' ∧ H' D = some (.lst av) ∧ F' D = none ∧ D ∉ ι' ∧ Reps K F' ι' acc av ∧
      ∃ ys, lcN src.held (lcF2 gf mt ms1 gf1 mt1 me vs1 (wipeD ρ vs)) (src.items.drop i) st' = .ok ys stf ∧ acc ++ ys = tot, ⟨_, rfl, Nat.zero_le _, F1, ι1, st1, [], [], Ext.laid hD, S1.laid hD, upd_same, ?_, fun h => S1.there D h hD, Reps.nil, tot, er, rfl⟩, ?_⟩
    · cases e : F1 D with
      | none => rfl
      | some o =>
        have := S1.sub D o e
        rw [hD] at this
        cases this
    rintro i m H' ⟨rfl, hi, F', ι', st', acc, av, x', S', hv, hF', hi', ra, ys, ey, et⟩
    by_cases hlt : i < src.items.length
    · right
      rw [List.drop_eq_getElem_cons hlt] at ey
      unfold lcN at ey
      split at ey
      rotate_left
      · cases ey
      rename_i ho
      obtain ⟨o, st2, e1, ey⟩ := bind_ok ey
      obtain ⟨ys', st3, e2, ey⟩ := bind_ok ey
      cases ey
      have g' : Grow F1 ι1 F' ι' := x'.grow
      refine ⟨hJ.go i F' ι' st' H' g' S' ho hlt, fun H'' => ∃ m', m' < src.items.length - i ∧ _, fun H'' h => h, fun x H2 y => ?_⟩
      obtain ⟨F2, x2, S2, r2⟩ := hJ.yld i F' ι' st' H' x H2 src.items[i] g' S' ho (by simp [hlt]) y
      unfold lcF2 at e1
      obtain ⟨ρ2, s2, e3, e1⟩ := bind_ok e1
      obtain ⟨b, s3, e4, e1⟩ := bind_ok e1
      have nH' : H' D ≠ none := by rw [hv]; simp
      refine ⟨F2, ι', wipeD ρ vs, st', _, S2, ((R1.ext x').ext x2).wipe vs, r2, post_ok e3 fun F3 ι3 H3 σ2 x3 S3 ⟨R3, hw⟩ => ?_⟩
      refine ⟨(hw vs hjs).trans (wipe_idem σ vs), F3, ι3, ρ2, s2, S3, R3, post_ok e4 fun F4 ι4 H4 b' x4 S4 eb => ?_⟩
      have eb : b = b' := eb
      subst eb
      have xx4 : Ext F' ι' H' F4 ι4 H4 := (x2.trans x3).trans x4
      cases b with
      | false =>
        rw [if_neg (by decide)] at e1 ⊢
        cases e1
        refine ⟨_, ?_, rfl, hlt, F4, ι4, _, acc, av, x'.trans xx4, S4, xx4.keep D _ hv hi', xx4.outF nH' hF' hi', xx4.outI nH' hi', ra.ext xx4, ys', e2, et⟩
        omega
      | true =>
        rw [if_pos rfl] at e1 ⊢
        obtain ⟨src1, s4, e6, e1⟩ := bind_ok e1
        split at e1
        rotate_left
        · cases e1
        refine ⟨F4, ι4, ρ2, s3, S4, R3.ext x4, post_ok e6 fun F6 ι6 H6 J1 x6 S6 hJ1 => ?_⟩
        have hJ1 : SrcIt K F6 ι6 src1 J1 := hJ1
        have xx6 : Ext F' ι' H' F6 ι6 H6 := xx4.trans x6
        have R6 : REnv K F6 ι6 ρ2 σ2 := (R3.ext x4).ext x6
        have etl : acc ++ (o ++ ys') = tot := et
        refine ⟨fun j k H'' => k = src1.items.length - j ∧ j ≤ src1.items.length ∧ ∃ F'' ι'' st'' acc2 av2, Ext F1 ι1 H1 F'' ι'' H'' ∧ Grow F6 ι6 F'' ι'' ∧ REnv K F'' ι'' ρ2 σ2 ∧ Sim K F'' ι'' st'' H'' ∧ H'' D = some (.lst av2) ∧ F'' D = none ∧ D ∉ ι'' ∧ Reps K F'' ι'' acc2 av2 ∧
          ∃ ys2, lcL src1.held (lcF gf1 mt1 me (wipeD ρ2 vs1)) (src1.items.drop j) st'' = .ok ys2 st2 ∧ acc2 ++ ys2 = acc ++ o, ⟨_, rfl, Nat.zero_le _, F6, ι6, s4, acc, av, x'.trans xx6, Ext.refl (H := H6) |>.grow, R6, S6, xx6.keep D _ hv hi', xx6.outF nH' hF' hi', xx6.outI nH' hi', ra.ext xx6, o, e1, rfl⟩, ?_⟩
        rintro j k Hj ⟨rfl, hj, Fj, ιj, stj, acc2, av2, xj, gj, Rj, Sj, hvj, hFj, hij, raj, ys2, ey2, et2⟩
        have nHj : Hj D ≠ none := by rw [hvj]; simp
        by_cases hlt1 : j < src1.items.length
        · right
          rw [List.drop_eq_getElem_cons hlt1] at ey2
          unfold lcL at ey2
          split at ey2
          rotate_left
          · cases ey2
          rename_i ho1
          obtain ⟨o1, sj2, f1, ey2⟩ := bind_ok ey2
          obtain ⟨yr, sj3, f2, ey2⟩ := bind_ok ey2
          cases ey2
          refine ⟨hJ1.go j Fj ιj stj Hj gj Sj ho1 hlt1, fun H'' => ∃ k', k' < src1.items.length - j ∧ _, fun H'' h => h, fun x1 H7 y1 => ?_⟩
          obtain ⟨F7, x7, S7, r7⟩ := hJ1.yld j Fj ιj stj Hj x1 H7 src1.items[j] gj Sj ho1 (by simp [hlt1]) y1
          unfold lcF at f1
          obtain ⟨ρ3, t2, f3, f1⟩ := bind_ok f1
          obtain ⟨b1, t3, f4, f1⟩ := bind_ok f1
          refine ⟨F7, ιj, wipeD ρ2 vs1, stj, _, S7, (Rj.ext x7).wipe vs1, r7, post_ok f3 fun F8 ι8 H8 σ3 x8 S8 ⟨R8, hw8⟩ => ?_⟩
          refine ⟨(hw8 vs1 hjs1).trans (wipe_idem σ2 vs1), F8, ι8, ρ3, t2, S8, R8, post_ok f4 fun F9 ι9 H9 b2 x9 S9 eb2 => ?_⟩
          have eb2 : b1 = b2 := eb2
          subst eb2
          have xx9 : Ext Fj ιj Hj F9 ι9 H9 := (x7.trans x8).trans x9
          cases b1 with
          | false =>
            rw [if_neg (by decide)] at f1 ⊢
            cases f1
            refine ⟨_, ?_, rfl, hlt1, F9, ι9, _, acc2, av2, xj.trans xx9, gj.trans xx9.grow, Rj.ext xx9, S9, xx9.keep D _ hvj hij, xx9.outF nHj hFj hij, xx9.outI nHj hij, raj.ext xx9, yr, f2, et2⟩
            omega
          | true =>
            rw [if_pos rfl] at f1 ⊢
            obtain ⟨yd, t4, f5, f1⟩ := bind_ok f1
            cases f1
            refine ⟨F9, ι9, ρ3, t3, S9, R8.ext x9, post_ok f5 fun Fa ιa Ha yv xa Sa rv => ?_⟩
            have xxa : Ext Fj ιj Hj Fa ιa Ha := xx9.trans xa
            have hva := xxa.keep D _ hvj hij
            have hFa := xxa.outF nHj hFj hij
            have hia := xxa.outI nHj hij
            have hal : acc2.length < SZ := by
              have h1 := congrArg List.length et2
              have h2 := congrArg List.length etl
              simp only [List.length_append, Option.toList, List.length_singleton] at h1 h2
              omega
            refine ⟨av2, hva, by rw [← raj.length]; exact sz_lt (by omega), _, ?_, rfl, hlt1, Fa, ιa, _, acc2 ++ [yd], av2 ++ [yv], (xj.trans xxa).outside hD (by rw [hva]; simp), gj.trans xxa.grow, Rj.ext xxa, Sa.outside hFa hia, upd_same, hFa, hia, (raj.ext xxa).snoc rv, yr, f2, ?_⟩
            · omega
            · rw [← et2]; simp
        · left
          have e0 : j = src1.items.length := by omega
          subst e0
          rw [List.drop_length] at ey2
          unfold lcL at ey2
          split at ey2
          rotate_left
          · cases ey2
          rename_i ho1
          cases ey2
          rw [List.append_nil] at et2
          refine ⟨hJ1.stop Fj ιj _ Hj gj Sj ho1, _, ?_, rfl, hlt, Fj, ιj, _, acc2, av2, xj, Sj, hvj, hFj, hij, raj, ys', e2, ?_⟩
          · omega
          · rw [et2, List.append_assoc]; exact etl
    · left
      have e0 : i = src.items.length := by omega
      subst e0
      rw [List.drop_length] at ey
      unfold lcN at ey
      split at ey
      rotate_left
      · cases ey
      rename_i ho
      cases ey
      rw [List.append_nil] at et
      subst et
      exact ⟨hJ.stop F' ι' _ H' x'.grow S' ho, q1 F' ι' H' (.ref D) x' S' ⟨D, av, rfl, hv, hF', hi', hD, ra⟩⟩
section
variable {X : Cx} {W : WX} {pos : Pos} {tg iter tg1 iter1 elt : Expr} {ifs ifs1 : List Expr} {scope : Scope} {own : List (Str × Nat)} {ms ms1 : Rho → M Src} {js js1 vs1 : List Nat} {gf gf1 : D → Rho → M Rho} {mt mt1 : Rho → M Bool} {me : Rho → M D}
end
noncomputable def lLcX (ms : Rho → M Src) (gf : D → Rho → M Rho) (mt : Rho → M Bool) (me : Rho → M D) (vs : List Nat) : Rho → M (List D) := fun ρ st =>
  (ms ρ st).bind fun src st1 => if src.items.length ≤ SZ then lcL src.held (lcF gf mt me (wipeD ρ vs)) src.items st1 else .bad
section
variable {S : Type} {W : Wd S} {fr : Sto} {Γ : List Sl} {α β : Type} {e : α → D} {enc : β → D} {gf : D → Rho → M Rho} {mt : Rho → M Bool} {me : Rho → M D} {vs js : List Nat} {G : α → List Sl}
theorem ht_lcX {ms : Rho → M Src} {q : Mt S (List α)} {c : α → Mt S Bool} {f : α → Mt S β} {Γw : List Sl} (hs : HT W fr Γ ms q (eSrc e) fun _ => Γ) (hw : wipeG Γ vs = Γw) (hg : ∀ x, GT1 W fr Γw gf (e x) (G x) js) (hjs : ∀ j, j ∈ js → j ∈ vs) (hk : ∀ x, Kp vs Γ (G x))
    (hc : ∀ x, HT W fr (G x) mt (c x) id fun _ => G x) (hf : ∀ x, HT W fr (G x) me (f x) enc fun _ => G x) : HT W fr Γ (lLcX ms gf mt me vs) (mbind q fun xs => compG c f xs) (fun ys : List β => ys.map enc) fun _ => Γ := fun s ρ st H => by
  unfold lLcX
  refine OR.bind (hs s ρ st H) fun xs s1 st1 H1 => ?_
  show OR W fr _ ρ _ (if (xs.map e).length ≤ SZ then lcL [] (lcF gf mt me (wipeD ρ vs)) (xs.map e) st1 else .bad) (compG c f xs s1)
  unfold compG
  rw [List.length_map]
  by_cases hl : xs.length ≤ 100000
  · rw [if_pos hl, if_pos (show xs.length ≤ SZ from hl)]
    exact lcL_T (fun x s st H => lcF_T hw (hg x) hjs (hk x) (hc x) (hf x) s ρ st H) xs s1 st1 H1
  · rw [if_neg hl, if_neg (show ¬ xs.length ≤ SZ from hl)]
    trivial
def concT (f : α → Mt S (List β)) : List α → Mt S (List β)
  | [] => mpure []
  | x :: xs => mbind (f x) fun o => mbind (concT f xs) fun ys => mpure (o ++ ys)
def compN (c : α → Mt S Bool) (f : α → Mt S (List β)) (xs : List α) : Mt S (List β) := if xs.length ≤ 100000 then concT (fun x => mbind (c x) fun b => if b = true then f x else mpure []) xs else mbad
def mszOk (ys : List β) : Mt S (List β) := if ys.length ≤ 100000 then mpure ys else mbad
theorem lcN_T {f : α → Mt S (List β)} {g : D → Sto → Out (List D)} {ρ : Rho} (hf : ∀ x s st, Has W fr s Γ ρ st → OR W fr (fun _ => Γ) ρ (fun o : List β => o.map enc) (g (e x) st) (f x s)) :
    ∀ (xs : List α) s st, Has W fr s Γ ρ st → OR W fr (fun _ => Γ) ρ (fun ys : List β => ys.map enc) (lcN [] g (xs.map e) st) (concT f xs s)
  | [], s, st, H => by
    rw [List.map_nil]
    unfold lcN
    rw [if_pos ((heldOk_nil _).mpr trivial)]
    exact ⟨st, rfl, H⟩
  | x :: xs, s, st, H => by
    rw [List.map_cons]
    unfold lcN
    rw [if_pos ((heldOk_nil _).mpr trivial)]
    refine OR.bind (hf x s st H) fun o s1 st1 H1 => ?_
    refine OR.bind (lcN_T hf xs s1 st1 H1) fun ys s2 st2 H2 => ?_
    exact ⟨st2, by simp, H2⟩
theorem lcF2_T {c : α → Mt S Bool} {f : α → Mt S (List β)} {ms1 : Rho → M Src} {gf1 : D → Rho → M Rho} {mt1 : Rho → M Bool} {vs1 : List Nat} {Γw : List Sl} (hw : wipeG Γ vs = Γw) {x : α} (hg : GT1 W fr Γw gf (e x) (G x) js) (hjs : ∀ j, j ∈ js → j ∈ vs) (hk : Kp vs Γ (G x))
    (hc : HT W fr (G x) mt (c x) id fun _ => G x) (hf : HT W fr (G x) (lLcX ms1 gf1 mt1 me vs1) (f x) (fun ys : List β => ys.map enc) fun _ => G x) :
    ∀ s ρ st, Has W fr s Γ ρ st → OR W fr (fun _ => Γ) ρ (fun o : List β => o.map enc) (lcF2 gf mt ms1 gf1 mt1 me vs1 (wipeD ρ vs) (e x) st) (mbind (c x) (fun b => if b = true then f x else mpure []) s) := fun s ρ st H => by
  obtain ⟨ρ1, e1, H1, k1⟩ := hg s (wipeD ρ vs) st (by rw [← hw]; exact H.wipe vs)
  have kr : ∀ j, j ∉ vs → ρ1[j]? = ρ[j]? := fun j hj => by rw [k1 j fun q => hj (hjs j q), wipeD_get ρ vs j hj]
  unfold lcF2
  rw [e1, Out.bind_ok]
  show OR W fr _ ρ _ _ (rbind (c x s) _)
  have h1 := hc s ρ1 st H1
  revert h1
  induction (c x s) with
  | ok b s1 =>
    rintro ⟨st1, e2, H2⟩
    rw [e2, Out.bind_ok]
    cases b
    · exact ⟨st1, rfl, H.back H2 hk kr⟩
    · have h2 := hf s1 ρ1 st1 H2
      show OR W fr _ ρ _ (lLcX ms1 gf1 mt1 me vs1 ρ1 st1) (f x s1)
      revert h2
      generalize lLcX ms1 gf1 mt1 me vs1 ρ1 st1 = r
      induction (f x s1) with
      | ok y s2 =>
        rintro ⟨st2, e3, H3⟩
        exact ⟨st2, e3, H.back H3 hk kr⟩
      | exc y s2 =>
        rintro ⟨st2, e3, H3⟩
        exact ⟨st2, e3, H3⟩
      | bad => intro _; trivial
      | amb P_ f_ ih_ => rintro ⟨n_, p_, h_⟩; exact ⟨n_, p_, ih_ n_ h_⟩
  | exc y s1 =>
    rintro ⟨st1, e2, H2⟩
    exact ⟨st1, by rw [e2]; rfl, H2⟩
  | bad => intro _; trivial
  | amb P_ f_ ih_ => rintro ⟨n_, p_, h_⟩; exact ⟨n_, p_, ih_ n_ h_⟩
theorem ht_compN {ms ms1 : Rho → M Src} {gf1 : D → Rho → M Rho} {mt1 : Rho → M Bool} {vs1 : List Nat} {q : Mt S (List α)} {c : α → Mt S Bool} {f : α → Mt S (List β)} {Γw : List Sl} (hs : HT W fr Γ ms q (eSrc e) fun _ => Γ) (hw : wipeG Γ vs = Γw) (hg : ∀ x, GT1 W fr Γw gf (e x) (G x) js) (hjs : ∀ j, j ∈ js → j ∈ vs) (hk : ∀ x, Kp vs Γ (G x))
    (hc : ∀ x, HT W fr (G x) mt (c x) id fun _ => G x) (hf : ∀ x, HT W fr (G x) (lLcX ms1 gf1 mt1 me vs1) (f x) (fun ys : List β => ys.map enc) fun _ => G x) : HT W fr Γ (lLc2 ms gf mt ms1 gf1 mt1 me vs vs1) (mbind q fun xs => mbind (calmly (compN c f xs)) mszOk) (fun ys : List β => ys.map enc) fun _ => Γ := fun s ρ st H => by
  unfold lLc2
  refine OR.bind (hs s ρ st H) fun xs s1 st1 H1 => ?_
  show OR W fr _ ρ _ (if (xs.map e).length ≤ SZ then (nox (lcN [] (lcF2 gf mt ms1 gf1 mt1 me vs1 (wipeD ρ vs)) (xs.map e) st1)).bind fun ys st2 => if ys.length ≤ SZ then .ok ys st2 else .bad else .bad) (rbind (rcalm (compN c f xs s1)) mszOk)
  unfold compN
  rw [List.length_map]
  by_cases hl : xs.length ≤ 100000
  · rw [if_pos hl, if_pos (show xs.length ≤ SZ from hl)]
    refine OR.bind (calm_OR (lcN_T (fun x s st H => lcF2_T hw (hg x) hjs (hk x) (hc x) (hf x) s ρ st H) xs s1 st1 H1)) fun ys s2 st2 H2 => ?_
    unfold mszOk
    rw [List.length_map]
    by_cases h2 : ys.length ≤ 100000
    · rw [if_pos h2, if_pos (show ys.length ≤ SZ from h2)]
      exact ⟨st2, rfl, H2⟩
    · rw [if_neg h2, if_neg h2]
      exact True.intro
  · rw [if_neg hl, if_neg (show ¬ xs.length ≤ SZ from hl)]
    trivial
end
end Dn
namespace Dn
open PySem PySem.Spec PyProof.Rows L2
section
variable {P : Program} {w : World} {A : Around} {E : Value → Shared → Prop} {s : Shared}
theorem unpack_starF {t : Addr} {items : Array Value} {Q : List Value → Shared → Prop} (hh : A.handled = none) (ht : s.heap.IsList t items) (hi : 1 ≤ items.size) (hz : items.size ≤ sizeLine)
    (hQ : ∀ (h2 : Heap) (tk : Nat), (∀ b o, s.heap.get? b = some o → h2.get? b = some o) → Q (.ref h2.objs.size :: items.toList.drop (items.size - 1)) { s with heap := h2.push { cls := .type "list", data := .seq (items.toList.take (items.size - 1)).toArray }, toks := tk }) :
    wpAny (model P w) A (unpackItems (.ref t) 2 (some 0)) Q E s := by
  obtain ⟨ot, got, _⟩ := id ht
  have hlt : t < s.heap.objs.size := Heap.lt_size got
  have hne : t ≠ s.heap.objs.size := Nat.ne_of_lt hlt
  unfold unpackItems
  refine wpAny_bind ?_
  unfold notIterableAtAll
  refine wpAny_bind (wpAny_specialOf ht.typeIs slot_list_iter.lookup (wpAny_pure ?_))
  simp only [Bool.false_eq_true, if_false]
  refine wpAny_bind (wpAny_holding (wpAny_pyIter_list ht ?_))
  refine wpAny_bind (wpAny_holding (PySem.W.kun_draw hne 0 0 _ _ ⟨_, Heap.get?_push_size _ rfl, rfl, rfl⟩ (ht.push _) (by omega) fun h1 it1 sb1 => ?_))
  have hlen : (List.take 0 (List.drop 0 items.toList)).length = 0 := rfl
  rw [if_neg (by rw [hlen]; omega)]
  try refine wpAny_bind (wpAny_pure ?_)
  have ht1 : h1.IsList t items := (ht.push _).extBut sb1.extBut hne
  have old1 : ∀ b o, s.heap.get? b = some o → h1.get? b = some o := fun b o e => by
    rw [sb1.2 b (Nat.ne_of_lt (Heap.lt_size e))]
    exact Heap.get?_push_of_some _ e
  obtain ⟨n, hn⟩ : ∃ n, items.size = 0 + n := ⟨items.size, by omega⟩
  have W0 := (Walks.list (prog := P) (w := w) (A := A.in1) (by simp [hh]) s.heap.objs.size t hne items).toS
  rw [hn] at W0
  have W1 := walk_from W0
  obtain ⟨oi, goi, _, _⟩ := id it1
  refine wpAny_bind (wpAny_holding (wpAny_collect_iter (T := "list_iterator") (by first | exact .inl rfl | exact .inr (.inl rfl) | exact .inr (.inr (.inl rfl))) W1 (fun j s' st => by
    obtain ⟨o, go, c, _⟩ := st.1
    exact ⟨o, go, c⟩) (show h1.IsListIter _ _ _ ∧ h1.IsList _ _ from ⟨by simpa using it1, ht1⟩) (fun b hb => ?_) (by simp) (fun s2 acc mv hacc => ?_) (by omega)))
  · rcases List.mem_cons.mp hb with rfl | hb
    · exact Heap.lt_size goi
    · rw [List.mem_singleton.mp hb]
      exact Heap.lt_size (old1 t ot got)
  · have eacc : acc.toList = items.toList := by
      have hdl : items.toList.length = n := by
        rw [Array.length_toList]
        omega
      refine items_list (by rw [hdl]; exact hacc) fun j v hv => ?_
      rw [Array.getElem?_toList]
      simpa using hv
    obtain ⟨h2, g2, d2, tk2, os2⟩ := s2
    obtain rfl : g2 = s.gens := mv.gens
    obtain rfl : d2 = s.drawn := mv.drawn
    obtain rfl : os2 = s.os := mv.os
    have old2 : ∀ b o, s.heap.get? b = some o → h2.get? b = some o := fun b o e => mv.heap b o (by
      intro hb
      rw [List.mem_singleton.mp hb] at e
      exact absurd (Heap.lt_size e) (Nat.lt_irrefl _)) (old1 b o e)
    rw [eacc]
    have e1 : 2 - 1 - 0 = 1 := rfl
    have hl : items.toList.length = items.size := Array.length_toList
    rw [e1]
    rw [if_neg (by omega)]
    try refine wpAny_bind (wpAny_pure ?_)
    rw [hl]
    refine wpAny_bind (wpAny_newList ?_ (by rw [List.length_take]; omega))
    refine wpAny_pure ?_
    exact hQ h2 tk2 old2
end
theorem reps_app {K : PySem.W.Frag} {F : Hp} {ι : List Addr} : ∀ {ds es : List D} {vs : List V}, Reps K F ι (ds ++ es) vs → ∃ v1 v2, vs = v1 ++ v2 ∧ Reps K F ι ds v1 ∧ Reps K F ι es v2
  | [], es, vs, h => ⟨[], vs, rfl, Reps.nil, h⟩
  | d :: ds, es, vs, h => by
    rw [List.cons_append] at h
    simp only [Reps] at h
    obtain ⟨v, r, rfl, h1, h2⟩ := h
    obtain ⟨v1, v2, rfl, a, b⟩ := reps_app h2
    exact ⟨v :: v1, v2, rfl, Reps.cons h1 a, b⟩
section
variable {X : Cx} {pos : Pos}
def gStarF (K : PySem.W.Frag) (t : TGs) : TG := fun v σ H Q => ∃ a xs y, v = .ref a ∧ SqL K H a (xs ++ [y]) ∧ ∀ p, H p = none → t [.ref p, y] σ (upd H p (.lst xs)) Q
theorem pg_starF {es : List Expr} {k : Nat} {t : TGs} (hc : X.calm = true) (h : PGs X es t)
    (hn : (assignEach es X.env).length = 2 := by rfl) (hst : (assignEach es X.env).findIdx? (·.1) = some 0 := by rfl) : PG X (.Tuple es k pos) (gStarF X.K t) := by
  refine ⟨fun pins s σ H v u Q I r ⟨a, xs, y, e1, hq, hw⟩ => ?_⟩
  subst e1
  cases r
  obtain ⟨its, rv, pl, hz⟩ := I.list hq
  have hil : its.length = xs.length + 1 := by rw [← rv.length, List.length_append] <;> rfl
  have hsz : its.toArray.size = xs.length + 1 := by rw [List.size_toArray, hil]
  have hzl : its.length ≤ sizeLine := by rw [← rv.length]; exact hz
  rw [PySem.arm_assign_Tuple]
  refine wpAny_bind (wpAny_standAt ?_)
  unfold unpack
  rw [hn, hst]
  refine wpAny_bind (wpAny_holding (unpack_starF (I.ok.hd hc) (show s.heap.IsList a its.toArray from pl.isList) (by omega) (by rw [List.size_toArray]; exact hzl) fun h2 tk old => ?_))
  have I1 : Inv X pins σ H { s with heap := h2, toks := tk } := I.kept old
  have hn2 : H h2.objs.size = none := I1.hok.fresh (Nat.le_refl _)
  have e2 : its.toArray.size - 1 = xs.length := by omega
  rw [e2]
  have rt : Vals xs (its.take xs.length) := by
    have := rv.take xs.length
    rwa [List.take_left] at this
  have rd : Vals [y] (its.drop xs.length) := by
    have := rv.drop xs.length
    rwa [List.drop_left] at this
  have I2 : Inv X pins σ (upd H h2.objs.size (.lst xs)) { s with heap := h2.push { cls := .type "list", data := .seq (its.take xs.length).toArray }, toks := tk } :=
    I1.laid (t' := tk) (fun b u e => Heap.get?_push_of_some _ e) (Nat.le_refl _) ⟨by omega, its.take xs.length, 0, rt, Heap.get?_push_size _ rfl⟩
  exact h.run pins _ σ _ [.ref h2.objs.size, y] (.ref h2.objs.size :: its.drop xs.length) Q I2 (.cons (show RelV (V.ref h2.objs.size) (Value.ref h2.objs.size) from rfl) rd) (hw _ hn2)
def gSF (gs : List D → Rho → M Rho) : D → Rho → M Rho := fun d ρ st => match d with
  | .lst xs => (match xs.getLast? with
    | some y => gs [.lst xs.dropLast, y] ρ st
    | none => .bad)
  | _ => .bad
theorem dg_starF {es : List Expr} {k : Nat} {js : List Nat} {gs : List D → Rho → M Rho} (hc : X.calm = true) (h : DGs X js es gs)
    (hn : (assignEach es X.env).length = 2 := by rfl) (hst : (assignEach es X.env).findIdx? (·.1) = some 0 := by rfl) : DG X js (.Tuple es k pos) (gSF gs) := by
  refine PG.weak (pg_starF hc h hn hst) fun v σ H Q ⟨F, ι, ρ, st, d, S, R, r, q⟩ => ?_
  unfold gSF at q
  split at q
  · rename_i xs
    cases ey : xs.getLast? with
    | none => rw [ey] at q; exact q.elim
    | some y =>
      rw [ey] at q
      dsimp only at q
      have exs : xs.dropLast ++ [y] = xs := by
        have hne : xs ≠ [] := fun q => by rw [q] at ey; cases ey
        rw [List.getLast?_eq_some_getLast hne] at ey
        rw [← Option.some.inj ey]
        exact List.dropLast_concat_getLast hne
      simp only [Rep] at r
      obtain ⟨a, vs, e, h, rr⟩ := r
      rw [← exs] at rr
      obtain ⟨v1, v2, ev, r1, r2⟩ := reps_app rr
      obtain ⟨vy, rfl, ry⟩ := r2.one'
      subst ev
      refine ⟨a, v1, vy, e, SqL.of (S.sub _ _ h), fun p hp => ?_⟩
      have hF : F p = none := by
        cases e2 : F p with
        | none => rfl
        | some o => have := S.sub p o e2; rw [hp] at this; cases this
      have hi : p ∉ ι := fun hm => S.there p hm hp
      have x : Ext F ι H (upd F p (.lst v1)) ι (upd H p (.lst v1)) := (Ext.laid hp).freeze hF hp
      have S2 := (S.laid (o := .lst v1) hp).freeze upd_same hF hi (by exact True.intro)
      refine ⟨_, ι, ρ, st, _, S2, R.ext x, ?_, post_ext back_R q x⟩
      refine Reps.cons ?_ (Reps.cons (ry.ext x) Reps.nil)
      simp only [Rep]
      exact ⟨p, v1, rfl, upd_same, r1.ext x⟩
  · exact q.elim
end
section
variable {S : Type} {W : Wd S} {fr : Sto} {Γ : List Sl}
def munF {α : Type} (xs : List α) : Mt S (List α × α) := match xs.getLast? with
  | some y => mpure (xs.dropLast, y)
  | none => mbad
theorem tn_unstarF {α : Type} {e : α → D} {i j : Nat} {m : Rho → M D} {q : Mt S (List α)} (h : HT W fr Γ m q (eL e) fun _ => Γ) : TN W fr Γ (sAsg (gSF (gsCons (gN i) (gsCons (gN j) gsNil))) m) (mbind q munF) fun z => (Γ.set i (.val (eL e z.1))).set j (.val (e z.2)) := fun s ρ st H => by
  show NR W fr _ ((m ρ st).fl ρ fun d st1 => (nox (gSF (gsCons (gN i) (gsCons (gN j) gsNil)) d ρ st1)).fl ρ fun ρ2 st2 => .next ρ2 st2) (rbind (q s) munF)
  refine OR.flG (P := NR W fr fun z : List α × α => (Γ.set i (.val (eL e z.1))).set j (.val (e z.2))) (h s ρ st H) (fun x s st h1 h2 => ⟨ρ, st, rfl, h1, h2⟩) (fun _ => trivial) fun xs s1 st1 H1 => ?_
  unfold munF
  show NR W fr _ ((nox (gSF (gsCons (gN i) (gsCons (gN j) gsNil)) (.lst (xs.map e)) ρ st1)).fl ρ fun ρ2 st2 => .next ρ2 st2) _
  unfold gSF
  dsimp only
  rw [List.getLast?_map]
  cases q : xs.getLast? with
  | none => trivial
  | some y =>
    refine ⟨_, st1, rfl, ?_⟩
    rw [← List.map_dropLast]
    exact (H1.setVal i (eL e xs.dropLast)).setVal j (e y)
end
end Dn
namespace Dn
open PySem PySem.Spec PyProof.Rows L2
section
variable {S : Type} {α β : Type}
def lentW (W : Wd S) (e : α → D) (l : Nat) : Wd (S × Kv α) where
  has := fun s st => W.has s.1 st ∧ ¬ W.own st l ∧ st[l]? = some (.dct (eK s.2) (eW e s.2))
  own := fun st k => W.own st k ∨ k = l
  inb := fun h o => by
    rcases o with o | rfl
    · exact W.inb h.1 o
    · exact (List.getElem?_eq_some_iff.mp h.2.2).1
  grow := fun g hg h => ⟨W.grow g hg h.1, fun q => h.2.1 (W.ownG g hg h.1 q), by rw [List.getElem?_append_left (List.getElem?_eq_some_iff.mp h.2.2).1]; exact h.2.2⟩
  ownG := fun {_ _} g {_} hg h o => o.imp (W.ownG g hg h.1) id
  set := fun {s st k} m hm h no => ⟨W.set m hm h.1 fun q => no (.inl q), fun q => h.2.1 (W.ownS m hm h.1 (fun q => no (.inl q)) q), by rw [List.getElem?_set_ne (fun q => no (.inr q))]; exact h.2.2⟩
  ownS := fun {_ _ _} m {_} hm h no o => o.imp (W.ownS m hm h.1 fun q => no (.inl q)) id
  take := fun {s0 s b st} h0 h t => ⟨W.take h0.1 h.1 t, fun q => h.2.1 (W.ownT h0.1 h.1 t q), by
    rw [List.getElem?_take_of_lt (List.getElem?_eq_some_iff.mp h0.2.2).1]; exact h.2.2⟩
  ownT := fun h0 h t o => o.imp (W.ownT h0.1 h.1 t) id
def rlend (r : Rs (S × Kv α) β) : Rs S (β × Kv α) := match r with
  | .ok b s => .ok (b, s.2) s.1
  | .exc x s => .exc x s.1
  | .bad => .bad
  | .amb P f => .amb P fun n => rlend (f n)
def unlend (q : Mt (S × Kv α) β) (kv : Kv α) : Mt S (β × Kv α) := fun s => rlend (q (s, kv))
end
section
variable {S : Type} {W : Wd S} {fr : Sto} {Γ : List Sl} {α β : Type} {e : α → D} {enc : β → D} {i j l : Nat} {s s' : S} {ρ : Rho} {st st' : Sto} {kv kv' : Kv α}
theorem Pre.unlend (p : Pre (lentW W e l) st (s', kv') st') (h : fr.length ≤ l) (h0 : Pre W fr s st) : Pre W fr s' st' := ⟨p.has.1, Nat.le_trans h0.long p.long, fun k hk no => by
  obtain ⟨a, b⟩ := h0.keep k hk no
  obtain ⟨c, d⟩ := p.keep k (Nat.lt_of_lt_of_le hk h0.long) fun q => q.elim a (by omega)
  exact ⟨fun q => c (.inl q), d.trans b⟩⟩
theorem Has.unlend (H : Has W fr s Γ ρ st) (hj : Γ[j]? = some (.mut (.dct (eK kv) (eW e kv)))) (hl : ρ[j]? = some (some (.ref l))) (p : Pre (lentW W e l) st (s', kv') st') : Has W fr s' (Γ.set j (.mut (.dct (eK kv') (eW e kv')))) ρ st' := by
  obtain ⟨l', q1, q2, q3⟩ := H.mt j _ hj
  rw [hl] at q1
  cases q1
  have hjl := (List.getElem?_eq_some_iff.mp hj).1
  refine ⟨by simp [H.len], p.unlend q2.1 H.pre, fun k d e1 => ?_, fun k m e1 => ?_, fun k1 k2 m1 m2 e1 e2 e3 => ?_, fun k m e1 => ?_⟩
  · by_cases hk : j = k
    · subst hk; rw [List.getElem?_set_self hjl] at e1; cases e1
    · rw [List.getElem?_set_ne hk] at e1; exact H.val k d e1
  · by_cases hk : j = k
    · subst hk
      rw [List.getElem?_set_self hjl] at e1
      cases e1
      exact ⟨l, hl, ⟨q2.1, p.has.2.1⟩, p.has.2.2⟩
    · rw [List.getElem?_set_ne hk] at e1
      obtain ⟨x, p1, p2, p3⟩ := H.mt k m e1
      have hx : x ≠ l := fun q => hk (H.nal j k _ _ hj e1 (by rw [hl, p1, q]))
      obtain ⟨c, d⟩ := p.keep x (List.getElem?_eq_some_iff.mp p3).1 fun q => q.elim p2.2 hx
      exact ⟨x, p1, ⟨p2.1, fun q => c (.inl q)⟩, d.trans p3⟩
  · have key : ∀ (k : Nat) m2, (Γ.set j (.mut (.dct (eK kv') (eW e kv'))))[k]? = some (.mut m2) → ∃ m3, Γ[k]? = some (.mut m3) := fun k m2 e => by
      by_cases hk : j = k
      · subst hk; exact ⟨_, hj⟩
      · rw [List.getElem?_set_ne hk] at e; exact ⟨m2, e⟩
    obtain ⟨n1, f1⟩ := key k1 m1 e1
    obtain ⟨n2, f2⟩ := key k2 m2 e2
    exact H.nal k1 k2 n1 n2 f1 f2 e3
  · by_cases hk : j = k
    · subst hk; rw [List.getElem?_set_self hjl] at e1; cases e1
    · rw [List.getElem?_set_ne hk] at e1; exact H.bo k m e1
theorem ac_lend {F d : List D → M (List D)} {args : Nat → List D} {q : Mt (S × Kv α) (List β)} (hj : Γ[j]? = some (.mut (.dct (eK kv) (eW e kv)))) (h : ∀ l, FGn (lentW W e l) d (args l) q enc) (hF : ∀ l, F [.ref l] = d (args l) := by intro _; rfl) :
    AC W fr Γ (mCons (mVar j) mNil) F (unlend q kv) (fun z : List β × Kv α => z.1.map enc) fun z => Γ.set j (.mut (.dct (eK z.2) (eW e z.2))) := fun s ρ st H => by
  obtain ⟨l, q1, q2, q3⟩ := H.mt j _ hj
  have e1 : mVar j ρ st = .ok (.ref l) st := by unfold mVar; rw [q1]
  have h1 := h l st (s, kv) ⟨H.pre.has, q2.2, q3⟩
  unfold mCons
  rw [e1, Out.bind_ok]
  show OR W fr _ ρ _ (F [.ref l] st) (rlend (q (s, kv)))
  rw [hF]
  revert h1
  generalize q (s, kv) = r
  generalize d (args l) st = o
  intro h1
  induction r with
  | ok b z => obtain ⟨st', e2, p⟩ := h1; exact ⟨st', e2, H.unlend hj q1 p⟩
  | exc x z => obtain ⟨st', e2, p, hx⟩ := h1; exact ⟨st', e2, Pre.unlend p q2.1 H.pre, hx⟩
  | bad => trivial
  | amb P_ f_ ih_ => obtain ⟨n_, p_, h_⟩ := h1; exact ⟨n_, p_, ih_ n_ h_⟩
theorem ht_lGenP {γ : Type} {spec : List D → M (List D)} {am : Rho → M (List D)} {q : Mt S γ} {en : γ → List D} {Γ' : γ → List Sl} (h : AC W fr Γ am spec q en Γ') : HT W fr Γ (lGen spec am) (calmly q) en Γ' := fun s ρ st H => by
  have h := h s ρ st H
  unfold lGen
  revert h
  show OR W fr Γ' ρ _ ((am ρ st).bind spec) (q s) → OR W fr Γ' ρ _ ((am ρ st).bind fun ds st1 => nox (spec ds st1)) (rcalm (q s))
  generalize q s = r
  intro h
  induction r with
  | ok b s' =>
    obtain ⟨st', e, H2⟩ := h
    refine ⟨st', ?_, H2⟩
    cases e1 : am ρ st with
    | ok ds st1 =>
      rw [e1] at e
      have e : spec ds st1 = .ok (en b) st' := e
      show nox (spec ds st1) = _
      rw [e] <;> rfl
    | exc x st1 => rw [e1] at e; cases e
    | bad => rw [e1] at e; cases e
  | exc x s' => trivial
  | bad => trivial
  | amb P_ f_ ih_ =>
    obtain ⟨n_, p_, h_⟩ := h
    exact ⟨n_, p_, ih_ n_ h_⟩
theorem ht_appLend {m : Rho → M (List D)} {q : Mt S (List β × Kv α)} {xs : List (List β)} (hij : j ≠ i) (hi : Γ[i]? = some (.mut (.lst (xs.map (eL enc))))) (h : HT W fr Γ m q (fun z : List β × Kv α => z.1.map enc) fun z => Γ.set j (.mut (.dct (eK z.2) (eW e z.2)))) :
    HT W fr Γ (mMeth "list" pAppend (mVar i) (mCons (mFrz m) mNil)) (mbind q fun x => mbind (mapp xs x.1) fun y => mpure (y, x.2)) (fun _ => .non) fun z : List (List β) × Kv α => (Γ.set i (.mut (.lst (z.1.map (eL enc))))).set j (.mut (.dct (eK z.2) (eW e z.2))) := fun s ρ st H => by
  obtain ⟨l, q1, q2, q3⟩ := H.mt i _ hi
  have h1 := ht_frz h s ρ st H
  show OR W fr _ ρ _ _ (rbind (q s) _)
  revert h1
  generalize mFrz m = me
  induction (q s) with
  | ok x s1 =>
    rintro ⟨st1, e1, H1⟩
    rw [mMeth_one q1 q3 e1]
    have hi1 : (Γ.set j (.mut (.dct (eK x.2) (eW e x.2))))[i]? = some (.mut (.lst (xs.map (eL enc)))) := by rw [List.getElem?_set_ne hij]; exact hi
    obtain ⟨l', p1, p2, p3⟩ := H1.mt i _ hi1
    rw [q1] at p1
    cases p1
    show OR W fr _ ρ _ _ (rbind (mapp xs x.1 s1) fun y => mpure (y, x.2))
    unfold mapp
    by_cases hl : xs.length < 100000
    · rw [if_pos hl]
      refine ⟨st1.set l (.lst ((xs ++ [x.1]).map (eL enc))), ?_, ?_⟩
      · unfold pAppend
        rw [onL_ref p3]
        dsimp only
        rw [List.length_map, if_pos (show xs.length < SZ from hl)]
        simp [eL]
      · have := H1.write (.lst ((xs ++ [x.1]).map (eL enc))) hi1 q1
        rw [List.set_comm _ _ hij] at this
        exact this
    · rw [if_neg hl]; trivial
  | exc x s1 =>
    rintro ⟨st1, e1, H1⟩
    refine ⟨st1, ?_, H1⟩
    have e1' : mVar i ρ st = .ok (.ref l) st := by unfold mVar; rw [q1]
    unfold mMeth
    rw [e1', Out.bind_ok, if_pos (isTy_ref q3)]
    unfold mCons
    rw [e1] <;> rfl
  | bad => intro _; trivial
  | amb P_ f_ ih_ => rintro ⟨n_, p_, h_⟩; exact ⟨n_, p_, ih_ n_ h_⟩
theorem Has.lput {z : S × Kv α} (H : Has (lentW W e l) fr z Γ ρ st) (kv' : Kv α) : Has (lentW W e l) fr (z.1, kv') Γ ρ (st.set l (.dct (eK kv') (eW e kv'))) := by
  have hw := H.pre.has
  have hlt := (List.getElem?_eq_some_iff.mp hw.2.2).1
  have un : ∀ k, ¬ (lentW W e l).own st k → ¬ (lentW W e l).own (st.set l (.dct (eK kv') (eW e kv'))) k := fun k no q => no (q.imp (W.ownS _ rfl hw.1 hw.2.1) id)
  refine ⟨H.len, ⟨⟨W.set _ rfl hw.1 hw.2.1, fun q => hw.2.1 (W.ownS _ rfl hw.1 hw.2.1 q), by rw [List.getElem?_set_self hlt]⟩, by rw [List.length_set]; exact H.pre.long, fun k hk no => ?_⟩, H.val, fun k m e1 => ?_, H.nal, H.bo⟩
  · obtain ⟨a, b⟩ := H.pre.keep k hk no
    exact ⟨un k a, by rw [List.getElem?_set_ne (fun q => a (.inr q.symm))]; exact b⟩
  · obtain ⟨x, p1, p2, p3⟩ := H.mt k m e1
    exact ⟨x, p1, ⟨p2.1, un x p2.2⟩, by rw [List.getElem?_set_ne (fun q => p2.2 (.inr q.symm))]; exact p3⟩
def mlentNin (k : List Int) : Mt (S × Kv α) Bool := fun s => .ok (!hasP s.2 k) s
def mlentPut (k : List Int) (x : α) : Mt (S × Kv α) Unit := fun s => if s.2.length ≤ SZ then .ok () (s.1, putP s.2 k x) else .bad
theorem ht_ninLent {m : Rho → M D} {k : List Int} (h : HV (lentW W e l) fr Γ m (eT eI k)) (hj : Γ[j]? = some (.val (.ref l))) : HT (lentW W e l) fr Γ (mOp pNotInD m (mVar j)) (mlentNin k) eB fun _ => Γ := fun s ρ st H => by
  have e1 : mVar j ρ st = .ok (.ref l) st := by unfold mVar; rw [H.val j _ hj]
  refine ⟨st, ?_, H⟩
  unfold mOp
  rw [h s ρ st H, Out.bind_ok, e1, Out.bind_ok]
  unfold pNotInD
  rw [keyOf_e, dct_ref H.pre.has.2.2] <;> rfl
theorem tn_dputLent {mk mv : Rho → M D} {k : List Int} {x : α} (hj : Γ[j]? = some (.val (.ref l))) (hk : HV (lentW W e l) fr Γ mk (eT eI k)) (hv : HV (lentW W e l) fr Γ mv (e x)) : TN (lentW W e l) fr Γ (sDPut (mVar j) mk mv) (mlentPut k x) fun _ => Γ := fun s ρ st H => by
  have e1 : mVar j ρ st = .ok (.ref l) st := by unfold mVar; rw [H.val j _ hj]
  unfold sDPut
  rw [hv s ρ st H, Out.fl_ok, e1, Out.fl_ok, hk s ρ st H, Out.fl_ok]
  show NR (lentW W e l) fr _ (match st[l]? with
    | some (.dct ks ds) => match keyOf (eT eI k) with
      | some j => if ks.length ≤ SZ then .next ρ (st.set l (.dct (putKs ks j) (putVs ks ds j (e x)))) else .bad
      | none => .bad
    | _ => .bad) _
  rw [H.pre.has.2.2]
  dsimp only
  rw [keyOf_e]
  dsimp only
  rw [eK_len]
  unfold mlentPut
  by_cases hc : s.2.length ≤ SZ
  · rw [if_pos hc, if_pos hc]
    refine ⟨ρ, _, rfl, ?_⟩
    rw [putKs_e s.2 k x, putVs_e]
    exact H.lput _
  · rw [if_neg hc, if_neg hc]
    trivial
end
end Dn
namespace Dn
open PySem PySem.Spec PyProof.Rows L2
section
variable {X : Cx} {W : WX} {pos : Pos}
theorem dgs_starC {e : Expr} {es : List Expr} {p : Pos} {j1 j2 : List Nat} {g : D → Rho → M Rho} {gs : List D → Rho → M Rho} (h1 : DG X j1 e g) (h2 : DGs X j2 es gs)
    (hs : (assignEach (.Starred e p :: es) X.env).map (·.2) = assign e X.env :: (assignEach es X.env).map (·.2) := by rfl)
    (hs2 : (assignEach (e :: es) X.env).map (·.2) = assign e X.env :: (assignEach es X.env).map (·.2) := by rfl) : DGs X (j1 ++ j2) (.Starred e p :: es) (gsCons g gs) := by
  have h := dgs_cons h1 h2 hs2
  refine ⟨fun pins s σ H vs us Q I r q => ?_⟩
  have := h.run pins s σ H vs us Q I r q
  rw [hs2] at this
  rw [hs]
  exact this
variable {spos py : Pos} {tg iter tg1 iter1 elt : Expr} {ifs ifs1 : List Expr} {scope : Scope} {own : List (Str × Nat)} {ms ms1 : Rho → M Src} {js js1 vs1 : List Nat} {gf gf1 : D → Rho → M Rho} {mt mt1 : Rho → M Bool} {me : Rho → M D} {i : Nat} {y : Str}
theorem ds_setLc2 (fz : Bool) (hc : X.calm = true) (hN : X.N.Nodup) (hy : X.N[i]? = some y) (hyl : X.env.scope.names.lookup y = some .local)
    (hsw : swapsWith (.ListComp elt [⟨tg, iter, ifs, 0⟩, ⟨tg1, iter1, ifs1, 0⟩] scope pos) (some (.Name y py)) spos.line X.env = pure true) (hi : DI X W tg iter ms) (ok : BlkOk X.N X.env.scope scope own) (hjs : ∀ j, j ∈ js → j ∈ own.map (·.2)) (hv : ∀ i ∈ vs1, i ∈ own.map (·.2)) (hjs1 : ∀ j, j ∈ js1 → j ∈ vs1)
    (hg : ∀ (s : Shared) (H : Hp) (C : Addr) (cl : List (Str × Addr)) (fp : List Addr), DG (X.blk s H scope (compEnvC scope cl C X.env) fp) js tg gf) (ht : ∀ (s : Shared) (H : Hp) (C : Addr) (cl : List (Str × Addr)) (fp : List Addr), DTs (X.blk s H scope (compEnvC scope cl C X.env) fp) wN ifs mt)
    (hi1 : ∀ (s : Shared) (H : Hp) (C : Addr) (cl : List (Str × Addr)) (fp : List Addr), DI (X.blk s H scope (compEnvC scope cl C X.env) fp) wN tg1 iter1 ms1)
    (hg1 : ∀ (s : Shared) (H : Hp) (C : Addr) (cl : List (Str × Addr)) (fp : List Addr), DG (X.blk s H scope (compEnvC scope cl C X.env) fp) js1 tg1 gf1) (ht1 : ∀ (s : Shared) (H : Hp) (C : Addr) (cl : List (Str × Addr)) (fp : List Addr), DTs (X.blk s H scope (compEnvC scope cl C X.env) fp) wN ifs1 mt1)
    (he : ∀ (s : Shared) (H : Hp) (C : Addr) (cl : List (Str × Addr)) (fp : List Addr), DE (X.blk s H scope (compEnvC scope cl C X.env) fp) wN elt me) (hs : ∀ x, foldedSetIterable iter X.env x = pure x := by intro _; rfl) (hs1 : ∀ env x, foldedSetIterable iter1 env x = pure x := by intro _ _; rfl) :
    DS X W (.Assign [.Name y py] (.ListComp elt [⟨tg, iter, ifs, 0⟩, ⟨tg1, iter1, ifs1, 0⟩] scope pos) spos) (sAsg (gN i) ((if fz = true then mFrz else mNew) (lLc2 ms gf mt ms1 gf1 mt1 me (own.map (·.2)) vs1))) :=
  PS.weak (ps_setLc2 (g := tGt X.K js gf) (tt := tT X.K wN mt) (wi1 := tG X.K wN (pI X.K) ms1) (g1 := tGt X.K js1 gf1) (tt1 := tT X.K wN mt1) (te := tV X.K wN me) hc hN hy hyl hsw hi ok hv hg ht hi1 hg1 ht1 he hs hs1) fun E σ H h => lc2_of hjs hjs1 (by
    have q := name_of h
    cases fz with
    | true => exact frz_of q
    | false => exact new_of q)
end
end Dn

namespace Lw
open PySem PySem.Spec PyProof.Rows L2 Dn
-- ### the text by places
def top (i : Nat) : Stmt := PySem.Challenge.pw_pressrelease_k13_shortest_rows.main.body.getD i (.Pass ⟨0, 0, 0, 0⟩)
abbrev s_changed_word : Stmt := top 4
abbrev N_changed_word : List Str := ["panel", "pressed", "button", "word"]
abbrev s_effect_after : Stmt := top 5
abbrev N_effect_after : List Str := ["panel", "effect", "pressed", "button", "word"]
abbrev s_effect_of : Stmt := top 6
abbrev N_effect_of : List Str := ["panel", "row", "effect", "button"]
abbrev s_decided_with : Stmt := top 7
abbrev N_decided_with : List Str := ["panel", "effect", "decided", "pressed", "new", "button"]
abbrev s_next_layer : Stmt := top 8
abbrev N_next_layer : List Str := ["panel", "effect", "layer", "known", "decided", "button", "found"]
abbrev s_layers_of : Stmt := top 9
abbrev N_layers_of : List Str := ["panel", "effect", "whole", "button", "word", "layers", "known"]
abbrev s_shortest_row : Stmt := top 10
abbrev N_shortest_row : List Str := ["panel", "row", "effect", "layers", "reached", "found", "layer", "buttons", "pairs", "one", "rest"]
abbrev s__law_draws : Stmt := top 12
abbrev N__law_draws : List Str := ["_law_script", "_law_cells", "_law_cell"]
abbrev s__law_next : Stmt := top 13
abbrev N__law_next : List Str := ["_law_drawn", "_law_many", "_law_cells", "_law_nth", "_law_rests", "_law_spot", "_law_digit", "_law_mixed", "_law_more"]
abbrev s__law_panel : Stmt := top 14
abbrev N__law_panel : List Str := ["_law_drawn", "_law_most", "_law_n", "_law_share", "_law_found", "_law_button", "_law_others", "_law_other"]
abbrev s__law_row : Stmt := top 15
abbrev N__law_row : List Str := ["_law_drawn", "_law_n", "_law_most", "_law_press"]
abbrev s__law_effect : Stmt := top 16
abbrev N__law_effect : List Str := ["_law_panel_here", "_law_row_here", "_law_found", "_law_button", "_law_word", "_law_one"]
abbrev s__law_rows : Stmt := top 17
abbrev N__law_rows : List Str := ["_law_n", "_law_found", "_law_rows_here", "_law_press", "_law_longer", "_law_row_here", "_law_button"]
abbrev s__law_decided : Stmt := top 18
abbrev N__law_decided : List Str := ["_law_panel_here", "_law_effect_here", "_law_decided_here", "_law_button", "_law_one"]
abbrev s__law_layers : Stmt := top 19
abbrev N__law_layers : List Str := ["_law_panel_here", "_law_effect_here", "_law_whole", "_law_button", "_law_word", "_law_layers_here", "_law_known", "_law_later", "_law_decided_here", "_law_after"]
abbrev s__law_best : Stmt := top 20
abbrev N__law_best : List Str := ["_law_panel_here", "_law_effect_here", "_law_layers_here", "_law_row_here", "_law_now", "_law_button", "_law_word", "_law_layer", "_law_found", "_law_one"]
abbrev s__law_first : Stmt := top 21
abbrev N__law_first : List Str := ["_law_panel_here", "_law_rows_here", "_law_due", "_law_row_here"]
abbrev s_law : Stmt := top 22
abbrev N_law : List Str := ["_law_script", "_law_drawn", "_law_hand", "_law_row_here", "_law_turn", "_law_panel_here", "_law_rows_here", "_law_due", "_law_again", "_law_before"]
-- ### what the defs mean
noncomputable def m_changed_word : Rho → Sto → Fl := (sSeq (sIf (isB (mOp pEq (mVar 2) (mVar 1))) (sRet (mLit (.str ("on" : Str)))) sNext)
  (sRet (mIf (isB (mOp pIn (mVar 2) (mOp pIdx (mVar 0) (mVar 1)))) (mLit (.str ("off" : Str))) (mVar 3))))
noncomputable def d_changed_word : List D → M D := fnD 4 4 m_changed_word
theorem nn_changed_word : NeedN 4 d_changed_word := needN_fnD
noncomputable def c_effect_after_1 : Rho → M (List D) := lLc (iEnumD (mVar 1)) (gT 2 (gsCons (gN 3) (gsCons (gN 4) gsNil))) bYes (mCall d_changed_word (mCons (mVar 0) (mCons (mVar 2) (mCons (mVar 3) (mCons (mVar 4) mNil))))) [3, 4]
noncomputable def m_effect_after : Rho → Sto → Fl := (sRet (mB pTuple (mCons (mFrz c_effect_after_1) mNil)))
noncomputable def d_effect_after : List D → M D := fnD 3 5 m_effect_after
theorem nn_effect_after : NeedN 3 d_effect_after := needN_fnD
noncomputable def l_effect_of_1 : Rho → Sto → Fl := (sAsg (gN 2) (mCall d_effect_after (mCons (mVar 0) (mCons (mVar 2) (mCons (mVar 3) mNil)))))
noncomputable def m_effect_of : Rho → Sto → Fl := (sSeq (sAsg (gN 2) (mOp pMul (mTup (mCons (mLit (.str ("same" : Str))) mNil)) (mB pLen (mCons (mVar 0) mNil))))
  (sSeq (sFor (iSeq (mVar 1)) (gN 3) l_effect_of_1)
  (sRet (mVar 2))))
noncomputable def d_effect_of : List D → M D := fnD 2 4 m_effect_of
theorem nn_effect_of : NeedN 2 d_effect_of := needN_fnD
noncomputable def c_decided_with_1 : Rho → M (List D) := lLc (iSeq (mTup (mCons (mVar 3) (mStar (mOp pIdx (mVar 0) (mVar 3)) mNil)))) (gN 5) (isB (mOp pNotIn (mVar 5) (mVar 2))) (mVar 5) [5]
noncomputable def c_decided_with_2 : Rho → M (List D) := lLc (iSeq (mVar 4)) (gN 5) bYes (mOp pNe (mOp pIdx (mVar 1) (mVar 5)) (mIf (isB (mOp pEq (mVar 5) (mVar 3))) (mLit (.str ("on" : Str))) (mLit (.str ("off" : Str))))) [5]
noncomputable def m_decided_with : Rho → Sto → Fl := (sSeq (sAsg (gN 4) (mFrz c_decided_with_1))
  (sSeq (sIf (mTru (mB pAny (mCons (mFrz c_decided_with_2) mNil))) (sRet (mLit .non)) sNext)
  (sRet (mB pTuple (mCons (mFrz (lB pSorted (mCons (mFrz (lDisp (mStar (mVar 2) (mStar (mVar 4) mNil)))) mNil))) mNil)))))
noncomputable def d_decided_with : List D → M D := fnD 4 6 m_decided_with
theorem nn_decided_with : NeedN 4 d_decided_with := needN_fnD
noncomputable def l_next_layer_1 : Rho → Sto → Fl := (sSeq (sUp (sAsg (gN 6) (mCall d_decided_with (mCons (mVar 0) (mCons (mVar 1) (mCons (mVar 4) (mCons (mVar 5) mNil)))))))
      (sSeq (sIf (onD (bAnd (isB (mOp pIsNot (mVar 6) (mLit .non))) (isB (mOp pNotInD (mVar 6) (mVar 3))))) (sSeq (sUp (sDPut (mVar 3) (mVar 6) (mLit (.bl true))))
        (sSeq (sYield (mVar 6)) sNext)) sNext) sNext))
noncomputable def l_next_layer_2 : Rho → Sto → Fl := (sSeq (sFor (onD (iRng1D (mB pLen (mCons (mVar 0) mNil)))) (gUp (gN 5)) l_next_layer_1) sNext)
noncomputable def m_next_layer : Rho → Sto → Fl := (sSeq (sFor (onD (iSeq (mVar 2))) (gUp (gN 4)) l_next_layer_2) sNext)
noncomputable def d_next_layer : List D → M (List D) := gnD 4 7 m_next_layer
noncomputable def c_layers_of_1 : Rho → M (List D) := lLc (iEnumD (mVar 1)) (gT 2 (gsCons (gN 3) (gsCons (gN 4) gsNil))) (isB (mOp pNe (mVar 4) (mLit (.str ("same" : Str))))) (mVar 3) [3, 4]
noncomputable def l_layers_of_1 : Rho → Sto → Fl := (sDrop (mMeth "list" pAppend (mVar 5) (mCons (mFrz (lGen d_next_layer (mCons (mVar 0) (mCons (mVar 1) (mCons (mOp pIdx (mVar 5) (mUn pNeg (mLit (.int 1)))) (mCons (mVar 6) mNil)))))) mNil)))
noncomputable def m_layers_of : Rho → Sto → Fl := (sSeq (sAsg (gN 2) (mB pTuple (mCons (mFrz c_layers_of_1) mNil)))
  (sSeq (sPar 5 6 (mCons (mNew (lDisp (mCons (mFrz (lDisp (mCons (mTup mNil) mNil))) mNil))) (mCons (mNewD1 (mTup mNil) (mLit (.bl true))) mNil)))
  (sSeq (sWhile 100 (isB (mOp pNotIn (mVar 2) (mOp pIdx (mVar 5) (mUn pNeg (mLit (.int 1)))))) l_layers_of_1)
  (sFz 5 (sRet (mFrz (lDisp (mStar (mFrz (lSlL (mVar 5) oNone (oSome (mUn pNeg (mLit (.int 1)))))) (mCons (mFrz (lDisp (mCons (mVar 2) mNil))) mNil)))))))))
noncomputable def d_layers_of : List D → M D := fnD 2 7 m_layers_of
theorem nn_layers_of : NeedN 2 d_layers_of := needN_fnD
noncomputable def c_shortest_row_1 : Rho → M (List D) := lLc2 (iSeq (mVar 7)) (gN 9) bYes (iSeq (mVar 6)) (gN 10) (isB (mOp pIn (mCall d_decided_with (mCons (mVar 0) (mCons (mVar 2) (mCons (mVar 10) (mCons (mVar 9) mNil))))) (mVar 4))) (mTup (mCons (mVar 9) (mCons (mVar 10) mNil))) [9, 10] [10]
noncomputable def c_shortest_row_2 : Rho → M (List D) := lLc (iSeq (mVar 8)) (gT 2 (gsCons (gN 9) (gsCons (gN 10) gsNil))) (isB (mOp pEq (mVar 9) (mOp pIdx (mVar 5) (mUn pNeg (mLit (.int 1)))))) (mVar 10) [9, 10]
noncomputable def l_shortest_row_1 : Rho → Sto → Fl := (sSeq (sAsg (gN 7) (mFrz (lLstRg (mB pLen (mCons (mVar 0) mNil)))))
    (sSeq (sAsg (gN 8) (mFrz c_shortest_row_1))
    (sSeq (sAsg (gN 5) (mTup (mStar (mVar 5) (mCons (mOp pIdx (mOp pIdx (mVar 8) (mLit (.int 0))) (mLit (.int 0))) mNil))))
    (sAsg (gN 4) (mFrz c_shortest_row_2)))))
noncomputable def m_shortest_row : Rho → Sto → Fl := (sSeq (sAsg (gN 2) (mCall d_effect_of (mCons (mVar 0) (mCons (mVar 1) mNil))))
  (sSeq (sAsg (gSF (gsCons (gN 3) (gsCons (gN 4) gsNil))) (mCall d_layers_of (mCons (mVar 0) (mCons (mVar 2) mNil))))
  (sSeq (sAsg (gN 5) (mTup mNil))
  (sSeq (sFor (iSeq (mFrz (lRevL (mVar 3)))) (gN 6) l_shortest_row_1)
  (sRet (mVar 5))))))
noncomputable def d_shortest_row : List D → M D := fnD 2 11 m_shortest_row
theorem nn_shortest_row : NeedN 2 d_shortest_row := needN_fnD
noncomputable def c__law_draws_1 : Rho → M (List D) := lLc (iSeq (mVar 1)) (gN 2) bYes (mOp pMul (mVar 2) (mB pInt (mCons (mOp pGe (mVar 2) (mOp pPow (mLit (.int 10)) (mLit (.int 18)))) mNil))) [2]
noncomputable def m__law_draws : Rho → Sto → Fl := (sSeq (sAsg (gN 1) (mFrz (lOp pCat (mFrz (lB pList (mCons (mFrz (lSlL (mVar 0) oNone (oSome (mLit (.int 63))))) mNil))) (mFrz (lOp pRepL (mFrz (lDisp (mCons (mLit (.int 0)) mNil))) (mB pInt (mCons (mOp pEq (mB pLen (mCons (mVar 0) mNil)) (mLit (.int 0))) mNil)))))))
  (sRet (mNew (lDisp (mCons (mVar 1) (mCons (mLit (.int 0)) (mCons (mNew c__law_draws_1) mNil)))))))
noncomputable def d__law_draws : List D → M D := fnD 1 3 m__law_draws
theorem nn__law_draws : NeedN 1 d__law_draws := needN_fnD
noncomputable def m__law_next : Rho → Sto → Fl := (sSeq (sAsg (gL 3 (gsCons (gN 2) (gsCons (gN 3) (gsCons (gN 4) gsNil)))) (mVar 0))
  (sSeq (sAsg (gN 5) (mOp pMod (mVar 3) (mB pLen (mCons (mVar 2) mNil))))
  (sSeq (sAsg (gSubD (mVar 0) (mLit (.int 1))) (mOp pAdd (mVar 3) (mLit (.int 1))))
  (sSeq (sIf (isB (mOp pGt (mOp pIdx (mVar 4) (mVar 5)) (mLit (.int 0)))) (sSeq (sAsg (gN 6) (mOp pMod (mOp pIdx (mVar 4) (mVar 5)) (mVar 1)))
    (sSeq (sAsg (gSubD (mVar 4) (mVar 5)) (mOp pDiv (mOp pIdx (mVar 4) (mVar 5)) (mVar 1)))
    (sRet (mVar 6)))) sNext)
  (sSeq (sAsg (gN 7) (mOp pMod (mOp pPow (mOp pAdd (mOp pAdd (mOp pMod (mOp pIdx (mVar 2) (mVar 5)) (mLit (.int 2147483647))) (mOp pMul (mLit (.int 69621)) (mVar 3))) (mLit (.int 30269))) (mLit (.int 3))) (mLit (.int 2147483629))))
  (sSeq (sAsg (gN 8) (mOp pMod (mOp pPow (mOp pAdd (mOp pAdd (mVar 7) (mOp pMul (mOp pMul (mLit (.int 6007)) (mVar 3)) (mVar 3))) (mLit (.int 17))) (mLit (.int 3))) (mLit (.int 2147483587))))
  (sRet (mOp pMod (mOp pMod (mOp pAdd (mOp pMul (mVar 8) (mLit (.int 2147483423))) (mVar 7)) (mLit (.int 4611686018427387847))) (mVar 1)))))))))
noncomputable def d__law_next : List D → M D := fnD 2 9 m__law_next
theorem nn__law_next : NeedN 2 d__law_next := needN_fnD
noncomputable def c__law_panel_1 : Rho → M (List D) := lLc (iRng1D (mVar 2)) (gN 7) (isB (mOp pNe (mVar 7) (mVar 5))) (mVar 7) [7]
noncomputable def c__law_panel_2 : Rho → M (List D) := lLc (iSeq (mVar 6)) (gN 7) (isB (mOp pLt (mCall d__law_next (mCons (mVar 0) (mCons (mLit (.int 5)) mNil))) (mVar 3))) (mVar 7) [7]
noncomputable def l__law_panel_1 : Rho → Sto → Fl := (sSeq (sAsg (gN 6) (mFrz c__law_panel_1))
    (sDrop (mMeth "list" pAppend (mVar 4) (mCons (mB pTuple (mCons (mFrz c__law_panel_2) mNil)) mNil))))
noncomputable def m__law_panel : Rho → Sto → Fl := (sSeq (sAsg (gN 2) (mOp pIdx (mFrz (lDisp (mCons (mOp pAdd (mLit (.int 1)) (mCall d__law_next (mCons (mVar 0) (mCons (mVar 1) mNil)))) (mCons (mVar 1) mNil)))) (mB pInt (mCons (mOp pEq (mCall d__law_next (mCons (mVar 0) (mCons (mLit (.int 4)) mNil))) (mLit (.int 0))) mNil))))
  (sSeq (sAsg (gT 2 (gsCons (gN 3) (gsCons (gN 4) gsNil))) (mTup (mCons (mCall d__law_next (mCons (mVar 0) (mCons (mLit (.int 6)) mNil))) (mCons (mNew (lDisp mNil)) mNil))))
  (sSeq (sFor (iRng1D (mVar 2)) (gN 5) l__law_panel_1)
  (sFz 4 (sRet (mB pTuple (mCons (mVar 4) mNil)))))))
noncomputable def d__law_panel : List D → M D := fnD 2 8 m__law_panel
theorem nn__law_panel : NeedN 2 d__law_panel := needN_fnD
noncomputable def c__law_row_1 : Rho → M (List D) := lLc (iRng1D (mCall d__law_next (mCons (mVar 0) (mCons (mOp pAdd (mVar 2) (mLit (.int 1))) mNil)))) (gN 3) bYes (mCall d__law_next (mCons (mVar 0) (mCons (mVar 1) mNil))) [3]
noncomputable def m__law_row : Rho → Sto → Fl := (sRet (mB pTuple (mCons (mFrz c__law_row_1) mNil)))
noncomputable def d__law_row : List D → M D := fnD 3 4 m__law_row
theorem nn__law_row : NeedN 3 d__law_row := needN_fnD
noncomputable def l__law_effect_1 : Rho → Sto → Fl := (sIf (isB (mOp pEq (mVar 5) (mVar 3))) (sAsg (gN 4) (mLit (.str ("on" : Str)))) (sIf (isB (mOp pIn (mVar 3) (mOp pIdx (mVar 0) (mVar 5)))) (sAsg (gN 4) (mLit (.str ("off" : Str)))) sNext))
noncomputable def l__law_effect_2 : Rho → Sto → Fl := (sSeq (sAsg (gN 4) (mLit (.str ("same" : Str))))
    (sSeq (sFor (iSeq (mVar 1)) (gN 5) l__law_effect_1)
    (sDrop (mMeth "list" pAppend (mVar 2) (mCons (mVar 4) mNil)))))
noncomputable def m__law_effect : Rho → Sto → Fl := (sSeq (sAsg (gN 2) (mNew (lDisp mNil)))
  (sSeq (sFor (iRng1D (mB pLen (mCons (mVar 0) mNil))) (gN 3) l__law_effect_2)
  (sFz 2 (sRet (mB pTuple (mCons (mVar 2) mNil))))))
noncomputable def d__law_effect : List D → M D := fnD 2 6 m__law_effect
theorem nn__law_effect : NeedN 2 d__law_effect := needN_fnD
noncomputable def c__law_rows_1 : Rho → M (List D) := lLc (iRng1D (mVar 0)) (gN 6) (isB (mOp pNotIn (mVar 6) (mVar 5))) (mOp pAdd (mVar 5) (mTup (mCons (mVar 6) mNil))) [6]
noncomputable def l__law_rows_1 : Rho → Sto → Fl := (sDrop (mMeth "list" pExtend (mVar 4) (mCons (mFrz c__law_rows_1) mNil)))
noncomputable def l__law_rows_2 : Rho → Sto → Fl := (sSeq (sAsg (gN 4) (mNew (lDisp mNil)))
    (sSeq (sFor (iSeq (mVar 2)) (gN 5) l__law_rows_1)
    (sFz 4 (sSeq (sAsg (gN 2) (mVar 4))
    (sAsg (gN 1) (mFrz (lOp pCat (mVar 1) (mVar 2))))))))
noncomputable def m__law_rows : Rho → Sto → Fl := (sSeq (sPar 1 2 (mCons (mFrz (lDisp (mCons (mTup mNil) mNil))) (mCons (mFrz (lDisp (mCons (mTup mNil) mNil))) mNil)))
  (sSeq (sFor (iRng1D (mVar 0)) (gN 3) l__law_rows_2)
  (sRet (mVar 1))))
noncomputable def d__law_rows : List D → M D := fnD 1 7 m__law_rows
theorem nn__law_rows : NeedN 1 d__law_rows := needN_fnD
noncomputable def c__law_decided_1 : Rho → M (List D) := lLc (iSeq (mOp pIdx (mVar 0) (mVar 3))) (gN 4) (bAnd (isB (mOp pNotIn (mVar 4) (mVar 2))) (isB (mOp pNe (mOp pIdx (mVar 1) (mVar 4)) (mLit (.str ("off" : Str)))))) (mVar 4) [4]
noncomputable def m__law_decided : Rho → Sto → Fl := (sSeq (sIf (bAnd (isB (mOp pNotIn (mVar 3) (mVar 2))) (isB (mOp pNe (mOp pIdx (mVar 1) (mVar 3)) (mLit (.str ("on" : Str)))))) (sRet (mLit .non)) sNext)
  (sSeq (sIf (isB (mOp pNe (mFrz c__law_decided_1) (mFrz (lDisp mNil)))) (sRet (mLit .non)) sNext)
  (sRet (mB pTuple (mCons (mFrz (lSortSet (mOp pAdd (mOp pAdd (mVar 2) (mTup (mCons (mVar 3) mNil))) (mOp pIdx (mVar 0) (mVar 3))))) mNil)))))
noncomputable def d__law_decided : List D → M D := fnD 4 5 m__law_decided
theorem nn__law_decided : NeedN 4 d__law_decided := needN_fnD
noncomputable def c__law_layers_1 : Rho → M (List D) := lLc (iEnumD (mVar 1)) (gT 2 (gsCons (gN 3) (gsCons (gN 4) gsNil))) (isB (mOp pNe (mVar 4) (mLit (.str ("same" : Str))))) (mVar 3) [3, 4]
noncomputable def l__law_layers_1 : Rho → Sto → Fl := (sSeq (sAsg (gN 9) (mCall d__law_decided (mCons (mVar 0) (mCons (mVar 1) (mCons (mVar 8) (mCons (mVar 3) mNil))))))
        (sIf (bAnd (isB (mOp pIsNot (mVar 9) (mLit .non))) (isB (mOp pNotInD (mVar 9) (mVar 6)))) (sSeq (sDPut (mVar 6) (mVar 9) (mLit (.bl true)))
          (sDrop (mMeth "list" pAppend (mVar 7) (mCons (mVar 9) mNil)))) sNext))
noncomputable def l__law_layers_2 : Rho → Sto → Fl := (sFor (iSeq (mVar 2)) (gN 3) l__law_layers_1)
noncomputable def l__law_layers_3 : Rho → Sto → Fl := (sSeq (sAsg (gN 7) (mNew (lDisp mNil)))
    (sSeq (sFor (iSeq (mOp pIdx (mVar 5) (mUn pNeg (mLit (.int 1))))) (gN 8) l__law_layers_2)
    (sFz 7 (sDrop (mMeth "list" pAppend (mVar 5) (mCons (mVar 7) mNil))))))
noncomputable def m__law_layers : Rho → Sto → Fl := (sSeq (sAsg (gN 2) (mB pTuple (mCons (mFrz c__law_layers_1) mNil)))
  (sSeq (sPar 5 6 (mCons (mNew (lDisp (mCons (mFrz (lDisp (mCons (mTup mNil) mNil))) mNil))) (mCons (mNewD1 (mTup mNil) (mLit (.bl true))) mNil)))
  (sSeq (sWhile 1000 (bAnd (isB (mOp pNotIn (mVar 2) (mOp pIdx (mVar 5) (mUn pNeg (mLit (.int 1)))))) (isB (mOp pNe (mOp pIdx (mVar 5) (mUn pNeg (mLit (.int 1)))) (mFrz (lDisp mNil))))) l__law_layers_3)
  (sFz 5 (sRet (mVar 5))))))
noncomputable def d__law_layers : List D → M D := fnD 2 10 m__law_layers
theorem nn__law_layers : NeedN 2 d__law_layers := needN_fnD
noncomputable def c__law_best_1 : Rho → M (List D) := lLc (iEnumD (mVar 1)) (gT 2 (gsCons (gN 5) (gsCons (gN 6) gsNil))) (isB (mOp pNe (mVar 6) (mLit (.str ("same" : Str))))) (mVar 5) [5, 6]
noncomputable def c__law_best_2 : Rho → M (List D) := lLc (iSeq (mVar 7)) (gN 9) (isB (mOp pIn (mCall d__law_decided (mCons (mVar 0) (mCons (mVar 1) (mCons (mVar 9) (mCons (mVar 5) mNil))))) (mVar 4))) (mVar 9) [9]
noncomputable def l__law_best_1 : Rho → Sto → Fl := (sIf (isB (mOp pEq (mVar 8) (mFrz (lDisp mNil)))) (sSeq (sAsg (gN 8) (mFrz c__law_best_2))
        (sIf (isB (mOp pNe (mVar 8) (mFrz (lDisp mNil)))) (sAsg (gN 3) (mOp pAdd (mVar 3) (mTup (mCons (mVar 5) mNil)))) sNext)) sNext)
noncomputable def l__law_best_2 : Rho → Sto → Fl := (sSeq (sAsg (gN 8) (mFrz (lDisp mNil)))
    (sSeq (sFor (iRng1D (mB pLen (mCons (mVar 0) mNil))) (gN 5) l__law_best_1)
    (sAsg (gN 4) (mVar 8))))
noncomputable def m__law_best : Rho → Sto → Fl := (sSeq (sPar 2 3 (mCons (mCall d__law_layers (mCons (mVar 0) (mCons (mVar 1) mNil))) (mCons (mTup mNil) mNil)))
  (sSeq (sIf (isB (mOp pEq (mOp pIdx (mVar 2) (mUn pNeg (mLit (.int 1)))) (mFrz (lDisp mNil)))) (sRet (mLit .non)) sNext)
  (sSeq (sAsg (gN 4) (mFrz (lDisp (mCons (mB pTuple (mCons (mFrz c__law_best_1) mNil)) mNil))))
  (sSeq (sFor (iSeq (mFrz (lSlNeg (mVar 2) (oSome (mUn pNeg (mLit (.int 2))))))) (gN 7) l__law_best_2)
  (sRet (mVar 3))))))
noncomputable def d__law_best : List D → M D := fnD 2 10 m__law_best
theorem nn__law_best : NeedN 2 d__law_best := needN_fnD
noncomputable def l__law_first_1 : Rho → Sto → Fl := (sIf (isB (mOp pEq (mCall d__law_effect (mCons (mVar 0) (mCons (mVar 3) mNil))) (mVar 2))) (sRet (mVar 3)) sNext)
noncomputable def m__law_first : Rho → Sto → Fl := (sSeq (sFor (iSeq (mVar 1)) (gN 3) l__law_first_1)
  (sRet (mLit .non)))
noncomputable def d__law_first : List D → M D := fnD 3 4 m__law_first
theorem nn__law_first : NeedN 3 d__law_first := needN_fnD
noncomputable def c_law_1 : Rho → M (List D) := lLc (iSeq (mFrz (lDisp (mCons (mTup (mCons (mLit (.int 1)) (mCons (mLit (.int 2)) (mCons (mLit (.int 0)) mNil)))) (mCons (mTup (mCons (mLit (.int 2)) (mCons (mLit (.int 1)) (mCons (mLit (.int 0)) mNil)))) (mCons (mTup (mCons (mLit (.int 3)) (mCons (mLit (.int 0)) mNil))) mNil)))))) (gN 3) bYes (mCall d_shortest_row (mCons (mVar 2) (mCons (mVar 3) mNil))) [3]
noncomputable def c_law_2 : Rho → M (List D) := lLc (iRng1D (mLit (.int 2))) (gN 8) bYes (mCall d_shortest_row (mCons (mVar 5) (mCons (mVar 3) mNil))) [8]
noncomputable def l_law_1 : Rho → Sto → Fl := (sSeq (sAsg (gN 7) (mCall d__law_first (mCons (mVar 5) (mCons (mVar 6) (mCons (mCall d__law_effect (mCons (mVar 5) (mCons (mVar 3) mNil))) mNil)))))
      (sSeq (sIf (isB (mOp pNe (mVar 7) (mCall d__law_best (mCons (mVar 5) (mCons (mCall d__law_effect (mCons (mVar 5) (mCons (mVar 3) mNil))) mNil))))) (sRet (mLit (.bl false))) sNext)
      (sIf (isB (mOp pNe (mB pReprR (mCons (mFrz c_law_2) mNil)) (mB pReprR (mCons (mFrz (lDisp (mCons (mVar 7) (mCons (mVar 7) mNil)))) mNil)))) (sRet (mLit (.bl false))) sNext)))
noncomputable def l_law_2 : Rho → Sto → Fl := (sSeq (sAsg (gN 5) (mCall d__law_panel (mCons (mVar 1) (mCons (mLit (.int 5)) mNil))))
    (sSeq (sAsg (gN 6) (mCall d__law_rows (mCons (mB pLen (mCons (mVar 5) mNil)) mNil)))
    (sFor (iSeq (mFrz (lDisp (mCons (mCall d__law_row (mCons (mVar 1) (mCons (mB pLen (mCons (mVar 5) mNil)) (mCons (mLit (.int 12)) mNil)))) (mCons (mCall d__law_row (mCons (mVar 1) (mCons (mB pLen (mCons (mVar 5) mNil)) (mCons (mLit (.int 5)) mNil)))) (mCons (mTup mNil) mNil)))))) (gN 3) l_law_1)))
noncomputable def l_law_3 : Rho → Sto → Fl := (sSeq (sAsg (gN 5) (mCall d__law_panel (mCons (mVar 1) (mCons (mOp pIdx (mFrz (lDisp (mCons (mLit (.int 6)) (mCons (mLit (.int 8)) (mCons (mLit (.int 9)) (mCons (mLit (.int 10)) mNil)))))) (mVar 4)) mNil))))
    (sSeq (sAsg (gN 3) (mCall d__law_row (mCons (mVar 1) (mCons (mB pLen (mCons (mVar 5) mNil)) (mCons (mOp pIdx (mFrz (lDisp (mCons (mLit (.int 12)) (mCons (mLit (.int 60)) (mCons (mLit (.int 12)) (mCons (mLit (.int 6)) mNil)))))) (mVar 4)) mNil)))))
    (sSeq (sPar 9 7 (mCons (mB pReprR (mCons (mFrz (lDisp (mCons (mVar 5) (mCons (mVar 3) mNil)))) mNil)) (mCons (mCall d__law_best (mCons (mVar 5) (mCons (mCall d__law_effect (mCons (mVar 5) (mCons (mVar 3) mNil))) mNil))) mNil)))
    (sSeq (sIf (isB (mOp pNe (mB pReprR (mCons (mFrz (lDisp (mCons (mCall d_shortest_row (mCons (mVar 5) (mCons (mVar 3) mNil))) (mCons (mCall d_shortest_row (mCons (mVar 5) (mCons (mVar 7) mNil))) mNil)))) mNil)) (mB pReprR (mCons (mFrz (lDisp (mCons (mVar 7) (mCons (mVar 7) mNil)))) mNil)))) (sRet (mLit (.bl false))) sNext)
    (sIf (isB (mOp pNe (mB pReprR (mCons (mFrz (lDisp (mCons (mVar 5) (mCons (mVar 3) mNil)))) mNil)) (mVar 9))) (sRet (mLit (.bl false))) sNext)))))
noncomputable def rest_law_1 : Rho → Sto → Fl := (sSeq (sAsg (gN 2) (mTup (mCons (mTup (mCons (mLit (.int 1)) (mCons (mLit (.int 2)) (mCons (mLit (.int 3)) mNil)))) (mCons (mTup (mCons (mLit (.int 4)) mNil)) (mCons (mTup (mCons (mLit (.int 5)) mNil)) (mCons (mTup (mCons (mLit (.int 4)) (mCons (mLit (.int 5)) mNil))) (mCons (mTup mNil) (mCons (mTup mNil) mNil))))))))
  (sSeq (sIf (isB (mOp pNe (mB pReprR (mCons (mFrz c_law_1) mNil)) (mB pReprR (mCons (mFrz (lOp pRepL (mFrz (lDisp (mCons (mTup (mCons (mLit (.int 3)) (mCons (mLit (.int 0)) mNil))) mNil))) (mLit (.int 3)))) mNil)))) (sRet (mLit (.bl false))) sNext)
  (sSeq (sFor (iRng1D (mLit (.int 5))) (gN 4) l_law_2)
  (sSeq (sFor (iRng1D (mLit (.int 4))) (gN 4) l_law_3)
  (sRet (mLit (.bl true)))))))
noncomputable def m_law : Rho → Sto → Fl := (sSeq (sAsg (gN 1) (mCall d__law_draws (mCons (mVar 0) mNil))) rest_law_1)
noncomputable def d_law : List D → M D := fnD 1 10 m_law
theorem nn_law : NeedN 1 d_law := needN_fnD

def hds0 : Dn.HdQ := []
def hds : Dn.HdQ := hds0
def fcts0 : List (Dn.KF → Bool) := [fun K => Dn.fnB K (He.ga K "changed_word") "changed_word",
  fun K => Dn.fnB K (He.ga K "effect_after") "effect_after",
  fun K => Dn.fnB K (He.ga K "effect_of") "effect_of",
  fun K => Dn.fnB K (He.ga K "decided_with") "decided_with",
  fun K => Dn.fnB K (He.ga K "next_layer") "next_layer",
  fun K => Dn.fnB K (He.ga K "layers_of") "layers_of",
  fun K => Dn.fnB K (He.ga K "shortest_row") "shortest_row",
  fun K => Dn.fnB K (He.ga K "_law_draws") "_law_draws",
  fun K => Dn.fnB K (He.ga K "_law_next") "_law_next",
  fun K => Dn.fnB K (He.ga K "_law_panel") "_law_panel",
  fun K => Dn.fnB K (He.ga K "_law_row") "_law_row",
  fun K => Dn.fnB K (He.ga K "_law_effect") "_law_effect",
  fun K => Dn.fnB K (He.ga K "_law_rows") "_law_rows",
  fun K => Dn.fnB K (He.ga K "_law_decided") "_law_decided",
  fun K => Dn.fnB K (He.ga K "_law_layers") "_law_layers",
  fun K => Dn.fnB K (He.ga K "_law_best") "_law_best",
  fun K => Dn.fnB K (He.ga K "_law_first") "_law_first",
  fun K => Dn.fnB K (He.ga K "law") "law",
  fun K => decide (PySem.W.nsIn K mainGlobals "changed_word" = some (some (.ref (He.ga K "changed_word")))),
  fun K => decide (PySem.W.nsIn K mainGlobals "effect_after" = some (some (.ref (He.ga K "effect_after")))),
  fun K => decide (PySem.W.nsIn K mainGlobals "effect_of" = some (some (.ref (He.ga K "effect_of")))),
  fun K => decide (PySem.W.nsIn K mainGlobals "decided_with" = some (some (.ref (He.ga K "decided_with")))),
  fun K => decide (PySem.W.nsIn K mainGlobals "next_layer" = some (some (.ref (He.ga K "next_layer")))),
  fun K => decide (PySem.W.nsIn K mainGlobals "layers_of" = some (some (.ref (He.ga K "layers_of")))),
  fun K => decide (PySem.W.nsIn K mainGlobals "shortest_row" = some (some (.ref (He.ga K "shortest_row")))),
  fun K => decide (PySem.W.nsIn K mainGlobals "_law_draws" = some (some (.ref (He.ga K "_law_draws")))),
  fun K => decide (PySem.W.nsIn K mainGlobals "_law_next" = some (some (.ref (He.ga K "_law_next")))),
  fun K => decide (PySem.W.nsIn K mainGlobals "_law_panel" = some (some (.ref (He.ga K "_law_panel")))),
  fun K => decide (PySem.W.nsIn K mainGlobals "_law_row" = some (some (.ref (He.ga K "_law_row")))),
  fun K => decide (PySem.W.nsIn K mainGlobals "_law_effect" = some (some (.ref (He.ga K "_law_effect"))))]
def fcts1 : List (Dn.KF → Bool) := [fun K => decide (PySem.W.nsIn K mainGlobals "_law_rows" = some (some (.ref (He.ga K "_law_rows")))),
  fun K => decide (PySem.W.nsIn K mainGlobals "_law_decided" = some (some (.ref (He.ga K "_law_decided")))),
  fun K => decide (PySem.W.nsIn K mainGlobals "_law_layers" = some (some (.ref (He.ga K "_law_layers")))),
  fun K => decide (PySem.W.nsIn K mainGlobals "_law_best" = some (some (.ref (He.ga K "_law_best")))),
  fun K => decide (PySem.W.nsIn K mainGlobals "_law_first" = some (some (.ref (He.ga K "_law_first")))),
  fun K => decide (PySem.W.nsIn K mainGlobals "law" = some (some (.ref (He.ga K "law")))),
  fun K => decide (PySem.W.nsIn K mainGlobals "any" = some none),
  fun K => decide (PySem.W.nsIn K mainGlobals "enumerate" = some none),
  fun K => decide (PySem.W.nsIn K mainGlobals "int" = some none),
  fun K => decide (PySem.W.nsIn K mainGlobals "len" = some none),
  fun K => decide (PySem.W.nsIn K mainGlobals "list" = some none),
  fun K => decide (PySem.W.nsIn K mainGlobals "range" = some none),
  fun K => decide (PySem.W.nsIn K mainGlobals "repr" = some none),
  fun K => decide (PySem.W.nsIn K mainGlobals "set" = some none),
  fun K => decide (PySem.W.nsIn K mainGlobals "sorted" = some none),
  fun K => decide (PySem.W.nsIn K mainGlobals "tuple" = some none),
  fun K => Dn.strB K "OFF" ("off" : Str),
  fun K => Dn.strB K "ON" ("on" : Str),
  fun K => Dn.strB K "SAME" ("same" : Str)]
def fcts : List (Dn.KF → Bool) := fcts0 ++ fcts1
def fdfs0 : List Dn.FnQ := [⟨fun K => (He.ga K "changed_word"), "changed_word", "changed_word", (defArgs s_changed_word), (defBody s_changed_word), (defScope s_changed_word), []⟩,
  ⟨fun K => (He.ga K "effect_after"), "effect_after", "effect_after", (defArgs s_effect_after), (defBody s_effect_after), (defScope s_effect_after), []⟩,
  ⟨fun K => (He.ga K "effect_of"), "effect_of", "effect_of", (defArgs s_effect_of), (defBody s_effect_of), (defScope s_effect_of), []⟩,
  ⟨fun K => (He.ga K "decided_with"), "decided_with", "decided_with", (defArgs s_decided_with), (defBody s_decided_with), (defScope s_decided_with), []⟩,
  ⟨fun K => (He.ga K "next_layer"), "next_layer", "next_layer", (defArgs s_next_layer), (defBody s_next_layer), (defScope s_next_layer), []⟩,
  ⟨fun K => (He.ga K "layers_of"), "layers_of", "layers_of", (defArgs s_layers_of), (defBody s_layers_of), (defScope s_layers_of), []⟩,
  ⟨fun K => (He.ga K "shortest_row"), "shortest_row", "shortest_row", (defArgs s_shortest_row), (defBody s_shortest_row), (defScope s_shortest_row), []⟩,
  ⟨fun K => (He.ga K "_law_draws"), "_law_draws", "_law_draws", (defArgs s__law_draws), (defBody s__law_draws), (defScope s__law_draws), []⟩,
  ⟨fun K => (He.ga K "_law_next"), "_law_next", "_law_next", (defArgs s__law_next), (defBody s__law_next), (defScope s__law_next), []⟩,
  ⟨fun K => (He.ga K "_law_panel"), "_law_panel", "_law_panel", (defArgs s__law_panel), (defBody s__law_panel), (defScope s__law_panel), []⟩,
  ⟨fun K => (He.ga K "_law_row"), "_law_row", "_law_row", (defArgs s__law_row), (defBody s__law_row), (defScope s__law_row), []⟩,
  ⟨fun K => (He.ga K "_law_effect"), "_law_effect", "_law_effect", (defArgs s__law_effect), (defBody s__law_effect), (defScope s__law_effect), []⟩,
  ⟨fun K => (He.ga K "_law_rows"), "_law_rows", "_law_rows", (defArgs s__law_rows), (defBody s__law_rows), (defScope s__law_rows), []⟩,
  ⟨fun K => (He.ga K "_law_decided"), "_law_decided", "_law_decided", (defArgs s__law_decided), (defBody s__law_decided), (defScope s__law_decided), []⟩,
  ⟨fun K => (He.ga K "_law_layers"), "_law_layers", "_law_layers", (defArgs s__law_layers), (defBody s__law_layers), (defScope s__law_layers), []⟩,
  ⟨fun K => (He.ga K "_law_best"), "_law_best", "_law_best", (defArgs s__law_best), (defBody s__law_best), (defScope s__law_best), []⟩,
  ⟨fun K => (He.ga K "_law_first"), "_law_first", "_law_first", (defArgs s__law_first), (defBody s__law_first), (defScope s__law_first), []⟩,
  ⟨fun K => (He.ga K "law"), "law", "law", (defArgs s_law), (defBody s_law), (defScope s_law), []⟩]
def fdfs : List Dn.FnQ := fdfs0
def lse0 : List PySem.Str := ["__name__",
  "ON",
  "OFF",
  "SAME",
  "changed_word",
  "effect_after",
  "effect_of",
  "decided_with",
  "next_layer",
  "layers_of",
  "shortest_row",
  "_law_draws",
  "_law_next",
  "_law_panel",
  "_law_row",
  "_law_effect",
  "_law_rows",
  "_law_decided",
  "_law_layers",
  "_law_best",
  "_law_first"]
def lse : List PySem.Str := lse0
abbrev RQ : PySem.W.OpenRow := PySem.W.OpenLaw.row PySem.Challenge.rw_pressrelease_k13_shortest_rows
theorem run_false (w : World) : HandSHeadRun.RunEq RQ (PySem.W.view RQ.prog [22]) (Dn.hookQ fcts fdfs hds) (Dn.obQ fcts fdfs hds) 9000 lse (w.withFollow "special-get-raises" false) := by
  intro os
  kernel_rfl
theorem run_true (w : World) : HandSHeadRun.RunEq RQ (PySem.W.view RQ.prog [22]) (Dn.hookQ fcts fdfs hds) (Dn.obQ fcts fdfs hds) 9000 lse (w.withFollow "special-get-raises" true) := by
  intro os
  kernel_rfl
theorem run_all (w : World) : HandSHeadRun.RunEq RQ (PySem.W.view RQ.prog [22]) (Dn.hookQ fcts fdfs hds) (Dn.obQ fcts fdfs hds) 9000 lse w := PySem.W.byRow2 "special-get-raises" (P := fun w => HandSHeadRun.RunEq RQ (PySem.W.view RQ.prog [22]) (Dn.hookQ fcts fdfs hds) (Dn.obQ fcts fdfs hds) 9000 lse w) run_false run_true w
/-! ### the drawn numbers -/
def dkB (cells rests : List Int) (k : Nat) (rest : Sto) : Sto := .lst (rests.map .int) :: .lst [.lst (cells.map .int), nI k, .ref 0] :: rest
structure GoodB (cells rests : List Int) : Prop where
  len : rests.length = cells.length
  pos : 1 ≤ cells.length
  nn : ∀ z ∈ rests, 0 ≤ z
theorem goodB_set {cells rests : List Int} (g : GoodB cells rests) {j : Nat} {z : Int} (h : 0 ≤ z) : GoodB cells (rests.set j z) := ⟨by rw [List.length_set]; exact g.len, g.pos, fun y hy => by
  rcases List.mem_or_eq_of_mem_set hy with q | q
  · exact g.nn y q
  · rw [q]; exact h⟩
section
variable (c e : List Int) (k : Nat) (r : Sto)
theorem dkB_ref1 : (dkB c e k r)[1]? = some (.lst [.lst (c.map .int), nI k, .ref 0]) := rfl
theorem dkB_ref0 : (dkB c e k r)[0]? = some (.lst (e.map .int)) := rfl
theorem dkB_rest {j : Nat} (h : j < e.length) : pIdx (dkB c e k r) (.ref 0) (.int (j : Int)) = some (.int e[j]) := by
  rw [pIdx_ref (xs := e.map .int) rfl, atI_cast, List.getElem?_map, List.getElem?_eq_getElem h] <;> rfl
theorem dkB_cell {j : Nat} (h : j < c.length) (s : Sto) : pIdx s (.lst (c.map .int)) (.int (j : Int)) = some (.int c[j]) := by
  have := pIdx_lst s (c.map .int) j
  rw [List.getElem?_map, List.getElem?_eq_getElem h] at this
  exact this
theorem dkB_put (ρ : Rho) : gSubD (mVar 0) (mLit (.int 1)) (.int ((k : Int) + 1)) (some (.ref 1) :: ρ) (dkB c e k r) = .ok (some (.ref 1) :: ρ) (dkB c e (k + 1) r) := by
  rw [gSubD_ref (l := 1) (j := 1) (xs := [.lst (c.map .int), nI k, .ref 0]) rfl rfl rfl rfl] <;> rfl
theorem dkB_set {j : Nat} {z : Int} {a0 a1 a2 a3 a6 a7 a8 : Option D} (h : j < e.length) : gSubD (mVar 4) (mVar 5) (.int z) [a0, a1, a2, a3, some (.ref 0), some (.int (j : Int)), a6, a7, a8] (dkB c e k r) = .ok [a0, a1, a2, a3, some (.ref 0), some (.int (j : Int)), a6, a7, a8] (dkB c (e.set j z) k r) := by
  rw [gSubD_ref (l := 0) (j := j) (xs := e.map .int) (s1 := dkB c e k r) (s2 := dkB c e k r) (k := (j : Int)) rfl rfl rfl ?_]
  · unfold dkB
    rw [List.map_set]
    rfl
  · rw [List.length_map]
    unfold ixN
    rw [if_pos (by omega), if_pos (by omega), Int.toNat_natCast]
end
theorem next_ok {cells rests : List Int} {k m : Nat} (g : GoodB cells rests) (hk : k ≤ 10000000) (h1 : 1 ≤ m) (h2 : m < 1073741824) :
    ∃ z rests', z < m ∧ GoodB cells rests' ∧ ∀ rest, d__law_next [.ref 1, nI m] (dkB cells rests k rest) = .ok (nI z) (dkB cells rests' (k + 1) rest) := by
  have hm : (0 : Int) < (m : Int) := by omega
  have hm2 : (m : Int) < 1073741824 := by omega
  have hpos := g.pos
  have hlen := g.len
  have hu : ∀ z rests' rest, m__law_next [some (.ref 1), some (nI m), none, none, none, none, none, none, none] (dkB cells rests k rest) = .ret (nI z) (dkB cells rests' (k + 1) rest) → d__law_next [.ref 1, nI m] (dkB cells rests k rest) = .ok (nI z) (dkB cells rests' (k + 1) rest) := fun z c2 rest e => by
    show clean (dkB cells rests k rest) (flOut (m__law_next [some (.ref 1), some (nI m), none, none, none, none, none, none, none] (dkB cells rests k rest))) = _
    rw [e, flOut_ret]
    exact clean_same rfl
  obtain ⟨j, ej⟩ : ∃ j, k % cells.length = j := ⟨_, rfl⟩
  have hj : j < cells.length := by rw [← ej]; exact Nat.mod_lt _ (by omega)
  have hj2 : j < rests.length := by omega
  have hr := g.nn rests[j] (List.getElem_mem hj2)
  have em : ∀ s : Sto, pMod s (nI k) (.int (cells.length : Int)) = some (.int (j : Int)) := fun s => by
    unfold nI
    rw [pMod_int _ _ _ (by omega)]
    have : (k : Int) % (cells.length : Int) = (j : Int) := by rw [← ej]; simp
    rw [this]
  have elen : ∀ s : Sto, pLen s [.lst (cells.map .int)] = some (.int (cells.length : Int)) := fun s => by show some (D.int ((cells.map D.int).length : Int)) = _; rw [List.length_map]
  have egl : ∀ rest, gL 3 (gsCons (gN 2) (gsCons (gN 3) (gsCons (gN 4) gsNil))) (.ref 1) [some (.ref 1), some (nI m), none, none, none, none, none, none, none] (dkB cells rests k rest) = .ok [some (.ref 1), some (nI m), some (.lst (cells.map .int)), some (nI k), some (.ref 0), none, none, none, none] (dkB cells rests k rest) := fun rest => by
    rw [gL_ref (n := 3) (xs := [.lst (cells.map .int), nI k, .ref 0]) (dkB_ref1 cells rests k rest) rfl]
    rfl
  have eadd : ∀ s : Sto, pAdd s (nI k) (.int 1) = some (.int ((k : Int) + 1)) := fun s => rfl
  by_cases hb : 0 < rests[j]
  · obtain ⟨z, ez⟩ : ∃ z : Nat, rests[j] % (m : Int) = z := ⟨(rests[j] % (m : Int)).toNat, by have := Int.emod_nonneg rests[j] (Int.ne_of_gt hm); omega⟩
    have hz : z < m := by have := Int.emod_lt_of_pos rests[j] hm; omega
    refine ⟨z, rests.set j (rests[j] / (m : Int)), hz, goodB_set g (Int.ediv_nonneg hr (by omega)), fun rest => hu z _ rest ?_⟩
    have dv : ∀ s : Sto, pDiv s (.int rests[j]) (nI m) = some (.int (rests[j] / (m : Int))) := fun s => pDiv_int _ _ _ ⟨hm, hm2⟩
    have md : ∀ s : Sto, pMod s (.int rests[j]) (nI m) = some (nI z) := fun s => by unfold nI; rw [pMod_int _ _ _ hm, ez]
    unfold m__law_next
    simp [mVar_ap, egl, elen, em, eadd, dkB_put, dkB_rest _ _ _ _ hj2, hb, md, dv, dkB_set _ _ _ _ hj2]
  · obtain ⟨a, ea⟩ : ∃ a : Int, cells[j] % 2147483647 = a := ⟨_, rfl⟩
    have ha0 : 0 ≤ a := by rw [← ea]; exact Int.emod_nonneg _ (by decide)
    have ha1 : a < 2147483647 := by rw [← ea]; exact Int.emod_lt_of_pos _ (by decide)
    obtain ⟨b, eb⟩ : ∃ b : Int, (a + 69621 * (k : Int) + 30269) ^ 3 % 2147483629 = b := ⟨_, rfl⟩
    have hb0 : 0 ≤ b := by rw [← eb]; exact Int.emod_nonneg _ (by decide)
    have hb1 : b < 2147483629 := by rw [← eb]; exact Int.emod_lt_of_pos _ (by decide)
    have hkk : 6007 * (k : Int) * (k : Int) ≤ 6007 * 10000000 * 10000000 := Int.mul_le_mul (by omega) (by omega) (by omega) (by omega)
    have hkk0 : 0 ≤ 6007 * (k : Int) * (k : Int) := Int.mul_nonneg (by omega) (by omega)
    obtain ⟨q, eq⟩ : ∃ q : Int, 6007 * (k : Int) * (k : Int) = q := ⟨_, rfl⟩
    rw [eq] at hkk hkk0
    obtain ⟨d, ed⟩ : ∃ d : Int, (b + q + 17) ^ 3 % 2147483587 = d := ⟨_, rfl⟩
    obtain ⟨z, ez⟩ : ∃ z : Nat, (d * 2147483423 + b) % 4611686018427387847 % (m : Int) = z := ⟨((d * 2147483423 + b) % 4611686018427387847 % (m : Int)).toNat, by have := Int.emod_nonneg ((d * 2147483423 + b) % 4611686018427387847) (Int.ne_of_gt hm); omega⟩
    have hz : z < m := by have := Int.emod_lt_of_pos ((d * 2147483423 + b) % 4611686018427387847) hm; omega
    refine ⟨z, rests, hz, g, fun rest => hu z _ rest ?_⟩
    have p1 : ∀ s : Sto, pMod s (.int cells[j]) (.int 2147483647) = some (.int a) := fun s => by rw [pMod_int _ _ _ (by decide), ea]
    have p2 : ∀ s : Sto, pMul s (.int 69621) (nI k) = some (.int (69621 * (k : Int))) := fun s => pMul_int _ _ _ (.inl (by decide))
    have p3 : ∀ s : Sto, pPow s (.int (a + 69621 * (k : Int) + 30269)) (.int 3) = some (.int ((a + 69621 * (k : Int) + 30269) ^ 3)) := fun s => pPow_int _ _ _ ⟨by decide, by decide, by omega⟩
    have p4 : ∀ s : Sto, pMod s (.int ((a + 69621 * (k : Int) + 30269) ^ 3)) (.int 2147483629) = some (.int b) := fun s => by rw [pMod_int _ _ _ (by decide), eb]
    have p5 : ∀ s : Sto, pMul s (.int 6007) (nI k) = some (.int (6007 * (k : Int))) := fun s => pMul_int _ _ _ (.inl (by decide))
    have p6 : ∀ s : Sto, pMul s (.int (6007 * (k : Int))) (nI k) = some (.int q) := fun s => by unfold nI; rw [pMul_int _ _ _ (.inl (by omega)), eq]
    have p7 : ∀ s : Sto, pPow s (.int (b + q + 17)) (.int 3) = some (.int ((b + q + 17) ^ 3)) := fun s => pPow_int _ _ _ ⟨by decide, by decide, by omega⟩
    have p8 : ∀ s : Sto, pMod s (.int ((b + q + 17) ^ 3)) (.int 2147483587) = some (.int d) := fun s => by rw [pMod_int _ _ _ (by decide), ed]
    have p9 : ∀ s : Sto, pMul s (.int d) (.int 2147483423) = some (.int (d * 2147483423)) := fun s => pMul_int _ _ _ (.inr (by decide))
    have p10 : ∀ s : Sto, pMod s (.int (d * 2147483423 + b)) (.int 4611686018427387847) = some (.int ((d * 2147483423 + b) % 4611686018427387847)) := fun s => pMod_int _ _ _ (by decide)
    have p11 : ∀ s : Sto, pMod s (.int ((d * 2147483423 + b) % 4611686018427387847)) (nI m) = some (nI z) := fun s => by unfold nI; rw [pMod_int _ _ _ hm, ez]
    unfold m__law_next
    simp [mVar_ap, egl, elen, em, eadd, dkB_put, dkB_rest _ _ _ _ hj2, hb, dkB_cell _ hj, p1, p2, p3, p4, p5, p6, p7, p8, p9, p10, p11]
theorem draws_ok (ns : List Int) (h : ns.length ≤ 63) : ∃ cells rests, GoodB cells rests ∧ d__law_draws [.scr (ns.map .int)] [] = .ok (.ref 1) (dkB cells rests 0 []) := by
  obtain ⟨ms, em⟩ : ∃ ms, ns.take 63 = ms := ⟨_, rfl⟩
  have hml : ms.length ≤ 63 := by rw [← em, List.length_take]; omega
  obtain ⟨cells, hc⟩ : ∃ cells, (if ns.length = 0 then ([0] : List Int) else ms) = cells := ⟨_, rfl⟩
  have hcl : cells.length ≤ 63 ∧ 1 ≤ cells.length := by
    rw [← hc]
    by_cases e : ns.length = 0
    · rw [if_pos e]; exact ⟨by decide, by decide⟩
    · rw [if_neg e, ← em, List.length_take]; omega
  have hrr : ∀ z : Int, z * (if (1000000000000000000 : Int) ≤ z then 1 else 0) ≥ 0 := fun z => by
    split <;> omega
  refine ⟨cells, cells.map fun z => z * (if (1000000000000000000 : Int) ≤ z then 1 else 0), ⟨by rw [List.length_map], hcl.2, fun y hy => ?_⟩, ?_⟩
  · obtain ⟨z, _, rfl⟩ := List.mem_map.mp hy
    exact hrr z
  have p18 : ∀ s : Sto, pPow s (.int 10) (.int 18) = some (.int 1000000000000000000) := fun s => by rw [pPow_int _ _ _ (by decide)] <;> rfl
  have h1 : c__law_draws_1 [some (.scr (ns.map .int)), some (.lst (cells.map .int)), none] [] = .ok ((cells.map fun z => z * (if (1000000000000000000 : Int) ≤ z then 1 else 0)).map .int) [] := by
    unfold c__law_draws_1
    simp only [lLc_ap, iSeq_ap, mVar_ap, List.getElem?_cons_zero, List.getElem?_cons_succ, Out.bind_ok, srcOf_lst, lift_some, List.length_map]
    rw [if_pos (by omega), lcL_pure (g := fun d => match d with | .int z => some (.int (z * (if (1000000000000000000 : Int) ≤ z then 1 else 0))) | _ => none) (by simp)]
    · show Out.ok _ _ = Out.ok _ _
      congr 1
      clear hc hcl
      induction cells with
      | nil => rfl
      | cons a l ih => rw [List.map_cons, List.filterMap_cons, ih] <;> rfl
    · intro d hd
      obtain ⟨z, _, rfl⟩ := List.mem_map.mp hd
      have pm : ∀ (b : Bool) (s : Sto), pMul s (.int z) (.int (if b = true then 1 else 0)) = some (.int (z * (if b = true then 1 else 0))) := fun b s => by
        cases b
        · exact pMul_int _ _ _ (.inr (by decide))
        · exact pMul_int _ _ _ (.inr (by decide))
      have pi : ∀ (b : Bool) (s : Sto), pInt s [.bl b] = some (.int (if b = true then 1 else 0)) := fun b s => by cases b <;> rfl
      have pm2 := pm (decide ((1000000000000000000 : Int) ≤ z))
      by_cases hz : (1000000000000000000 : Int) ≤ z
      · rw [decide_eq_true hz] at pm2
        simp [lcF, wipeD, mVar_ap, p18, pi, hz] at pm2 ⊢
        simp [pm2]
      · rw [decide_eq_false hz] at pm2
        simp [lcF, wipeD, mVar_ap, p18, pi, hz] at pm2 ⊢
        simp [pm2]
  have hcut : Dn.cutD (ns.map D.int) none (some 63) = ms.map D.int := by
    have := cutD_take (ns.map D.int) 63
    rw [← List.map_take, em] at this
    exact this
  have hlen : ∀ s : Sto, pLen s [.scr (ns.map .int)] = some (.int (ns.length : Int)) := fun s => by show some (D.int ((ns.map D.int).length : Int)) = _; rw [List.length_map]
  have hcat : ∀ s : Sto, ∃ zs : List D, pRepL s (.lst [.int 0]) (.int (if ns.length = 0 then 1 else 0)) = some zs ∧ pCat s (.lst (ms.map .int)) (.lst zs) = some (cells.map .int) := fun s => by
    rw [← hc]
    by_cases e : ns.length = 0
    · rw [if_pos e, if_pos e]
      have em0 : ms = [] := by rw [← em, List.length_eq_zero_iff.mp e]; rfl
      subst em0
      refine ⟨[.int 0], ?_, ?_⟩
      · unfold pRepL
        simp only [lstOf_lst]
        rw [if_pos ⟨by decide, by decide, by decide⟩]
        rfl
      · unfold pCat
        simp only [lstOf_lst]
        rw [if_pos (by decide)]
        rfl
    · rw [if_neg e, if_neg e]
      refine ⟨[], ?_, ?_⟩
      · unfold pRepL
        simp only [lstOf_lst]
        rw [if_pos ⟨by decide, by decide, by decide⟩]
        rfl
      · unfold pCat
        simp only [lstOf_lst]
        rw [if_pos (by rw [List.length_map]; show ms.length + 0 ≤ 100000; omega), List.append_nil]
  obtain ⟨zs, hz1, hz2⟩ := hcat []
  have pib : ∀ (s : Sto), pInt s [.bl (decide ((ns.length : Int) = 0))] = some (.int (if ns.length = 0 then 1 else 0)) := fun s => by
    by_cases e : ns.length = 0
    · rw [decide_eq_true (by omega), if_pos e]; rfl
    · rw [decide_eq_false (by omega), if_neg e]; rfl
  have pls : ∀ s : Sto, pList s [.lst (ms.map .int)] = some (ms.map .int) := fun _ => rfl
  have hm : m__law_draws [some (.scr (ns.map .int)), none, none] [] = .ret (.ref 1) (dkB cells (cells.map fun z => z * (if (1000000000000000000 : Int) ≤ z then 1 else 0)) 0 []) := by
    unfold m__law_draws
    have l1 : ([.int 0] : List D).length ≤ 100000 := by decide
    simp only [sSeq_ap, sAsg_ap, mFrz_ap, lOp_ap, lB_ap, mCons_ap, lSlL, mVar_ap, List.getElem?_cons_zero, List.getElem?_cons_succ, Out.bind_ok, oNone_ap, oSome, mLit_ap, hcut, mNil_ap, pls, lift_some, lDisp_ap, l1, if_true, mB_ap, mOp_ap, hlen, pEq_int, pib, hz1, hz2, Out.fl_ok, gN_ap, nox_ok, List.set_cons_succ, List.set_cons_zero, seq_next, sRet_ap, mNew_ap, h1]
    rfl
  show clean [] (flOut (m__law_draws [some (.scr (ns.map .int)), none, none] [])) = _
  rw [hm, flOut_ret]
  unfold clean
  dsimp only
  rw [if_neg]
  rintro ⟨h1, _⟩
  simp [D.low] at h1
/-! ### the drawn numbers, and instances, as a world -/
def Dk : Type := { x : List Int × List Int × Nat // GoodB x.1 x.2.1 }
def RDk : DkR Dk where
  d0 s := .lst (s.1.2.1.map .int)
  d1 s := .lst [.lst (s.1.1.map .int), nI s.1.2.2, .ref 0]
  n0 _ := rfl
  n1 _ := rfl
abbrev ST := OS Dk
def _root_.Dn.OS.k (s : ST) : Nat := s.dk.1.2.2
theorem dk_of {s : ST} {st : Sto} (h : HasO RDk s st) : st = dkB s.dk.1.1 s.dk.1.2.1 s.dk.1.2.2 (st.drop 2) := by
  match st, h.a0, h.a1 with
  | a :: b :: r, h0, h1 =>
    obtain rfl := Option.some.inj h0
    obtain rfl := Option.some.inj h1
    rfl
theorem has_dk {s : ST} {c e : List Int} {k : Nat} {d : Dk} {r : Sto} (h : HasO RDk s (dkB c e k r)) : HasO RDk ⟨d, s.m⟩ (dkB d.1.1 d.1.2.1 d.1.2.2 r) := by
  have get : ∀ l (m : MO), 2 ≤ l → ((dkB c e k r)[l]? = some m ↔ (dkB d.1.1 d.1.2.1 d.1.2.2 r)[l]? = some m) := fun l m hl => by
    match l, hl with
    | l + 2, _ => exact Iff.rfl
  have ins : ∀ (l : Nat) (n : Str) (fs : List (Str × D)), (dkB d.1.1 d.1.2.1 d.1.2.2 r)[l]? = some (MO.ins n fs) ↔ (dkB c e k r)[l]? = some (MO.ins n fs) := fun l n fs => by
    match l with
    | 0 => exact ⟨fun h => (nomatch Option.some.inj h), fun h => (nomatch Option.some.inj h)⟩
    | 1 => exact ⟨fun h => (nomatch Option.some.inj h), fun h => (nomatch Option.some.inj h)⟩
    | l + 2 => exact Iff.rfl
  refine ⟨rfl, rfl, fun l o e => ?_, fun l n fs e => h.ins l n fs ((ins _ _ _).mp e), fun k' n fs f l e i => ?_⟩
  · obtain ⟨a, b, o'⟩ := h.at_ l o e
    refine ⟨a, (get l _ a).mp b, ?_⟩
    rcases o' with q | ⟨n, fs, q⟩ | ⟨k', n, fs, f, q, i⟩
    · exact .inl q
    · exact .inr (.inl ⟨n, fs, (ins _ _ _).mpr q⟩)
    · exact .inr (.inr ⟨k', n, fs, f, (ins _ _ _).mpr q, i⟩)
  · exact h.ref k' n fs f l ((ins _ _ _).mp e) i
open Classical in
noncomputable def draw (m : Int) : Mt ST Int := fun s => if h : ∃ z d', (0 ≤ z ∧ z < m ∧ d'.1.2.2 = s.k + 1) ∧ ∀ r, d__law_next [.ref 1, eI m] (dkB s.dk.1.1 s.dk.1.2.1 s.dk.1.2.2 r) = .ok (eI z) (dkB (d' : Dk).1.1 d'.1.2.1 d'.1.2.2 r) then .ok h.choose ⟨h.choose_spec.choose, s.m⟩ else .bad
theorem fn_draw (m : Int) : FN (WO RDk) d__law_next [.ref 1, eI m] (draw m) eI := fun st s hs => by
  have hs : HasO RDk s st := hs
  unfold draw
  split
  · rename_i h
    have e := h.choose_spec.choose_spec.2 (st.drop 2)
    rw [← dk_of hs] at e
    have hd := dk_of hs
    have h2 : HasO RDk s (dkB s.dk.1.1 s.dk.1.2.1 s.dk.1.2.2 (st.drop 2)) := by rw [← hd]; exact hs
    refine ⟨_, e, has_dk h2, ?_, fun l hl no => ?_⟩
    · have := congrArg List.length hd
      rw [this]
      exact Nat.le_refl _
    · have l2 : 2 ≤ l := by
        by_cases q : 2 ≤ l
        · exact q
        · exact absurd (Or.inl (by omega)) no
      have e2 : st[l]? = (dkB h.choose_spec.choose.1.1 h.choose_spec.choose.1.2.1 h.choose_spec.choose.1.2.2 (st.drop 2))[l]? := by
        rw [hd]
        match l, l2 with
        | l + 2, _ => rfl
      refine ⟨fun o => no ?_, e2.symm⟩
      have ins : ∀ (k' : Nat) (n : Str) (fs : List (Str × D)), (dkB h.choose_spec.choose.1.1 h.choose_spec.choose.1.2.1 h.choose_spec.choose.1.2.2 (st.drop 2))[k']? = some (MO.ins n fs) → st[k']? = some (MO.ins n fs) := fun k' n fs q => by
        rw [hd]
        match k', q with
        | 0, q => exact (nomatch Option.some.inj q)
        | 1, q => exact (nomatch Option.some.inj q)
        | k' + 2, q => exact q
      rcases o with q | ⟨n, fs, q⟩ | ⟨k', n, fs, f, q, i⟩
      · exact .inl q
      · exact .inr (.inl ⟨n, fs, ins _ _ _ q⟩)
      · exact .inr (.inr ⟨k', n, fs, f, ins _ _ _ q, i⟩)
  · trivial
theorem draw_run {m : Int} {s : ST} (h1 : 1 ≤ m) (h2 : m < 1073741824) (hk : s.k ≤ 10000000) : ∃ z s', draw m s = .ok z s' ∧ 0 ≤ z ∧ z < m ∧ s'.k = s.k + 1 ∧ s'.m = s.m := by
  have h : ∃ z d', (0 ≤ z ∧ z < m ∧ d'.1.2.2 = s.k + 1) ∧ ∀ r, d__law_next [.ref 1, eI m] (dkB s.dk.1.1 s.dk.1.2.1 s.dk.1.2.2 r) = .ok (eI z) (dkB (d' : Dk).1.1 d'.1.2.1 d'.1.2.2 r) := by
    obtain ⟨⟨⟨c, e, k⟩, g⟩, hm⟩ := s
    have hk' : k ≤ 10000000 := hk
    obtain ⟨z, e', hz, g', hd⟩ := next_ok (m := m.toNat) g hk' (by omega) (by omega)
    have em : (m.toNat : Int) = m := by omega
    refine ⟨z, ⟨(c, e', k + 1), g'⟩, ⟨by omega, by omega, rfl⟩, fun r => ?_⟩
    have := hd r
    unfold nI at this
    rw [em] at this
    exact this
  refine ⟨h.choose, ⟨h.choose_spec.choose, s.m⟩, ?_, h.choose_spec.choose_spec.1.1, h.choose_spec.choose_spec.1.2.1, h.choose_spec.choose_spec.1.2.2, rfl⟩
  unfold draw
  rw [dif_pos h]
/-! ### what is drawn: whatever the cells are -/
def Runs {α : Type} (n : Nat) (q : Mt ST α) (Q : α → Prop) : Prop := ∀ s : ST, s.k + n ≤ 10000000 → ∃ a s', q s = .ok a s' ∧ (s'.k ≤ s.k + n ∧ s'.m = s.m) ∧ Q a
section
variable {α β σ : Type}
theorem runs_pure {a : α} {Q : α → Prop} (h : Q a) : Runs 0 (mpure a) Q := fun s _ => ⟨a, s, rfl, ⟨Nat.le_refl _, rfl⟩, h⟩
theorem runs_bind {n m : Nat} {q : Mt ST α} {k : α → Mt ST β} {Q : α → Prop} {R : β → Prop} (h : Runs n q Q) (hk : ∀ a, Q a → Runs m (k a) R) : Runs (n + m) (mbind q k) R := fun s hs => by
  obtain ⟨a, s1, e1, ⟨h1, g1⟩, ha⟩ := h s (by omega)
  obtain ⟨b, s2, e2, ⟨h2, g2⟩, hb⟩ := hk a ha s1 (by omega)
  exact ⟨b, s2, by unfold mbind; rw [e1]; exact e2, ⟨by omega, g2.trans g1⟩, hb⟩
theorem runs_mono {n m : Nat} {q : Mt ST α} {Q R : α → Prop} (h : Runs n q Q) (hn : n ≤ m) (hq : ∀ a, Q a → R a) : Runs m q R := fun s hs => by
  obtain ⟨a, s1, e1, ⟨h1, g1⟩, ha⟩ := h s (by omega)
  exact ⟨a, s1, e1, ⟨by omega, g1⟩, hq a ha⟩
theorem runs_le {n m : Nat} {q : Mt ST α} {Q : α → Prop} (h : Runs n q Q) (hn : n ≤ m) : Runs m q Q := runs_mono h hn fun _ h => h
theorem runs_draw {m : Int} (h1 : 1 ≤ m) (h2 : m < 1073741824) : Runs 1 (draw m) fun z => 0 ≤ z ∧ z < m := fun s hs => by
  obtain ⟨z, s', e, h3, h4, h5, h6⟩ := draw_run h1 h2 (s := s) (by omega)
  exact ⟨z, s', e, ⟨by omega, h6⟩, h3, h4⟩
theorem runs_calm {n : Nat} {q : Mt ST α} {Q : α → Prop} (h : Runs n q Q) : Runs n (calmly q) Q := fun s hs => by
  obtain ⟨a, s1, e1, h1, ha⟩ := h s hs
  exact ⟨a, s1, by unfold calmly; rw [e1] <;> rfl, h1, ha⟩
/-- a loop, its state told by the items behind it -/
theorem runs_forU {c : Nat} {body : α → σ → Mt ST σ} (I : List α → σ → Prop) (xs : List α) (hb : ∀ pre x post z, xs = pre ++ x :: post → I pre z → Runs c (body x z) (I (pre ++ [x]))) :
    ∀ (post pre : List α) (z : σ), xs = pre ++ post → I pre z → Runs (post.length * c) (forU body post z) (I xs)
  | [], pre, z, e, h => by
    rw [List.append_nil] at e
    subst e
    exact runs_le (runs_pure h) (Nat.zero_le _)
  | x :: post, pre, z, e, h => by
    unfold forU
    refine runs_le (runs_bind (hb pre x post z e h) fun z' h' => runs_forU I xs hb post (pre ++ [x]) z' (by rw [e]; simp) h') ?_
    rw [List.length_cons, Nat.succ_mul]
    omega
theorem runs_for {c : Nat} {body : α → σ → Mt ST σ} (I : List α → σ → Prop) {xs : List α} {z : σ} (h : I [] z) (hb : ∀ pre x post z, xs = pre ++ x :: post → I pre z → Runs c (body x z) (I (pre ++ [x]))) : Runs (xs.length * c) (forU body xs z) (I xs) := runs_forU I xs hb xs [] z rfl h
/-- a loop in which nothing returns -/
theorem runs_forX {c : Nat} {body : α → σ → Mt ST (Lp σ β)} (I : σ → Prop) : ∀ (xs : List α) (z : σ), I z → (∀ x ∈ xs, ∀ z, I z → Runs c (body x z) fun r => ∃ z', r = .nx z' ∧ I z') → Runs (xs.length * c) (forX body xs z) fun r => ∃ z', r = .inl z' ∧ I z'
  | [], z, h, _ => runs_le (runs_pure ⟨z, rfl, h⟩) (Nat.zero_le _)
  | x :: xs, z, h, hb => by
    unfold forX
    refine runs_le (runs_bind (m := xs.length * c) (hb x (by simp) z h) ?_) ?_
    · rintro r ⟨z', rfl, h'⟩
      exact runs_forX I xs z' h' fun y hy => hb y (by simp [hy])
    · rw [List.length_cons, Nat.succ_mul]
      omega
theorem runs_mapT {c : Nat} {f : α → Mt ST β} (P : α → β → Prop) : ∀ (xs : List α), (∀ x ∈ xs, Runs c (f x) (P x)) → Runs (xs.length * c) (mapT f xs) fun ys => ys.length = xs.length ∧ ∀ y ∈ ys, ∃ x ∈ xs, P x y
  | [], _ => runs_le (runs_pure ⟨rfl, fun _ h => nomatch h⟩) (Nat.zero_le _)
  | x :: xs, hf => by
    unfold mapT
    refine runs_le (runs_bind (m := xs.length * c + 0) (hf x (by simp)) fun y hy => runs_bind (runs_mapT P xs fun z hz => hf z (by simp [hz])) fun ys hys => runs_pure ⟨by simp [hys.1], fun z hz => ?_⟩) ?_
    · rcases List.mem_cons.mp hz with e | e
      · exact ⟨x, by simp, by rw [e]; exact hy⟩
      · obtain ⟨w, hw, hp⟩ := hys.2 z e
        exact ⟨w, by simp [hw], hp⟩
    · rw [List.length_cons, Nat.succ_mul]
      omega
theorem runs_compM {c : Nat} {p : α → Bool} {f : α → Mt ST β} (P : α → β → Prop) {xs : List α} (hl : xs.length ≤ 100000) (hf : ∀ x ∈ xs, Runs c (f x) (P x)) : Runs (xs.length * c) (compM p f xs) fun ys => ys.length = (xs.filter p).length ∧ ∀ y ∈ ys, ∃ x ∈ xs, P x y := by
  unfold compM
  rw [if_pos hl]
  refine runs_mono (runs_mapT P (xs.filter p) fun x hx => hf x (List.mem_filter.mp hx).1) (Nat.mul_le_mul_right _ (List.length_filter_le _ _)) ?_
  rintro ys ⟨h1, h2⟩
  exact ⟨h1, fun y hy => let ⟨x, hx, hp⟩ := h2 y hy; ⟨x, (List.mem_filter.mp hx).1, hp⟩⟩
/-- a drawn part of a list -/
theorem runs_sub {c : Nat} {p : α → Mt ST Bool} {xs : List α} (hl : xs.length ≤ 100000) (hp : ∀ x ∈ xs, Runs c (p x) fun _ => True) : Runs (xs.length * c) (compG p (fun x => mpure x) xs) fun ys => ys.Sublist xs := by
  unfold compG
  rw [if_pos hl]
  clear hl
  induction xs with
  | nil => exact runs_le (runs_pure (List.Sublist.refl _)) (Nat.zero_le _)
  | cons x xs ih =>
    unfold compT
    refine runs_le (runs_bind (n := c + 0) (m := xs.length * c + 0) (Q := fun o => o = none ∨ o = some x) ?_ fun o ho => runs_bind (ih fun y hy => hp y (by simp [hy])) fun ys hys => runs_pure ?_) ?_
    · refine runs_bind (hp x (by simp)) fun b _ => ?_
      cases b
      · exact runs_pure (.inl rfl)
      · exact runs_pure (.inr rfl)
    · rcases ho with rfl | rfl
      · exact hys.cons x
      · exact hys.cons_cons x
    · rw [List.length_cons, Nat.succ_mul]
      omega
/-- .. with another item for each -/
theorem runs_subF {c : Nat} {p : α → Mt ST Bool} {f : α → β} {xs : List α} (hl : xs.length ≤ 100000) (hp : ∀ x ∈ xs, Runs c (p x) fun _ => True) : Runs (xs.length * c) (compG p (fun x => mpure (f x)) xs) fun ys => ∃ zs : List α, ys = zs.map f ∧ zs.Sublist xs := by
  unfold compG
  rw [if_pos hl]
  clear hl
  induction xs with
  | nil => exact runs_le (runs_pure ⟨[], rfl, List.Sublist.refl _⟩) (Nat.zero_le _)
  | cons x xs ih =>
    unfold compT
    refine runs_le (runs_bind (n := c + 0) (m := xs.length * c + 0) (Q := fun o => o = none ∨ o = some (f x)) ?_ fun o ho => runs_bind (ih fun y hy => hp y (by simp [hy])) fun ys hys => runs_pure ?_) ?_
    · refine runs_bind (hp x (by simp)) fun b _ => ?_
      cases b
      · exact runs_pure (.inl rfl)
      · exact runs_pure (.inr rfl)
    · obtain ⟨zs, e, hz⟩ := hys
      rcases ho with rfl | rfl
      · exact ⟨zs, e, hz.cons x⟩
      · exact ⟨x :: zs, by rw [e]; rfl, hz.cons_cons x⟩
    · rw [List.length_cons, Nat.succ_mul]
      omega
end
noncomputable def p_changed_word {S : Type} (vpanel : (List (List Int))) (vpressed : Int) (vbutton : Int) (vword : Str) : Mt S Str := mbind (mpure (decide (vbutton = vpressed))) fun vb1 => if vb1 = true then (mpure ("on" : Str)) else (mbind (mbind (midx vpanel vpressed) fun vx2 => mpure (decide (vbutton ∈ vx2))) fun vb3 => if vb3 = true then mpure ("off" : Str) else mpure vword)
theorem fn_changed_word {S : Type} {W : Wd S} (vpanel : (List (List Int))) (vpressed : Int) (vbutton : Int) (vword : Str) : FN W d_changed_word [(eT (eT eI)) vpanel, eI vpressed, eI vbutton, eS vword] (p_changed_word vpanel vpressed vbutton vword) eS := fnT_of (fun b => Pl.p b) rfl (le_c rfl) fun fr => (tr_ifseq (ht_ofV (enc := id) (hv_isB (hv_op (hv_var rfl) (hv_var rfl) (t_eq (e := eI) _ _ (by decide))))) (tr_seqR (tr_ret (ht_ofV hv_lit))) (tr_nextR (tr_ret (ht_if (ht_isB (ht_op (ac_V (hv_var rfl) (ac_T (ht_op (ac_V (hv_var rfl) (ac_V (hv_var rfl) (af_idxT (e := (eT eI)) vpanel vpressed)))) fun vx2 => (af_op (enc := eB) (t_inT (e := eI) vbutton vx2 (by decide))))))) (ht_ofV hv_lit) (ht_ofV (hv_var rfl))))))
noncomputable def p_effect_after {S : Type} (vpanel : (List (List Int))) (veffect : (List Str)) (vpressed : Int) : Mt S (List Str) := mbind (mbind (mbind (mpure veffect) fun vxs1 => mpure (enumZ 0 vxs1)) fun vxs3 => calmly (compM (fun (vx2 : (Int × Str)) => true) (fun (vx2 : (Int × Str)) => p_changed_word vpanel vpressed vx2.1 vx2.2) vxs3)) fun vx4 => mpure vx4
theorem fn_effect_after {S : Type} {W : Wd S} (vpanel : (List (List Int))) (veffect : (List Str)) (vpressed : Int) : FN W d_effect_after [(eT (eT eI)) vpanel, (eT eS) veffect, eI vpressed] (p_effect_after vpanel veffect vpressed) (eT eS) := fnT_of (fun b => Pl.p b) rfl (le_c rfl) fun fr => (tr_ret (ht_b (ac_T (ht_frz (ht_compM (enc := eS) (c := (fun (vx2 : (Int × Str)) => true)) (f := (fun (vx2 : (Int × Str)) => p_changed_word vpanel vpressed vx2.1 vx2.2)) (src_enum (sT (e := eS)) (ht_ofV (hv_var rfl))) rfl (fun vx2 => (gt1_T (gts_cons (gt1_N 3 _) (gts_cons (gt1_N 4 _) gts_nil)) rfl)) (by decide) (fun _ => (kp_of trivial)) (fun vx2 => hv_yes) (fun vx2 => (ht_call (ac_V (hv_var rfl) (ac_V (hv_var rfl) (ac_V (hv_var rfl) (ac_V (hv_var rfl) (ac_fn (fn_changed_word vpanel vpressed vx2.1 vx2.2)))))))))) fun vx4 => (af_b1 (enc := (eT eS)) (t_tupL (e := eS) _)))))
noncomputable def p_effect_of {S : Type} (vpanel : (List (List Int))) (vrow : (Option (List Int))) : Mt S (List Str) := mbind (mrepT ([("same" : Str)]) (vpanel.length : Int)) fun veffect1 => mbind (mbind (mopt vrow) fun vxs5 => forU (fun (vx3 : Int) (vz2 : (List Str)) => mbind (p_effect_after vpanel vz2 vx3) fun veffect4 => mpure veffect4) vxs5 veffect1) fun vz2 => mpure vz2
theorem fn_effect_of {S : Type} {W : Wd S} (vpanel : (List (List Int))) (vrow : (Option (List Int))) : FN W d_effect_of [(eT (eT eI)) vpanel, (eO (eT eI)) vrow] (p_effect_of vpanel vrow) (eT eS) := fnT_of (fun b => Pl.p b) rfl (le_c rfl) fun fr => (tr_seqN (tn_asg (ht_op (ac_V (hv_tup (hv_cons hv_lit hv_nil) (le_c rfl)) (ac_V (hv_b (A := D) (hv_cons (hv_var rfl) hv_nil) (t_lenT (e := (eT eI)) _)) (af_repT (e := eS) ([("same" : Str)]) (vpanel.length : Int)))))) fun veffect1 => (tr_seqN (tn_for (J := fun (vz2 : (List Str)) => [.val ((eT (eT eI)) vpanel), .val ((eO (eT eI)) vrow), .val ((eT eS) vz2), .any]) (z0 := veffect1) (src_seq (sT (e := eI)) (ht_unopt (hv_var rfl))) (fun _ => (.same (.same (.same (.any .nil))))) (fun vx3 vz2 => (gt1_N 3 _)) (fun vx3 vz2 => (tn_map (f := fun (veffect4 : (List Str)) => veffect4) (tn_asg (ht_call (ac_V (hv_var rfl) (ac_V (hv_var rfl) (ac_V (hv_var rfl) (ac_fn (fn_effect_after vpanel vz2 vx3))))))) (fun veffect4 => (.same (.same (.same (.any .nil)))))))) fun vz2 => (tr_ret (ht_ofV (hv_var rfl)))))
noncomputable def p_decided_with {S : Type} (vpanel : (List (List Int))) (veffect : (List Str)) (vdecided : (List Int)) (vpressed : Int) : Mt S (Option (List Int)) := mbind (mbind (mbind (midx vpanel vpressed) fun vx1 => mdisp ([vpressed] ++ vx1)) fun vxs3 => compV (fun (vx2 : Int) => (!decide (vx2 ∈ vdecided))) (fun (vx2 : Int) => vx2) vxs3) fun vnew4 => mbind (mbind (mbind (mbind (mpure vnew4) fun vxs7 => calmly (compM (fun (vx5 : Int) => true) (fun (vx5 : Int) => mbind (midx veffect vx5) fun vx6 => mpure (!decide (vx6 = (if (decide (vx5 = vpressed)) = true then ("on" : Str) else ("off" : Str))))) vxs7)) fun vx8 => mpure (vx8.any id)) fun vx9 => mpure vx9) fun vb10 => if vb10 = true then (mpure (none : Option (List Int))) else (mbind (mbind (mbind (mdisp (vdecided ++ vnew4)) fun vx11 => msort ltI vx11) fun vx12 => mpure vx12) fun vx13 => mpure (some vx13))
theorem fn_decided_with {S : Type} {W : Wd S} (vpanel : (List (List Int))) (veffect : (List Str)) (vdecided : (List Int)) (vpressed : Int) : FN W d_decided_with [(eT (eT eI)) vpanel, (eT eS) veffect, (eT eI) vdecided, eI vpressed] (p_decided_with vpanel veffect vdecided vpressed) (eO (eT eI)) := fnT_of (fun b => Pl.p b) rfl (le_c rfl) fun fr => (tr_seqN (tn_asg (ht_frz (ht_compV (enc := eI) (c := (fun (vx2 : Int) => (!decide (vx2 ∈ vdecided)))) (f := (fun (vx2 : Int) => vx2)) (src_seq (sT (e := eI)) (ht_tup (ac_V (hv_var rfl) (ac_star (ht_op (ac_V (hv_var rfl) (ac_V (hv_var rfl) (af_idxT (e := (eT eI)) vpanel vpressed)))) (fun _ _ => rfl) fun vx1 => (af_tupE (e := eI) ([vpressed] ++ vx1) (by first | rfl | (simp only [List.map_append, List.map_cons, List.map_nil, List.append_nil, List.nil_append, List.append_assoc] <;> rfl))))))) rfl (fun vx2 => (gt1_N 5 _)) (by decide) (fun _ => (kp_of trivial)) (fun vx2 => (hv_isB (hv_op (hv_var rfl) (hv_var rfl) (t_ninT (e := eI) vx2 vdecided (by decide))))) (fun vx2 => (hv_var rfl))))) fun vnew4 => (tr_ifseq (ht_tru (ht_b (ac_T (ht_frz (ht_compM (enc := eB) (c := (fun (vx5 : Int) => true)) (f := (fun (vx5 : Int) => mbind (midx veffect vx5) fun vx6 => mpure (!decide (vx6 = (if (decide (vx5 = vpressed)) = true then ("on" : Str) else ("off" : Str)))))) (src_seq (sL (e := eI)) (ht_ofV (hv_var rfl))) rfl (fun vx5 => (gt1_N 5 _)) (by decide) (fun _ => (kp_of trivial)) (fun vx5 => hv_yes) (fun vx5 => (ht_op (ac_T (ht_op (ac_V (hv_var rfl) (ac_V (hv_var rfl) (af_idxT (e := eS) veffect vx5)))) fun vx6 => (ac_V (hv_if (A := D) (e := eS) (hv_isB (hv_op (hv_var rfl) (hv_var rfl) (t_eq (e := eI) _ _ (by decide)))) hv_lit hv_lit) (af_op (enc := eB) (t_ne (e := eS) _ _ (by decide))))))))) fun vx8 => (af_b1 (enc := eB) (t_any _)))) (fun x => tr_B x)) (tr_seqR (tr_ret (ht_ofV hv_lit))) (tr_nextR (tr_ret (ht_conv (e := (eT eI)) (f := fun (vx13 : (List Int)) => (some vx13)) (ht_b (ac_T (ht_frz (ht_bL (ac_T (ht_frz (ht_disp (ac_starV (hv_var rfl) (fun _ => rfl) (ac_starV (hv_var rfl) (fun _ => rfl) (af_dispE (e := eI) (vdecided ++ vnew4) (by first | rfl | (simp only [List.map_append, List.map_cons, List.map_nil, List.append_nil, List.nil_append, List.append_assoc] <;> rfl))))))) fun vx11 => (af_sortL (e := eI) (by decide) vx11)))) fun vx12 => (af_b1 (enc := (eT eI)) (t_tupL (e := eI) _)))) (fun _ => rfl))))))
theorem tn_wkE {S σ : Type} {W : Wd S} {fr : Sto} {Γ : List Sl} {m : Rho → Sto → Fl} {q : Mt S σ} {J J' : σ → List Sl} (h : TN W fr Γ m q J) (w : ∀ z, Wk (J z) (J' z)) : TN W fr Γ m q J' := by
  have := tn_map (f := id) h w
  rw [show (fun z : σ => (mpure (id z) : Mt S σ)) = mpure from rfl, mbind_ret] at this
  exact this
noncomputable def lentStep {S : Type} (o : Option (List Int)) (out : List (List Int)) : Mt (S × Kv Bool) (List (List Int)) := match o with
  | some k => mbind (mlentNin k) fun b => if b = true then mbind (mlentPut k true) fun _ => mbind (myield out (mpure k)) fun out2 => mpure out2 else mpure out
  | none => mpure out
theorem tn_lentStep {S : Type} {W : Wd S} {fr : Sto} {l : Nat} (o : Option (List Int)) (out : List (List Int)) {Γ : List Sl} (h3 : Γ[3]? = some (.val (.ref l))) (h6 : Γ[6]? = some (.val (eO (eT eI) o))) :
    TN (lentW W eB l) fr (Γ ++ [.val (.lst (out.map (eT eI)))]) (sSeq (sIf (onD (bAnd (isB (mOp pIsNot (mVar 6) (mLit .non))) (isB (mOp pNotInD (mVar 6) (mVar 3))))) (sSeq (sUp (sDPut (mVar 3) (mVar 6) (mLit (.bl true)))) (sSeq (sYield (mVar 6)) sNext)) sNext) sNext)
      (lentStep o out) fun out' => Γ ++ [.val (.lst (out'.map (eT eI)))] := by
  have hN : HV (lentW W eB l) fr Γ (isB (mOp pIsNot (mVar 6) (mLit .non))) o.isSome := hv_isB (hv_op (hv_var h6) hv_lit (t_isNotO o))
  have tail : ∀ {q : Mt (S × Kv Bool) (List (List Int))}, TN (lentW W eB l) fr (Γ ++ [.val (.lst (out.map (eT eI)))]) (sIf (onD (bAnd (isB (mOp pIsNot (mVar 6) (mLit .non))) (isB (mOp pNotInD (mVar 6) (mVar 3))))) (sSeq (sUp (sDPut (mVar 3) (mVar 6) (mLit (.bl true)))) (sSeq (sYield (mVar 6)) sNext)) sNext) q (fun out' => Γ ++ [.val (.lst (out'.map (eT eI)))]) →
      TN (lentW W eB l) fr (Γ ++ [.val (.lst (out.map (eT eI)))]) (sSeq (sIf (onD (bAnd (isB (mOp pIsNot (mVar 6) (mLit .non))) (isB (mOp pNotInD (mVar 6) (mVar 3))))) (sSeq (sUp (sDPut (mVar 3) (mVar 6) (mLit (.bl true)))) (sSeq (sYield (mVar 6)) sNext)) sNext) sNext) q (fun out' => Γ ++ [.val (.lst (out'.map (eT eI)))]) := fun {q} h => by
    have := tn_seq (k := mpure) h fun z => tn_skip (Wk.refl _)
    rw [mbind_ret] at this
    exact this
  cases o with
  | none =>
    refine tail ?_
    have ht : HT (lentW W eB l) fr Γ (bAnd (isB (mOp pIsNot (mVar 6) (mLit .non))) (isB (mOp pNotInD (mVar 6) (mVar 3)))) (mpure false) id fun _ => Γ := fun s ρ st H => by
      unfold bAnd
      rw [hN s ρ st H, Out.bind_ok]
      exact ⟨st, rfl, H⟩
    exact tn_if (qa := mbad) (qb := mpure out) (ht_onD ht) (fun s ρ st H => True.intro) (tn_skip (Wk.refl _))
  | some k =>
    refine tail ?_
    have hk : HV (lentW W eB l) fr Γ (mVar 6) (eT eI k) := hv_var h6
    have ht : HT (lentW W eB l) fr Γ (bAnd (isB (mOp pIsNot (mVar 6) (mLit .non))) (isB (mOp pNotInD (mVar 6) (mVar 3)))) (mlentNin k) id fun _ => Γ := fun s ρ st H => by
      unfold bAnd
      rw [hN s ρ st H, Out.bind_ok]
      exact ht_isB (ht_ninLent hk h3) s ρ st H
    exact tn_if (ht_onD ht) (tn_seq (tn_up (tn_dputLent h3 hk hv_lit)) fun _ => tn_seq (tn_yield (ht_ofV hk)) fun out2 => tn_skip (Wk.refl _)) (tn_skip (Wk.refl _))
noncomputable def pl_next_layer {S : Type} (vpanel : List (List Int)) (veffect : List Str) (vlayer : List (List Int)) : Mt (S × Kv Bool) (List (List Int)) := mbind (mpure vlayer) fun xs => forU (fun (x : List Int) (z : List (List Int)) => mbind (mbind (mpure (vpanel.length : Int)) fun n => mrng (0 : Int) n) fun ys => forU (fun (y : Int) (z : List (List Int)) => mbind (p_decided_with vpanel veffect x y) fun o => lentStep o z) ys z) xs []
noncomputable def p_next_layer {S : Type} (vpanel : List (List Int)) (veffect : List Str) (vlayer : List (List Int)) (kv : Kv Bool) : Mt S (List (List Int) × Kv Bool) := unlend (pl_next_layer vpanel veffect vlayer) kv
theorem fn_next_layer {S : Type} {W : Wd S} (vpanel : List (List Int)) (veffect : List Str) (vlayer : List (List Int)) (l : Nat) : FGn (lentW W eB l) d_next_layer [(eT (eT eI)) vpanel, (eT eS) veffect, (eL (eT eI)) vlayer, .ref l] (pl_next_layer vpanel veffect vlayer) (eT eI) :=
  fg_of (Γ' := fun _ => [.val ((eT (eT eI)) vpanel), .val ((eT eS) veffect), .val ((eL (eT eI)) vlayer), .val (.ref l), .any, .any, .any]) rfl (le_c rfl) fun fr => by
    have inner : ∀ (x : List Int) (z : List (List Int)), TN (lentW W eB l) fr ([.val ((eT (eT eI)) vpanel), .val ((eT eS) veffect), .val ((eL (eT eI)) vlayer), .val (.ref l), .val ((eT eI) x), .any, .any] ++ [.val (.lst (z.map (eT eI)))]) l_next_layer_2 (mbind (mbind (mpure (vpanel.length : Int)) fun n => mrng (0 : Int) n) fun ys => forU (fun (y : Int) (z : List (List Int)) => mbind (p_decided_with vpanel veffect x y) fun o => lentStep o z) ys z)
        fun z' => [.val ((eT (eT eI)) vpanel), .val ((eT eS) veffect), .val ((eL (eT eI)) vlayer), .val (.ref l), .any, .any, .any] ++ [.val (.lst (z'.map (eT eI)))] := fun x z => by
      have h := tn_seq (k := mpure) (tn_for (e := eI) (J := fun (z' : List (List Int)) => [.val ((eT (eT eI)) vpanel), .val ((eT eS) veffect), .val ((eL (eT eI)) vlayer), .val (.ref l), .val ((eT eI) x), .any, .any] ++ [.val (.lst (z'.map (eT eI)))]) (z0 := z) (mb := l_next_layer_1) (ms := onD (iRng1D (mB pLen (mCons (mVar 0) mNil)))) (gf := gUp (gN 5)) (fr := fr) (W := lentW W eB l)
        (ht_onD (Γ := [.val ((eT (eT eI)) vpanel), .val ((eT eS) veffect), .val ((eL (eT eI)) vlayer), .val (.ref l), .val ((eT eI) x), .any, .any]) (y := .lst (z.map (eT eI))) (src_rng1 (ht_ofV (hv_b (A := D) (hv_cons (hv_var rfl) hv_nil) (t_lenT (e := (eT eI)) _))))) (fun _ => Wk.refl _)
        (G := fun y z' => [.val ((eT (eT eI)) vpanel), .val ((eT eS) veffect), .val ((eL (eT eI)) vlayer), .val (.ref l), .val ((eT eI) x), .val (eI y), .any] ++ [.val (.lst (z'.map (eT eI)))])
        (fun y z' => gt1_up (gt1_N 5 _) rfl)
        (body := fun y z' => mbind (p_decided_with vpanel veffect x y) fun o => lentStep o z')
        (fun y z' => tn_seq (tn_up (tn_asg (ht_call (ac_V (hv_var rfl) (ac_V (hv_var rfl) (ac_V (hv_var rfl) (ac_V (hv_var rfl) (ac_fn (fn_decided_with vpanel veffect x y))))))))) fun o => tn_wkE (tn_lentStep o z' rfl rfl) fun z2 => wk_push (.same (.same (.same (.same (.same (.any (.any .nil)))))))))
        fun z' => tn_skip (wk_push (.same (.same (.same (.same (.any (.same (.same .nil))))))))
      rw [mbind_ret] at h
      exact h
    have h := tn_seq (k := mpure) (tn_for (e := eT eI) (J := fun (z' : List (List Int)) => [.val ((eT (eT eI)) vpanel), .val ((eT eS) veffect), .val ((eL (eT eI)) vlayer), .val (.ref l), .any, .any, .any] ++ [.val (.lst (z'.map (eT eI)))]) (z0 := []) (mb := l_next_layer_2) (ms := onD (iSeq (mVar 2))) (gf := gUp (gN 4)) (fr := fr) (W := lentW W eB l)
        (ht_onD (Γ := [.val ((eT (eT eI)) vpanel), .val ((eT eS) veffect), .val ((eL (eT eI)) vlayer), .val (.ref l), .any, .any, .any]) (y := .lst (([] : List (List Int)).map (eT eI))) (src_seq (sL (e := (eT eI))) (ht_ofV (hv_var rfl)))) (fun _ => Wk.refl _)
        (G := fun x z' => [.val ((eT (eT eI)) vpanel), .val ((eT eS) veffect), .val ((eL (eT eI)) vlayer), .val (.ref l), .val ((eT eI) x), .any, .any] ++ [.val (.lst (z'.map (eT eI)))])
        (fun y z' => gt1_up (gt1_N 4 _) rfl)
        (body := fun x z => mbind (mbind (mpure (vpanel.length : Int)) fun n => mrng (0 : Int) n) fun ys => forU (fun (y : Int) (z : List (List Int)) => mbind (p_decided_with vpanel veffect x y) fun o => lentStep o z) ys z)
        (fun x z' => inner x z'))
        fun z' => tn_skip (Wk.refl _)
    rw [mbind_ret] at h
    exact h
noncomputable def p_layers_of {S : Type} (vpanel : (List (List Int))) (veffect : (List Str)) : Mt S (List (List (List Int))) := mbind (mbind (mbind (mbind (mpure veffect) fun vxs1 => mpure (enumZ 0 vxs1)) fun vxs3 => compV (fun (vx2 : (Int × Str)) => (!decide (vx2.2 = ("same" : Str)))) (fun (vx2 : (Int × Str)) => vx2.1) vxs3) fun vx4 => mpure vx4) fun vwhole5 => mbind (mpure ([[([] : (List Int))]], [(([] : (List Int)), true)])) fun vp6 => mbind (whileU (fun (vz7 : (List (List (List Int))) × (Kv Bool)) => mbind (midx vz7.1 (-(1 : Int))) fun vx8 => mpure (!inB vwhole5 vx8)) (fun (vz7 : (List (List (List Int))) × (Kv Bool)) => mbind (mbind (calmly (mbind (midx vz7.1 (-(1 : Int))) fun vx10 => p_next_layer vpanel veffect vx10 vz7.2)) fun vx11 => mbind (mapp vz7.1 vx11.1) fun vx11_ => mpure (vx11_, vx11.2)) fun vlayers9 => mpure (vlayers9.1, vlayers9.2)) 100 (vp6.1, vp6.2)) fun vz7 => mdisp ((cutD vz7.1 none (some (-(1 : Int)))) ++ [[vwhole5]])
theorem fn_layers_of {S : Type} {W : Wd S} (vpanel : (List (List Int))) (veffect : (List Str)) : FN W d_layers_of [(eT (eT eI)) vpanel, (eT eS) veffect] (p_layers_of vpanel veffect) (eL (eL (eT eI))) := fnT_of (fun b => Pl.p b) rfl (le_c rfl) fun fr => (tr_seqN (tn_asg (ht_b (ac_T (ht_frz (ht_compV (enc := eI) (c := (fun (vx2 : (Int × Str)) => (!decide (vx2.2 = ("same" : Str))))) (f := (fun (vx2 : (Int × Str)) => vx2.1)) (src_enum (sT (e := eS)) (ht_ofV (hv_var rfl))) rfl (fun vx2 => (gt1_T (gts_cons (gt1_N 3 _) (gts_cons (gt1_N 4 _) gts_nil)) rfl)) (by decide) (fun _ => (kp_of trivial)) (fun vx2 => (hv_isB (hv_op (hv_var rfl) hv_lit (t_ne (e := eS) _ _ (by decide))))) (fun vx2 => (hv_var rfl)))) fun vx4 => (af_b1 (enc := (eT eI)) (t_tupL (e := eI) _))))) fun vwhole5 => (tr_seqN (tn_par (J := fun (vp6 : (List (List (List Int))) × (Kv Bool)) => [.val ((eT (eT eI)) vpanel), .val ((eT eS) veffect), .val ((eT eI) vwhole5), .any, .any, .mut (.lst (List.map (eL (eT eI)) vp6.1)), .mut (.dct (eK vp6.2) (eW eB vp6.2))]) (ap_New (hv_disp (hv_cons (hv_frz (hv_disp (hv_cons (hv_tup hv_nil (le_c rfl)) hv_nil) (le_c rfl))) hv_nil) (le_c rfl)) fun _ => (ap_NewD (hv_tup hv_nil (le_c rfl)) hv_lit fun _ => (ap_two (lt_c rfl) (lt_c rfl))))) fun vp6 => (tr_seqN (tn_while (J := fun (vz7 : (List (List (List Int))) × (Kv Bool)) => [.val ((eT (eT eI)) vpanel), .val ((eT eS) veffect), .val ((eT eI) vwhole5), .any, .any, .mut (.lst (List.map (eL (eT eI)) vz7.1)), .mut (.dct (eK vz7.2) (eW eB vz7.2))]) (z0 := (vp6.1, vp6.2)) (.same (.same (.same (.any (.any (.same (.same .nil))))))) (fun vz7 => (ht_isB (ht_op (ac_V (hv_var rfl) (ac_T (ht_op (ac_M rfl (hv_cons (hv_un hv_lit (t_neg _)) hv_nil) (fun st _ h => by show lift _ _ = lift _ _; rw [dr_idx1 h]) (ac_V (hv_un hv_lit (t_neg _)) (af_idxL _ _)))) fun vx8 => (af_op (enc := eB) (t_ninLB (e := (eT eI)) vwhole5 vx8 (by decide)))))))) (fun vz7 => (tn_map (f := fun (vlayers9 : (List (List (List Int))) × (Kv Bool)) => (vlayers9.1, vlayers9.2)) (tn_drop (ht_appLend (by decide) rfl (ht_lGenP (ac_V (hv_var rfl) (ac_V (hv_var rfl) (ac_T (ht_op (ac_M rfl (hv_cons (hv_un hv_lit (t_neg _)) hv_nil) (fun st _ h => by show lift _ _ = lift _ _; rw [dr_idx1 h]) (ac_V (hv_un hv_lit (t_neg _)) (af_idxL _ _)))) fun vx10 => (ac_lend rfl (fun l_ => fn_next_layer vpanel veffect vx10 l_)))))))) (fun vlayers9 => (.same (.same (.same (.any (.any (.same (.same .nil))))))))))) fun vz7 => (tr_fz rfl (tr_ret (ht_frz (ht_disp (ac_starV (hv_frz (hv_slL (hv_var rfl) hv_oNone (hv_oSome (hv_un hv_lit (t_neg _))))) (fun _ => rfl) (ac_V (hv_frz (hv_disp (hv_cons (hv_var rfl) hv_nil) (le_c rfl))) (af_dispE (e := (eL (eT eI))) ((cutD vz7.1 none (some (-(1 : Int)))) ++ [[vwhole5]]) (by first | rfl | (simp only [List.map_append, List.map_cons, List.map_nil, List.append_nil, List.nil_append, List.append_assoc] <;> rfl))))))))))))
noncomputable def p_shortest_row {S : Type} (vpanel : (List (List Int))) (vrow : (Option (List Int))) : Mt S (List Int) := mbind (p_effect_of vpanel vrow) fun veffect1 => mbind (mbind (p_layers_of vpanel veffect1) munF) fun vp2 => mbind (mpure ([] : (List Int))) fun vfound3 => mbind (mbind (mpure vp2.1.reverse) fun vxs21 => forU (fun (vx5 : (List (List Int))) (vz4 : (List Int) × (List (List Int))) => mbind (mbind (mpure (vpanel.length : Int)) fun vn6 => mrngL (0 : Int) vn6) fun vbuttons7 => mbind (mbind (mpure vbuttons7) fun vxs11 => mbind (calmly (compN (fun (vx8 : Int) => mpure true) (fun (vx8 : Int) => mbind (mpure vx5) fun vxs12 => compG (fun (vx9 : (List Int)) => mbind (p_decided_with vpanel veffect1 vx9 vx8) fun vx10 => mpure (inO vx10 vz4.2)) (fun (vx9 : (List Int)) => mpure (vx8, vx9)) vxs12) vxs11)) mszOk) fun vpairs13 => mbind (mbind (mbind (midx vpairs13 (0 : Int)) fun vx14 => mpure vx14.1) fun vx15 => mdisp (vz4.1 ++ [vx15])) fun vfound16 => mbind (mbind (mpure vpairs13) fun vxs19 => calmly (compG (fun (vx17 : (Int × (List Int))) => mbind (midx vfound16 (-(1 : Int))) fun vx18 => mpure (decide (vx17.1 = vx18))) (fun (vx17 : (Int × (List Int))) => mpure vx17.2) vxs19)) fun vreached20 => mpure (vfound16, vreached20)) vxs21 (vfound3, vp2.2)) fun vz4 => mpure vz4.1
theorem fn_shortest_row {S : Type} {W : Wd S} (vpanel : (List (List Int))) (vrow : (Option (List Int))) : FN W d_shortest_row [(eT (eT eI)) vpanel, (eO (eT eI)) vrow] (p_shortest_row vpanel vrow) (eT eI) := fnT_of (fun b => Pl.p b) rfl (le_c rfl) fun fr => (tr_seqN (tn_asg (ht_call (ac_V (hv_var rfl) (ac_V (hv_var rfl) (ac_fn (fn_effect_of vpanel vrow)))))) fun veffect1 => (tr_seqN (tn_unstarF (e := (eL (eT eI))) (ht_call (ac_V (hv_var rfl) (ac_V (hv_var rfl) (ac_fn (fn_layers_of vpanel veffect1)))))) fun vp2 => (tr_seqN (tn_asg (ht_ofV (enc := (eT eI)) (hv_tup hv_nil (le_c rfl)))) fun vfound3 => (tr_seqN (tn_for (J := fun (vz4 : (List Int) × (List (List Int))) => [.val ((eT (eT eI)) vpanel), .val ((eO (eT eI)) vrow), .val ((eT eS) veffect1), .val ((eL (eL (eT eI))) vp2.1), .val ((eL (eT eI)) vz4.2), .val ((eT eI) vz4.1), .any, .any, .any, .any, .any]) (z0 := (vfound3, vp2.2)) (src_seq (sL (e := (eL (eT eI)))) (ht_ofV (hv_frz (hv_revL (hv_var rfl))))) (fun _ => (.same (.same (.same (.same (.same (.same (.any (.any (.any (.any (.any .nil)))))))))))) (fun vx5 vz4 => (gt1_N 6 _)) (fun vx5 vz4 => (tn_seq (tn_asg (ht_frz (ht_lstRg (ht_ofV (hv_b (A := D) (hv_cons (hv_var rfl) hv_nil) (t_lenT (e := (eT eI)) _)))))) fun vbuttons7 => (tn_seq (tn_asg (ht_frz (ht_compN (enc := (eP eI (eT eI))) (c := (fun (vx8 : Int) => mpure true)) (f := (fun (vx8 : Int) => mbind (mpure vx5) fun vxs12 => compG (fun (vx9 : (List Int)) => mbind (p_decided_with vpanel veffect1 vx9 vx8) fun vx10 => mpure (inO vx10 vz4.2)) (fun (vx9 : (List Int)) => mpure (vx8, vx9)) vxs12)) (src_seq (sL (e := eI)) (ht_ofV (hv_var rfl))) rfl (fun vx8 => (gt1_N 9 _)) (by decide) (fun _ => (kp_of trivial)) (fun vx8 => (ht_ofV (enc := id) hv_yes)) (fun vx8 => (ht_lcX (enc := (eP eI (eT eI))) (c := (fun (vx9 : (List Int)) => mbind (p_decided_with vpanel veffect1 vx9 vx8) fun vx10 => mpure (inO vx10 vz4.2))) (f := (fun (vx9 : (List Int)) => mpure (vx8, vx9))) (src_seq (sL (e := (eT eI))) (ht_ofV (hv_var rfl))) rfl (fun vx9 => (gt1_N 10 _)) (by decide) (fun _ => (kp_of trivial)) (fun vx9 => (ht_isB (ht_op (ac_T (ht_call (ac_V (hv_var rfl) (ac_V (hv_var rfl) (ac_V (hv_var rfl) (ac_V (hv_var rfl) (ac_fn (fn_decided_with vpanel veffect1 vx9 vx8))))))) fun vx10 => (ac_V (hv_var rfl) (af_op (enc := eB) (t_inLO (e := (eT eI)) vx10 vz4.2 (by decide)))))))) (fun vx9 => (ht_ofV (hv_tup (hv_cons (hv_var rfl) (hv_cons (hv_var rfl) hv_nil)) (le_c rfl))))))))) fun vpairs13 => (tn_seq (tn_asg (ht_tup (ac_starV (hv_var rfl) (fun _ => rfl) (ac_T (ht_op (ac_T (ht_op (ac_V (hv_var rfl) (ac_V hv_lit (af_idxL (e := (eP eI (eT eI))) vpairs13 (0 : Int))))) fun vx14 => (ac_V hv_lit (af_op (enc := eI) (fun _ => rfl))))) fun vx15 => (af_tupE (e := eI) (vz4.1 ++ [vx15]) (by first | rfl | (simp only [List.map_append, List.map_cons, List.map_nil, List.append_nil, List.nil_append, List.append_assoc] <;> rfl))))))) fun vfound16 => (tn_map (f := fun (vreached20 : (List (List Int))) => (vfound16, vreached20)) (tn_asg (ht_frz (ht_compG (enc := (eT eI)) (c := (fun (vx17 : (Int × (List Int))) => mbind (midx vfound16 (-(1 : Int))) fun vx18 => mpure (decide (vx17.1 = vx18)))) (f := (fun (vx17 : (Int × (List Int))) => mpure vx17.2)) (src_seq (sL (e := (eP eI (eT eI)))) (ht_ofV (hv_var rfl))) rfl (fun vx17 => (gt1_T (gts_cons (gt1_N 9 _) (gts_cons (gt1_N 10 _) gts_nil)) rfl)) (by decide) (fun _ => (kp_of trivial)) (fun vx17 => (ht_isB (ht_op (ac_V (hv_var rfl) (ac_T (ht_op (ac_V (hv_var rfl) (ac_V (hv_un hv_lit (t_neg _)) (af_idxT (e := eI) vfound16 (-(1 : Int)))))) fun vx18 => (af_op (enc := eB) (t_eq (e := eI) _ _ (by decide)))))))) (fun vx17 => (ht_ofV (hv_var rfl)))))) (fun vreached20 => (.same (.same (.same (.same (.same (.same (.any (.any (.any (.any (.any .nil)))))))))))))))))) fun vz4 => (tr_ret (ht_ofV (hv_var rfl)))))))
noncomputable def p__law_panel (vmost : Int) : Mt ST (List (List Int)) := mbind (mbind (mbind (mbind (draw vmost) fun vx1 => mpure ((1 : Int) + vx1)) fun vx2 => mpure [vx2, vmost]) fun vx5 => mbind (mbind (mbind (draw (4 : Int)) fun vx3 => mpure (decide (vx3 = (0 : Int)))) fun vx4 => mpure (b2z vx4)) fun vx6 => midx vx5 vx6) fun vn7 => mbind (mbind (draw (6 : Int)) fun vx8 => mpure (vx8, ([] : (List (List Int))))) fun vp9 => mbind (mbind (mbind (mpure vn7) fun vn11 => mrng (0 : Int) vn11) fun vxs23 => forU (fun (vx12 : Int) (vz10 : (List (List Int))) => mbind (mbind (mbind (mpure vn7) fun vn13 => mrng (0 : Int) vn13) fun vxs15 => compV (fun (vx14 : Int) => (!decide (vx14 = vx12))) (fun (vx14 : Int) => vx14) vxs15) fun vothers16 => mbind (mbind (mbind (mbind (mpure vothers16) fun vxs20 => calmly (compG (fun (vx18 : Int) => mbind (draw (5 : Int)) fun vx19 => mpure (decide (vx19 < vp9.1))) (fun (vx18 : Int) => mpure vx18) vxs20)) fun vx21 => mpure vx21) fun vx22 => mapp vz10 vx22) fun vfound17 => mpure vfound17) vxs23 vp9.2) fun vz10 => mpure vz10
theorem fn__law_panel (vmost : Int) : FN (WO RDk) d__law_panel [.ref 1, eI vmost] (p__law_panel vmost) (eT (eT eI)) := fnT_of (fun b => Pl.p b) rfl (le_c rfl) fun fr => (tr_seqN (tn_asg (ht_op (ac_T (ht_frz (ht_disp (enc := fun (zs : List Int) => List.map eI zs) (ac_T (ht_op (ac_V hv_lit (ac_T (ht_call (ac_V (hv_var rfl) (ac_V (hv_var rfl) (ac_fn (fn_draw vmost))))) fun vx1 => (af_op (t_add _ _))))) fun vx2 => (ac_V (hv_var rfl) (ac_ret fun _ => rfl))))) fun vx5 => (ac_T (ht_b (ac_T (ht_op (ac_T (ht_call (ac_V (hv_var rfl) (ac_V hv_lit (ac_fn (fn_draw (4 : Int)))))) fun vx3 => (ac_V hv_lit (af_op (enc := eB) (t_eq (e := eI) _ _ (by decide)))))) fun vx4 => (af_b1 (enc := eI) (t_intB _)))) fun vx6 => (af_idxL (e := eI) vx5 vx6))))) fun vn7 => (tr_seqN (tn_tup2 (J := fun (vp9 : Int × (List (List Int))) => [.val (.ref 1), .val (eI vmost), .val (eI vn7), .val (eI vp9.1), .mut (.lst (List.map (eT eI) vp9.2)), .any, .any, .any]) (ap_T (ht_call (ac_V (hv_var rfl) (ac_V hv_lit (ac_fn (fn_draw (6 : Int)))))) (fun _ => rfl) fun vx8 => (ap_New (hv_disp hv_nil (le_c rfl)) fun _ => (ap_two (lt_c rfl) (lt_c rfl))))) fun vp9 => (tr_seqN (tn_for (J := fun (vz10 : (List (List Int))) => [.val (.ref 1), .val (eI vmost), .val (eI vn7), .val (eI vp9.1), .mut (.lst (List.map (eT eI) vz10)), .any, .any, .any]) (z0 := vp9.2) (src_rng1 (ht_ofV (hv_var rfl))) (fun _ => (.same (.same (.same (.same (.same (.any (.any (.any .nil))))))))) (fun vx12 vz10 => (gt1_N 5 _)) (fun vx12 vz10 => (tn_seq (tn_asg (ht_frz (ht_compV (enc := eI) (c := (fun (vx14 : Int) => (!decide (vx14 = vx12)))) (f := (fun (vx14 : Int) => vx14)) (src_rng1 (ht_ofV (hv_var rfl))) rfl (fun vx14 => (gt1_N 7 _)) (by decide) (fun _ => (kp_of ⟨by decide, rfl, trivial⟩)) (fun vx14 => (hv_isB (hv_op (hv_var rfl) (hv_var rfl) (t_ne (e := eI) _ _ (by decide))))) (fun vx14 => (hv_var rfl))))) fun vothers16 => (tn_map (f := fun (vfound17 : (List (List Int))) => vfound17) (tn_drop (ht_append rfl (ht_b (ac_T (ht_frz (ht_compG (enc := eI) (c := (fun (vx18 : Int) => mbind (draw (5 : Int)) fun vx19 => mpure (decide (vx19 < vp9.1)))) (f := (fun (vx18 : Int) => mpure vx18)) (src_seq (sL (e := eI)) (ht_ofV (hv_var rfl))) rfl (fun vx18 => (gt1_N 7 _)) (by decide) (fun _ => (kp_of ⟨by decide, rfl, trivial⟩)) (fun vx18 => (ht_isB (ht_op (ac_T (ht_call (ac_V (hv_var rfl) (ac_V hv_lit (ac_fn (fn_draw (5 : Int)))))) fun vx19 => (ac_V (hv_var rfl) (af_op (enc := eB) (t_lt _ _))))))) (fun vx18 => (ht_ofV (hv_var rfl))))) fun vx21 => (af_b1 (enc := (eT eI)) (t_tupL (e := eI) _)))))) (fun vfound17 => (.same (.same (.same (.same (.same (.any (.any (.any .nil))))))))))))) fun vz10 => (tr_fz rfl (tr_ret (ht_ofV (hv_b (A := D) (hv_cons (hv_var rfl) hv_nil) (t_tupL (e := (eT eI)) _))))))))
noncomputable def p__law_row (vn : Int) (vmost : Int) : Mt ST (List Int) := mbind (mbind (mbind (draw (vmost + (1 : Int))) fun vn1 => mrng (0 : Int) vn1) fun vxs3 => calmly (compM (fun (vx2 : Int) => true) (fun (vx2 : Int) => draw vn) vxs3)) fun vx4 => mpure vx4
theorem fn__law_row (vn : Int) (vmost : Int) : FN (WO RDk) d__law_row [.ref 1, eI vn, eI vmost] (p__law_row vn vmost) (eT eI) := fnT_of (fun b => Pl.p b) rfl (le_c rfl) fun fr => (tr_ret (ht_b (ac_T (ht_frz (ht_compM (enc := eI) (c := (fun (vx2 : Int) => true)) (f := (fun (vx2 : Int) => draw vn)) (src_rng1 (ht_call (ac_V (hv_var rfl) (ac_V (hv_op (hv_var rfl) hv_lit (t_add _ _)) (ac_fn (fn_draw (vmost + (1 : Int)))))))) rfl (fun vx2 => (gt1_N 3 _)) (by decide) (fun _ => (kp_of trivial)) (fun vx2 => hv_yes) (fun vx2 => (ht_call (ac_V (hv_var rfl) (ac_V (hv_var rfl) (ac_fn (fn_draw vn)))))))) fun vx4 => (af_b1 (enc := (eT eI)) (t_tupL (e := eI) _)))))
noncomputable def p__law_effect {S : Type} (vpanel_here : (List (List Int))) (vrow_here : (List Int)) : Mt S (List Str) := mbind (mpure ([] : (List Str))) fun vfound1 => mbind (mbind (mbind (mpure (vpanel_here.length : Int)) fun vn3 => mrng (0 : Int) vn3) fun vxs18 => forU (fun (vx4 : Int) (vz2 : (List Str)) => mbind (mpure ("same" : Str)) fun vword5 => mbind (mbind (mpure vrow_here) fun vxs15 => forU (fun (vx7 : Int) (vz6 : Str) => mbind (mbind (mpure (decide (vx7 = vx4))) fun vb14 => if vb14 = true then (mbind (mpure ("on" : Str)) fun vword9 => mpure vword9) else (mbind (mbind (mbind (midx vpanel_here vx7) fun vx10 => mpure (decide (vx4 ∈ vx10))) fun vb13 => if vb13 = true then (mbind (mpure ("off" : Str)) fun vword12 => mpure vword12) else (mpure vz6)) fun vz11 => mpure vz11)) fun vz8 => mpure vz8) vxs15 vword5) fun vz6 => mbind (mbind (mpure vz6) fun vx17 => mapp vz2 vx17) fun vfound16 => mpure vfound16) vxs18 vfound1) fun vz2 => mpure vz2
theorem fn__law_effect {S : Type} {W : Wd S} (vpanel_here : (List (List Int))) (vrow_here : (List Int)) : FN W d__law_effect [(eT (eT eI)) vpanel_here, (eT eI) vrow_here] (p__law_effect vpanel_here vrow_here) (eT eS) := fnT_of (fun b => Pl.p b) rfl (le_c rfl) fun fr => (tr_seqN (tn_new (ht_ofV (enc := fun zs => List.map eS zs) (hv_disp hv_nil (le_c rfl)))) fun vfound1 => (tr_seqN (tn_for (J := fun (vz2 : (List Str)) => [.val ((eT (eT eI)) vpanel_here), .val ((eT eI) vrow_here), .mut (.lst (List.map eS vz2)), .any, .any, .any]) (z0 := vfound1) (src_rng1 (ht_ofV (hv_b (A := D) (hv_cons (hv_var rfl) hv_nil) (t_lenT (e := (eT eI)) _)))) (fun _ => (.same (.same (.same (.any (.any (.any .nil))))))) (fun vx4 vz2 => (gt1_N 3 _)) (fun vx4 vz2 => (tn_seq (tn_asg (ht_ofV (enc := eS) hv_lit)) fun vword5 => (tn_seq (tn_for (J := fun (vz6 : Str) => [.val ((eT (eT eI)) vpanel_here), .val ((eT eI) vrow_here), .mut (.lst (List.map eS vz2)), .val (eI vx4), .val (eS vz6), .any]) (z0 := vword5) (src_seq (sT (e := eI)) (ht_ofV (hv_var rfl))) (fun _ => (.same (.same (.same (.same (.same (.any .nil))))))) (fun vx7 vz6 => (gt1_N 5 _)) (fun vx7 vz6 => (tn_map (f := fun (vz8 : Str) => vz8) (tn_if (J := fun (vz8 : Str) => [.val ((eT (eT eI)) vpanel_here), .val ((eT eI) vrow_here), .mut (.lst (List.map eS vz2)), .val (eI vx4), .val (eS vz8), .val (eI vx7)]) (ht_ofV (enc := id) (hv_isB (hv_op (hv_var rfl) (hv_var rfl) (t_eq (e := eI) _ _ (by decide))))) (tn_map (f := fun (vword9 : Str) => vword9) (tn_asg (ht_ofV (enc := eS) hv_lit)) (fun vword9 => (.same (.same (.same (.same (.same (.same .nil)))))))) (tn_map (f := fun (vz11 : Str) => vz11) (tn_if (J := fun (vz11 : Str) => [.val ((eT (eT eI)) vpanel_here), .val ((eT eI) vrow_here), .mut (.lst (List.map eS vz2)), .val (eI vx4), .val (eS vz11), .val (eI vx7)]) (ht_isB (ht_op (ac_V (hv_var rfl) (ac_T (ht_op (ac_V (hv_var rfl) (ac_V (hv_var rfl) (af_idxT (e := (eT eI)) vpanel_here vx7)))) fun vx10 => (af_op (enc := eB) (t_inT (e := eI) vx4 vx10 (by decide))))))) (tn_map (f := fun (vword12 : Str) => vword12) (tn_asg (ht_ofV (enc := eS) hv_lit)) (fun vword12 => (.same (.same (.same (.same (.same (.same .nil)))))))) (tn_skip (.same (.same (.same (.same (.same (.same .nil)))))))) (fun vz11 => (.same (.same (.same (.same (.same (.same .nil))))))))) (fun vz8 => (.same (.same (.same (.same (.same (.any .nil)))))))))) fun vz6 => (tn_map (f := fun (vfound16 : (List Str)) => vfound16) (tn_drop (ht_append rfl (ht_ofV (hv_var rfl)))) (fun vfound16 => (.same (.same (.same (.any (.any (.any .nil)))))))))))) fun vz2 => (tr_fz rfl (tr_ret (ht_ofV (hv_b (A := D) (hv_cons (hv_var rfl) hv_nil) (t_tupL (e := eS) _)))))))
noncomputable def p__law_rows {S : Type} (vn : Int) : Mt S (List (List Int)) := mbind (mpure ([([] : (List Int))], [([] : (List Int))])) fun vp1 => mbind (mbind (mbind (mpure vn) fun vn3 => mrng (0 : Int) vn3) fun vxs16 => forU (fun (vx4 : Int) (vz2 : (List (List Int)) × (List (List Int))) => mbind (mpure ([] : (List (List Int)))) fun vlonger5 => mbind (mbind (mpure vz2.1) fun vxs13 => forU (fun (vx7 : (List Int)) (vz6 : (List (List Int))) => mbind (mbind (mbind (mbind (mpure vn) fun vn9 => mrng (0 : Int) vn9) fun vxs11 => calmly (compM (fun (vx10 : Int) => (!decide (vx10 ∈ vx7))) (fun (vx10 : Int) => mcat vx7 ([vx10])) vxs11)) fun vx12 => mcat vz6 vx12) fun vlonger8 => mpure vlonger8) vxs13 vlonger5) fun vz6 => mbind (mpure vz6) fun vrows_here14 => mbind (mcat vz2.2 vrows_here14) fun vfound15 => mpure (vrows_here14, vfound15)) vxs16 (vp1.2, vp1.1)) fun vz2 => mpure vz2.2
theorem fn__law_rows {S : Type} {W : Wd S} (vn : Int) : FN W d__law_rows [eI vn] (p__law_rows vn) (eL (eT eI)) := fnT_of (fun b => Pl.p b) rfl (le_c rfl) fun fr => (tr_seqN (tn_par (J := fun (vp1 : (List (List Int)) × (List (List Int))) => [.val (eI vn), .val ((eL (eT eI)) vp1.1), .val ((eL (eT eI)) vp1.2), .any, .any, .any, .any]) (ap_V (hv_frz (hv_disp (hv_cons (hv_tup hv_nil (le_c rfl)) hv_nil) (le_c rfl))) (ap_V (hv_frz (hv_disp (hv_cons (hv_tup hv_nil (le_c rfl)) hv_nil) (le_c rfl))) (ap_two (lt_c rfl) (lt_c rfl))))) fun vp1 => (tr_seqN (tn_for (J := fun (vz2 : (List (List Int)) × (List (List Int))) => [.val (eI vn), .val ((eL (eT eI)) vz2.2), .val ((eL (eT eI)) vz2.1), .any, .any, .any, .any]) (z0 := (vp1.2, vp1.1)) (src_rng1 (ht_ofV (hv_var rfl))) (fun _ => (.same (.same (.same (.any (.any (.any (.any .nil)))))))) (fun vx4 vz2 => (gt1_N 3 _)) (fun vx4 vz2 => (tn_seq (tn_new (ht_ofV (enc := fun zs => List.map (eT eI) zs) (hv_disp hv_nil (le_c rfl)))) fun vlonger5 => (tn_seq (tn_for (J := fun (vz6 : (List (List Int))) => [.val (eI vn), .val ((eL (eT eI)) vz2.2), .val ((eL (eT eI)) vz2.1), .val (eI vx4), .mut (.lst (List.map (eT eI) vz6)), .any, .any]) (z0 := vlonger5) (src_seq (sL (e := (eT eI))) (ht_ofV (hv_var rfl))) (fun _ => (.same (.same (.same (.same (.same (.any (.any .nil)))))))) (fun vx7 vz6 => (gt1_N 5 _)) (fun vx7 vz6 => (tn_map (f := fun (vlonger8 : (List (List Int))) => vlonger8) (tn_drop (ht_extend rfl (ht_frz (ht_compM (enc := (eT eI)) (c := (fun (vx10 : Int) => (!decide (vx10 ∈ vx7)))) (f := (fun (vx10 : Int) => mcat vx7 ([vx10]))) (src_rng1 (ht_ofV (hv_var rfl))) rfl (fun vx10 => (gt1_N 6 _)) (by decide) (fun _ => (kp_of ⟨by decide, rfl, trivial⟩)) (fun vx10 => (hv_isB (hv_op (hv_var rfl) (hv_var rfl) (t_ninT (e := eI) vx10 vx7 (by decide))))) (fun vx10 => (ht_op (ac_V (hv_var rfl) (ac_V (hv_tup (hv_cons (hv_var rfl) hv_nil) (le_c rfl)) (af_catT (e := eI) vx7 ([vx10])))))))))) (fun vlonger8 => (.same (.same (.same (.same (.same (.any (.any .nil))))))))))) fun vz6 => (tn_fz rfl (tn_seq (tn_asg (ht_ofV (hv_var rfl))) fun vrows_here14 => (tn_map (f := fun (vfound15 : (List (List Int))) => (vrows_here14, vfound15)) (tn_asg (ht_frz (ht_opL (ac_V (hv_var rfl) (ac_V (hv_var rfl) (af_catL (e := (eT eI)) vz2.2 vrows_here14)))))) (fun vfound15 => (.same (.same (.same (.any (.any (.any (.any .nil))))))))))))))) fun vz2 => (tr_ret (ht_ofV (hv_var rfl)))))
noncomputable def p__law_decided {S : Type} (vpanel_here : (List (List Int))) (veffect_here : (List Str)) (vdecided_here : (List Int)) (vbutton : Int) : Mt S (Option (List Int)) := mbind (mbind (mpure (!decide (vbutton ∈ vdecided_here))) fun vb2 => if vb2 = true then mbind (midx veffect_here vbutton) fun vx1 => mpure (!decide (vx1 = ("on" : Str))) else mpure false) fun vb3 => if vb3 = true then (mpure (none : Option (List Int))) else (mbind (mbind (mbind (midx vpanel_here vbutton) fun vxs7 => calmly (compG (fun (vx4 : Int) => mbind (mpure (!decide (vx4 ∈ vdecided_here))) fun vb6 => if vb6 = true then mbind (midx veffect_here vx4) fun vx5 => mpure (!decide (vx5 = ("off" : Str))) else mpure false) (fun (vx4 : Int) => mpure vx4) vxs7)) fun vx8 => mpure (!decide (vx8 = ([] : (List Int))))) fun vb9 => if vb9 = true then (mpure (none : Option (List Int))) else (mbind (mbind (mbind (mbind (mcat vdecided_here ([vbutton])) fun vx10 => mbind (midx vpanel_here vbutton) fun vx11 => mcat vx10 vx11) fun vxs12 => msetS vxs12) fun vx13 => mpure vx13) fun vx14 => mpure (some vx14)))
theorem fn__law_decided {S : Type} {W : Wd S} (vpanel_here : (List (List Int))) (veffect_here : (List Str)) (vdecided_here : (List Int)) (vbutton : Int) : FN W d__law_decided [(eT (eT eI)) vpanel_here, (eT eS) veffect_here, (eT eI) vdecided_here, eI vbutton] (p__law_decided vpanel_here veffect_here vdecided_here vbutton) (eO (eT eI)) := fnT_of (fun b => Pl.p b) rfl (le_c rfl) fun fr => (tr_ifseq (ht_and (ht_ofV (enc := id) (hv_isB (hv_op (hv_var rfl) (hv_var rfl) (t_ninT (e := eI) vbutton vdecided_here (by decide))))) (ht_isB (ht_op (ac_T (ht_op (ac_V (hv_var rfl) (ac_V (hv_var rfl) (af_idxT (e := eS) veffect_here vbutton)))) fun vx1 => (ac_V hv_lit (af_op (enc := eB) (t_ne (e := eS) _ _ (by decide)))))))) (tr_seqR (tr_ret (ht_ofV hv_lit))) (tr_nextR (tr_ifseq (ht_isB (ht_op (ac_T (ht_frz (ht_compG (enc := eI) (c := (fun (vx4 : Int) => mbind (mpure (!decide (vx4 ∈ vdecided_here))) fun vb6 => if vb6 = true then mbind (midx veffect_here vx4) fun vx5 => mpure (!decide (vx5 = ("off" : Str))) else mpure false)) (f := (fun (vx4 : Int) => mpure vx4)) (src_seq (sT (e := eI)) (ht_op (ac_V (hv_var rfl) (ac_V (hv_var rfl) (af_idxT (e := (eT eI)) vpanel_here vbutton))))) rfl (fun vx4 => (gt1_N 4 _)) (by decide) (fun _ => (kp_of trivial)) (fun vx4 => (ht_and (ht_ofV (enc := id) (hv_isB (hv_op (hv_var rfl) (hv_var rfl) (t_ninT (e := eI) vx4 vdecided_here (by decide))))) (ht_isB (ht_op (ac_T (ht_op (ac_V (hv_var rfl) (ac_V (hv_var rfl) (af_idxT (e := eS) veffect_here vx4)))) fun vx5 => (ac_V hv_lit (af_op (enc := eB) (t_ne (e := eS) _ _ (by decide))))))))) (fun vx4 => (ht_ofV (hv_var rfl))))) fun vx8 => (ac_V (hv_frz (hv_disp hv_nil (le_c rfl))) (af_op (enc := eB) (t_ne (e := (eL eI)) vx8 ([] : (List Int)) (by decide))))))) (tr_seqR (tr_ret (ht_ofV hv_lit))) (tr_nextR (tr_ret (ht_conv (e := (eT eI)) (f := fun (vx14 : (List Int)) => (some vx14)) (ht_b (ac_T (ht_frz (ht_sortSet iT (ht_op (ac_T (ht_op (ac_V (hv_var rfl) (ac_V (hv_tup (hv_cons (hv_var rfl) hv_nil) (le_c rfl)) (af_catT (e := eI) vdecided_here ([vbutton]))))) fun vx10 => (ac_T (ht_op (ac_V (hv_var rfl) (ac_V (hv_var rfl) (af_idxT (e := (eT eI)) vpanel_here vbutton)))) fun vx11 => (af_catT (e := eI) vx10 vx11)))))) fun vx13 => (af_b1 (enc := (eT eI)) (t_tupL (e := eI) _)))) (fun _ => rfl)))))))
noncomputable def p__law_layers {S : Type} (vpanel_here : (List (List Int))) (veffect_here : (List Str)) : Mt S (List (List (List Int))) := mbind (mbind (mbind (mbind (mpure veffect_here) fun vxs1 => mpure (enumZ 0 vxs1)) fun vxs3 => compV (fun (vx2 : (Int × Str)) => (!decide (vx2.2 = ("same" : Str)))) (fun (vx2 : (Int × Str)) => vx2.1) vxs3) fun vx4 => mpure vx4) fun vwhole5 => mbind (mpure ([[([] : (List Int))]], [(([] : (List Int)), true)])) fun vp6 => mbind (whileU (fun (vz7 : (Kv Bool) × (List (List (List Int)))) => mbind (mbind (midx vz7.2 (-(1 : Int))) fun vx8 => mpure (!inB vwhole5 vx8)) fun vb10 => if vb10 = true then mbind (midx vz7.2 (-(1 : Int))) fun vx9 => mpure (!decide (vx9 = ([] : (List (List Int))))) else mpure false) (fun (vz7 : (Kv Bool) × (List (List (List Int)))) => mbind (mpure ([] : (List (List Int)))) fun vlater11 => mbind (mbind (midx vz7.2 (-(1 : Int))) fun vxs27 => forU (fun (vx13 : (List Int)) (vz12 : (Kv Bool) × (List (List Int))) => mbind (mbind (mpure vwhole5) fun vxs26 => forU (fun (vx15 : Int) (vz14 : (Kv Bool) × (List (List Int))) => mbind (p__law_decided vpanel_here veffect_here vx13 vx15) fun vafter16 => mbind (mbind (mbind (mpure (vafter16.isSome)) fun vb18 => if vb18 = true then mbind (mopt vafter16) fun vk17 => mpure (!hasP vz14.1 vk17) else mpure false) fun vb25 => if vb25 = true then (mbind (mbind (mpure true) fun vx20 => mbind (mopt vafter16) fun vk21 => mputD vz14.1 vk21 vx20) fun vknown22 => mbind (mbind (mopt vafter16) fun vx24 => mapp vz14.2 vx24) fun vlater23 => mpure (vknown22, vlater23)) else (mpure (vz14.1, vz14.2))) fun vz19 => mpure (vz19.1, vz19.2)) vxs26 (vz12.1, vz12.2)) fun vz14 => mpure (vz14.1, vz14.2)) vxs27 (vz7.1, vlater11)) fun vz12 => mbind (mbind (mpure vz12.2) fun vx29 => mapp vz7.2 vx29) fun vlayers_here28 => mpure (vz12.1, vlayers_here28)) 1000 (vp6.2, vp6.1)) fun vz7 => mpure vz7.2
theorem fn__law_layers {S : Type} {W : Wd S} (vpanel_here : (List (List Int))) (veffect_here : (List Str)) : FN W d__law_layers [(eT (eT eI)) vpanel_here, (eT eS) veffect_here] (p__law_layers vpanel_here veffect_here) (eL (eL (eT eI))) := fnT_of (fun b => Pl.p b) rfl (le_c rfl) fun fr => (tr_seqN (tn_asg (ht_b (ac_T (ht_frz (ht_compV (enc := eI) (c := (fun (vx2 : (Int × Str)) => (!decide (vx2.2 = ("same" : Str))))) (f := (fun (vx2 : (Int × Str)) => vx2.1)) (src_enum (sT (e := eS)) (ht_ofV (hv_var rfl))) rfl (fun vx2 => (gt1_T (gts_cons (gt1_N 3 _) (gts_cons (gt1_N 4 _) gts_nil)) rfl)) (by decide) (fun _ => (kp_of trivial)) (fun vx2 => (hv_isB (hv_op (hv_var rfl) hv_lit (t_ne (e := eS) _ _ (by decide))))) (fun vx2 => (hv_var rfl)))) fun vx4 => (af_b1 (enc := (eT eI)) (t_tupL (e := eI) _))))) fun vwhole5 => (tr_seqN (tn_par (J := fun (vp6 : (List (List (List Int))) × (Kv Bool)) => [.val ((eT (eT eI)) vpanel_here), .val ((eT eS) veffect_here), .val ((eT eI) vwhole5), .any, .any, .mut (.lst (List.map (eL (eT eI)) vp6.1)), .mut (.dct (eK vp6.2) (eW eB vp6.2)), .any, .any, .any]) (ap_New (hv_disp (hv_cons (hv_frz (hv_disp (hv_cons (hv_tup hv_nil (le_c rfl)) hv_nil) (le_c rfl))) hv_nil) (le_c rfl)) fun _ => (ap_NewD (hv_tup hv_nil (le_c rfl)) hv_lit fun _ => (ap_two (lt_c rfl) (lt_c rfl))))) fun vp6 => (tr_seqN (tn_while (J := fun (vz7 : (Kv Bool) × (List (List (List Int)))) => [.val ((eT (eT eI)) vpanel_here), .val ((eT eS) veffect_here), .val ((eT eI) vwhole5), .any, .any, .mut (.lst (List.map (eL (eT eI)) vz7.2)), .mut (.dct (eK vz7.1) (eW eB vz7.1)), .any, .any, .any]) (z0 := (vp6.2, vp6.1)) (.same (.same (.same (.any (.any (.same (.same (.any (.any (.any .nil)))))))))) (fun vz7 => (ht_and (ht_isB (ht_op (ac_V (hv_var rfl) (ac_T (ht_op (ac_M rfl (hv_cons (hv_un hv_lit (t_neg _)) hv_nil) (fun st _ h => by show lift _ _ = lift _ _; rw [dr_idx1 h]) (ac_V (hv_un hv_lit (t_neg _)) (af_idxL _ _)))) fun vx8 => (af_op (enc := eB) (t_ninLB (e := (eT eI)) vwhole5 vx8 (by decide))))))) (ht_isB (ht_op (ac_T (ht_op (ac_M rfl (hv_cons (hv_un hv_lit (t_neg _)) hv_nil) (fun st _ h => by show lift _ _ = lift _ _; rw [dr_idx1 h]) (ac_V (hv_un hv_lit (t_neg _)) (af_idxL _ _)))) fun vx9 => (ac_V (hv_frz (hv_disp hv_nil (le_c rfl))) (af_op (enc := eB) (t_ne (e := (eL (eT eI))) vx9 ([] : (List (List Int))) (by decide))))))))) (fun vz7 => (tn_seq (tn_new (ht_ofV (enc := fun zs => List.map (eT eI) zs) (hv_disp hv_nil (le_c rfl)))) fun vlater11 => (tn_seq (tn_for (J := fun (vz12 : (Kv Bool) × (List (List Int))) => [.val ((eT (eT eI)) vpanel_here), .val ((eT eS) veffect_here), .val ((eT eI) vwhole5), .any, .any, .mut (.lst (List.map (eL (eT eI)) vz7.2)), .mut (.dct (eK vz12.1) (eW eB vz12.1)), .mut (.lst (List.map (eT eI) vz12.2)), .any, .any]) (z0 := (vz7.1, vlater11)) (src_seq (sL (e := (eT eI))) (ht_op (ac_M rfl (hv_cons (hv_un hv_lit (t_neg _)) hv_nil) (fun st _ h => by show lift _ _ = lift _ _; rw [dr_idx1 h]) (ac_V (hv_un hv_lit (t_neg _)) (af_idxL _ _))))) (fun _ => (.same (.same (.same (.any (.any (.same (.same (.same (.any (.any .nil))))))))))) (fun vx13 vz12 => (gt1_N 8 _)) (fun vx13 vz12 => (tn_map (f := fun (vz14 : (Kv Bool) × (List (List Int))) => (vz14.1, vz14.2)) (tn_for (J := fun (vz14 : (Kv Bool) × (List (List Int))) => [.val ((eT (eT eI)) vpanel_here), .val ((eT eS) veffect_here), .val ((eT eI) vwhole5), .any, .any, .mut (.lst (List.map (eL (eT eI)) vz7.2)), .mut (.dct (eK vz14.1) (eW eB vz14.1)), .mut (.lst (List.map (eT eI) vz14.2)), .val ((eT eI) vx13), .any]) (z0 := (vz12.1, vz12.2)) (src_seq (sT (e := eI)) (ht_ofV (hv_var rfl))) (fun _ => (.same (.same (.same (.any (.any (.same (.same (.same (.same (.any .nil))))))))))) (fun vx15 vz14 => (gt1_N 3 _)) (fun vx15 vz14 => (tn_seq (tn_asg (ht_call (ac_V (hv_var rfl) (ac_V (hv_var rfl) (ac_V (hv_var rfl) (ac_V (hv_var rfl) (ac_fn (fn__law_decided vpanel_here veffect_here vx13 vx15)))))))) fun vafter16 => (tn_map (f := fun (vz19 : (Kv Bool) × (List (List Int))) => (vz19.1, vz19.2)) (tn_if (J := fun (vz19 : (Kv Bool) × (List (List Int))) => [.val ((eT (eT eI)) vpanel_here), .val ((eT eS) veffect_here), .val ((eT eI) vwhole5), .val (eI vx15), .any, .mut (.lst (List.map (eL (eT eI)) vz7.2)), .mut (.dct (eK vz19.1) (eW eB vz19.1)), .mut (.lst (List.map (eT eI) vz19.2)), .val ((eT eI) vx13), .val ((eO (eT eI)) vafter16)]) (ht_and (ht_ofV (enc := id) (hv_isB (hv_op (hv_var rfl) hv_lit (t_isNotO (e := (eT eI)) _)))) (ht_isB (ht_ninDM (e := eB) (ht_unopt (hv_var rfl)) rfl))) (tn_seq (tn_dput (e := eB) rfl (ht_ofV hv_lit) (ht_unopt (hv_var rfl))) fun vknown22 => (tn_map (f := fun (vlater23 : (List (List Int))) => (vknown22, vlater23)) (tn_drop (ht_append rfl (ht_unopt (hv_var rfl)))) (fun vlater23 => (.same (.same (.same (.same (.any (.same (.same (.same (.same (.same .nil))))))))))))) (tn_skip (.same (.same (.same (.same (.any (.same (.same (.same (.same (.same .nil)))))))))))) (fun vz19 => (.same (.same (.same (.any (.any (.same (.same (.same (.same (.any .nil))))))))))))))) (fun vz14 => (.same (.same (.same (.any (.any (.same (.same (.same (.any (.any .nil)))))))))))))) fun vz12 => (tn_fz rfl (tn_map (f := fun (vlayers_here28 : (List (List (List Int)))) => (vz12.1, vlayers_here28)) (tn_drop (ht_append rfl (ht_ofV (hv_var rfl)))) (fun vlayers_here28 => (.same (.same (.same (.any (.any (.same (.same (.any (.any (.any .nil))))))))))))))))) fun vz7 => (tr_fz rfl (tr_ret (ht_ofV (hv_var rfl)))))))
noncomputable def p__law_best {S : Type} (vpanel_here : (List (List Int))) (veffect_here : (List Str)) : Mt S (Option (List Int)) := mbind (mbind (p__law_layers vpanel_here veffect_here) fun vx1 => mpure (vx1, ([] : (List Int)))) fun vp2 => mbind (mbind (midx vp2.1 (-(1 : Int))) fun vx3 => mpure (decide (vx3 = ([] : (List (List Int)))))) fun vb4 => if vb4 = true then (mpure (none : Option (List Int))) else (mbind (mbind (mbind (mbind (mbind (mpure veffect_here) fun vxs5 => mpure (enumZ 0 vxs5)) fun vxs7 => compV (fun (vx6 : (Int × Str)) => (!decide (vx6.2 = ("same" : Str)))) (fun (vx6 : (Int × Str)) => vx6.1) vxs7) fun vx8 => mpure vx8) fun vx9 => mpure [vx9]) fun vnow10 => mbind (mbind (mbind (mpure vp2.1) fun vx12 => mbind (mpure (some (-(2 : Int)))) fun vlo13 => mpure (stepD vx12 vlo13 none (some (-1)))) fun vxs30 => forU (fun (vx14 : (List (List Int))) (vz11 : (List Int) × (List (List Int))) => mbind (mpure ([] : (List (List Int)))) fun vfound15 => mbind (mbind (mbind (mpure (vpanel_here.length : Int)) fun vn17 => mrng (0 : Int) vn17) fun vxs28 => forU (fun (vx18 : Int) (vz16 : (List (List Int)) × (List Int)) => mbind (mbind (mpure (decide (vz16.1 = ([] : (List (List Int)))))) fun vb27 => if vb27 = true then (mbind (mbind (mpure vx14) fun vxs22 => calmly (compG (fun (vx20 : (List Int)) => mbind (p__law_decided vpanel_here veffect_here vx20 vx18) fun vx21 => mpure (inO vx21 vz11.2)) (fun (vx20 : (List Int)) => mpure vx20) vxs22)) fun vfound23 => mbind (mbind (mpure (!decide (vfound23 = ([] : (List (List Int)))))) fun vb26 => if vb26 = true then (mbind (mcat vz16.2 ([vx18])) fun vrow_here25 => mpure vrow_here25) else (mpure vz16.2)) fun vz24 => mpure (vfound23, vz24)) else (mpure (vz16.1, vz16.2))) fun vz19 => mpure (vz19.1, vz19.2)) vxs28 (vfound15, vz11.1)) fun vz16 => mbind (mpure vz16.1) fun vnow29 => mpure (vz16.2, vnow29)) vxs30 (vp2.2, vnow10)) fun vz11 => mpure (some vz11.1))
theorem fn__law_best {S : Type} {W : Wd S} (vpanel_here : (List (List Int))) (veffect_here : (List Str)) : FN W d__law_best [(eT (eT eI)) vpanel_here, (eT eS) veffect_here] (p__law_best vpanel_here veffect_here) (eO (eT eI)) := fnT_of (fun b => Pl.p b) rfl (le_c rfl) fun fr => (tr_seqN (tn_par (J := fun (vp2 : (List (List (List Int))) × (List Int)) => [.val ((eT (eT eI)) vpanel_here), .val ((eT eS) veffect_here), .val ((eL (eL (eT eI))) vp2.1), .val ((eT eI) vp2.2), .any, .any, .any, .any, .any, .any]) (ap_T (ht_call (ac_V (hv_var rfl) (ac_V (hv_var rfl) (ac_fn (fn__law_layers vpanel_here veffect_here))))) (fun _ => rfl) fun vx1 => (ap_V (hv_tup hv_nil (le_c rfl)) (ap_two (lt_c rfl) (lt_c rfl))))) fun vp2 => (tr_ifseq (ht_isB (ht_op (ac_T (ht_op (ac_V (hv_var rfl) (ac_V (hv_un hv_lit (t_neg _)) (af_idxL (e := (eL (eT eI))) vp2.1 (-(1 : Int)))))) fun vx3 => (ac_V (hv_frz (hv_disp hv_nil (le_c rfl))) (af_op (enc := eB) (t_eq (e := (eL (eT eI))) vx3 ([] : (List (List Int))) (by decide))))))) (tr_seqR (tr_ret (ht_ofV hv_lit))) (tr_nextR (tr_seqN (tn_asg (ht_frz (ht_disp (enc := fun (zs : List (List Int)) => List.map (eT eI) zs) (ac_T (ht_b (ac_T (ht_frz (ht_compV (enc := eI) (c := (fun (vx6 : (Int × Str)) => (!decide (vx6.2 = ("same" : Str))))) (f := (fun (vx6 : (Int × Str)) => vx6.1)) (src_enum (sT (e := eS)) (ht_ofV (hv_var rfl))) rfl (fun vx6 => (gt1_T (gts_cons (gt1_N 5 _) (gts_cons (gt1_N 6 _) gts_nil)) rfl)) (by decide) (fun _ => (kp_of trivial)) (fun vx6 => (hv_isB (hv_op (hv_var rfl) hv_lit (t_ne (e := eS) _ _ (by decide))))) (fun vx6 => (hv_var rfl)))) fun vx8 => (af_b1 (enc := (eT eI)) (t_tupL (e := eI) _)))) fun vx9 => (ac_ret fun _ => rfl))))) fun vnow10 => (tr_seqN (tn_for (J := fun (vz11 : (List Int) × (List (List Int))) => [.val ((eT (eT eI)) vpanel_here), .val ((eT eS) veffect_here), .val ((eL (eL (eT eI))) vp2.1), .val ((eT eI) vz11.1), .val ((eL (eT eI)) vz11.2), .any, .any, .any, .any, .any]) (z0 := (vp2.2, vnow10)) (src_seq (sL (e := (eL (eT eI)))) (ht_frz (ht_slNeg (Γ := [.val ((eT (eT eI)) vpanel_here), .val ((eT eS) veffect_here), .val ((eL (eL (eT eI))) vp2.1), .val ((eT eI) vp2.2), .val ((eL (eT eI)) vnow10), .any, .any, .any, .any, .any]) (e := (eL (eT eI))) (ht_ofV (hv_var rfl)) (ht_ofV (enc := id) (hv_oSome (hv_un hv_lit (t_neg _))))))) (fun _ => (.same (.same (.same (.same (.same (.any (.any (.any (.any (.any .nil))))))))))) (fun vx14 vz11 => (gt1_N 7 _)) (fun vx14 vz11 => (tn_seq (tn_asg (ht_ofV (enc := (eL (eT eI))) (hv_frz (hv_disp hv_nil (le_c rfl))))) fun vfound15 => (tn_seq (tn_for (J := fun (vz16 : (List (List Int)) × (List Int)) => [.val ((eT (eT eI)) vpanel_here), .val ((eT eS) veffect_here), .val ((eL (eL (eT eI))) vp2.1), .val ((eT eI) vz16.2), .val ((eL (eT eI)) vz11.2), .any, .any, .val ((eL (eT eI)) vx14), .val ((eL (eT eI)) vz16.1), .any]) (z0 := (vfound15, vz11.1)) (src_rng1 (ht_ofV (hv_b (A := D) (hv_cons (hv_var rfl) hv_nil) (t_lenT (e := (eT eI)) _)))) (fun _ => (.same (.same (.same (.same (.same (.any (.any (.same (.same (.any .nil))))))))))) (fun vx18 vz16 => (gt1_N 5 _)) (fun vx18 vz16 => (tn_map (f := fun (vz19 : (List (List Int)) × (List Int)) => (vz19.1, vz19.2)) (tn_if (J := fun (vz19 : (List (List Int)) × (List Int)) => [.val ((eT (eT eI)) vpanel_here), .val ((eT eS) veffect_here), .val ((eL (eL (eT eI))) vp2.1), .val ((eT eI) vz19.2), .val ((eL (eT eI)) vz11.2), .val (eI vx18), .any, .val ((eL (eT eI)) vx14), .val ((eL (eT eI)) vz19.1), .any]) (ht_ofV (enc := id) (hv_isB (hv_op (hv_var rfl) (hv_frz (hv_disp hv_nil (le_c rfl))) (t_eq (e := (eL (eT eI))) vz16.1 ([] : (List (List Int))) (by decide))))) (tn_seq (tn_asg (ht_frz (ht_compG (enc := (eT eI)) (c := (fun (vx20 : (List Int)) => mbind (p__law_decided vpanel_here veffect_here vx20 vx18) fun vx21 => mpure (inO vx21 vz11.2))) (f := (fun (vx20 : (List Int)) => mpure vx20)) (src_seq (sL (e := (eT eI))) (ht_ofV (hv_var rfl))) rfl (fun vx20 => (gt1_N 9 _)) (by decide) (fun _ => (kp_of trivial)) (fun vx20 => (ht_isB (ht_op (ac_T (ht_call (ac_V (hv_var rfl) (ac_V (hv_var rfl) (ac_V (hv_var rfl) (ac_V (hv_var rfl) (ac_fn (fn__law_decided vpanel_here veffect_here vx20 vx18))))))) fun vx21 => (ac_V (hv_var rfl) (af_op (enc := eB) (t_inLO (e := (eT eI)) vx21 vz11.2 (by decide)))))))) (fun vx20 => (ht_ofV (hv_var rfl)))))) fun vfound23 => (tn_map (f := fun (vz24 : (List Int)) => (vfound23, vz24)) (tn_if (J := fun (vz24 : (List Int)) => [.val ((eT (eT eI)) vpanel_here), .val ((eT eS) veffect_here), .val ((eL (eL (eT eI))) vp2.1), .val ((eT eI) vz24), .val ((eL (eT eI)) vz11.2), .val (eI vx18), .any, .val ((eL (eT eI)) vx14), .val ((eL (eT eI)) vfound23), .any]) (ht_ofV (enc := id) (hv_isB (hv_op (hv_var rfl) (hv_frz (hv_disp hv_nil (le_c rfl))) (t_ne (e := (eL (eT eI))) vfound23 ([] : (List (List Int))) (by decide))))) (tn_map (f := fun (vrow_here25 : (List Int)) => vrow_here25) (tn_asg (ht_op (ac_V (hv_var rfl) (ac_V (hv_tup (hv_cons (hv_var rfl) hv_nil) (le_c rfl)) (af_catT (e := eI) vz16.2 ([vx18])))))) (fun vrow_here25 => (.same (.same (.same (.same (.same (.same (.any (.same (.same (.any .nil)))))))))))) (tn_skip (.same (.same (.same (.same (.same (.same (.any (.same (.same (.any .nil)))))))))))) (fun vz24 => (.same (.same (.same (.same (.same (.same (.any (.same (.same (.any .nil))))))))))))) (tn_skip (.same (.same (.same (.same (.same (.same (.any (.same (.same (.any .nil)))))))))))) (fun vz19 => (.same (.same (.same (.same (.same (.any (.any (.same (.same (.any .nil)))))))))))))) fun vz16 => (tn_map (f := fun (vnow29 : (List (List Int))) => (vz16.2, vnow29)) (tn_asg (ht_ofV (hv_var rfl))) (fun vnow29 => (.same (.same (.same (.same (.same (.any (.any (.any (.any (.any .nil)))))))))))))))) fun vz11 => (tr_ret (ht_ofV (hv_var rfl))))))))
noncomputable def p__law_first {S : Type} (vpanel_here : (List (List Int))) (vrows_here : (List (List Int))) (vdue : (List Str)) : Mt S (Option (List Int)) := mfin (mbind (mpure vrows_here) fun vxs6 => forX (fun (vx2 : (List Int)) (vz1 : Unit) => mbind (mbind (p__law_effect vpanel_here vx2) fun vx3 => mpure (decide (vx3 = vdue))) fun vb4 => if vb4 = true then (mbind (mpure (some vx2)) fun vr5 => mpure (.rt vr5)) else (mpure (.nx ()))) vxs6 ()) fun vz1 => mpure (none : Option (List Int))
theorem fn__law_first {S : Type} {W : Wd S} (vpanel_here : (List (List Int))) (vrows_here : (List (List Int))) (vdue : (List Str)) : FN W d__law_first [(eT (eT eI)) vpanel_here, (eL (eT eI)) vrows_here, (eT eS) vdue] (p__law_first vpanel_here vrows_here vdue) (eO (eT eI)) := fnT_of (fun b => Pl.p b) rfl (le_c rfl) fun fr => (tr_seqF (J := _) (tf_for (J := fun (vz1 : Unit) => [.val ((eT (eT eI)) vpanel_here), .val ((eL (eT eI)) vrows_here), .val ((eT eS) vdue), .any]) (z0 := ()) (src_seq (sL (e := (eT eI))) (ht_ofV (hv_var rfl))) (fun _ => (.same (.same (.same (.any .nil))))) (fun vx2 vz1 => (gt1_N 3 _)) (fun vx2 vz1 => (tl_if (ht_isB (ht_op (ac_T (ht_call (ac_V (hv_var rfl) (ac_V (hv_var rfl) (ac_fn (fn__law_effect vpanel_here vx2))))) fun vx3 => (ac_V (hv_var rfl) (af_op (enc := eB) (t_eq (e := (eT eS)) vx3 vdue (by decide))))))) (tl_ofX (tx_ofR (tr_ret (ht_ofV (hv_var rfl))))) (tl_nextR (tl_next (.same (.same (.same (.any .nil))))))))) fun vz1 => (tr_ret (ht_ofV hv_lit)))
@[irreducible] noncomputable def q_shortest_row {S : Type} (vpanel : (List (List Int))) (vrow : (Option (List Int))) : Mt S (List Int) := p_shortest_row vpanel vrow
theorem q_shortest_row_eq {S : Type} : @q_shortest_row S = @p_shortest_row S := by unfold q_shortest_row; rfl
theorem fq_shortest_row {S : Type} {W : Wd S} (vpanel : (List (List Int))) (vrow : (Option (List Int))) : FN W d_shortest_row [(eT (eT eI)) vpanel, (eO (eT eI)) vrow] (q_shortest_row vpanel vrow) (eT eI) := by rw [q_shortest_row_eq]; exact fn_shortest_row vpanel vrow
noncomputable def p_law : Mt ST Bool := mbind (mpure ([[(1 : Int), (2 : Int), (3 : Int)], [(4 : Int)], [(5 : Int)], [(4 : Int), (5 : Int)], ([] : (List Int)), ([] : (List Int))])) fun vhand1 => mbind (mbind (mbind (mbind (mpure ([[(1 : Int), (2 : Int), (0 : Int)], [(2 : Int), (1 : Int), (0 : Int)], [(3 : Int), (0 : Int)]])) fun vxs3 => calmly (compM (fun (vx2 : (List Int)) => true) (fun (vx2 : (List Int)) => q_shortest_row vhand1 (some vx2)) vxs3)) fun vx4 => mreprR ((eL (eT eI)) vx4)) fun vx6 => mbind (mbind (mrepL ([[(3 : Int), (0 : Int)]]) (3 : Int)) fun vx5 => mreprR ((eL (eT eI)) vx5)) fun vx7 => mpure (!decide (vx6 = vx7))) fun vb8 => if vb8 = true then (mpure false) else (mfin (mbind (mbind (mpure (5 : Int)) fun vn10 => mrng (0 : Int) vn10) fun vxs33 => forX (fun (vx11 : Int) (vz9 : Unit) => mbind (p__law_panel (5 : Int)) fun vpanel_here12 => mbind (p__law_rows (vpanel_here12.length : Int)) fun vrows_here13 => mfinL (mbind (mbind (p__law_row (vpanel_here12.length : Int) (12 : Int)) fun vx15 => mbind (p__law_row (vpanel_here12.length : Int) (5 : Int)) fun vx16 => mpure [vx15, vx16, ([] : (List Int))]) fun vxs32 => forX (fun (vx17 : (List Int)) (vz14 : Unit) => mbind (mbind (p__law_effect vpanel_here12 vx17) fun vx18 => p__law_first vpanel_here12 vrows_here13 vx18) fun vdue19 => mbind (mbind (mbind (p__law_effect vpanel_here12 vx17) fun vx20 => p__law_best vpanel_here12 vx20) fun vx21 => mpure (!decide (vdue19 = vx21))) fun vb22 => if vb22 = true then (mbind (mpure false) fun vr23 => mpure (.rt vr23)) else (mbind (mbind (mbind (mbind (mbind (mpure (2 : Int)) fun vn24 => mrng (0 : Int) vn24) fun vxs26 => calmly (compM (fun (vx25 : Int) => true) (fun (vx25 : Int) => q_shortest_row vpanel_here12 (some vx17)) vxs26)) fun vx27 => mreprR ((eL (eT eI)) vx27)) fun vx28 => mbind (mreprR ((eL (eO (eT eI))) [vdue19, vdue19])) fun vx29 => mpure (!decide (vx28 = vx29))) fun vb30 => if vb30 = true then (mbind (mpure false) fun vr31 => mpure (.rt vr31)) else (mpure (.nx ())))) vxs32 ()) fun vz14 => mpure (.nx ())) vxs33 ()) fun vz9 => mfin (mbind (mbind (mpure (4 : Int)) fun vn35 => mrng (0 : Int) vn35) fun vxs55 => forX (fun (vx36 : Int) (vz34 : Unit) => mbind (mbind (midx ([(6 : Int), (8 : Int), (9 : Int), (10 : Int)]) vx36) fun vx37 => p__law_panel vx37) fun vpanel_here38 => mbind (mbind (midx ([(12 : Int), (60 : Int), (12 : Int), (6 : Int)]) vx36) fun vx39 => p__law_row (vpanel_here38.length : Int) vx39) fun vrow_here40 => mbind (mbind (mreprR ((eL eD) [((eT (eT eI)) vpanel_here38), ((eT eI) vrow_here40)])) fun vx42 => mbind (mbind (p__law_effect vpanel_here38 vrow_here40) fun vx41 => p__law_best vpanel_here38 vx41) fun vx43 => mpure (vx42, vx43)) fun vp44 => mbind (mbind (mbind (mbind (q_shortest_row vpanel_here38 (some vrow_here40)) fun vx45 => mbind (q_shortest_row vpanel_here38 vp44.2) fun vx46 => mpure [vx45, vx46]) fun vx47 => mreprR ((eL (eT eI)) vx47)) fun vx48 => mbind (mreprR ((eL (eO (eT eI))) [vp44.2, vp44.2])) fun vx49 => mpure (!decide (vx48 = vx49))) fun vb50 => if vb50 = true then (mbind (mpure false) fun vr51 => mpure (.rt vr51)) else (mbind (mbind (mreprR ((eL eD) [((eT (eT eI)) vpanel_here38), ((eT eI) vrow_here40)])) fun vx52 => mpure (!decide (vx52 = vp44.1))) fun vb53 => if vb53 = true then (mbind (mpure false) fun vr54 => mpure (.rt vr54)) else (mpure (.nx ())))) vxs55 ()) fun vz34 => mpure true)
theorem tr_law (fr : Sto) : TR (WO RDk) fr [.any, .val (.ref 1), .any, .any, .any, .any, .any, .any, .any, .any] rest_law_1 p_law eB := (tr_seqN (tn_asg (ht_ofV (enc := (eT (eT eI))) (hv_tup (hv_cons (hv_tup (hv_cons hv_lit (hv_cons hv_lit (hv_cons hv_lit hv_nil))) (le_c rfl)) (hv_cons (hv_tup (hv_cons hv_lit hv_nil) (le_c rfl)) (hv_cons (hv_tup (hv_cons hv_lit hv_nil) (le_c rfl)) (hv_cons (hv_tup (hv_cons hv_lit (hv_cons hv_lit hv_nil)) (le_c rfl)) (hv_cons (hv_tup hv_nil (le_c rfl)) (hv_cons (hv_tup hv_nil (le_c rfl)) hv_nil)))))) (le_c rfl)))) fun vhand1 => (tr_ifseq (ht_isB (ht_op (ac_T (ht_b (ac_T (ht_frz (ht_compM (enc := (eT eI)) (c := (fun (vx2 : (List Int)) => true)) (f := (fun (vx2 : (List Int)) => q_shortest_row vhand1 (some vx2))) (src_seq (sL (e := (eT eI))) (ht_ofV (hv_frz (hv_disp (hv_cons (hv_tup (hv_cons hv_lit (hv_cons hv_lit (hv_cons hv_lit hv_nil))) (le_c rfl)) (hv_cons (hv_tup (hv_cons hv_lit (hv_cons hv_lit (hv_cons hv_lit hv_nil))) (le_c rfl)) (hv_cons (hv_tup (hv_cons hv_lit (hv_cons hv_lit hv_nil)) (le_c rfl)) hv_nil))) (le_c rfl))))) rfl (fun vx2 => (gt1_N 3 _)) (by decide) (fun _ => (kp_of trivial)) (fun vx2 => hv_yes) (fun vx2 => (ht_call (ac_V (hv_var rfl) (ac_V (hv_var rfl) (ac_fn (fq_shortest_row vhand1 (some vx2))))))))) fun vx4 => (af_reprR _))) fun vx6 => (ac_T (ht_b (ac_T (ht_frz (ht_opL (ac_V (hv_frz (hv_disp (hv_cons (hv_tup (hv_cons hv_lit (hv_cons hv_lit hv_nil)) (le_c rfl)) hv_nil) (le_c rfl))) (ac_V hv_lit (af_repL (e := (eT eI)) ([[(3 : Int), (0 : Int)]]) (3 : Int)))))) fun vx5 => (af_reprR _))) fun vx7 => (af_op (enc := eB) (t_ne (e := eS) _ _ (by decide))))))) (tr_seqR (tr_ret (ht_ofV hv_lit))) (tr_nextR (tr_seqF (J := _) (tf_for (J := fun (vz9 : Unit) => [.any, .val (.ref 1), .val ((eT (eT eI)) vhand1), .any, .any, .any, .any, .any, .any, .any]) (z0 := ()) (src_rng1 (ht_ofV hv_lit)) (fun _ => (.any (.same (.same (.any (.any (.any (.any (.any (.any (.any .nil))))))))))) (fun vx11 vz9 => (gt1_N 4 _)) (fun vx11 vz9 => (tl_seqN (tn_asg (ht_call (ac_V (hv_var rfl) (ac_V hv_lit (ac_fn (fn__law_panel (5 : Int))))))) fun vpanel_here12 => (tl_seqN (tn_asg (ht_call (ac_V (hv_b (A := D) (hv_cons (hv_var rfl) hv_nil) (t_lenT (e := (eT eI)) _)) (ac_fn (fn__law_rows (vpanel_here12.length : Int)))))) fun vrows_here13 => (tl_endF (f := fun vz14 => ()) (tf_for (J := fun (vz14 : Unit) => [.any, .val (.ref 1), .val ((eT (eT eI)) vhand1), .any, .val (eI vx11), .val ((eT (eT eI)) vpanel_here12), .val ((eL (eT eI)) vrows_here13), .any, .any, .any]) (z0 := ()) (src_seq (sL (e := (eT eI))) (ht_frz (ht_disp (enc := fun (zs : List (List Int)) => List.map (eT eI) zs) (ac_T (ht_call (ac_V (hv_var rfl) (ac_V (hv_b (A := D) (hv_cons (hv_var rfl) hv_nil) (t_lenT (e := (eT eI)) _)) (ac_V hv_lit (ac_fn (fn__law_row (vpanel_here12.length : Int) (12 : Int))))))) fun vx15 => (ac_T (ht_call (ac_V (hv_var rfl) (ac_V (hv_b (A := D) (hv_cons (hv_var rfl) hv_nil) (t_lenT (e := (eT eI)) _)) (ac_V hv_lit (ac_fn (fn__law_row (vpanel_here12.length : Int) (5 : Int))))))) fun vx16 => (ac_V (hv_tup hv_nil (le_c rfl)) (ac_ret fun _ => rfl))))))) (fun _ => (.any (.same (.same (.any (.same (.same (.same (.any (.any (.any .nil))))))))))) (fun vx17 vz14 => (gt1_N 3 _)) (fun vx17 vz14 => (tl_seqN (tn_asg (ht_call (ac_V (hv_var rfl) (ac_V (hv_var rfl) (ac_T (ht_call (ac_V (hv_var rfl) (ac_V (hv_var rfl) (ac_fn (fn__law_effect vpanel_here12 vx17))))) fun vx18 => (ac_fn (fn__law_first vpanel_here12 vrows_here13 vx18))))))) fun vdue19 => (tl_ifseq (ht_isB (ht_op (ac_V (hv_var rfl) (ac_T (ht_call (ac_V (hv_var rfl) (ac_T (ht_call (ac_V (hv_var rfl) (ac_V (hv_var rfl) (ac_fn (fn__law_effect vpanel_here12 vx17))))) fun vx20 => (ac_fn (fn__law_best vpanel_here12 vx20))))) fun vx21 => (af_op (enc := eB) (t_ne (e := (eO (eT eI))) vdue19 vx21 (by decide))))))) (tl_seqX (tx_ofR (tr_ret (ht_ofV hv_lit)))) (tl_nextR (tl_if (ht_isB (ht_op (ac_T (ht_b (ac_T (ht_frz (ht_compM (enc := (eT eI)) (c := (fun (vx25 : Int) => true)) (f := (fun (vx25 : Int) => q_shortest_row vpanel_here12 (some vx17))) (src_rng1 (ht_ofV hv_lit)) rfl (fun vx25 => (gt1_N 8 _)) (by decide) (fun _ => (kp_of trivial)) (fun vx25 => hv_yes) (fun vx25 => (ht_call (ac_V (hv_var rfl) (ac_V (hv_var rfl) (ac_fn (fq_shortest_row vpanel_here12 (some vx17))))))))) fun vx27 => (af_reprR _))) fun vx28 => (ac_T (ht_b (ac_V (hv_frz (hv_disp (hv_cons (hv_var rfl) (hv_cons (hv_var rfl) hv_nil)) (le_c rfl))) (af_reprR _))) fun vx29 => (af_op (enc := eB) (t_ne (e := eS) _ _ (by decide))))))) (tl_ofX (tx_ofR (tr_ret (ht_ofV hv_lit)))) (tl_nextR (tl_next (.any (.same (.same (.any (.same (.same (.same (.any (.any (.any .nil)))))))))))))))))) (fun vz14 => (.any (.same (.same (.any (.any (.any (.any (.any (.any (.any .nil)))))))))))))))) fun vz9 => (tr_seqF (J := _) (tf_for (J := fun (vz34 : Unit) => [.any, .val (.ref 1), .val ((eT (eT eI)) vhand1), .any, .any, .any, .any, .any, .any, .any]) (z0 := ()) (src_rng1 (ht_ofV hv_lit)) (fun _ => (.any (.same (.same (.any (.any (.any (.any (.any (.any (.any .nil))))))))))) (fun vx36 vz34 => (gt1_N 4 _)) (fun vx36 vz34 => (tl_seqN (tn_asg (ht_call (ac_V (hv_var rfl) (ac_T (ht_op (ac_V (hv_frz (hv_disp (hv_cons hv_lit (hv_cons hv_lit (hv_cons hv_lit (hv_cons hv_lit hv_nil)))) (le_c rfl))) (ac_V (hv_var rfl) (af_idxL (e := eI) ([(6 : Int), (8 : Int), (9 : Int), (10 : Int)]) vx36)))) fun vx37 => (ac_fn (fn__law_panel vx37)))))) fun vpanel_here38 => (tl_seqN (tn_asg (ht_call (ac_V (hv_var rfl) (ac_V (hv_b (A := D) (hv_cons (hv_var rfl) hv_nil) (t_lenT (e := (eT eI)) _)) (ac_T (ht_op (ac_V (hv_frz (hv_disp (hv_cons hv_lit (hv_cons hv_lit (hv_cons hv_lit (hv_cons hv_lit hv_nil)))) (le_c rfl))) (ac_V (hv_var rfl) (af_idxL (e := eI) ([(12 : Int), (60 : Int), (12 : Int), (6 : Int)]) vx36)))) fun vx39 => (ac_fn (fn__law_row (vpanel_here38.length : Int) vx39))))))) fun vrow_here40 => (tl_seqN (tn_par (J := fun (vp44 : Str × (Option (List Int))) => [.any, .val (.ref 1), .val ((eT (eT eI)) vhand1), .val ((eT eI) vrow_here40), .val (eI vx36), .val ((eT (eT eI)) vpanel_here38), .any, .val ((eO (eT eI)) vp44.2), .any, .val (eS vp44.1)]) (ap_T (ht_b (ac_V (hv_frz (hv_disp (hv_cons (hv_var rfl) (hv_cons (hv_var rfl) hv_nil)) (le_c rfl))) (af_reprR _))) (fun _ => rfl) fun vx42 => (ap_T1 (ht_call (ac_V (hv_var rfl) (ac_T (ht_call (ac_V (hv_var rfl) (ac_V (hv_var rfl) (ac_fn (fn__law_effect vpanel_here38 vrow_here40))))) fun vx41 => (ac_fn (fn__law_best vpanel_here38 vx41))))) fun vx43 => (ap_two (lt_c rfl) (lt_c rfl))))) fun vp44 => (tl_ifseq (ht_isB (ht_op (ac_T (ht_b (ac_T (ht_frz (ht_disp (enc := fun (zs : List (List Int)) => List.map (eT eI) zs) (ac_T (ht_call (ac_V (hv_var rfl) (ac_V (hv_var rfl) (ac_fn (fq_shortest_row vpanel_here38 (some vrow_here40)))))) fun vx45 => (ac_T (ht_call (ac_V (hv_var rfl) (ac_V (hv_var rfl) (ac_fn (fq_shortest_row vpanel_here38 vp44.2))))) fun vx46 => (ac_ret fun _ => rfl))))) fun vx47 => (af_reprR _))) fun vx48 => (ac_T (ht_b (ac_V (hv_frz (hv_disp (hv_cons (hv_var rfl) (hv_cons (hv_var rfl) hv_nil)) (le_c rfl))) (af_reprR _))) fun vx49 => (af_op (enc := eB) (t_ne (e := eS) _ _ (by decide))))))) (tl_seqX (tx_ofR (tr_ret (ht_ofV hv_lit)))) (tl_nextR (tl_if (ht_isB (ht_op (ac_T (ht_b (ac_V (hv_frz (hv_disp (hv_cons (hv_var rfl) (hv_cons (hv_var rfl) hv_nil)) (le_c rfl))) (af_reprR _))) fun vx52 => (ac_V (hv_var rfl) (af_op (enc := eB) (t_ne (e := eS) _ _ (by decide))))))) (tl_ofX (tx_ofR (tr_ret (ht_ofV hv_lit)))) (tl_nextR (tl_next (.any (.same (.same (.any (.any (.any (.any (.any (.any (.any .nil)))))))))))))))))))) fun vz34 => (tr_ret (ht_ofV hv_lit)))))))
/-! ### runs with a budget -/
section
variable {α β σ : Type}
theorem runs_b {N n : Nat} {q : Mt ST α} {k : α → Mt ST β} {Q : α → Prop} {R : β → Prop} (h : Runs n q Q) (hn : n ≤ N) (hk : ∀ a, Q a → Runs (N - n) (k a) R) : Runs N (mbind q k) R :=
  runs_le (runs_bind h hk) (by omega)
theorem runs_d {N : Nat} {m : Int} {k : Int → Mt ST β} {R : β → Prop} (h1 : 1 ≤ m) (h2 : m < 1073741824) (hn : 1 ≤ N) (hk : ∀ a, 0 ≤ a → a < m → Runs (N - 1) (k a) R) : Runs N (mbind (draw m) k) R :=
  runs_b (runs_draw h1 h2) hn fun a ha => hk a ha.1 ha.2
theorem runs_p {N : Nat} {a : α} {Q : α → Prop} (h : Q a) : Runs N (mpure a) Q := runs_le (runs_pure h) (Nat.zero_le _)
theorem runs_forL {N c : Nat} {body : α → σ → Mt ST σ} (I : List α → σ → Prop) {xs : List α} {z : σ} {k : σ → Mt ST β} {R : β → Prop} (h : I [] z) (hn : xs.length * c ≤ N) (hb : ∀ pre x post z, xs = pre ++ x :: post → I pre z → Runs c (body x z) (I (pre ++ [x]))) (hk : ∀ z, I xs z → Runs (N - xs.length * c) (k z) R) : Runs N (mbind (forU body xs z) k) R :=
  runs_b (runs_for I h hb) hn hk
/-- a loop with a leaving return that nothing reaches -/
theorem runs_fin {N c : Nat} {body : α → σ → Mt ST (Lp σ β)} (I : σ → Prop) {xs : List α} {z : σ} {k : σ → Mt ST β} {R : β → Prop} (h : I z) (hn : xs.length * c ≤ N) (hb : ∀ x ∈ xs, ∀ z, I z → Runs c (body x z) fun r => ∃ z', r = .nx z' ∧ I z') (hk : ∀ z, I z → Runs (N - xs.length * c) (k z) R) : Runs N (mfin (forX body xs z) k) R := by
  unfold mfin
  refine runs_b (runs_forX I xs z h hb) hn ?_
  rintro r ⟨z', rfl, hz⟩
  exact hk z' hz
theorem runs_finL {γ : Type} {N c : Nat} {body : α → σ → Mt ST (Lp σ β)} (I : σ → Prop) {xs : List α} {z : σ} {k : σ → Mt ST (Lp γ β)} {R : Lp γ β → Prop} (h : I z) (hn : xs.length * c ≤ N) (hb : ∀ x ∈ xs, ∀ z, I z → Runs c (body x z) fun r => ∃ z', r = .nx z' ∧ I z') (hk : ∀ z, I z → Runs (N - xs.length * c) (k z) R) : Runs N (mfinL (forX body xs z) k) R := by
  unfold mfinL
  refine runs_b (runs_forX I xs z h hb) hn ?_
  rintro r ⟨z', rfl, hz⟩
  exact hk z' hz
end
theorem mfin_bind {S β σ ω : Type} (q : Mt S ω) (l : ω → Mt S (σ ⊕ β)) (k : σ → Mt S β) : mfin (mbind q l) k = mbind q fun a => mfin (l a) k := by
  unfold mfin
  rw [mbind_assoc]
theorem mfinL_bind {S β σ τ ω : Type} (q : Mt S ω) (l : ω → Mt S (σ ⊕ β)) (k : σ → Mt S (Lp τ β)) : mfinL (mbind q l) k = mbind q fun a => mfinL (l a) k := by
  unfold mfinL
  rw [mbind_assoc]
theorem perm_erase {α : Type} : ∀ (l : List α) (i : Nat) (h : i < l.length), (l[i] :: l.eraseIdx i).Perm l
  | x :: l, 0, _ => List.Perm.refl _
  | x :: l, i + 1, h => (List.Perm.swap _ _ _).trans ((perm_erase l i (by simpa using h)).cons x)
theorem compG_id {S α : Type} {c : α → Mt S Bool} (p : α → Bool) {xs : List α} (hl : xs.length ≤ 100000) (hc : ∀ x ∈ xs, c x = mpure (p x)) : compG c (fun x => mpure x) xs = mpure (xs.filter p) := by
  have := compG_pure (f := fun x => mpure x) p id hl hc fun _ _ _ => rfl
  rw [List.map_id] at this
  exact this
/-! ### what holds whatever is chosen -/
def EndsR {S α : Type} (r : Rs S α) (Q : α → S → Prop) : Prop := match r with
  | .ok a s => Q a s
  | .amb P f => ∀ n, P n → EndsR (f n) Q
  | _ => False
theorem ends_bind {S α β : Type} {r : Rs S α} {k : α → Mt S β} {Q : α → S → Prop} {R : β → S → Prop} (h : EndsR r Q) (hk : ∀ a s, Q a s → EndsR (k a s) R) : EndsR (rbind r k) R := by
  induction r with
  | ok a s => exact hk a s h
  | exc x s => exact (h : False).elim
  | bad => exact (h : False).elim
  | amb P f ih => exact fun n p => ih n (h n p)
theorem ends_mono {S α : Type} {r : Rs S α} {Q R : α → S → Prop} (h : EndsR r Q) (hq : ∀ a s, Q a s → R a s) : EndsR r R := by
  induction r with
  | ok a s => exact hq a s h
  | exc x s => exact (h : False).elim
  | bad => exact (h : False).elim
  | amb P f ih => exact fun n p => ih n (h n p)
abbrev Hpo := Nat → Option MO
/-- from the heap m, with at most n draws -/
def RunH {α : Type} (n : Nat) (m : Hpo) (q : Mt ST α) (Q : α → Hpo → Prop) : Prop := ∀ s : ST, s.m = m → s.k + n ≤ 10000000 → EndsR (q s) fun a s' => s'.k ≤ s.k + n ∧ Q a s'.m
section
variable {α β σ : Type} {m : Hpo}
theorem rh_pure {N : Nat} {a : α} {Q : α → Hpo → Prop} (h : Q a m) : RunH N m (mpure a) Q := fun s e _ => ⟨Nat.le_add_right _ _, by rw [e]; exact h⟩
theorem rh_bind {n n' : Nat} {q : Mt ST α} {k : α → Mt ST β} {Q : α → Hpo → Prop} {R : β → Hpo → Prop} (h : RunH n m q Q) (hk : ∀ a m', Q a m' → RunH n' m' (k a) R) : RunH (n + n') m (mbind q k) R := fun s e hs => by
  refine ends_bind (h s e (by omega)) fun a s1 ⟨h1, ha⟩ => ?_
  exact ends_mono (hk a s1.m ha s1 rfl (by omega)) fun b s2 ⟨h2, hb⟩ => ⟨by omega, hb⟩
theorem rh_mono {n n' : Nat} {q : Mt ST α} {Q R : α → Hpo → Prop} (h : RunH n m q Q) (hn : n ≤ n') (hq : ∀ a m', Q a m' → R a m') : RunH n' m q R := fun s e hs => ends_mono (h s e (by omega)) fun a s1 ⟨h1, ha⟩ => ⟨by omega, hq a _ ha⟩
theorem rh_b {N n : Nat} {q : Mt ST α} {k : α → Mt ST β} {Q : α → Hpo → Prop} {R : β → Hpo → Prop} (h : RunH n m q Q) (hn : n ≤ N) (hk : ∀ a m', Q a m' → RunH (N - n) m' (k a) R) : RunH N m (mbind q k) R :=
  rh_mono (rh_bind h hk) (by omega) fun _ _ h => h
/-- what leaves the heap alone -/
theorem rh_r {n : Nat} {q : Mt ST α} {Q : α → Prop} (h : Runs n q Q) : RunH n m q fun a m' => m' = m ∧ Q a := fun s e hs => by
  obtain ⟨a, s', e1, ⟨h1, h2⟩, ha⟩ := h s hs
  rw [e1]
  exact ⟨h1, h2.trans e, ha⟩
theorem rh_rb {N n : Nat} {q : Mt ST α} {k : α → Mt ST β} {Q : α → Prop} {R : β → Hpo → Prop} (h : Runs n q Q) (hn : n ≤ N) (hk : ∀ a, Q a → RunH (N - n) m (k a) R) : RunH N m (mbind q k) R :=
  rh_b (rh_r h) hn fun a m' ⟨e, ha⟩ => by rw [e]; exact hk a ha
theorem rh_d {N : Nat} {b : Int} {k : Int → Mt ST β} {R : β → Hpo → Prop} (h1 : 1 ≤ b) (h2 : b < 1073741824) (hn : 1 ≤ N) (hk : ∀ a, 0 ≤ a → a < b → RunH (N - 1) m (k a) R) : RunH N m (mbind (draw b) k) R :=
  rh_rb (runs_draw h1 h2) hn fun a ha => hk a ha.1 ha.2
theorem rh_calm {n : Nat} {q : Mt ST α} {Q : α → Hpo → Prop} (h : RunH n m q Q) : RunH n m (calmly q) Q := fun s e hs => by
  have := h s e hs
  unfold calmly
  revert this
  generalize q s = r
  intro this
  induction r with
  | ok a s => exact this
  | exc x s => exact this
  | bad => exact this
  | amb P f ih => exact fun n p => ih n (this n p)
theorem rh_forU {c : Nat} {body : α → σ → Mt ST σ} (I : List α → σ → Hpo → Prop) (xs : List α) (hb : ∀ pre x post z m', xs = pre ++ x :: post → I pre z m' → RunH c m' (body x z) (I (pre ++ [x]))) :
    ∀ (post pre : List α) (z : σ) (m' : Hpo), xs = pre ++ post → I pre z m' → RunH (post.length * c) m' (forU body post z) (I xs)
  | [], pre, z, m', e, h => by
    rw [List.append_nil] at e
    subst e
    exact rh_pure h
  | x :: post, pre, z, m', e, h => by
    unfold forU
    refine rh_mono (rh_bind (hb pre x post z m' e h) fun z' m2 h' => rh_forU I xs hb post (pre ++ [x]) z' m2 (by rw [e]; simp) h') ?_ fun _ _ h => h
    rw [List.length_cons, Nat.succ_mul]
    omega
theorem rh_for {c : Nat} {body : α → σ → Mt ST σ} (I : List α → σ → Hpo → Prop) {xs : List α} {z : σ} (h : I [] z m) (hb : ∀ pre x post z m', xs = pre ++ x :: post → I pre z m' → RunH c m' (body x z) (I (pre ++ [x]))) : RunH (xs.length * c) m (forU body xs z) (I xs) := rh_forU I xs hb xs [] z m rfl h
theorem rh_forX {c : Nat} {body : α → σ → Mt ST (Lp σ β)} (I : List α → σ → Hpo → Prop) (xs : List α) (hb : ∀ pre x post z m', xs = pre ++ x :: post → I pre z m' → RunH c m' (body x z) fun r m2 => ∃ z', r = .nx z' ∧ I (pre ++ [x]) z' m2) :
    ∀ (post pre : List α) (z : σ) (m' : Hpo), xs = pre ++ post → I pre z m' → RunH (post.length * c) m' (forX body post z) fun r m2 => ∃ z', r = .inl z' ∧ I xs z' m2
  | [], pre, z, m', e, h => by
    rw [List.append_nil] at e
    subst e
    exact rh_pure ⟨z, rfl, h⟩
  | x :: post, pre, z, m', e, h => by
    unfold forX
    refine rh_mono (rh_bind (n' := post.length * c) (hb pre x post z m' e h) ?_) ?_ fun _ _ h => h
    · rintro r m2 ⟨z', rfl, h'⟩
      exact rh_forX I xs hb post (pre ++ [x]) z' m2 (by rw [e]; simp) h'
    · rw [List.length_cons, Nat.succ_mul]
      omega
theorem rh_fin {N c : Nat} {body : α → σ → Mt ST (Lp σ β)} (I : List α → σ → Hpo → Prop) {xs : List α} {z : σ} {k : σ → Mt ST β} {R : β → Hpo → Prop} (h : I [] z m) (hn : xs.length * c ≤ N) (hb : ∀ pre x post z m', xs = pre ++ x :: post → I pre z m' → RunH c m' (body x z) fun r m2 => ∃ z', r = .nx z' ∧ I (pre ++ [x]) z' m2) (hk : ∀ z m', I xs z m' → RunH (N - xs.length * c) m' (k z) R) : RunH N m (mfin (forX body xs z) k) R := by
  unfold mfin
  refine rh_b (rh_forX I xs hb xs [] z m rfl h) hn ?_
  rintro r m' ⟨z', rfl, hz⟩
  exact hk z' m' hz
theorem rh_finL {γ : Type} {N c : Nat} {body : α → σ → Mt ST (Lp σ β)} (I : List α → σ → Hpo → Prop) {xs : List α} {z : σ} {k : σ → Mt ST (Lp γ β)} {R : Lp γ β → Hpo → Prop} (h : I [] z m) (hn : xs.length * c ≤ N) (hb : ∀ pre x post z m', xs = pre ++ x :: post → I pre z m' → RunH c m' (body x z) fun r m2 => ∃ z', r = .nx z' ∧ I (pre ++ [x]) z' m2) (hk : ∀ z m', I xs z m' → RunH (N - xs.length * c) m' (k z) R) : RunH N m (mfinL (forX body xs z) k) R := by
  unfold mfinL
  refine rh_b (rh_forX I xs hb xs [] z m rfl h) hn ?_
  rintro r m' ⟨z', rfl, hz⟩
  exact hk z' m' hz
/-- what is told by its steps -/
theorem rh_at {N : Nat} {q : Mt ST α} {Q : α → Hpo → Prop} (h : ∀ d : Dk, EndsR (q ⟨d, m⟩) fun a s' => s'.dk = d ∧ Q a s'.m) : RunH N m q Q := fun s e hs => by
  have := h s.dk
  have es : (⟨s.dk, m⟩ : ST) = s := by rw [← e]
  rw [es] at this
  refine ends_mono this fun a s' ⟨h1, h2⟩ => ⟨?_, h2⟩
  have : s'.k = s.k := by unfold OS.k; rw [h1]
  omega
end
/-! ### the law's end -/
theorem has_nil {c e : List Int} {k : Nat} (g : GoodB c e) : HasO RDk (⟨⟨(c, e, k), g⟩, fun _ => none⟩ : ST) (dkB c e k []) := by
  refine ⟨rfl, rfl, fun l o e => (nomatch e), fun l n fs e => ?_, fun k' n fs f l e i => ?_⟩
  · match l, e with
    | 0, e => exact (nomatch Option.some.inj e)
    | 1, e => exact (nomatch Option.some.inj e)
    | l + 2, e => exact (nomatch e)
  · match k', e with
    | 0, e => exact (nomatch Option.some.inj e)
    | 1, e => exact (nomatch Option.some.inj e)
    | k' + 2, e => exact (nomatch e)
theorem rr_ends {α : Type} {fr : Sto} {enc : α → D} {r : Fl} {q : Rs ST α} {Q : α → ST → Prop} (h : RR (WO RDk) fr enc r q) (e : EndsR q Q) : ∃ b s' st', r = .ret (enc b) st' ∧ Q b s' := by
  induction q with
  | ok b s' =>
    obtain ⟨st', e1, _⟩ := h
    exact ⟨b, s', st', e1, e⟩
  | exc x s => exact (e : False).elim
  | bad => exact (e : False).elim
  | amb P f ih =>
    obtain ⟨n, p, h⟩ := h
    exact ih n h (e n p)
theorem law_end {c : Nat} {nN : Nat} {rest : Rho → Sto → Fl} {p : Mt ST Bool} (ht : TR (WO RDk) [] (.any :: .val (.ref 1) :: List.replicate nN .any) rest p eB) (hr : RunH c (fun _ => none) p fun b _ => b = true) (hc : c ≤ 10000000) (ns : List Int) (hl : ns.length ≤ 63) :
    ∃ st', fnD 1 (nN + 2) (sSeq (sAsg (gN 1) (mCall d__law_draws (mCons (mVar 0) mNil))) rest) [.scr (ns.map .int)] [] = .ok (.bl true) st' := by
  obtain ⟨cells, rests, g, e⟩ := draws_ok ns hl
  have hs := has_nil (k := 0) g
  have h1 := ht (⟨⟨(cells, rests, 0), g⟩, fun _ => none⟩ : ST) (some (.scr (ns.map .int)) :: some (.ref 1) :: List.replicate nN none) (dkB cells rests 0 []) ⟨by simp, ⟨hs, Nat.zero_le _, fun l hl => absurd hl (Nat.not_lt_zero l)⟩, fun i d h => ?_, fun i m h => ?_, fun i j m1 m2 h => ?_, fun i m h => ?_⟩
  · obtain ⟨b, s', st', e3, hb⟩ := rr_ends h1 (hr _ rfl (by show 0 + c ≤ _; omega))
    obtain rfl := hb.2
    have hm : sSeq (sAsg (gN 1) (mCall d__law_draws (mCons (mVar 0) mNil))) rest (rho0 (nN + 2) [.scr (ns.map .int)]) [] = .ret (.bl true) st' := by
      have er : rho0 (nN + 2) [.scr (ns.map .int)] = some (.scr (ns.map .int)) :: none :: List.replicate nN none := rfl
      rw [er]
      simp [mVar_ap, e]
      exact e3
    obtain ⟨st2, hc⟩ := clean_some [] (.bl true) st'
    refine ⟨st2, ?_⟩
    show clean [] (flOut (sSeq (sAsg (gN 1) (mCall d__law_draws (mCons (mVar 0) mNil))) rest (rho0 (nN + 2) [.scr (ns.map .int)]) [])) = _
    rw [hm, flOut_ret, hc]
  · match i, h with
    | 0, h => simp at h
    | 1, h => simp at h; subst h; rfl
    | i + 2, h =>
      rw [List.getElem?_cons_succ, List.getElem?_cons_succ, List.getElem?_replicate] at h
      split at h <;> cases h
  · match i, h with
    | 0, h => simp at h
    | 1, h => simp at h
    | i + 2, h =>
      rw [List.getElem?_cons_succ, List.getElem?_cons_succ, List.getElem?_replicate] at h
      split at h <;> cases h
  · match i, h with
    | 0, h => simp at h
    | 1, h => simp at h
    | i + 2, h =>
      rw [List.getElem?_cons_succ, List.getElem?_cons_succ, List.getElem?_replicate] at h
      split at h <;> cases h
  · match i, h with
    | 0, h => simp at h
    | 1, h => simp at h
    | i + 2, h =>
      rw [List.getElem?_cons_succ, List.getElem?_cons_succ, List.getElem?_replicate] at h
      split at h <;> cases h
/-! ### k18: words of rows -/
def wNew (pan : List (List Int)) (i : Int) (w : Str) (b : Int) : Str := if i = b then "on" else if i ∈ rowAt pan b then "off" else w
def wFrom (pan : List (List Int)) (w : Str) (row : List Int) (i : Int) : Str := row.foldl (wNew pan i) w
abbrev wAft (pan : List (List Int)) (row : List Int) (i : Int) : Str := wFrom pan "same" row i
/-- b concerns i -/
def Tch (pan : List (List Int)) (i b : Int) : Prop := i = b ∨ i ∈ rowAt pan b
def wOf (i z : Int) : Str := if i = z then "on" else "off"
theorem wNew_tch {pan : List (List Int)} {i b : Int} (w : Str) (h : Tch pan i b) : wNew pan i w b = wOf i b := by
  unfold wNew wOf
  by_cases e : i = b
  · rw [if_pos e, if_pos e]
  · rw [if_neg e, if_neg e, if_pos (h.resolve_left e)]
theorem wNew_not {pan : List (List Int)} {i b : Int} (w : Str) (h : ¬ Tch pan i b) : wNew pan i w b = w := by
  unfold wNew
  rw [if_neg fun e => h (.inl e), if_neg fun e => h (.inr e)]
theorem wFrom_not {pan : List (List Int)} {i : Int} : ∀ {row : List Int} (w : Str), (∀ b ∈ row, ¬ Tch pan i b) → wFrom pan w row i = w
  | [], w, _ => rfl
  | b :: row, w, h => by
    show wFrom pan (wNew pan i w b) row i = w
    rw [wNew_not w (h b (by simp)), wFrom_not w fun c hc => h c (by simp [hc])]
theorem wFrom_app (pan : List (List Int)) (w : Str) (r1 r2 : List Int) (i : Int) : wFrom pan w (r1 ++ r2) i = wFrom pan (wFrom pan w r1 i) r2 i := by
  unfold wFrom
  rw [List.foldl_append]
theorem wFrom_at {pan : List (List Int)} {i : Int} {p q : List Int} {z : Int} (w : Str) (hz : Tch pan i z) (hq : ∀ b ∈ q, ¬ Tch pan i b) : wFrom pan w (p ++ z :: q) i = wOf i z := by
  rw [wFrom_app]
  show wFrom pan (wNew pan i _ z) q i = _
  rw [wNew_tch _ hz, wFrom_not _ hq]
/-- the last button of a row that concerns i -/
theorem last_tch (pan : List (List Int)) (i : Int) : ∀ row : List Int, (∀ b ∈ row, ¬ Tch pan i b) ∨ ∃ p z q, row = p ++ z :: q ∧ Tch pan i z ∧ ∀ b ∈ q, ¬ Tch pan i b
  | [] => .inl fun _ h => nomatch h
  | b :: row => by
    rcases last_tch pan i row with h | ⟨p, z, q, e, hz, hq⟩
    · by_cases hb : Tch pan i b
      · exact .inr ⟨[], b, row, rfl, hb, h⟩
      · refine .inl fun c hc => ?_
        rcases List.mem_cons.mp hc with rfl | hc
        · exact hb
        · exact h c hc
    · exact .inr ⟨b :: p, z, q, by rw [e]; rfl, hz, hq⟩
theorem wOf_ne (i z : Int) : wOf i z ≠ "same" := by
  unfold wOf
  split <;> decide
theorem same_iff {pan : List (List Int)} {row : List Int} {i : Int} : wAft pan row i = "same" ↔ ∀ b ∈ row, ¬ Tch pan i b := by
  rcases last_tch pan i row with h | ⟨p, z, q, e, hz, hq⟩
  · exact ⟨fun _ => h, fun _ => wFrom_not _ h⟩
  · have : wAft pan row i = wOf i z := by rw [e]; exact wFrom_at _ hz hq
    rw [this]
    exact ⟨fun h => absurd h (wOf_ne i z), fun h => absurd hz (h z (by rw [e]; simp))⟩
theorem wFrom_any {pan : List (List Int)} {row : List Int} {i : Int} (w : Str) : wFrom pan w row i = if wAft pan row i = "same" then w else wAft pan row i := by
  rcases last_tch pan i row with h | ⟨p, z, q, e, hz, hq⟩
  · rw [if_pos (same_iff.mpr h), wFrom_not w h]
  · have h1 : ∀ w, wFrom pan w row i = wOf i z := fun w => by rw [e]; exact wFrom_at w hz hq
    rw [h1 w, wAft, h1, if_neg (wOf_ne i z)]
theorem wAft_app (pan : List (List Int)) (r1 r2 : List Int) (i : Int) : wAft pan (r1 ++ r2) i = if wAft pan r2 i = "same" then wAft pan r1 i else wAft pan r2 i := by
  rw [wAft, wFrom_app, wFrom_any]
theorem wAft_twice (pan : List (List Int)) (r : List Int) (i : Int) : wAft pan (r ++ r) i = wAft pan r i := by
  rw [wAft_app]
  split <;> rfl
def plain : List Int → List Int
  | [] => []
  | b :: r => if b ∈ r then plain r else b :: plain r
theorem wFrom_eq {pan : List (List Int)} {row : List Int} {i b : Int} (w w' : Str) (hb : b ∈ row) (h : Tch pan i b) : wFrom pan w row i = wFrom pan w' row i := by
  have : ¬ wAft pan row i = "same" := fun q => same_iff.mp q b hb h
  rw [wFrom_any w, wFrom_any w', if_neg this, if_neg this]
theorem wFrom_plain (pan : List (List Int)) (i : Int) : ∀ (row : List Int) (w : Str), wFrom pan w (plain row) i = wFrom pan w row i
  | [], w => rfl
  | b :: row, w => by
    unfold plain
    split
    · rename_i hb
      rw [wFrom_plain pan i row w]
      show _ = wFrom pan (wNew pan i w b) row i
      by_cases h : Tch pan i b
      · exact wFrom_eq _ _ hb h
      · rw [wNew_not w h]
    · show wFrom pan (wNew pan i w b) (plain row) i = wFrom pan (wNew pan i w b) row i
      exact wFrom_plain pan i row _
theorem on_iff {pan : List (List Int)} {row : List Int} {i : Int} : wAft pan row i = "on" ↔ ∃ p q, row = p ++ i :: q ∧ ∀ b ∈ q, ¬ Tch pan i b := by
  constructor
  · intro h
    rcases last_tch pan i row with h2 | ⟨p, z, q, e, hz, hq⟩
    · rw [wAft, wFrom_not _ h2] at h
      exact absurd h (by decide)
    · rw [e, wAft, wFrom_at _ hz hq] at h
      unfold wOf at h
      split at h
      · rename_i hi
        subst hi
        exact ⟨p, q, e, hq⟩
      · exact absurd h (by decide)
  · rintro ⟨p, q, e, hq⟩
    rw [e, wAft, wFrom_at _ (.inl rfl) hq]
    unfold wOf
    rw [if_pos rfl]
theorem off_iff {pan : List (List Int)} {row : List Int} {i : Int} : wAft pan row i = "off" ↔ ∃ p z q, row = p ++ z :: q ∧ i ≠ z ∧ i ∈ rowAt pan z ∧ ∀ b ∈ q, ¬ Tch pan i b := by
  constructor
  · intro h
    rcases last_tch pan i row with h2 | ⟨p, z, q, e, hz, hq⟩
    · rw [wAft, wFrom_not _ h2] at h
      exact absurd h (by decide)
    · rw [e, wAft, wFrom_at _ hz hq] at h
      unfold wOf at h
      split at h
      · exact absurd h (by decide)
      · rename_i hi
        exact ⟨p, z, q, e, hi, hz.resolve_left hi, hq⟩
  · rintro ⟨p, z, q, e, hi, hz, hq⟩
    rw [e, wAft, wFrom_at _ (.inr hz) hq]
    unfold wOf
    rw [if_neg hi]
theorem word_cases (pan : List (List Int)) (row : List Int) (i : Int) : wAft pan row i = "on" ∨ wAft pan row i = "off" ∨ wAft pan row i = "same" := by
  rcases last_tch pan i row with h2 | ⟨p, z, q, e, hz, hq⟩
  · exact .inr (.inr (wFrom_not _ h2))
  · rw [e, wAft, wFrom_at _ hz hq]
    unfold wOf
    split
    · exact .inl rfl
    · exact .inr (.inl rfl)
/-! the law's part: presses that lead to the words of a row -/
structure Words (pan : List (List Int)) (R : List Int) (order helpers : List Int) : Prop where
  on : ∀ i, i ∈ order → wAft pan R i = "on"
  all : ∀ i, wAft pan R i = "on" → i ∈ order
  ndo : order.Nodup
  seq : ∀ p x q, order = p ++ x :: q → ∀ y ∈ q, x ∉ rowAt pan y
  off : ∀ i, i ∈ helpers → wAft pan R i = "off"
  ndh : helpers.Nodup
  fro : ∀ b, b ∈ order ++ helpers → ∀ i, Tch pan i b → wAft pan R i ≠ "same"
  rel : ∀ i, wAft pan R i = "off" → ∃ z, i ∈ rowAt pan z ∧ (z ∈ order ∨ ∃ p q, helpers = p ++ z :: q ∧ i ∉ p)
/-- the row helpers backwards, then order, has the words of R -/
theorem words_row {pan : List (List Int)} {R order helpers : List Int} (h : Words pan R order helpers) (hself : ∀ i z, i ∈ rowAt pan z → i ≠ z) (i : Int) : wAft pan (helpers.reverse ++ order) i = wAft pan R i := by
  rcases word_cases pan R i with hw | hw | hw
  · rw [hw, on_iff]
    obtain ⟨p, q, e⟩ := List.append_of_mem (h.all i hw)
    refine ⟨helpers.reverse ++ p, q, by rw [e, List.append_assoc], fun b hb ht => ?_⟩
    rcases ht with rfl | ht
    · have := h.ndo
      rw [e, List.nodup_append] at this
      exact (List.nodup_cons.mp this.2.1).1 hb
    · exact h.seq p i q e b hb ht
  · -- released behind its press
    rw [hw]
    have hno : i ∉ order := fun hm => by
      rw [h.on i hm] at hw
      exact absurd hw (by decide)
    obtain ⟨z, hz, hzo⟩ := h.rel i hw
    have key : ∃ p q, helpers.reverse ++ order = p ++ z :: q ∧ i ∉ q := by
      rcases hzo with hzo | ⟨p, q, e, hip⟩
      · obtain ⟨p, q, e⟩ := List.append_of_mem hzo
        exact ⟨helpers.reverse ++ p, q, by rw [e, List.append_assoc], fun hm => hno (by rw [e]; simp [hm])⟩
      · refine ⟨q.reverse, p.reverse ++ order, by rw [e]; simp, fun hm => ?_⟩
        rcases List.mem_append.mp hm with hm | hm
        · exact hip (List.mem_reverse.mp hm)
        · exact hno hm
    obtain ⟨p, q, e, hiq⟩ := key
    rcases word_cases pan (helpers.reverse ++ order) i with hx | hx | hx
    · obtain ⟨p', q', e', hq'⟩ := on_iff.mp hx
      exfalso
      have hlen : p.length < p'.length ∨ p.length = p'.length ∨ p'.length < p.length := by omega
      rw [e] at e'
      rcases hlen with hl | hl | hl
      · have h1 : (p ++ z :: q)[p'.length]? = some i := by rw [e']; simp
        rw [List.getElem?_append_right (by omega)] at h1
        obtain ⟨k, hk⟩ : ∃ k, p'.length - p.length = k + 1 := ⟨p'.length - p.length - 1, by omega⟩
        rw [hk, List.getElem?_cons_succ] at h1
        exact hiq (List.mem_of_getElem? h1)
      · have h1 : (p ++ z :: q)[p.length]? = some z := by simp
        rw [e', hl] at h1
        simp at h1
        exact hself i z hz h1
      · have h1 : (p' ++ i :: q')[p.length]? = some z := by rw [← e']; simp
        rw [List.getElem?_append_right (by omega)] at h1
        obtain ⟨k, hk⟩ : ∃ k, p.length - p'.length = k + 1 := ⟨p.length - p'.length - 1, by omega⟩
        rw [hk, List.getElem?_cons_succ] at h1
        exact hq' z (List.mem_of_getElem? h1) (.inr hz)
    · exact hx
    · exact absurd (.inr hz) (same_iff.mp hx z (by rw [e]; simp))
  · rw [hw]
    refine same_iff.mpr fun b hb ht => h.fro b ?_ i ht hw
    rcases List.mem_append.mp hb with hb | hb
    · exact List.mem_append.mpr (.inr (List.mem_reverse.mp hb))
    · exact List.mem_append.mpr (.inl hb)

/-! ### the search of row_for -/
section
variable {pan : List (List Int)} (hself : ∀ i z, i ∈ rowAt pan z → i ≠ z)
theorem on_mem {R : List Int} {i : Int} (h : wAft pan R i = "on") : i ∈ R := by
  obtain ⟨p, q, e, _⟩ := on_iff.mp h
  rw [e]
  simp
include hself in
theorem first_on (R : List Int) : ∀ left : List Int, left ≠ [] → (∀ x ∈ left, wAft pan R x = "on") → ∃ x ∈ left, ∀ y ∈ left, x ∉ rowAt pan y := by
  induction R with
  | nil =>
    intro left hne h
    cases left with
    | nil => exact absurd rfl hne
    | cons a l => exact absurd (h a (by simp)) (by show ¬ ("same" : Str) = "on"; decide)
  | cons b R ih =>
    intro left hne h
    by_cases hall : ∀ x ∈ left, wAft pan R x = "on"
    · exact ih left hne hall
    · obtain ⟨x, hx⟩ := Classical.not_forall.mp hall
      obtain ⟨hxl, hx⟩ := Classical.not_imp.mp hx
      have h1 := h x hxl
      have h2 : wFrom pan (wNew pan x "same" b) R x = "on" := h1
      rw [wFrom_any] at h2
      split at h2
      · rename_i hs
        have hb : x = b := by
          unfold wNew at h2
          by_cases e : x = b
          · exact e
          · rw [if_neg e] at h2
            split at h2 <;> exact absurd h2 (by decide)
        refine ⟨x, hxl, fun y hy ht => ?_⟩
        have h3 := on_mem (h y hy)
        rcases List.mem_cons.mp h3 with h4 | h4
        · exact hself x y ht (by rw [h4, hb])
        · exact same_iff.mp hs y h4 (.inr ht)
      · exact absurd h2 hx
/-- the state of `ordered` -/
structure OInv (pan : List (List Int)) (L order left : List Int) : Prop where
  perm : (order ++ left).Perm L
  seq : ∀ p x q, order = p ++ x :: q → ∀ y ∈ q, x ∉ rowAt pan y
  fwd : ∀ x ∈ order, ∀ y ∈ left, x ∉ rowAt pan y
theorem OInv.step {L order left : List Int} (h : OInv pan L order left) {f : Int} (hf : f ∈ left) (hr : ∀ y ∈ left, f ∉ rowAt pan y) : OInv pan L (order ++ [f]) (left.erase f) where
  perm := by
    rw [List.append_assoc, List.singleton_append]
    exact ((List.perm_cons_erase hf).symm.append_left order).trans h.perm
  seq p x q e y hy := by
    rcases List.eq_nil_or_concat q with rfl | ⟨q', l, rfl⟩
    · exact nomatch hy
    · rw [List.concat_eq_append] at e hy
      have e2 : order ++ [f] = (p ++ x :: q') ++ [l] := by rw [e]; simp
      have e3 := List.append_inj' e2 rfl
      have hl : f = l := by simpa using e3.2
      rcases List.mem_append.mp hy with hy | hy
      · exact h.seq p x q' e3.1 y hy
      · rw [List.mem_singleton.mp hy, ← hl]
        exact h.fwd x (by rw [e3.1]; simp) f hf
  fwd x hx y hy := by
    have hy := List.mem_of_mem_erase hy
    rcases List.mem_append.mp hx with hx | hx
    · exact h.fwd x hx y hy
    · rw [List.mem_singleton.mp hx]
      exact hr y hy
/-- the state of `gather` -/
structure GInv (pan : List (List Int)) (R order : List Int) (free : Int → Prop) (done waiting gathered helpers : List Int) : Prop where
  off : ∀ i ∈ gathered, wAft pan R i = "off"
  nd : gathered.Nodup
  hel : ∀ i, i ∈ helpers ↔ i ∈ gathered ∧ free i
  ndh : helpers.Nodup
  split : order ++ helpers = done ++ waiting
  rel : ∀ i ∈ gathered, ∃ z, i ∈ rowAt pan z ∧ (z ∈ order ∨ ∃ p q, helpers = p ++ z :: q ∧ i ∉ p)
  clo : ∀ z ∈ done, ∀ y ∈ rowAt pan z, wAft pan R y = "off" → y ∈ gathered
theorem GInv.start {R order : List Int} {free : Int → Prop} : GInv pan R order free [] order [] [] :=
  ⟨fun _ h => (nomatch h), List.nodup_nil, fun i => by simp, List.nodup_nil, by simp, fun _ h => (nomatch h), fun _ h => (nomatch h)⟩
theorem GInv.step {R order done waiting gathered helpers : List Int} {free : Int → Bool} {b : Int} (h : GInv pan R order (fun i => free i = true) done (b :: waiting) gathered helpers) (hn : (rowAt pan b).Nodup) {new : List Int} (e : new = (rowAt pan b).filter fun i => decide (wAft pan R i = "off") && !decide (i ∈ gathered)) :
    GInv pan R order (fun i => free i = true) (done ++ [b]) (waiting ++ new.filter free) (gathered ++ new) (helpers ++ new.filter free) := by
  have hnew : ∀ i, i ∈ new ↔ i ∈ rowAt pan b ∧ wAft pan R i = "off" ∧ i ∉ gathered := fun i => by
    rw [e]
    simp
  have hnn : new.Nodup := by rw [e]; exact hn.sublist List.filter_sublist
  refine ⟨fun i hi => ?_, ?_, fun i => ?_, ?_, ?_, fun i hi => ?_, fun z hz y hy hw => ?_⟩
  · rcases List.mem_append.mp hi with hi | hi
    · exact h.off i hi
    · exact ((hnew i).mp hi).2.1
  · rw [List.nodup_append]
    exact ⟨h.nd, hnn, fun a ha c hc q => ((hnew c).mp hc).2.2 (by rw [← q]; exact ha)⟩
  · rw [List.mem_append, List.mem_append, List.mem_filter, h.hel i]
    constructor
    · rintro (⟨h1, h2⟩ | ⟨h1, h2⟩)
      · exact ⟨.inl h1, h2⟩
      · exact ⟨.inr h1, h2⟩
    · rintro ⟨h1 | h1, h2⟩
      · exact .inl ⟨h1, h2⟩
      · exact .inr ⟨h1, h2⟩
  · rw [List.nodup_append]
    exact ⟨h.ndh, hnn.sublist List.filter_sublist, fun a ha c hc q => ((hnew c).mp (List.mem_filter.mp hc).1).2.2 (by rw [← q]; exact ((h.hel a).mp ha).1)⟩
  · rw [← List.append_assoc, h.split]
    simp
  · rcases List.mem_append.mp hi with hi | hi
    · obtain ⟨z, hz, hzo⟩ := h.rel i hi
      refine ⟨z, hz, ?_⟩
      rcases hzo with hzo | ⟨p, q, e2, hip⟩
      · exact .inl hzo
      · exact .inr ⟨p, q ++ new.filter free, by rw [e2]; simp, hip⟩
    · have hi2 := (hnew i).mp hi
      refine ⟨b, hi2.1, ?_⟩
      have hb : b ∈ order ++ helpers := by rw [h.split]; simp
      rcases List.mem_append.mp hb with hb | hb
      · exact .inl hb
      · obtain ⟨p, q, e2⟩ := List.append_of_mem hb
        refine .inr ⟨p, q ++ new.filter free, by rw [e2]; simp, fun hm => ?_⟩
        exact hi2.2.2 ((h.hel i).mp (by rw [e2]; simp [hm])).1
  · rcases List.mem_append.mp hz with hz | hz
    · exact List.mem_append.mpr (.inl (h.clo z hz y hy hw))
    · rw [List.mem_singleton.mp hz] at hy
      by_cases hg : y ∈ gathered
      · exact List.mem_append.mpr (.inl hg)
      · exact List.mem_append.mpr (.inr ((hnew y).mpr ⟨hy, hw, hg⟩))
include hself in
/-- at the end all that is off is gathered -/
theorem GInv.all {R order done gathered helpers : List Int} {free : Int → Prop} (h : GInv pan R order free done [] gathered helpers) (ho : ∀ i, wAft pan R i = "on" → i ∈ order) (hf : ∀ b ∈ R, free b) :
    ∀ (n : Nat) (y : Int) p z q, q.length ≤ n → R = p ++ z :: q → y ∈ rowAt pan z → (∀ b ∈ q, ¬ Tch pan y b) → y ∈ gathered := by
  have hsp := h.split
  rw [List.append_nil] at hsp
  intro n
  induction n with
  | zero =>
    intro y p z q hq e hy hu
    have hq : q = [] := List.length_eq_zero_iff.mp (by omega)
    subst hq
    have hw : wAft pan R y = "off" := off_iff.mpr ⟨p, z, [], e, hself y z hy, hy, hu⟩
    have hz : wAft pan R z = "on" := on_iff.mpr ⟨p, [], e, fun _ h => nomatch h⟩
    exact h.clo z (by rw [← hsp]; exact List.mem_append.mpr (.inl (ho z hz))) y hy hw
  | succ n ih =>
    intro y p z q hq e hy hu
    have hw : wAft pan R y = "off" := off_iff.mpr ⟨p, z, q, e, hself y z hy, hy, hu⟩
    rcases last_tch pan z q with h2 | ⟨p2, z2, q2, e2, ht, hu2⟩
    · have hz : wAft pan R z = "on" := on_iff.mpr ⟨p, q, e, h2⟩
      exact h.clo z (by rw [← hsp]; exact List.mem_append.mpr (.inl (ho z hz))) y hy hw
    · have e3 : R = (p ++ z :: p2) ++ z2 :: q2 := by rw [e, e2]; simp
      rcases ht with rfl | ht
      · have hz : wAft pan R z = "on" := on_iff.mpr ⟨_, q2, e3, hu2⟩
        exact h.clo z (by rw [← hsp]; exact List.mem_append.mpr (.inl (ho z hz))) y hy hw
      · have hlen : q2.length ≤ n := by
          have := congrArg List.length e2
          rw [List.length_append, List.length_cons] at this
          omega
        have hg := ih z (p ++ z :: p2) z2 q2 hlen e3 ht hu2
        have hh : z ∈ helpers := (h.hel z).mpr ⟨hg, hf z (by rw [e]; simp)⟩
        exact h.clo z (by rw [← hsp]; exact List.mem_append.mpr (.inr hh)) y hy hw
include hself in
theorem words_of {R L order helpers gathered done : List Int} {free : Int → Prop} (hO : OInv pan L order []) (hL : ∀ i, i ∈ L ↔ wAft pan R i = "on") (hLn : L.Nodup) (hG : GInv pan R order free done [] gathered helpers) (hf : ∀ b ∈ R, free b) (hfree : ∀ b, free b → ∀ i, Tch pan i b → wAft pan R i ≠ "same") : Words pan R order helpers ∧ ∀ i, i ∈ gathered ↔ wAft pan R i = "off" := by
  have hp := hO.perm
  rw [List.append_nil] at hp
  have hall : ∀ i, wAft pan R i = "on" → i ∈ order := fun i hi => hp.mem_iff.mpr ((hL i).mpr hi)
  have hon : ∀ i, i ∈ order → wAft pan R i = "on" := fun i hi => (hL i).mp (hp.mem_iff.mp hi)
  have hgath : ∀ i, i ∈ gathered ↔ wAft pan R i = "off" := fun i => ⟨hG.off i, fun hw => by
    obtain ⟨p, z, q, e, _, hz, hu⟩ := off_iff.mp hw
    exact hG.all hself hall hf q.length i p z q (Nat.le_refl _) e hz hu⟩
  exact ⟨⟨hon, hall, hp.nodup_iff.mpr hLn, hO.seq, fun i hi => hG.off i ((hG.hel i).mp hi).1, hG.ndh, fun b hb i ht => by
    rcases List.mem_append.mp hb with hb | hb
    · exact hfree b (hf b (on_mem (hon b hb))) i ht
    · exact hfree b ((hG.hel b).mp hb).2 i ht, fun i hi => hG.rel i ((hgath i).mpr hi)⟩, hgath⟩
end
/-! ### k18: what is drawn -/
/-- a panel of ascending lists without the own button -/
structure PanN (pan : List (List Int)) : Prop extends Pan 10 pan where
  self : ∀ (i : Nat) r, pan[i]? = some r → (i : Int) ∉ r
  nd : ∀ r ∈ pan, r.Nodup
theorem rowAt_or (pan : List (List Int)) (z : Int) : rowAt pan z = [] ∨ rowAt pan z ∈ pan := by
  unfold rowAt
  rw [List.getD_eq_getElem?_getD]
  cases h : pan[z.toNat]? with
  | none => exact .inl rfl
  | some r => exact .inr (List.mem_of_getElem? h)
theorem PanN.hself {pan : List (List Int)} (h : PanN pan) (i z : Int) (hi : i ∈ rowAt pan z) : i ≠ z := by
  rintro rfl
  rcases rowAt_or pan i with e | hm
  · rw [e] at hi; exact nomatch hi
  · have hr := h.rng _ hm i hi
    have hl : i.toNat < pan.length := by omega
    have := h.self i.toNat pan[i.toNat] (List.getElem?_eq_getElem hl)
    unfold rowAt at hi
    rw [List.getD_eq_getElem?_getD, List.getElem?_eq_getElem hl] at hi
    rw [show ((i.toNat : Nat) : Int) = i by omega] at this
    exact this hi
theorem PanN.rnd {pan : List (List Int)} (h : PanN pan) (z : Int) : (rowAt pan z).Nodup := by
  rcases rowAt_or pan z with e | hm
  · rw [e]; exact List.nodup_nil
  · exact h.nd _ hm
theorem upto_split {n : Nat} {pre post : List Int} {b : Int} (e : upto n = pre ++ b :: post) : b = (pre.length : Int) ∧ pre.length < n := by
  have h : (upto n)[pre.length]? = some b := by rw [e]; simp
  rw [upto_get] at h
  split at h
  · exact ⟨(Option.some.inj h).symm, by assumption⟩
  · cases h
theorem panel_runs {M : Int} (hM1 : 1 ≤ M) (hM2 : M ≤ 10) : Runs 103 (p__law_panel M) fun pan => PanN pan ∧ (pan.length : Int) ≤ M := by
  unfold p__law_panel
  simp only [mbind_assoc, mbind_pure]
  refine runs_d (by omega) (by omega) (by omega) fun x hx1 hx2 => ?_
  refine runs_d (by omega) (by omega) (by omega) fun o ho1 ho2 => ?_
  obtain ⟨n, hn1, hn2, e0⟩ : ∃ n : Nat, 1 ≤ n ∧ (n : Int) ≤ M ∧ midx (S := ST) [1 + x, M] (b2z (decide (o = 0))) = mpure (n : Int) := by
    by_cases h : o = 0
    · refine ⟨M.toNat, by omega, by omega, ?_⟩
      have e1 : ((M.toNat : Nat) : Int) = M := by omega
      rw [e1, decide_eq_true h] <;> rfl
    · refine ⟨(1 + x).toNat, by omega, by omega, ?_⟩
      have e1 : (((1 + x).toNat : Nat) : Int) = 1 + x := by omega
      rw [e1, decide_eq_false h] <;> rfl
  rw [e0, mbind_pure]
  refine runs_d (by omega) (by omega) (by omega) fun sh hs1 hs2 => ?_
  rw [mrng_nat n (by omega)]
  simp only [mbind_pure, mbind_ret]
  refine runs_mono (runs_for (c := 10) (fun pre (pan : List (List Int)) => pan.length = pre.length ∧ (∀ r ∈ pan, r.length ≤ 10 ∧ Bel n r ∧ r.Nodup) ∧ ∀ (i : Nat) r, pan[i]? = some r → (i : Int) ∉ r) ⟨rfl, fun _ h => (nomatch h), fun i r h => by simp at h⟩ (fun pre b post pan e hI => ?_)) (by rw [upto_length]; omega) fun pan hI => ?_
  · have hsp := upto_split e
    have hpl := hsp.2
    rw [compV_ok (by rw [upto_length]; omega), mbind_pure, List.map_id']
    have hfl : ((upto n).filter fun v => !decide (v = b)).length ≤ 10 := Nat.le_trans (List.length_filter_le _ _) (by rw [upto_length]; omega)
    refine runs_b (n := 10) (Q := fun ys => (ys.length ≤ 10 ∧ Bel n ys ∧ ys.Nodup) ∧ b ∉ ys) (runs_calm (runs_mono (runs_sub (c := 1) (by omega) fun y hy => ?_) (by omega) ?_)) (by omega) fun own ho => ?_
    · exact runs_d (by omega) (by omega) (by omega) fun a _ _ => runs_p trivial
    · intro ys hys
      have hl := hys.length_le
      refine ⟨⟨by omega, fun a ha => mem_upto.mp (List.mem_filter.mp (hys.subset ha)).1, (((nodup_upto n).sublist List.filter_sublist).sublist hys)⟩, fun hm => ?_⟩
      have := (List.mem_filter.mp (hys.subset hm)).2
      simp at this
    · rw [mapp_ok (by omega)]
      refine runs_p ⟨by simp [hI.1], fun r hr => ?_, fun i r hr => ?_⟩
      · rcases List.mem_append.mp hr with h | h
        · exact hI.2.1 r h
        · rw [List.mem_singleton.mp h]
          exact ho.1
      · by_cases hi : i < pan.length
        · rw [List.getElem?_append_left hi] at hr
          exact hI.2.2 i r hr
        · rw [List.getElem?_append_right (by omega)] at hr
          have hi2 : i - pan.length = 0 := by
            apply Classical.byContradiction
            intro hne
            rw [List.getElem?_eq_none (by simp; omega)] at hr
            cases hr
          rw [hi2] at hr
          cases hr
          have : (i : Int) = b := by rw [hsp.1]; omega
          rw [this]
          exact ho.2
  · rw [upto_length] at hI
    refine ⟨{ pos := by omega, le := by omega, len := fun r hr => (hI.2.1 r hr).1, rng := fun r hr => ?_, self := hI.2.2, nd := fun r hr => (hI.2.1 r hr).2.2 }, by omega⟩
    rw [hI.1]
    exact (hI.2.1 r hr).2.1
def eff (pan : List (List Int)) (row : List Int) : List Str := (upto pan.length).map (wAft pan row)
theorem eff_len (pan : List (List Int)) (row : List Int) : (eff pan row).length = pan.length := by
  unfold eff
  rw [List.length_map, upto_length]
theorem sel_ok (n : Nat) (w : Int → Str) (p : Str → Bool) : (((upto n).map fun i => (i, w i)).filter fun x => p x.2).map (fun x => x.1) = (upto n).filter fun i => p (w i) := by
  rw [List.filter_map, List.map_map]
  show ((upto n).filter fun i => p (w i)).map (fun i => i) = _
  rw [List.map_id']
theorem row_bel {pan : List (List Int)} (h : PanN pan) {i z : Int} (hi : i ∈ rowAt pan z) : 0 ≤ i ∧ i < (pan.length : Int) := by
  rcases rowAt_or pan z with e | hm
  · rw [e] at hi; exact nomatch hi
  · exact h.rng _ hm i hi
theorem nodup_bel {n : Nat} {l : List Int} (hn : l.Nodup) (h : Bel n l) : l.length ≤ n := by
  have := nodup_len_sub hn (m := upto n) fun a ha => mem_upto.mpr (h a ha)
  rwa [upto_length] at this
def wordsW (n : Nat) (w : Int → Str) : List Str := (upto n).map w
theorem wordsW_len (n : Nat) (w : Int → Str) : (wordsW n w).length = n := by
  unfold wordsW
  rw [List.length_map, upto_length]
theorem wordsW_at {T : Type} {n : Nat} (w : Int → Str) {i : Int} (h : 0 ≤ i ∧ i < (n : Int)) : midx (S := T) (wordsW n w) i = mpure (w i) := by
  refine midx_ok h.1 ?_
  unfold wordsW
  rw [List.getElem?_map, upto_get, if_pos (by omega), Option.map_some, Int.toNat_of_nonneg h.1]
/-! ### ascending rows -/
theorem nodup_len_gen {α : Type} [BEq α] [LawfulBEq α] {l m : List α} (hn : l.Nodup) : (∀ a ∈ l, a ∈ m) → l.length ≤ m.length := by
  induction l generalizing m with
  | nil => intro _; exact Nat.zero_le _
  | cons a l ih =>
    intro h
    have h1 := ih (m := m.erase a) (List.nodup_cons.mp hn).2 fun b hb => (List.mem_erase_of_ne (fun q => (List.nodup_cons.mp hn).1 (by rw [← q]; exact hb))).mpr (h b (by simp [hb]))
    have h2 : a ∈ m := h a (by simp)
    rw [List.length_erase_of_mem h2] at h1
    have := List.length_pos_of_mem h2
    rw [List.length_cons]
    omega
def subs {α : Type} : List α → List (List α)
  | [] => [[]]
  | x :: xs => subs xs ++ (subs xs).map (x :: ·)
theorem subs_len {α : Type} : ∀ xs : List α, (subs xs).length = 2 ^ xs.length
  | [] => rfl
  | x :: xs => by
    unfold subs
    rw [List.length_append, List.length_map, subs_len xs, List.length_cons, Nat.pow_succ]
    omega
theorem mem_subs {α : Type} {r xs : List α} (h : r.Sublist xs) : r ∈ subs xs := by
  induction h with
  | slnil => simp [subs]
  | cons x _ ih =>
    unfold subs
    exact List.mem_append.mpr (.inl ih)
  | cons_cons x _ ih =>
    unfold subs
    exact List.mem_append.mpr (.inr (List.mem_map.mpr ⟨_, ih, rfl⟩))
theorem sub_of_sorted : ∀ {L r : List Int}, r.Pairwise (· < ·) → L.Pairwise (· < ·) → (∀ a ∈ r, a ∈ L) → r.Sublist L
  | L, [], _, _, _ => List.nil_sublist L
  | [], a :: r, _, _, h => nomatch h a (by simp)
  | b :: L, a :: r, hr, hL, h => by
    have hr' := List.pairwise_cons.mp hr
    have hL' := List.pairwise_cons.mp hL
    by_cases e : a = b
    · subst e
      refine List.Sublist.cons_cons a (sub_of_sorted hr'.2 hL'.2 fun c hc => ?_)
      rcases List.mem_cons.mp (h c (by simp [hc])) with q | q
      · have := hr'.1 c hc
        omega
      · exact q
    · refine List.Sublist.cons b (sub_of_sorted hr hL'.2 fun c hc => ?_)
      have ha : a ∈ L := (List.mem_cons.mp (h a (by simp))).resolve_left e
      have hab := hL'.1 a ha
      rcases List.mem_cons.mp (h c hc) with q | q
      · rcases List.mem_cons.mp hc with q2 | q2
        · omega
        · have := hr'.1 c q2
          omega
      · exact q
/-- a state: ascending numbers below n -/
def Stt (n : Nat) (r : List Int) : Prop := r.length ≤ 10 ∧ Bel n r ∧ r.Pairwise (· < ·)
theorem stt_sub {n : Nat} (hn : n ≤ 10) {r : List Int} (h : r.Sublist (upto n)) : Stt n r := by
  have := h.length_le
  rw [upto_length] at this
  exact ⟨by omega, fun a ha => mem_upto.mp (h.subset ha), (sorted_upto n).sublist h⟩
theorem stt_mem {n : Nat} {r : List Int} (h : Stt n r) : r ∈ subs (upto n) := mem_subs (sub_of_sorted h.2.2 (sorted_upto n) fun a ha => mem_upto.mpr (h.2.1 a ha))
theorem stts_len {n : Nat} (hn : n ≤ 10) {K : List (List Int)} (h1 : K.Nodup) (h2 : ∀ k ∈ K, Stt n k) : K.length ≤ 1024 := by
  have := nodup_len_gen h1 (m := subs (upto n)) fun k hk => stt_mem (h2 k hk)
  rw [subs_len, upto_length] at this
  exact Nat.le_trans this (Nat.pow_le_pow_right (by decide) hn)
/-! ### k14: what the last presses decide -/
theorem stt_extE {n : Nat} {a b : List Int} (ha : Stt n a) (hb : Stt n b) (h : ∀ x, x ∈ a ↔ x ∈ b) : a = b := by
  refine List.Perm.eq_of_pairwise (le := fun a b => a ≤ b) (fun a b _ _ h1 h2 => Int.le_antisymm h1 h2) (ha.2.2.imp fun h => Int.le_of_lt h) (hb.2.2.imp fun h => Int.le_of_lt h) ?_
  exact (List.perm_ext_iff_of_nodup (ha.2.2.imp fun h => Int.ne_of_lt h) (hb.2.2.imp fun h => Int.ne_of_lt h)).mpr h
/-- the set with one more press, or none -/
def decS (pan : List (List Int)) (w : Int → Str) (D : List Int) (b : Int) : Option (List Int) :=
  if (!decide (b ∈ D) && !decide (w b = "on")) = true then none
  else if ((rowAt pan b).filter fun o => !decide (o ∈ D) && !decide (w o = "off")) = [] then some (sortI (D ++ [b] ++ rowAt pan b)) else none
theorem decS_some {pan : List (List Int)} {w : Int → Str} {D : List Int} {b : Int} {a : List Int} (h : decS pan w D b = some a) : (b ∉ D → w b = "on") ∧ (∀ o ∈ rowAt pan b, o ∉ D → w o = "off") ∧ a = sortI (D ++ [b] ++ rowAt pan b) := by
  unfold decS at h
  split at h
  · cases h
  · rename_i h1
    split at h
    · rename_i h2
      refine ⟨fun q => ?_, fun o ho q => ?_, (Option.some.inj h).symm⟩
      · apply Classical.byContradiction
        intro hw
        exact h1 (by simp [q, hw])
      · apply Classical.byContradiction
        intro hw
        have := List.filter_eq_nil_iff.mp h2 o ho
        exact this (by simp [q, hw])
    · cases h
theorem decS_of {pan : List (List Int)} {w : Int → Str} {D : List Int} {b : Int} (h1 : b ∉ D → w b = "on") (h2 : ∀ o ∈ rowAt pan b, o ∉ D → w o = "off") : decS pan w D b = some (sortI (D ++ [b] ++ rowAt pan b)) := by
  unfold decS
  rw [if_neg ?_, if_pos ?_]
  · refine List.filter_eq_nil_iff.mpr fun o ho => ?_
    by_cases q : o ∈ D
    · simp [q]
    · simp [h2 o ho q]
  · by_cases q : b ∈ D
    · simp [q]
    · simp [h1 q]
theorem dec_mem {pan : List (List Int)} {D : List Int} {b i : Int} : i ∈ sortI (D ++ [b] ++ rowAt pan b) ↔ i ∈ D ∨ Tch pan i b := by
  rw [mem_sortI, List.mem_append, List.mem_append, List.mem_singleton, or_assoc]
  exact Iff.rfl
theorem dec_stt {pan : List (List Int)} (h : PanN pan) {D : List Int} {b : Int} (hD : Stt pan.length D) (hb : 0 ≤ b ∧ b < (pan.length : Int)) : Stt pan.length (sortI (D ++ [b] ++ rowAt pan b)) := by
  have hs := sortI_sorted (D ++ [b] ++ rowAt pan b)
  have hB : Bel pan.length (sortI (D ++ [b] ++ rowAt pan b)) := fun i hi => by
    rcases dec_mem.mp hi with q | q | q
    · exact hD.2.1 i q
    · rw [q]; exact hb
    · exact row_bel h q
  have hl := nodup_bel (hs.imp fun h => Int.ne_of_lt h) hB
  have := h.le
  exact ⟨by omega, hB, hs⟩
/-- the sets that the last presses of some row can decide -/
inductive Rc (pan : List (List Int)) (w : Int → Str) (whole : List Int) : List Int → Prop
  | nil : Rc pan w whole []
  | step {D a : List Int} {b : Int} (hD : Rc pan w whole D) (hb : b ∈ whole) (e : decS pan w D b = some a) : Rc pan w whole a
section
variable {pan : List (List Int)} {w : Int → Str}
def wholeW (pan : List (List Int)) (w : Int → Str) : List Int := (upto pan.length).filter fun i => !decide (w i = "same")
theorem mem_whole {i : Int} : i ∈ wholeW pan w ↔ (0 ≤ i ∧ i < (pan.length : Int)) ∧ w i ≠ "same" := by
  unfold wholeW
  rw [List.mem_filter, mem_upto]
  simp
theorem whole_stt (h : PanN pan) : Stt pan.length (wholeW pan w) := stt_sub h.le List.filter_sublist
theorem wAft_cons (b : Int) (R : List Int) (i : Int) : wAft pan (b :: R) i = if wAft pan R i = "same" then wAft pan [b] i else wAft pan R i := wAft_app pan [b] R i
theorem wAft_one {b i : Int} (h : Tch pan i b) : wAft pan [b] i = wOf i b := wNew_tch _ h
theorem rc_row (h : PanN pan) {D : List Int} (hD : Rc pan w (wholeW pan w) D) : Stt pan.length D ∧ ∃ R, Bel pan.length R ∧ (∀ i, 0 ≤ i ∧ i < (pan.length : Int) → (i ∈ D ↔ ∃ b ∈ R, Tch pan i b)) ∧ ∀ i ∈ D, wAft pan R i = w i := by
  induction hD with
  | nil => exact ⟨stt_sub h.le (List.nil_sublist _), [], (fun _ h => nomatch h), (fun i _ => ⟨fun q => (nomatch q), fun ⟨b, hb, _⟩ => (nomatch hb)⟩), fun i q => nomatch q⟩
  | @step D a b hD hb e ih =>
    obtain ⟨hs, R, r1, r2, r3⟩ := ih
    obtain ⟨e1, e2, e3⟩ := decS_some e
    have hbr := (mem_whole.mp hb).1
    subst e3
    refine ⟨dec_stt h hs hbr, b :: R, fun x hx => ?_, fun i hi => ?_, fun i hi => ?_⟩
    · rcases List.mem_cons.mp hx with q | q
      · rw [q]; exact hbr
      · exact r1 x q
    · rw [dec_mem, r2 i hi]
      constructor
      · rintro (⟨c, hc, t⟩ | t)
        · exact ⟨c, by simp [hc], t⟩
        · exact ⟨b, by simp, t⟩
      · rintro ⟨c, hc, t⟩
        rcases List.mem_cons.mp hc with q | q
        · subst q; exact .inr t
        · exact .inl ⟨c, q, t⟩
    · have hir := (dec_stt h hs hbr).2.1 i hi
      rw [wAft_cons]
      by_cases q : i ∈ D
      · have hns : wAft pan R i ≠ "same" := fun hsm => by
          obtain ⟨c, hc, t⟩ := (r2 i hir).mp q
          exact same_iff.mp hsm c hc t
        rw [if_neg hns]
        exact r3 i q
      · have hsm : wAft pan R i = "same" := same_iff.mpr fun c hc t => q ((r2 i hir).mpr ⟨c, hc, t⟩)
        have t := (dec_mem.mp hi).resolve_left q
        rw [if_pos hsm, wAft_one t]
        unfold wOf
        rcases t with t | t
        · subst t
          rw [if_pos rfl, e1 q]
        · rw [if_neg (h.hself i b t), e2 i t q]
theorem rc_ex (h : PanN pan) (hR : Rc pan w (wholeW pan w) (wholeW pan w)) : ∃ R, Bel pan.length R ∧ eff pan R = wordsW pan.length w := by
  obtain ⟨_, R, r1, r2, r3⟩ := rc_row h hR
  refine ⟨R, r1, ?_⟩
  unfold eff wordsW
  refine List.map_congr_left fun i hi => ?_
  have hi := mem_upto.mp hi
  by_cases q : w i = "same"
  · rw [q, same_iff]
    intro b hb t
    exact (mem_whole.mp ((r2 i hi).mpr ⟨b, hb, t⟩)).2 q
  · exact r3 i (mem_whole.mpr ⟨hi, q⟩)
theorem ex_rc (h : PanN pan) {R : List Int} (hB : Bel pan.length R) (hR : eff pan R = wordsW pan.length w) : Rc pan w (wholeW pan w) (wholeW pan w) := by
  have hw : ∀ i, 0 ≤ i ∧ i < (pan.length : Int) → wAft pan R i = w i := fun i hi => by
    have e := congrArg (fun E : List Str => E[i.toNat]?) hR
    unfold eff wordsW at e
    simp only [List.getElem?_map, upto_get] at e
    rw [if_pos (by omega)] at e
    simp only [Option.map_some, Int.toNat_of_nonneg hi.1] at e
    exact Option.some.inj e
  have key : ∀ (S P : List Int), R = P ++ S → ∃ D, Rc pan w (wholeW pan w) D ∧ ∀ i, 0 ≤ i ∧ i < (pan.length : Int) → (i ∈ D ↔ ∃ b ∈ S, Tch pan i b) := by
    intro S
    induction S with
    | nil => exact fun P _ => ⟨[], .nil, fun i _ => ⟨fun q => (nomatch q), fun ⟨b, hb, _⟩ => (nomatch hb)⟩⟩
    | cons b S ih =>
      intro P e
      obtain ⟨D, d1, d2⟩ := ih (P ++ [b]) (by rw [e]; simp)
      have hs := (rc_row h d1).1
      have hbr : 0 ≤ b ∧ b < (pan.length : Int) := hB b (by rw [e]; simp)
      have q1 : b ∉ D → w b = "on" := fun q => by
        rw [← hw b hbr, on_iff]
        exact ⟨P, S, e, fun c hc t => q ((d2 b hbr).mpr ⟨c, hc, t⟩)⟩
      have q2 : ∀ o ∈ rowAt pan b, o ∉ D → w o = "off" := fun o ho q => by
        have hor := row_bel h ho
        rw [← hw o hor, off_iff]
        exact ⟨P, b, S, e, h.hself o b ho, ho, fun c hc t => q ((d2 o hor).mpr ⟨c, hc, t⟩)⟩
      have hbw : b ∈ wholeW pan w := mem_whole.mpr ⟨hbr, fun hsm => by
        rw [← hw b hbr, same_iff] at hsm
        exact hsm b (by rw [e]; simp) (.inl rfl)⟩
      refine ⟨_, .step d1 hbw (decS_of q1 q2), fun i hi => ?_⟩
      rw [dec_mem, d2 i hi]
      constructor
      · rintro (⟨c, hc, t⟩ | t)
        · exact ⟨c, by simp [hc], t⟩
        · exact ⟨b, by simp, t⟩
      · rintro ⟨c, hc, t⟩
        rcases List.mem_cons.mp hc with q | q
        · subst q; exact .inr t
        · exact .inl ⟨c, q, t⟩
  obtain ⟨D, d1, d2⟩ := key R [] rfl
  have : D = wholeW pan w := stt_extE (rc_row h d1).1 (whole_stt h) fun i => by
    constructor
    · intro q
      have hi := (rc_row h d1).1.2.1 i q
      obtain ⟨b, hb, t⟩ := (d2 i hi).mp q
      exact mem_whole.mpr ⟨hi, fun hsm => by
        rw [← hw i hi, same_iff] at hsm
        exact hsm b hb t⟩
    · intro q
      obtain ⟨hi, q⟩ := mem_whole.mp q
      refine (d2 i hi).mpr (Classical.byContradiction fun hn => q ?_)
      rw [← hw i hi, same_iff]
      exact fun b hb t => hn ⟨b, hb, t⟩
  rw [this] at d1
  exact d1
end
/-! ### k14: the law's own search -/
section
variable {pan : List (List Int)} {w : Int → Str}
theorem forU_app {S α σ : Type} {body : α → σ → Mt S σ} : ∀ (xs ys : List α) (z : σ), forU body (xs ++ ys) z = mbind (forU body xs z) fun z => forU body ys z
  | [], ys, z => rfl
  | x :: xs, ys, z => by
    show mbind (body x z) (fun z => forU body (xs ++ ys) z) = mbind (mbind (body x z) fun z => forU body xs z) fun z => forU body ys z
    rw [mbind_assoc]
    congr 1
    funext z
    exact forU_app xs ys z
theorem forU_map {S α β σ : Type} {body : β → σ → Mt S σ} (g : α → β) : ∀ (xs : List α) (z : σ), forU body (xs.map g) z = forU (fun x z => body (g x) z) xs z
  | [], z => rfl
  | x :: xs, z => by
    show mbind (body (g x) z) (fun z => forU body (xs.map g) z) = mbind (body (g x) z) fun z => forU (fun x z => body (g x) z) xs z
    congr 1
    funext z
    exact forU_map g xs z
theorem forU_pairs {S α β σ : Type} {B : α → β → σ → Mt S σ} (ys : List β) : ∀ (xs : List α) (z : σ), forU (fun x z => forU (B x) ys z) xs z = forU (fun (p : α × β) z => B p.1 p.2 z) (xs.flatMap fun x => ys.map fun y => (x, y)) z
  | [], z => rfl
  | x :: xs, z => by
    rw [List.flatMap_cons, forU_app, forU_map]
    show mbind (forU (B x) ys z) _ = _
    congr 1
    funext z
    exact forU_pairs ys xs z
/-- a loop of which each turn succeeds -/
theorem forU_all {S α σ : Type} {body : α → σ → Mt S σ} (I : Nat → σ → Prop) : ∀ (xs : List α) (k : Nat) (z : σ), I k z → (∀ x ∈ xs, ∀ j z, j < k + xs.length → I j z → ∃ z', body x z = mpure z' ∧ I (j + 1) z') → ∃ z', forU body xs z = mpure z' ∧ I (k + xs.length) z'
  | [], k, z, h, _ => ⟨z, rfl, h⟩
  | x :: xs, k, z, h, hb => by
    obtain ⟨z1, e1, h1⟩ := hb x (by simp) k z (by simp) h
    obtain ⟨z2, e2, h2⟩ := forU_all I xs (k + 1) z1 h1 fun y hy j z hj hI => hb y (by simp [hy]) j z (by rw [List.length_cons]; omega) hI
    refine ⟨z2, ?_, by rw [List.length_cons, show k + (xs.length + 1) = k + 1 + xs.length by omega]; exact h2⟩
    unfold forU
    rw [e1, mbind_pure]
    exact e2
/-- one press tried -/
def stP (pan : List (List Int)) (w : Int → Str) (z : Kv Bool × List (List Int)) (p : List Int × Int) : Kv Bool × List (List Int) := match decS pan w p.1 p.2 with
  | none => z
  | some a => if a ∈ eK z.1 then z else (z.1 ++ [(a, true)], z.2 ++ [a])
/-- what is new behind some presses -/
structure Nx (pan : List (List Int)) (w : Int → Str) (kn : Kv Bool) (ps : List (List Int × Int)) (z : Kv Bool × List (List Int)) : Prop where
  nd : (eK z.1).Nodup
  st : ∀ k ∈ eK z.1, Stt pan.length k
  ks : ∀ k, k ∈ eK z.1 ↔ k ∈ eK kn ∨ k ∈ z.2
  nw : ∀ k ∈ z.2, k ∉ eK kn ∧ ∃ p ∈ ps, decS pan w p.1 p.2 = some k
  cl : ∀ p ∈ ps, ∀ a, decS pan w p.1 p.2 = some a → a ∈ eK z.1
  le : z.2.length ≤ z.1.length
theorem Nx.step (h : PanN pan) {kn : Kv Bool} {ps : List (List Int × Int)} {z : Kv Bool × List (List Int)} (n : Nx pan w kn ps z) {p : List Int × Int} (hD : Stt pan.length p.1) (hb : 0 ≤ p.2 ∧ p.2 < (pan.length : Int)) : Nx pan w kn (ps ++ [p]) (stP pan w z p) := by
  have old : ∀ {k : List Int}, (∃ q ∈ ps, decS pan w q.1 q.2 = some k) → ∃ q ∈ ps ++ [p], decS pan w q.1 q.2 = some k := fun ⟨q, hq, e⟩ => ⟨q, by simp [hq], e⟩
  unfold stP
  cases e : decS pan w p.1 p.2 with
  | none =>
    refine ⟨n.nd, n.st, n.ks, fun k hk => ⟨(n.nw k hk).1, old (n.nw k hk).2⟩, fun q hq a ha => ?_, n.le⟩
    rcases List.mem_append.mp hq with hq | hq
    · exact n.cl q hq a ha
    · rw [List.mem_singleton.mp hq, e] at ha
      cases ha
  | some a =>
    dsimp only
    by_cases hm : a ∈ eK z.1
    · rw [if_pos hm]
      refine ⟨n.nd, n.st, n.ks, fun k hk => ⟨(n.nw k hk).1, old (n.nw k hk).2⟩, fun q hq a' ha => ?_, n.le⟩
      rcases List.mem_append.mp hq with hq | hq
      · exact n.cl q hq a' ha
      · rw [List.mem_singleton.mp hq, e] at ha
        rw [← Option.some.inj ha]
        exact hm
    · rw [if_neg hm]
      have ek : eK (z.1 ++ [(a, true)]) = eK z.1 ++ [a] := by unfold eK; rw [List.map_append] <;> rfl
      have ha := (decS_some e).2.2
      refine ⟨?_, fun k hk => ?_, fun k => ?_, fun k hk => ?_, fun q hq a' ha' => ?_, by simp [n.le]⟩
      · rw [ek]
        exact List.nodup_append.mpr ⟨n.nd, by simp, fun x hx y hy q => hm (by rw [List.mem_singleton.mp hy] at q; rw [← q]; exact hx)⟩
      · rw [ek] at hk
        rcases List.mem_append.mp hk with q | q
        · exact n.st k q
        · rw [List.mem_singleton.mp q, ha]
          exact dec_stt h hD hb
      · rw [ek, List.mem_append, n.ks, List.mem_append, or_assoc]
      · rcases List.mem_append.mp hk with q | q
        · exact ⟨(n.nw k q).1, old (n.nw k q).2⟩
        · rw [List.mem_singleton.mp q]
          exact ⟨fun q2 => hm ((n.ks a).mpr (.inl q2)), p, by simp, e⟩
      · rw [ek]
        rcases List.mem_append.mp hq with hq | hq
        · exact List.mem_append.mpr (.inl (n.cl q hq a' ha'))
        · rw [List.mem_singleton.mp hq, e] at ha'
          rw [← Option.some.inj ha']
          simp
/-- the loop's head -/
structure MI (pan : List (List Int)) (w : Int → Str) (kn : Kv Bool) (pre : List (List (List Int))) (last : List (List Int)) : Prop where
  nd : (eK kn).Nodup
  st : ∀ k ∈ eK kn, Stt pan.length k
  all : ∀ k, k ∈ eK kn ↔ (∃ L ∈ pre, k ∈ L) ∨ k ∈ last
  rc : ∀ k ∈ eK kn, Rc pan w (wholeW pan w) k
  cl : ∀ L ∈ pre, ∀ D ∈ L, ∀ b ∈ wholeW pan w, ∀ a, decS pan w D b = some a → a ∈ eK kn
  nw : ∀ L ∈ pre, wholeW pan w ∉ L
  sz : ∀ D ∈ last, pre.length ≤ D.length
  nil : [] ∈ eK kn
  ll : last.length ≤ 1024
  lp : ∀ L ∈ pre, L.length ≤ 1024
theorem mlast (S : Type) {pre : List (List (List Int))} {last : List (List Int)} : midx (S := S) (pre ++ [last]) (-(1 : Int)) = mpure last := midx_last (by simp)
theorem MI.step (h : PanN pan) {kn : Kv Bool} {pre : List (List (List Int))} {last : List (List Int)} (m : MI pan w kn pre last) (hw : wholeW pan w ∉ last) {z : Kv Bool × List (List Int)} (n : Nx pan w kn (last.flatMap fun D => (wholeW pan w).map fun b => (D, b)) z) : MI pan w z.1 (pre ++ [last]) z.2 := by
  have hin : ∀ p ∈ (last.flatMap fun D => (wholeW pan w).map fun b => (D, b)), p.1 ∈ last ∧ p.2 ∈ wholeW pan w := fun p hp => by
    obtain ⟨D, hD, hp⟩ := List.mem_flatMap.mp hp
    obtain ⟨b, hb, rfl⟩ := List.mem_map.mp hp
    exact ⟨hD, hb⟩
  have hlz : z.2.length ≤ 1024 := by
    have h1 := n.le
    have h2 := stts_len h.le n.nd n.st
    rw [eK_len] at h2
    omega
  refine ⟨n.nd, n.st, fun k => ?_, fun k hk => ?_, fun L hL D hD b hb a ha => ?_, fun L hL => ?_, fun D hD => ?_, (n.ks []).mpr (.inl m.nil), hlz, fun L hL => (List.mem_append.mp hL).elim (m.lp L) fun q => by rw [List.mem_singleton.mp q]; exact m.ll⟩
  · rw [n.ks, m.all]
    constructor
    · rintro ((⟨L, hL, hk⟩ | hk) | hk)
      · exact .inl ⟨L, by simp [hL], hk⟩
      · exact .inl ⟨last, by simp, hk⟩
      · exact .inr hk
    · rintro (⟨L, hL, hk⟩ | hk)
      · rcases List.mem_append.mp hL with q | q
        · exact .inl (.inl ⟨L, q, hk⟩)
        · rw [List.mem_singleton.mp q] at hk
          exact .inl (.inr hk)
      · exact .inr hk
  · rcases (n.ks k).mp hk with q | q
    · exact m.rc k q
    · obtain ⟨_, p, hp, e⟩ := n.nw k q
      obtain ⟨h1, h2⟩ := hin p hp
      exact .step (m.rc _ ((m.all _).mpr (.inr h1))) h2 e
  · rcases List.mem_append.mp hL with q | q
    · exact (n.ks a).mpr (.inl (m.cl L q D hD b hb a ha))
    · rw [List.mem_singleton.mp q] at hD
      exact n.cl (D, b) (List.mem_flatMap.mpr ⟨D, hD, List.mem_map.mpr ⟨b, hb, rfl⟩⟩) a ha
  · rcases List.mem_append.mp hL with q | q
    · exact m.nw L q
    · rw [List.mem_singleton.mp q]
      exact hw
  · obtain ⟨hn, p, hp, e⟩ := n.nw D hD
    obtain ⟨h1, _⟩ := hin p hp
    have hs := m.sz _ h1
    have hpk : p.1 ∈ eK kn := (m.all _).mpr (.inr h1)
    have hps := m.st _ hpk
    have e3 := (decS_some e).2.2
    have hnd : p.1.Nodup := hps.2.2.imp fun h => Int.ne_of_lt h
    have hsub : ∀ x ∈ p.1, x ∈ D := fun x hx => by rw [e3]; exact dec_mem.mpr (.inl hx)
    have hDs := n.st D ((n.ks D).mpr (.inr hD))
    have hex : ∃ x ∈ D, x ∉ p.1 := Classical.byContradiction fun hno => hn (by
      have : D = p.1 := stt_extE hDs hps fun x => ⟨fun hx => Classical.byContradiction fun q => hno ⟨x, hx, q⟩, hsub x⟩
      rw [this]
      exact hpk)
    obtain ⟨x, hx, hxn⟩ := hex
    have := nodup_len_sub (List.nodup_cons.mpr ⟨hxn, hnd⟩) (m := D) fun y hy => by
      rcases List.mem_cons.mp hy with q | q
      · rw [q]; exact hx
      · exact hsub y q
    rw [List.length_cons] at this
    rw [List.length_append, List.length_singleton]
    omega
theorem whole_ok (h : PanN pan) : compV (S := ST) (fun (vx2 : (Int × Str)) => (!decide (vx2.2 = ("same" : Str)))) (fun (vx2 : (Int × Str)) => vx2.1) (enumZ 0 (wordsW pan.length w)) = mpure (wholeW pan w) := by
  have hle := h.le
  unfold wordsW wholeW
  rw [enumZ_upto, compV_ok (by rw [List.length_map, upto_length]; omega), sel_ok pan.length w (fun y => !decide (y = "same"))]
theorem start_MI (h : PanN pan) : MI pan w [(([] : List Int), true)] [] [[]] := ⟨by simp [eK], fun k hk => by
    have : k = [] := by simpa [eK] using hk
    rw [this]
    exact stt_sub h.le (List.nil_sublist _), fun k => by simp [eK], fun k hk => by
    have : k = [] := by simpa [eK] using hk
    rw [this]
    exact .nil, (fun _ h => nomatch h), (fun _ h => nomatch h), (fun D hD => Nat.zero_le _), by simp [eK], by simp, fun _ h => nomatch h⟩
end
/-! ### k17: the program's search -/
section
variable {pan : List (List Int)} {w : Int → Str}
theorem on_or (x b : Int) : (if (decide (x = b)) = true then ("on" : Str) else "off") = if x = b then "on" else "off" := by
  by_cases q : x = b <;> simp [q]
theorem decw_ok {T : Type} (h : PanN pan) {D : List Int} {b : Int} (hD : Stt pan.length D) (hb : 0 ≤ b ∧ b < (pan.length : Int)) : p_decided_with (S := T) pan (wordsW pan.length w) D b = mpure (decS pan w D b) := by
  have hr := h.len _ (h.row hb.1 hb.2)
  have hl := hD.1
  have hle := h.le
  have hself : ∀ o ∈ rowAt pan b, o ≠ b := fun o ho => h.hself o b ho
  have hnr : (rowAt pan b).Nodup := h.nd _ (h.row hb.1 hb.2)
  unfold p_decided_with
  simp only [mbind_pure]
  rw [midx_row hb.1 hb.2, mbind_pure, mdisp_ok (by rw [List.length_append, List.length_singleton]; omega), mbind_pure, compV_ok (by rw [List.length_append, List.length_singleton]; omega), mbind_pure]
  have hnl : ((([b] ++ rowAt pan b).filter fun x => !decide (x ∈ D)).map fun x => x).length ≤ 11 := by
    rw [List.length_map]
    refine Nat.le_trans (List.length_filter_le _ _) ?_
    rw [List.length_append, List.length_singleton]
    omega
  have hnm : ∀ x, x ∈ ((([b] ++ rowAt pan b).filter fun x => !decide (x ∈ D)).map fun x => x) ↔ (x = b ∨ x ∈ rowAt pan b) ∧ x ∉ D := fun x => by simp
  have hnd : ((([b] ++ rowAt pan b).filter fun x => !decide (x ∈ D)).map fun x => x).Nodup := by
    rw [List.map_id']
    refine List.Nodup.sublist List.filter_sublist (List.nodup_append.mpr ⟨by simp, hnr, fun x hx y hy q => ?_⟩)
    rw [List.mem_singleton.mp hx] at q
    exact hself y hy q.symm
  generalize ((([b] ++ rowAt pan b).filter fun x => !decide (x ∈ D)).map fun x => x) = new at hnl hnm hnd ⊢
  rw [compM_pure (fun x => !decide (w x = (if (decide (x = b)) = true then ("on" : Str) else ("off" : Str)))) (by omega) (fun x hx _ => ?_), filter_true, calmly_pure', mbind_pure, mbind_pure, mbind_pure]
  · by_cases ha : (new.map fun x => !decide (w x = (if (decide (x = b)) = true then ("on" : Str) else ("off" : Str)))).any id = true
    · rw [if_pos ha]
      rw [List.any_map, List.any_eq_true] at ha
      obtain ⟨x, hx, q⟩ := ha
      have q : ¬ w x = if x = b then "on" else "off" := by
        have : (!decide (w x = (if (decide (x = b)) = true then ("on" : Str) else ("off" : Str)))) = true := q
        rw [on_or] at this
        simpa using this
      cases e : decS pan w D b with
      | none => rfl
      | some a =>
        exfalso
        obtain ⟨e1, e2, _⟩ := decS_some e
        obtain ⟨hx, hxD⟩ := (hnm x).mp hx
        rcases hx with rfl | hx
        · rw [if_pos rfl] at q
          exact q (e1 hxD)
        · rw [if_neg (hself x hx)] at q
          exact q (e2 x hx hxD)
    · rw [if_neg ha]
      have hw : ∀ x ∈ new, w x = if x = b then "on" else "off" := fun x hx => by
        apply Classical.byContradiction
        intro q
        refine ha ?_
        rw [List.any_map, List.any_eq_true]
        refine ⟨x, hx, ?_⟩
        show (!decide (w x = (if (decide (x = b)) = true then ("on" : Str) else ("off" : Str)))) = true
        rw [on_or]
        simpa using q
      rw [decS_of (fun q => by have := hw b ((hnm b).mpr ⟨.inl rfl, q⟩); rw [if_pos rfl] at this; exact this) fun o ho q => by have := hw o ((hnm o).mpr ⟨.inr ho, q⟩); rw [if_neg (hself o ho)] at this; exact this]
      rw [mdisp_ok (by rw [List.length_append]; omega), mbind_pure, msort_ok (by rw [List.length_append]; omega), mbind_pure, mbind_pure]
      congr 2
      refine sort_eq ((List.perm_ext_iff_of_nodup ?_ ?_).mpr fun x => ?_) (sortI_sorted _)
      · exact List.nodup_append.mpr ⟨hD.2.2.imp fun h => Int.ne_of_lt h, hnd, fun x hx y hy q => ((hnm y).mp hy).2 (q ▸ hx)⟩
      · exact (sortI_sorted _).imp fun h => Int.ne_of_lt h
      · rw [List.mem_append, hnm, dec_mem]
        unfold Tch
        by_cases q : x ∈ D <;> simp [q]
  · have hx := ((hnm x).mp hx).1
    have hxr : 0 ≤ x ∧ x < (pan.length : Int) := by
      rcases hx with rfl | hx
      · exact hb
      · exact row_bel h hx
    rw [wordsW_at w hxr, mbind_pure]
/-! the generator -/
theorem forU_lent {α : Type} {body : α → List (List Int) → Mt (ST × Kv Bool) (List (List Int))} (f : Kv Bool × List (List Int) → α → Kv Bool × List (List Int)) (s : ST) : ∀ (ps : List α) (z : Kv Bool × List (List Int)),
    (∀ pre x post, ps = pre ++ x :: post → body x (pre.foldl f z).2 (s, (pre.foldl f z).1) = .ok (f (pre.foldl f z) x).2 (s, (f (pre.foldl f z) x).1)) → forU body ps z.2 (s, z.1) = .ok (ps.foldl f z).2 (s, (ps.foldl f z).1)
  | [], z, _ => rfl
  | x :: ps, z, h => by
    have h0 := h [] x ps rfl
    show rbind (body x z.2 (s, z.1)) (fun z => forU body ps z) = _
    rw [show body x z.2 (s, z.1) = .ok (f z x).2 (s, (f z x).1) from h0]
    exact forU_lent f s ps (f z x) fun pre y post e => h (x :: pre) y post (by rw [e]; rfl)
def pairsN (pan : List (List Int)) (last : List (List Int)) : List (List Int × Int) := last.flatMap fun D => (upto pan.length).map fun b => (D, b)
theorem nx_fold (h : PanN pan) {kn : Kv Bool} (hnd : (eK kn).Nodup) (hst : ∀ k ∈ eK kn, Stt pan.length k) {ps : List (List Int × Int)} (hin : ∀ p ∈ ps, Stt pan.length p.1 ∧ (0 ≤ p.2 ∧ p.2 < (pan.length : Int))) : ∀ pre post, ps = pre ++ post → Nx pan w kn pre (pre.foldl (stP pan w) (kn, [])) := by
  have n0 : ∀ (k : Nat) pre post, pre.length = k → ps = pre ++ post → Nx pan w kn pre (pre.foldl (stP pan w) (kn, [])) := by
    intro k
    induction k with
    | zero =>
      intro pre post hk e
      rw [List.length_eq_zero_iff.mp hk]
      exact ⟨hnd, hst, fun k => by simp, (fun _ h => nomatch h), (fun _ h => nomatch h), Nat.zero_le _⟩
    | succ k ih =>
      intro pre post hk e
      rcases List.eq_nil_or_concat pre with q | ⟨pre', p, q⟩
      · rw [q] at hk
        cases hk
      · rw [List.concat_eq_append] at q
        subst q
        have hp := hin p (by rw [e]; simp)
        rw [List.length_append, List.length_singleton] at hk
        rw [List.foldl_append]
        exact (ih pre' (p :: post) (by omega) (by rw [e]; simp)).step h hp.1 hp.2
  exact fun pre post e => n0 _ pre post rfl e
theorem pairs_in {last : List (List Int)} (hl : ∀ D ∈ last, Stt pan.length D) : ∀ p ∈ pairsN pan last, Stt pan.length p.1 ∧ (0 ≤ p.2 ∧ p.2 < (pan.length : Int)) := fun p hp => by
  obtain ⟨D, hD, hp⟩ := List.mem_flatMap.mp hp
  obtain ⟨b, hb, rfl⟩ := List.mem_map.mp hp
  exact ⟨hl D hD, mem_upto.mp hb⟩
theorem nextl_ok (h : PanN pan) {kn : Kv Bool} {last : List (List Int)} (hnd : (eK kn).Nodup) (hst : ∀ k ∈ eK kn, Stt pan.length k) (hl : ∀ D ∈ last, Stt pan.length D) :
    ∃ z, p_next_layer (S := ST) pan (wordsW pan.length w) last kn = mpure (z.2, z.1) ∧ Nx pan w kn (pairsN pan last) z := by
  have n0 := nx_fold (w := w) h hnd hst (pairs_in hl)
  refine ⟨(pairsN pan last).foldl (stP pan w) (kn, []), ?_, n0 _ [] (by simp)⟩
  have hle := h.le
  unfold p_next_layer
  have e1 : pl_next_layer (S := ST) pan (wordsW pan.length w) last = forU (fun (p : List Int × Int) z => mbind (p_decided_with pan (wordsW pan.length w) p.1 p.2) fun o => lentStep o z) (pairsN pan last) [] := by
    unfold pl_next_layer pairsN
    rw [mbind_pure, ← forU_pairs (B := fun D b z => mbind (p_decided_with pan (wordsW pan.length w) D b) fun o => lentStep o z)]
    congr 1
    funext x z
    rw [mbind_pure, mrng_nat pan.length (by omega), mbind_pure]
  rw [e1]
  funext s
  unfold unlend
  rw [forU_lent (stP pan w) s (pairsN pan last) (kn, []) fun pre p post e => ?_]
  · rfl
  have hp := pairs_in hl p (by rw [e]; simp)
  have n := n0 pre (p :: post) e
  have h1 := stts_len h.le n.nd n.st
  rw [eK_len] at h1
  have h2 := n.le
  generalize pre.foldl (stP pan w) (kn, []) = z at h1 h2 ⊢
  rw [decw_ok h hp.1 hp.2, mbind_pure]
  unfold stP
  cases decS pan w p.1 p.2 with
  | none => rfl
  | some a =>
    dsimp only
    unfold lentStep
    show rbind (Rs.ok (!hasP z.1 a) (s, z.1)) _ = _
    rw [rbind_ok]
    unfold hasP
    by_cases hm : a ∈ eK z.1
    · rw [decide_eq_true hm, if_pos hm]
      rfl
    · rw [decide_eq_false hm, if_neg hm]
      show rbind (mlentPut a true (s, z.1)) _ = _
      unfold mlentPut
      rw [if_pos (show z.1.length ≤ SZ by have : (SZ : Nat) = 100000 := rfl; omega), rbind_ok]
      unfold myield
      rw [if_pos (by omega)]
      unfold putP
      rw [if_neg hm]
      rfl
theorem rc_sub (h : PanN pan) {D : List Int} (hD : Rc pan w (wholeW pan w) D) : ∀ x ∈ D, x ∈ wholeW pan w := fun x hx => by
  obtain ⟨hs, R, r1, r2, r3⟩ := rc_row h hD
  have hxr := hs.2.1 x hx
  refine mem_whole.mpr ⟨hxr, fun q => ?_⟩
  obtain ⟨b, hb, t⟩ := (r2 x hxr).mp hx
  rw [← r3 x hx, same_iff] at q
  exact q b hb t
theorem dec_whole {D : List Int} (hD : ∀ x ∈ D, x ∈ wholeW pan w) {b : Int} (hb : 0 ≤ b ∧ b < (pan.length : Int)) {a : List Int} (e : decS pan w D b = some a) : b ∈ wholeW pan w := by
  obtain ⟨e1, _, _⟩ := decS_some e
  by_cases q : b ∈ D
  · exact hD b q
  · exact mem_whole.mpr ⟨hb, by rw [e1 q]; decide⟩
theorem Nx.sub {kn : Kv Bool} {last : List (List Int)} {z : Kv Bool × List (List Int)} (n : Nx pan w kn (pairsN pan last) z) (hl : ∀ D ∈ last, ∀ x ∈ D, x ∈ wholeW pan w) : Nx pan w kn (last.flatMap fun D => (wholeW pan w).map fun b => (D, b)) z :=
  ⟨n.nd, n.st, n.ks, fun k hk => by
    obtain ⟨h1, p, hp, e⟩ := n.nw k hk
    obtain ⟨D, hD, hp⟩ := List.mem_flatMap.mp hp
    obtain ⟨b, hb, rfl⟩ := List.mem_map.mp hp
    exact ⟨h1, (D, b), List.mem_flatMap.mpr ⟨D, hD, List.mem_map.mpr ⟨b, dec_whole (hl D hD) (mem_upto.mp hb) e, rfl⟩⟩, e⟩, fun p hp a ha => by
    obtain ⟨D, hD, hp⟩ := List.mem_flatMap.mp hp
    obtain ⟨b, hb, rfl⟩ := List.mem_map.mp hp
    exact n.cl (D, b) (List.mem_flatMap.mpr ⟨D, hD, List.mem_map.mpr ⟨b, mem_upto.mpr (mem_whole.mp hb).1, rfl⟩⟩) a ha, n.le⟩
end
/-! ### k17: the layers -/
section
variable {pan : List (List Int)} {w : Int → Str}
/-- each set of a layer comes from the layer before -/
def Chn (pan : List (List Int)) (w : Int → Str) : List (List Int) → List (List (List Int)) → Prop
  | _, [] => True
  | cur, x :: xs => (∀ a ∈ cur, ∃ D ∈ x, ∃ b, (0 ≤ b ∧ b < (pan.length : Int)) ∧ decS pan w D b = some a) ∧ Chn pan w x xs
structure MJ (pan : List (List Int)) (w : Int → Str) (kn : Kv Bool) (pre : List (List (List Int))) (last : List (List Int)) : Prop extends MI pan w kn pre last where
  ch : Chn pan w last pre.reverse
  h0 : (pre ++ [last])[0]? = some [[]]
  ci : ∀ i L, pre[i]? = some L → ∀ D ∈ L, ∀ b ∈ wholeW pan w, ∀ a, decS pan w D b = some a → ∃ j L', j ≤ i + 1 ∧ (pre ++ [last])[j]? = some L' ∧ a ∈ L'
theorem MJ.step (h : PanN pan) {kn : Kv Bool} {pre : List (List (List Int))} {last : List (List Int)} (m : MJ pan w kn pre last) (hw : wholeW pan w ∉ last) {z : Kv Bool × List (List Int)} (n : Nx pan w kn (last.flatMap fun D => (wholeW pan w).map fun b => (D, b)) z) : MJ pan w z.1 (pre ++ [last]) z.2 := by
  have old : ∀ {j : Nat} {L' : List (List Int)}, (pre ++ [last])[j]? = some L' → (pre ++ [last] ++ [z.2])[j]? = some L' := fun e => by
    rw [List.getElem?_append_left (List.getElem?_eq_some_iff.mp e).1]
    exact e
  refine { toMI := m.toMI.step h hw n, ch := ?_, h0 := old m.h0, ci := fun i L e D hD b hb a ha => ?_ }
  · rw [List.reverse_append]
    refine ⟨fun a ha => ?_, m.ch⟩
    obtain ⟨_, p, hp, e⟩ := n.nw a ha
    obtain ⟨D, hD, hp⟩ := List.mem_flatMap.mp hp
    obtain ⟨b, hb, rfl⟩ := List.mem_map.mp hp
    exact ⟨D, hD, b, (mem_whole.mp hb).1, e⟩
  · by_cases hi : i < pre.length
    · rw [List.getElem?_append_left hi] at e
      obtain ⟨j, L', h1, h2, h3⟩ := m.ci i L e D hD b hb a ha
      exact ⟨j, L', h1, old h2, h3⟩
    · have hi2 := (List.getElem?_eq_some_iff.mp e).1
      rw [List.length_append, List.length_singleton] at hi2
      have hi3 : i = pre.length := by omega
      subst hi3
      have eL : L = last := by simpa using e.symm
      subst eL
      have hk := n.cl (D, b) (List.mem_flatMap.mpr ⟨D, hD, List.mem_map.mpr ⟨b, hb, rfl⟩⟩) a ha
      rcases (n.ks a).mp hk with q | q
      · rcases (m.all a).mp q with ⟨L', hL', hk'⟩ | q
        · obtain ⟨j, hj⟩ := List.getElem?_of_mem hL'
          have := (List.getElem?_eq_some_iff.mp hj).1
          exact ⟨j, L', by omega, old (by rw [List.getElem?_append_left this]; exact hj), hk'⟩
        · exact ⟨pre.length, L, by omega, old (by simp), q⟩
      · exact ⟨pre.length + 1, z.2, by omega, by rw [List.getElem?_append_right (by simp)]; simp, q⟩
theorem start_MJ (h : PanN pan) : MJ pan w [(([] : List Int), true)] [] [[]] := { toMI := start_MI h, ch := True.intro, h0 := rfl, ci := fun i L e => by simp at e }
/-- the whole is decided by some row: no layer is empty -/
theorem MJ.ne {kn : Kv Bool} {pre : List (List (List Int))} {last : List (List Int)} (m : MI pan w kn pre last) (hrc : Rc pan w (wholeW pan w) (wholeW pan w)) : last ≠ [] := fun q => by
  have key : ∀ D, Rc pan w (wholeW pan w) D → D ∈ eK kn := fun D hD => by
    induction hD with
    | nil => exact m.nil
    | @step D a b hD hb e2 ih =>
      rcases (m.all D).mp ih with ⟨L, hL, hk⟩ | hk
      · exact m.cl L hL D hk b hb a e2
      · rw [q] at hk
        cases hk
  rcases (m.all _).mp (key _ hrc) with ⟨L, hL, hk⟩ | hk
  · exact absurd hk (m.nw L hL)
  · rw [q] at hk
    cases hk
theorem lay_loop (h : PanN pan) (hrc : Rc pan w (wholeW pan w) (wholeW pan w)) {c : List (List (List Int)) × Kv Bool → Mt ST Bool} {body : List (List (List Int)) × Kv Bool → Mt ST (List (List (List Int)) × Kv Bool)}
    (hc : ∀ kn pre last, c (pre ++ [last], kn) = mpure (!inB (wholeW pan w) last))
    (hb : ∀ kn pre last, MJ pan w kn pre last → pre.length ≤ 20 → ∃ z, Nx pan w kn (last.flatMap fun D => (wholeW pan w).map fun b => (D, b)) z ∧ body (pre ++ [last], kn) = mpure (pre ++ [last] ++ [z.2], z.1)) :
    ∀ (fuel : Nat) (kn : Kv Bool) (pre : List (List (List Int))) (last : List (List Int)), MJ pan w kn pre last → 12 < pre.length + fuel → pre.length ≤ 11 → ∃ kn2 pre2 last2, whileU c body fuel (pre ++ [last], kn) = mpure (pre2 ++ [last2], kn2) ∧ MJ pan w kn2 pre2 last2 ∧ wholeW pan w ∈ last2 ∧ pre2.length ≤ 11
  | 0, kn, pre, last, m, hf, hl => by omega
  | fuel + 1, kn, pre, last, m, hf, hl => by
    unfold whileU
    rw [hc, mbind_pure]
    cases e1 : inB (wholeW pan w) last with
    | true =>
      simp only [Bool.not_true, Bool.false_eq_true, if_false]
      exact ⟨kn, pre, last, rfl, m, inB_iff.mp e1, hl⟩
    | false =>
      simp only [Bool.not_false, if_true]
      obtain ⟨z, n, eb⟩ := hb kn pre last m (by omega)
      have hw : wholeW pan w ∉ last := fun q => by
        rw [inB_iff.mpr q] at e1
        cases e1
      obtain ⟨D, hD⟩ := List.exists_mem_of_ne_nil _ (MJ.ne m.toMI hrc)
      have hs := m.sz D hD
      have hDl := (m.st D ((m.all D).mpr (.inr hD))).1
      rw [eb, mbind_pure]
      exact lay_loop h hrc hc hb fuel z.1 (pre ++ [last]) z.2 (m.step h hw n) (by rw [List.length_append, List.length_singleton]; omega) (by rw [List.length_append, List.length_singleton]; omega)
theorem cut_last {α : Type} (xs : List α) (x : α) : Dn.cutD (xs ++ [x]) none (some (-(1 : Int))) = xs := by
  have e : Dn.cutD (xs ++ [x]) none (some (-(1 : Int))) = (xs ++ [x]).take xs.length := by
    rw [← cutD_take]
    unfold Dn.cutD
    have h1 : HT.sIx (xs ++ [x]).length (xs ++ [x]).length (some (-(1 : Int))) = HT.sIx (xs ++ [x]).length (xs ++ [x]).length (some ((xs.length : Nat) : Int)) := by
      simp [HT.sIx]
      rw [if_neg (by omega)]
      omega
    rw [h1]
  rw [e, List.take_left]
theorem lays_ok (h : PanN pan) (hrc : Rc pan w (wholeW pan w) (wholeW pan w)) : ∃ kn pre last, p_layers_of (S := ST) pan (wordsW pan.length w) = mpure (pre ++ [[wholeW pan w]]) ∧ MJ pan w kn pre last ∧ wholeW pan w ∈ last ∧ pre.length ≤ 11 := by
  unfold p_layers_of
  simp only [mbind_pure]
  rw [whole_ok h]
  simp only [mbind_pure]
  obtain ⟨kn, pre, last, e, m, hq, hl⟩ := lay_loop (w := w) h hrc
    (c := fun (vz7 : (List (List (List Int))) × (Kv Bool)) => mbind (midx vz7.1 (-(1 : Int))) fun vx8 => mpure (!inB (wholeW pan w) vx8))
    (body := fun (vz7 : (List (List (List Int))) × (Kv Bool)) => mbind (mbind (calmly (mbind (midx vz7.1 (-(1 : Int))) fun vx10 => p_next_layer pan (wordsW pan.length w) vx10 vz7.2)) fun vx11 => mbind (mapp vz7.1 vx11.1) fun vx11_ => mpure (vx11_, vx11.2)) fun vlayers9 => mpure (vlayers9.1, vlayers9.2))
    (fun kn pre last => by
      show mbind (midx (pre ++ [last]) (-(1 : Int))) _ = _
      rw [mlast, mbind_pure])
    (fun kn pre last m hpl => by
      obtain ⟨z, e, n⟩ := nextl_ok (w := w) h m.nd m.st (fun D hD => m.st D ((m.all D).mpr (.inr hD))) (last := last) (kn := kn)
      refine ⟨z, n.sub fun D hD => rc_sub h (m.rc D ((m.all D).mpr (.inr hD))), ?_⟩
      show mbind (mbind (calmly (mbind (midx (pre ++ [last]) (-(1 : Int))) _)) _) _ = _
      rw [mlast, mbind_pure, e, calmly_pure', mbind_pure, mapp_ok (by simp; omega)]
      rfl)
    100 [(([] : List Int), true)] [] [[]] (start_MJ h) (by simp) (by simp)
  refine ⟨kn, pre, last, ?_, m, hq, hl⟩
  have e' := congrArg (fun q => mbind q fun (z : (List (List (List Int))) × (Kv Bool)) => mdisp (S := ST) ((cutD z.1 none (some (-(1 : Int)))) ++ [[wholeW pan w]])) e
  refine Eq.trans e' ?_
  show mdisp ((cutD (pre ++ [last]) none (some (-(1 : Int)))) ++ [[wholeW pan w]]) = _
  rw [cut_last, mdisp_ok (by simp; omega)]
end
/-! ### k17: a shortest row -/
section
variable {pan : List (List Int)} {w : Int → Str}
theorem effect_ok {T : Type} (h : PanN pan) {row : List Int} (hr : Bel pan.length row) : p_effect_of (S := T) pan (some row) = mpure (eff pan row) := by
  unfold p_effect_of
  have hl := h.le
  rw [mrepT_ok (by omega) (by omega)]
  simp only [mbind_pure, mbind_ret, mopt_some]
  refine forU_inv row _ (fun pre => eff pan pre) ?_ fun pre x post e => ?_
  · show (upto pan.length).map (fun _ => ("same" : Str)) = _
    rw [List.map_const', upto_length, Int.toNat_natCast]
  · have hx := hr x (by rw [e]; simp)
    unfold p_effect_after eff
    simp only [mbind_pure, mbind_ret, enumZ_upto]
    rw [compM_pure (fun p : Int × Str => wNew pan p.1 p.2 x) (by simp [upto_length]; omega) (fun y _ _ => ?_), filter_true, List.map_map, calmly_pure']
    · congr 2
      funext i
      show wNew pan i (wFrom pan "same" pre i) x = wFrom pan "same" (pre ++ [x]) i
      rw [wFrom_app] <;> rfl
    · unfold p_changed_word wNew
      simp only [midx_row hx.1 hx.2, mbind_pure]
      by_cases h : y.1 = x <;> by_cases h2 : y.1 ∈ rowAt pan x <;> simp [h, h2]
/-- what the last presses of a row decide -/
structure Rw (pan : List (List Int)) (w : Int → Str) (D R : List Int) : Prop where
  bel : Bel pan.length R
  st : Stt pan.length D
  tch : ∀ i, 0 ≤ i ∧ i < (pan.length : Int) → (i ∈ D ↔ ∃ b ∈ R, Tch pan i b)
  eq : ∀ i ∈ D, wAft pan R i = w i
theorem Rw.nil (h : PanN pan) : Rw pan w [] [] := ⟨(fun _ h => nomatch h), stt_sub h.le (List.nil_sublist _), (fun i _ => ⟨fun q => (nomatch q), fun ⟨b, hb, _⟩ => (nomatch hb)⟩), fun i q => nomatch q⟩
theorem Rw.step (h : PanN pan) {D R a : List Int} {b : Int} (r : Rw pan w D R) (hbr : 0 ≤ b ∧ b < (pan.length : Int)) (e : decS pan w D b = some a) : Rw pan w a (b :: R) := by
  obtain ⟨r1, hs, r2, r3⟩ := r
  obtain ⟨e1, e2, e3⟩ := decS_some e
  subst e3
  refine ⟨fun x hx => ?_, dec_stt h hs hbr, fun i hi => ?_, fun i hi => ?_⟩
  · rcases List.mem_cons.mp hx with q | q
    · rw [q]; exact hbr
    · exact r1 x q
  · rw [dec_mem, r2 i hi]
    constructor
    · rintro (⟨c, hc, t⟩ | t)
      · exact ⟨c, by simp [hc], t⟩
      · exact ⟨b, by simp, t⟩
    · rintro ⟨c, hc, t⟩
      rcases List.mem_cons.mp hc with q | q
      · subst q; exact .inr t
      · exact .inl ⟨c, q, t⟩
  · have hir := (dec_stt h hs hbr).2.1 i hi
    rw [wAft_cons]
    by_cases q : i ∈ D
    · have hns : wAft pan R i ≠ "same" := fun hsm => by
        obtain ⟨c, hc, t⟩ := (r2 i hir).mp q
        exact same_iff.mp hsm c hc t
      rw [if_neg hns]
      exact r3 i q
    · have hsm : wAft pan R i = "same" := same_iff.mpr fun c hc t => q ((r2 i hir).mpr ⟨c, hc, t⟩)
      have t := (dec_mem.mp hi).resolve_left q
      rw [if_pos hsm, wAft_one t]
      unfold wOf
      rcases t with t | t
      · subst t
        rw [if_pos rfl, e1 q]
      · rw [if_neg (h.hself i b t), e2 i t q]
theorem Rw.eff {R : List Int} (r : Rw pan w (wholeW pan w) R) : eff pan R = wordsW pan.length w := by
  unfold Lw.eff wordsW
  refine List.map_congr_left fun i hi => ?_
  have hi := mem_upto.mp hi
  by_cases q : w i = "same"
  · rw [q, same_iff]
    intro b hb t
    exact (mem_whole.mp ((r.tch i hi).mpr ⟨b, hb, t⟩)).2 q
  · exact r.eq i (mem_whole.mpr ⟨hi, q⟩)
/-- pressing f, backwards, decides the whole from D -/
inductive Lead (pan : List (List Int)) (w : Int → Str) : List Int → List Int → Prop
  | nil : Lead pan w (wholeW pan w) []
  | step {D a f : List Int} {b : Int} (hb : 0 ≤ b ∧ b < (pan.length : Int)) (e : decS pan w D b = some a) (h : Lead pan w a f) : Lead pan w D (f ++ [b])
theorem Lead.row (h : PanN pan) {D f : List Int} (l : Lead pan w D f) : ∀ {R : List Int}, Rw pan w D R → Rw pan w (wholeW pan w) (f ++ R) := by
  induction l with
  | nil => exact fun r => r
  | step hb e _ ih =>
    intro R r
    rw [List.append_assoc]
    exact ih (r.step h hb e)
def pairsOf (pan : List (List Int)) (w : Int → Str) (cur x : List (List Int)) : List (Int × List Int) := (upto pan.length).flatMap fun b => (x.filter fun D => inO (decS pan w D b) cur).map fun D => (b, D)
theorem inO_iff {o : Option (List Int)} {cur : List (List Int)} : inO o cur = true ↔ ∃ a ∈ cur, o = some a := by
  cases o with
  | none => exact ⟨fun h => (nomatch h), fun ⟨a, _, e⟩ => (nomatch e)⟩
  | some y =>
    show inB y cur = true ↔ _
    rw [inB_iff]
    exact ⟨fun h => ⟨y, h, rfl⟩, fun ⟨a, ha, e⟩ => by rw [Option.some.inj e]; exact ha⟩
theorem mem_pairs {cur x : List (List Int)} {p : Int × List Int} : p ∈ pairsOf pan w cur x ↔ (0 ≤ p.1 ∧ p.1 < (pan.length : Int)) ∧ p.2 ∈ x ∧ ∃ a ∈ cur, decS pan w p.2 p.1 = some a := by
  unfold pairsOf
  rw [List.mem_flatMap]
  constructor
  · rintro ⟨b, hb, hp⟩
    obtain ⟨D, hD, rfl⟩ := List.mem_map.mp hp
    obtain ⟨h1, h2⟩ := List.mem_filter.mp hD
    exact ⟨mem_upto.mp hb, h1, inO_iff.mp h2⟩
  · rintro ⟨h1, h2, h3⟩
    exact ⟨p.1, mem_upto.mpr h1, List.mem_map.mpr ⟨p.2, List.mem_filter.mpr ⟨h2, inO_iff.mpr h3⟩, rfl⟩⟩
theorem flat_le {α β : Type} {K : Nat} (g : α → List β) (hg : ∀ x, (g x).length ≤ K) : ∀ xs : List α, (xs.flatMap g).length ≤ xs.length * K
  | [] => by simp
  | x :: xs => by
    rw [List.flatMap_cons, List.length_append, List.length_cons, Nat.succ_mul]
    have := flat_le g hg xs
    have := hg x
    omega
theorem pairs_len (h : PanN pan) {cur x : List (List Int)} (hx : x.length ≤ 1024) : (pairsOf pan w cur x).length ≤ 10240 := by
  have := flat_le (K := 1024) (fun b => (x.filter fun D => inO (decS pan w D b) cur).map fun D => (b, D)) (fun b => by rw [List.length_map]; exact Nat.le_trans (List.length_filter_le _ _) hx) (upto pan.length)
  rw [upto_length] at this
  have hle := h.le
  unfold pairsOf
  omega
def stepS (pan : List (List Int)) (w : Int → Str) (z : List Int × List (List Int)) (x : List (List Int)) : List Int × List (List Int) := match pairsOf pan w z.2 x with
  | [] => z
  | p :: ps => (z.1 ++ [p.1], ((p :: ps).filter fun q => decide (q.1 = p.1)).map fun q => q.2)
theorem concT_ok {S α β : Type} {f : α → Mt S (List β)} (g : α → List β) : ∀ xs : List α, (∀ x ∈ xs, f x = mpure (g x)) → concT f xs = mpure (xs.flatMap g)
  | [], _ => rfl
  | x :: xs, h => by
    unfold concT
    rw [h x (by simp), mbind_pure, concT_ok g xs fun y hy => h y (by simp [hy]), mbind_pure, List.flatMap_cons]
noncomputable def shortB (pan : List (List Int)) (E : List Str) : List (List Int) → List Int × List (List Int) → Mt ST (List Int × List (List Int)) := fun (vx5 : (List (List Int))) (vz4 : (List Int) × (List (List Int))) => mbind (mbind (mpure (pan.length : Int)) fun vn6 => mrngL (0 : Int) vn6) fun vbuttons7 => mbind (mbind (mpure vbuttons7) fun vxs11 => mbind (calmly (compN (fun (vx8 : Int) => mpure true) (fun (vx8 : Int) => mbind (mpure vx5) fun vxs12 => compG (fun (vx9 : (List Int)) => mbind (p_decided_with pan E vx9 vx8) fun vx10 => mpure (inO vx10 vz4.2)) (fun (vx9 : (List Int)) => mpure (vx8, vx9)) vxs12) vxs11)) mszOk) fun vpairs13 => mbind (mbind (mbind (midx vpairs13 (0 : Int)) fun vx14 => mpure vx14.1) fun vx15 => mdisp (vz4.1 ++ [vx15])) fun vfound16 => mbind (mbind (mpure vpairs13) fun vxs19 => calmly (compG (fun (vx17 : (Int × (List Int))) => mbind (midx vfound16 (-(1 : Int))) fun vx18 => mpure (decide (vx17.1 = vx18))) (fun (vx17 : (Int × (List Int))) => mpure vx17.2) vxs19)) fun vreached20 => mpure (vfound16, vreached20)
theorem short_step (h : PanN pan) {x : List (List Int)} {z : List Int × List (List Int)} (hx : x.length ≤ 1024) (hs : ∀ D ∈ x, Stt pan.length D) (hz : z.1.length ≤ 100) (hne : pairsOf pan w z.2 x ≠ []) : shortB pan (wordsW pan.length w) x z = mpure (stepS pan w z x) := by
  have hle := h.le
  have hpl := pairs_len (w := w) (cur := z.2) h hx
  unfold shortB
  rw [mbind_pure, mrngL_nat pan.length (by omega), mbind_pure, mbind_pure]
  have e1 : (compN (fun (vx8 : Int) => mpure true) (fun (vx8 : Int) => mbind (mpure x) fun vxs12 => compG (fun (vx9 : (List Int)) => mbind (p_decided_with pan (wordsW pan.length w) vx9 vx8) fun vx10 => mpure (inO vx10 z.2)) (fun (vx9 : (List Int)) => mpure (vx8, vx9)) vxs12) (upto pan.length) : Mt ST (List (Int × List Int))) = mpure (pairsOf pan w z.2 x) := by
    unfold compN pairsOf
    rw [if_pos (by rw [upto_length]; omega)]
    refine concT_ok _ _ fun b hb => ?_
    refine Eq.trans (mbind_pure true _) ?_
    show (if true = true then _ else _) = _
    rw [if_pos rfl]
    show mbind (mpure x) _ = _
    rw [mbind_pure]
    refine compG_pure (fun D => inO (decS pan w D b) z.2) (fun D => (b, D)) (by omega) (fun D hD => ?_) fun _ _ _ => rfl
    rw [decw_ok h (hs D hD) (mem_upto.mp hb), mbind_pure]
  rw [e1, calmly_pure', mbind_pure]
  unfold stepS mszOk
  generalize pairsOf pan w z.2 x = ps at hpl hne ⊢
  rw [if_pos (by omega), mbind_pure]
  cases ps with
  | nil => exact absurd rfl hne
  | cons p ps =>
    rw [midx_cons0, mbind_pure, mbind_pure, mdisp_ok (by rw [List.length_append, List.length_singleton]; omega), mbind_pure, mbind_pure]
    rw [compG_pure (fun q : Int × List Int => decide (q.1 = p.1)) (fun q => q.2) (by omega) (fun q _ => ?_) (fun _ _ _ => rfl), calmly_pure', mbind_pure]
    rw [midx_last (x := p.1) (by simp), mbind_pure]
theorem Chn.mono {cur cur' : List (List Int)} (hs : ∀ a ∈ cur', a ∈ cur) : ∀ {xs : List (List (List Int))}, Chn pan w cur xs → Chn pan w cur' xs
  | [], _ => True.intro
  | _ :: _, c => ⟨fun a ha => c.1 a (hs a ha), c.2⟩
theorem back_run (h : PanN pan) : ∀ (xs : List (List (List Int))) (cur : List (List Int)) (z : List Int × List (List Int)), Chn pan w cur xs → (∀ a ∈ z.2, a ∈ cur) → z.2 ≠ [] → (∀ D ∈ z.2, Lead pan w D z.1) → (∀ x ∈ xs, x.length ≤ 1024 ∧ ∀ D ∈ x, Stt pan.length D) → z.1.length + xs.length ≤ 100 →
    forU (shortB pan (wordsW pan.length w)) xs z = mpure (xs.foldl (stepS pan w) z) ∧ (xs.foldl (stepS pan w) z).1.length = z.1.length + xs.length ∧ (xs.foldl (stepS pan w) z).2 ≠ [] ∧ ∀ D ∈ (xs.foldl (stepS pan w) z).2, Lead pan w D (xs.foldl (stepS pan w) z).1 ∧ ∀ L, (cur :: xs).getLast? = some L → D ∈ L
  | [], cur, z, _, hsub, hne, hl, _, _ => ⟨rfl, by simp, hne, fun D hD => ⟨hl D hD, fun L e => by simp at e; rw [← e]; exact hsub D hD⟩⟩
  | x :: xs, cur, z, c, hsub, hne, hl, hx, hz => by
    rw [List.length_cons] at hz
    have hp : pairsOf pan w z.2 x ≠ [] := by
      obtain ⟨a, ha⟩ := List.exists_mem_of_ne_nil _ hne
      obtain ⟨D, hD, b, hb, e⟩ := c.1 a (hsub a ha)
      exact List.ne_nil_of_mem (mem_pairs (p := (b, D)).mpr ⟨hb, hD, a, ha, e⟩)
    have hmem : ∀ p ∈ pairsOf pan w z.2 x, (0 ≤ p.1 ∧ p.1 < (pan.length : Int)) ∧ p.2 ∈ x ∧ ∃ a ∈ z.2, decS pan w p.2 p.1 = some a := fun p q => mem_pairs.mp q
    have hst : ∃ p ps, pairsOf pan w z.2 x = p :: ps ∧ stepS pan w z x = (z.1 ++ [p.1], ((p :: ps).filter fun q => decide (q.1 = p.1)).map fun q => q.2) := by
      unfold stepS
      cases e : pairsOf pan w z.2 x with
      | nil => exact absurd e hp
      | cons p ps => exact ⟨p, ps, rfl, rfl⟩
    obtain ⟨p, ps, e1, e2⟩ := hst
    have hin : ∀ D ∈ (stepS pan w z x).2, D ∈ x ∧ Lead pan w D (stepS pan w z x).1 := fun D hD => by
      rw [e2] at hD ⊢
      obtain ⟨q, hq, rfl⟩ := List.mem_map.mp hD
      obtain ⟨h1, h2⟩ := List.mem_filter.mp hq
      have h2 : q.1 = p.1 := of_decide_eq_true h2
      obtain ⟨hb, hD, a, ha, e⟩ := hmem q (by rw [e1]; exact h1)
      rw [h2] at hb e
      exact ⟨hD, .step hb e (hl a ha)⟩
    obtain ⟨r1, r2, r3, r4⟩ := back_run h xs x (stepS pan w z x) c.2 (fun D hD => (hin D hD).1) (by
      rw [e2]
      have : p.2 ∈ (((p :: ps).filter fun q => decide (q.1 = p.1)).map fun q => q.2) := List.mem_map.mpr ⟨p, List.mem_filter.mpr ⟨by simp, by simp⟩, rfl⟩
      exact List.ne_nil_of_mem this) (fun D hD => (hin D hD).2) (fun y hy => hx y (by simp [hy])) (by rw [e2]; simp; omega)
    rw [List.foldl_cons]
    refine ⟨?_, ?_, r3, fun D hD => ⟨(r4 D hD).1, fun L e => (r4 D hD).2 L (by rw [← e]; rfl)⟩⟩
    · unfold forU
      rw [short_step h (hx x (by simp)).1 (hx x (by simp)).2 (by omega) hp, mbind_pure]
      exact r1
    · rw [r2, e2, List.length_append, List.length_singleton, List.length_cons]
      omega
theorem MJ.low (h : PanN pan) {kn : Kv Bool} {pre : List (List (List Int))} {last : List (List Int)} (m : MJ pan w kn pre last) {R : List Int} (hB : Bel pan.length R) (hR : eff pan R = wordsW pan.length w) : pre.length ≤ R.length := by
  have hw : ∀ i, 0 ≤ i ∧ i < (pan.length : Int) → wAft pan R i = w i := fun i hi => by
    have e := congrArg (fun E : List Str => E[i.toNat]?) hR
    unfold eff wordsW at e
    simp only [List.getElem?_map, upto_get] at e
    rw [if_pos (by omega)] at e
    simp only [Option.map_some, Int.toNat_of_nonneg hi.1] at e
    exact Option.some.inj e
  have key : ∀ (S P : List Int), R = P ++ S → ∃ D, Rw pan w D S ∧ (pre.length ≤ S.length ∨ ∃ j L, j ≤ S.length ∧ pre[j]? = some L ∧ D ∈ L) := by
    intro S
    induction S with
    | nil =>
      intro P _
      refine ⟨[], .nil h, ?_⟩
      have h0 := m.h0
      cases hp : pre with
      | nil => exact .inl (Nat.le_refl _)
      | cons L pre' =>
        rw [hp] at h0
        exact .inr ⟨0, L, Nat.le_refl _, rfl, by simp at h0; rw [h0]; simp⟩
    | cons b S ih =>
      intro P e
      obtain ⟨D, r, hj⟩ := ih (P ++ [b]) (by rw [e]; simp)
      have hbr : 0 ≤ b ∧ b < (pan.length : Int) := hB b (by rw [e]; simp)
      have q1 : b ∉ D → w b = "on" := fun q => by
        rw [← hw b hbr, on_iff]
        exact ⟨P, S, e, fun c hc t => q ((r.tch b hbr).mpr ⟨c, hc, t⟩)⟩
      have q2 : ∀ o ∈ rowAt pan b, o ∉ D → w o = "off" := fun o ho q => by
        have hor := row_bel h ho
        rw [← hw o hor, off_iff]
        exact ⟨P, b, S, e, h.hself o b ho, ho, fun c hc t => q ((r.tch o hor).mpr ⟨c, hc, t⟩)⟩
      have hbw : b ∈ wholeW pan w := mem_whole.mpr ⟨hbr, fun hsm => by
        rw [← hw b hbr, same_iff] at hsm
        exact hsm b (by rw [e]; simp) (.inl rfl)⟩
      have ed := decS_of q1 q2
      refine ⟨_, r.step h hbr ed, ?_⟩
      rw [List.length_cons]
      rcases hj with hj | ⟨j, L, h1, h2, h3⟩
      · exact .inl (by omega)
      · obtain ⟨j', L', g1, g2, g3⟩ := m.ci j L h2 D h3 b hbw _ ed
        by_cases hlt : j' < pre.length
        · rw [List.getElem?_append_left hlt] at g2
          exact .inr ⟨j', L', by omega, g2, g3⟩
        · exact .inl (by omega)
  obtain ⟨D, r, hj⟩ := key R [] rfl
  have : D = wholeW pan w := stt_extE r.st (whole_stt h) fun i => by
    constructor
    · intro q
      have hi := r.st.2.1 i q
      obtain ⟨b, hb, t⟩ := (r.tch i hi).mp q
      exact mem_whole.mpr ⟨hi, fun hsm => by
        rw [← hw i hi, same_iff] at hsm
        exact hsm b hb t⟩
    · intro q
      obtain ⟨hi, q⟩ := mem_whole.mp q
      refine (r.tch i hi).mpr (Classical.byContradiction fun hn => q ?_)
      rw [← hw i hi, same_iff]
      exact fun b hb t => hn ⟨b, hb, t⟩
  subst this
  rcases hj with hj | ⟨j, L, _, h2, h3⟩
  · exact hj
  · exact absurd h3 (m.nw L (List.mem_of_getElem? h2))
/-- shortest_row: a row with the effect, not longer than any -/
theorem short_ok (h : PanN pan) {R : List Int} (hB : Bel pan.length R) : ∃ kn pre last f, p_shortest_row (S := ST) pan (some R) = mpure f ∧ MJ pan (wAft pan R) kn pre last ∧ wholeW pan (wAft pan R) ∈ last ∧ f = (pre.reverse.foldl (stepS pan (wAft pan R)) ([], [wholeW pan (wAft pan R)])).1 ∧ f.length = pre.length ∧ pre.length ≤ 11 ∧ Bel pan.length f ∧ eff pan f = eff pan R := by
  have hrc := ex_rc (w := wAft pan R) h hB rfl
  obtain ⟨kn, pre, last, e, m, hq, hl⟩ := lays_ok (w := wAft pan R) h hrc
  have hall : ∀ x ∈ pre.reverse, x.length ≤ 1024 ∧ ∀ D ∈ x, Stt pan.length D := fun x hx => by
    have hx := List.mem_reverse.mp hx
    exact ⟨m.lp x hx, fun D hD => m.st D ((m.all D).mpr (.inl ⟨x, hx, hD⟩))⟩
  obtain ⟨b1, b2, b3, b4⟩ := back_run (w := wAft pan R) h pre.reverse last ([], [wholeW pan (wAft pan R)]) m.ch (fun a ha => by rw [List.mem_singleton.mp ha]; exact hq) (by simp) (fun D hD => by rw [List.mem_singleton.mp hD]; exact .nil) hall (by simp; omega)
  refine ⟨kn, pre, last, _, ?_, m, hq, rfl, by rw [b2]; simp, hl, ?_⟩
  · unfold p_shortest_row
    rw [effect_ok h hB, mbind_pure]
    rw [show eff pan R = wordsW pan.length (wAft pan R) from rfl, e, mbind_pure]
    have em : munF (S := ST) (pre ++ [[wholeW pan (wAft pan R)]]) = mpure (pre, [wholeW pan (wAft pan R)]) := by
      unfold munF
      simp
    rw [em, mbind_pure, mbind_pure]
    refine (congrArg (fun q => mbind q fun z : List Int × List (List Int) => mpure z.1) b1).trans ?_
    rfl
  · obtain ⟨D, hD⟩ := List.exists_mem_of_ne_nil _ b3
    obtain ⟨l, hD0⟩ := b4 D hD
    have hg : (last :: pre.reverse).getLast? = some [[]] := by
      have h0 := m.h0
      cases hp : pre with
      | nil => rw [hp] at h0; simpa using h0
      | cons L pre' => rw [hp] at h0; simp at h0; rw [h0, List.reverse_cons, ← List.cons_append, List.getLast?_concat]
    have hD1 : D = [] := List.mem_singleton.mp (hD0 _ hg)
    rw [hD1] at l
    have r := l.row h (.nil h)
    rw [List.append_nil] at r
    exact ⟨r.bel, r.eff⟩
end
/-! ### k13: the first of the shortest rows -/
def Lx (a b : List Int) : Prop := ∃ i : Nat, (∀ j : Nat, j < i → a[j]? = b[j]?) ∧ ∃ x y, a[i]? = some x ∧ b[i]? = some y ∧ x < y
theorem Lx.app {a b : List Int} (h : Lx a b) (t u : List Int) : Lx (a ++ t) (b ++ u) := by
  obtain ⟨i, h1, x, y, h2, h3, h4⟩ := h
  have ha := (List.getElem?_eq_some_iff.mp h2).1
  have hb := (List.getElem?_eq_some_iff.mp h3).1
  refine ⟨i, fun j hj => ?_, x, y, ?_, ?_, h4⟩
  · rw [List.getElem?_append_left (by omega), List.getElem?_append_left (by omega)]
    exact h1 j hj
  · rw [List.getElem?_append_left ha]; exact h2
  · rw [List.getElem?_append_left hb]; exact h3
theorem Lx.last (a : List Int) {x y : Int} (h : x < y) : Lx (a ++ [x]) (a ++ [y]) := ⟨a.length, fun j hj => by rw [List.getElem?_append_left hj, List.getElem?_append_left hj], x, y, by simp, by simp, h⟩
theorem Lx.asym {a b : List Int} (h : Lx a b) (g : Lx b a) : False := by
  obtain ⟨i, h1, x, y, h2, h3, h4⟩ := h
  obtain ⟨j, g1, u, v, g2, g3, g4⟩ := g
  rcases Nat.lt_trichotomy i j with q | q | q
  · have := g1 i q
    rw [h2, h3] at this
    have := Option.some.inj this
    omega
  · subst q
    rw [h3] at g2
    rw [h2] at g3
    have := Option.some.inj g2
    have := Option.some.inj g3
    omega
  · have := h1 j q
    rw [g2, g3] at this
    have := Option.some.inj this
    omega
/-- the first of the shortest rows with the effect -/
structure BestF (pan : List (List Int)) (E : List Str) (f : List Int) : Prop where
  bel : Bel pan.length f
  eq : eff pan f = E
  min : ∀ R, Bel pan.length R → eff pan R = E → f.length ≤ R.length ∧ (R.length = f.length → R = f ∨ Lx f R)
theorem BestF.uniq {pan : List (List Int)} {E : List Str} {f g : List Int} (a : BestF pan E f) (b : BestF pan E g) : f = g := by
  obtain ⟨h1, h2⟩ := a.min g b.bel b.eq
  obtain ⟨g1, g2⟩ := b.min f a.bel a.eq
  rcases h2 (by omega) with q | q
  · exact q.symm
  · rcases g2 (by omega) with k | k
    · exact k
    · exact (q.asym k).elim
section
variable {pan : List (List Int)} {w : Int → Str}
theorem words_ofR {R : List Int} (hR : eff pan R = wordsW pan.length w) : ∀ i, 0 ≤ i ∧ i < (pan.length : Int) → wAft pan R i = w i := fun i hi => by
  have e := congrArg (fun E : List Str => E[i.toNat]?) hR
  unfold eff wordsW at e
  simp only [List.getElem?_map, upto_get] at e
  rw [if_pos (by omega)] at e
  simp only [Option.map_some, Int.toNat_of_nonneg hi.1] at e
  exact Option.some.inj e
theorem Rw.uniq {D D' S : List Int} (r : Rw pan w D S) (r' : Rw pan w D' S) : D = D' := stt_extE r.st r'.st fun i => ⟨fun q => (r'.tch i (r.st.2.1 i q)).mpr ((r.tch i (r.st.2.1 i q)).mp q), fun q => (r.tch i (r'.st.2.1 i q)).mpr ((r'.tch i (r'.st.2.1 i q)).mp q)⟩
theorem rw_dec (h : PanN pan) {R : List Int} (hB : Bel pan.length R) (hR : eff pan R = wordsW pan.length w) {P S D : List Int} {b : Int} (e : R = P ++ b :: S) (r : Rw pan w D S) : (0 ≤ b ∧ b < (pan.length : Int)) ∧ b ∈ wholeW pan w ∧ ∃ a, decS pan w D b = some a ∧ Rw pan w a (b :: S) := by
  have hw := words_ofR hR
  have hbr : 0 ≤ b ∧ b < (pan.length : Int) := hB b (by rw [e]; simp)
  have q1 : b ∉ D → w b = "on" := fun q => by
    rw [← hw b hbr, on_iff]
    exact ⟨P, S, e, fun c hc t => q ((r.tch b hbr).mpr ⟨c, hc, t⟩)⟩
  have q2 : ∀ o ∈ rowAt pan b, o ∉ D → w o = "off" := fun o ho q => by
    have hor := row_bel h ho
    rw [← hw o hor, off_iff]
    exact ⟨P, b, S, e, h.hself o b ho, ho, fun c hc t => q ((r.tch o hor).mpr ⟨c, hc, t⟩)⟩
  have hbw : b ∈ wholeW pan w := mem_whole.mpr ⟨hbr, fun hsm => by
    rw [← hw b hbr, same_iff] at hsm
    exact hsm b (by rw [e]; simp) (.inl rfl)⟩
  exact ⟨hbr, hbw, _, decS_of q1 q2, r.step h hbr (decS_of q1 q2)⟩
theorem rw_all (h : PanN pan) {R : List Int} (hB : Bel pan.length R) (hR : eff pan R = wordsW pan.length w) : ∀ (S P : List Int), R = P ++ S → ∃ D, Rw pan w D S
  | [], _, _ => ⟨[], .nil h⟩
  | b :: S, P, e => by
    obtain ⟨D, r⟩ := rw_all h hB hR S (P ++ [b]) (by rw [e]; simp)
    obtain ⟨_, _, a, _, r2⟩ := rw_dec h hB hR e r
    exact ⟨a, r2⟩
theorem rw_whole (h : PanN pan) {R D : List Int} (hR : eff pan R = wordsW pan.length w) (r : Rw pan w D R) : D = wholeW pan w := by
  have hw := words_ofR hR
  refine stt_extE r.st (whole_stt h) fun i => ?_
  constructor
  · intro q
    have hi := r.st.2.1 i q
    obtain ⟨b, hb, t⟩ := (r.tch i hi).mp q
    exact mem_whole.mpr ⟨hi, fun hsm => by
      rw [← hw i hi, same_iff] at hsm
      exact hsm b hb t⟩
  · intro q
    obtain ⟨hi, q⟩ := mem_whole.mp q
    refine (r.tch i hi).mpr (Classical.byContradiction fun hn => q ?_)
    rw [← hw i hi, same_iff]
    exact fun b hb t => hn ⟨b, hb, t⟩
theorem lead_of (h : PanN pan) {R : List Int} (hB : Bel pan.length R) (hR : eff pan R = wordsW pan.length w) : ∀ (k : Nat) (P S D : List Int), P.length = k → R = P ++ S → Rw pan w D S → Lead pan w D P
  | 0, P, S, D, hk, e, r => by
    obtain rfl := List.length_eq_zero_iff.mp hk
    rw [List.nil_append] at e
    subst e
    rw [rw_whole h hR r]
    exact .nil
  | k + 1, P, S, D, hk, e, r => by
    rcases List.eq_nil_or_concat P with q | ⟨P', b, q⟩
    · rw [q] at hk; cases hk
    · rw [List.concat_eq_append] at q
      subst q
      rw [List.length_append, List.length_singleton] at hk
      have e' : R = P' ++ b :: S := by rw [e]; simp
      obtain ⟨hb, _, a, ea, r2⟩ := rw_dec h hB hR e' r
      exact .step hb ea (lead_of h hB hR k P' (b :: S) a (by omega) e' r2)
/-- each set of a layer is decided by as many presses -/
theorem chn_rows (h : PanN pan) : ∀ (xs : List (List (List Int))) (cur : List (List Int)), Chn pan w cur xs → (cur :: xs).getLast? = some [[]] → ∀ D ∈ cur, ∃ R, R.length = xs.length ∧ Rw pan w D R
  | [], cur, _, hg, D, hD => by
    have : cur = [[]] := by simpa using hg
    rw [this, List.mem_singleton] at hD
    rw [hD]
    exact ⟨[], rfl, .nil h⟩
  | x :: xs, cur, c, hg, D, hD => by
    obtain ⟨D', hD', b, hb, e⟩ := c.1 D hD
    obtain ⟨R, hl, r⟩ := chn_rows h xs x c.2 hg D' hD'
    exact ⟨b :: R, by rw [List.length_cons, hl, List.length_cons], r.step h hb e⟩
theorem chn_cut : ∀ (ys : List (List (List Int))) (cur x : List (List Int)) (xs : List (List (List Int))), Chn pan w cur (ys ++ x :: xs) → Chn pan w x xs
  | [], _, _, _, c => c.2
  | _ :: ys, _, x, xs, c => chn_cut ys _ x xs c.2
theorem MJ.bot {kn : Kv Bool} {pre : List (List (List Int))} {last : List (List Int)} (m : MJ pan w kn pre last) : (last :: pre.reverse).getLast? = some [[]] := by
  have h0 := m.h0
  cases hp : pre with
  | nil => rw [hp] at h0; simpa using h0
  | cons L pre' => rw [hp] at h0; simp at h0; rw [h0, List.reverse_cons, ← List.cons_append, List.getLast?_concat]
theorem MJ.rows (h : PanN pan) {kn : Kv Bool} {pre : List (List (List Int))} {last : List (List Int)} (m : MJ pan w kn pre last) {j : Nat} {L : List (List Int)} (hL : pre[j]? = some L) {D : List Int} (hD : D ∈ L) : ∃ R, R.length = j ∧ Rw pan w D R := by
  have hj := (List.getElem?_eq_some_iff.mp hL).1
  have e : pre = pre.take j ++ L :: pre.drop (j + 1) := by
    have := List.take_append_drop j pre
    rw [List.drop_eq_getElem_cons hj, (List.getElem?_eq_some_iff.mp hL).2] at this
    exact this.symm
  have er : pre.reverse = (pre.drop (j + 1)).reverse ++ L :: (pre.take j).reverse := by
    conv => lhs; rw [e]
    simp
  have c := m.ch
  rw [er] at c
  have hg := m.bot
  rw [er, ← List.cons_append, List.getLast?_append] at hg
  obtain ⟨R, hl, r⟩ := chn_rows h _ L (chn_cut _ _ _ _ c) (by
    cases q : (L :: (pre.take j).reverse).getLast? with
    | none => simp at q
    | some y => rw [q] at hg; simpa using hg) D hD
  exact ⟨R, by rw [hl, List.length_reverse, List.length_take]; omega, r⟩
theorem MJ.idx (h : PanN pan) {kn : Kv Bool} {pre : List (List (List Int))} {last : List (List Int)} (m : MJ pan w kn pre last) {R : List Int} (hB : Bel pan.length R) (hR : eff pan R = wordsW pan.length w) : ∀ (S P D : List Int), R = P ++ S → Rw pan w D S → pre.length ≤ S.length ∨ ∃ j L, j ≤ S.length ∧ pre[j]? = some L ∧ D ∈ L
  | [], P, D, _, r => by
    have hD : D = [] := r.uniq (.nil h)
    subst hD
    have h0 := m.h0
    cases hp : pre with
    | nil => exact .inl (Nat.le_refl _)
    | cons L pre' =>
      rw [hp] at h0
      exact .inr ⟨0, L, Nat.le_refl _, rfl, by simp at h0; rw [h0]; simp⟩
  | b :: S, P, D, e, r => by
    obtain ⟨D', r'⟩ := rw_all h hB hR S (P ++ [b]) (by rw [e]; simp)
    obtain ⟨_, hbw, a, ed, ra⟩ := rw_dec h hB hR e r'
    have hD : D = a := r.uniq ra
    subst hD
    rw [List.length_cons]
    rcases MJ.idx h m hB hR S (P ++ [b]) D' (by rw [e]; simp) r' with hj | ⟨j, L, h1, h2, h3⟩
    · exact .inl (by omega)
    · obtain ⟨j', L', g1, g2, g3⟩ := m.ci j L h2 D' h3 b hbw _ ed
      by_cases hlt : j' < pre.length
      · rw [List.getElem?_append_left hlt] at g2
        exact .inr ⟨j', L', by omega, g2, g3⟩
      · exact .inl (by omega)
theorem lay_at (h : PanN pan) {kn : Kv Bool} {pre : List (List (List Int))} {last : List (List Int)} (m : MJ pan w kn pre last) {R : List Int} (hB : Bel pan.length R) (hR : eff pan R = wordsW pan.length w) (hl : R.length = pre.length) {P S D : List Int} (e : R = P ++ S) (hP : P ≠ []) (r : Rw pan w D S) : ∃ L, pre[S.length]? = some L ∧ D ∈ L := by
  have hPl : 1 ≤ P.length := by
    cases P with
    | nil => exact absurd rfl hP
    | cons _ _ => simp
  have hRl : R.length = P.length + S.length := by rw [e, List.length_append]
  rcases m.idx h hB hR S P D e r with q | ⟨j, L, h1, h2, h3⟩
  · omega
  · by_cases hj : j = S.length
    · subst hj; exact ⟨L, h2, h3⟩
    · obtain ⟨R', hl', r'⟩ := m.rows h h2 h3
      have r2 := (lead_of h hB hR P.length P S D rfl e r).row h r'
      have := m.low h r2.bel r2.eff
      rw [List.length_append] at this
      omega
theorem pairs_le (cur x : List (List Int)) : (pairsOf pan w cur x).Pairwise fun p q => p.1 ≤ q.1 := by
  unfold pairsOf
  refine List.pairwise_flatMap.mpr ⟨fun b _ => ?_, (sorted_upto _).imp fun {a b} hab p hp q hq => ?_⟩
  · refine List.pairwise_map.mpr (List.Pairwise.imp (fun _ => Int.le_refl _) (List.pairwise_of_forall (R := fun _ _ => True) fun _ _ => trivial))
  · obtain ⟨_, _, rfl⟩ := List.mem_map.mp hp
    obtain ⟨_, _, rfl⟩ := List.mem_map.mp hq
    exact Int.le_of_lt hab
theorem back_lex (h : PanN pan) {kn : Kv Bool} {pre : List (List (List Int))} {last : List (List Int)} (m : MJ pan w kn pre last) {R : List Int} (hB : Bel pan.length R) (hR : eff pan R = wordsW pan.length w) (hl : R.length = pre.length) :
    ∀ (k : Nat) (ys xs : List (List (List Int))) (P S D : List Int), ys.length = k → pre.reverse = ys ++ xs → P.length = k → R = P ++ S → Rw pan w D S → Lx (ys.foldl (stepS pan w) ([], [wholeW pan w])).1 P ∨ ((ys.foldl (stepS pan w) ([], [wholeW pan w])).1 = P ∧ D ∈ (ys.foldl (stepS pan w) ([], [wholeW pan w])).2)
  | 0, ys, xs, P, S, D, hk, ey, hP, e, r => by
    obtain rfl := List.length_eq_zero_iff.mp hk
    obtain rfl := List.length_eq_zero_iff.mp hP
    rw [List.nil_append] at e
    subst e
    exact .inr ⟨rfl, by rw [rw_whole h hR r]; simp⟩
  | k + 1, ys, xs, P, S, D, hk, ey, hP, e, r => by
    rcases List.eq_nil_or_concat ys with q | ⟨ys', x, q⟩
    · rw [q] at hk; cases hk
    rcases List.eq_nil_or_concat P with q2 | ⟨P', b, q2⟩
    · rw [q2] at hP; cases hP
    rw [List.concat_eq_append] at q q2
    subst q q2
    rw [List.length_append, List.length_singleton] at hk hP
    have e' : R = P' ++ b :: S := by rw [e]; simp
    obtain ⟨hb, _, a, ea, ra⟩ := rw_dec h hB hR e' r
    have ih := back_lex h m hB hR hl k ys' (x :: xs) P' (b :: S) a (by omega) (by rw [ey]; simp) (by omega) e' ra
    rw [List.foldl_append]
    generalize ys'.foldl (stepS pan w) ([], [wholeW pan w]) = z at ih
    show Lx (stepS pan w z x).1 _ ∨ ((stepS pan w z x).1 = _ ∧ D ∈ (stepS pan w z x).2)
    rcases ih with ih | ⟨i1, i2⟩
    · left
      unfold stepS
      cases pairsOf pan w z.2 x with
      | nil => have := ih.app [] [b]; rwa [List.append_nil] at this
      | cons p ps => exact ih.app [p.1] [b]
    · obtain ⟨L, hL, hDL⟩ := lay_at h m hB hR hl (P := P' ++ [b]) (S := S) e (by simp) r
      have hxl : L = x := by
        have hs : S.length = xs.length := by
          have h1 := congrArg List.length ey
          have h2 := congrArg List.length e
          simp only [List.length_reverse, List.length_append, List.length_singleton] at h1 h2
          omega
        have ep : pre = xs.reverse ++ x :: ys'.reverse := by
          have := congrArg List.reverse ey
          rw [List.reverse_reverse] at this
          rw [this]
          simp
        rw [ep, hs, List.getElem?_append_right (by simp)] at hL
        simpa using hL.symm
      subst hxl
      have hmem : (b, D) ∈ pairsOf pan w z.2 L := mem_pairs.mpr ⟨hb, hDL, a, i2, ea⟩
      have hpw := pairs_le (pan := pan) (w := w) z.2 L
      unfold stepS
      cases ep : pairsOf pan w z.2 L with
      | nil => rw [ep] at hmem; cases hmem
      | cons p ps =>
        rw [ep] at hmem hpw
        dsimp only
        rw [i1]
        have hpb : p.1 ≤ b := by
          rcases List.mem_cons.mp hmem with q | q
          · rw [← q]; exact Int.le_refl _
          · exact (List.pairwise_cons.mp hpw).1 _ q
        by_cases hq : p.1 = b
        · right
          exact ⟨by rw [hq], List.mem_map.mpr ⟨(b, D), List.mem_filter.mpr ⟨hmem, by simp [hq]⟩, rfl⟩⟩
        · exact .inl (.last P' (by omega))
/-- the greedy row is the first of the shortest -/
theorem best_spec (h : PanN pan) {kn : Kv Bool} {pre : List (List (List Int))} {last : List (List Int)} (m : MJ pan w kn pre last) (hq : wholeW pan w ∈ last) (hl : pre.length ≤ 11) : BestF pan (wordsW pan.length w) (pre.reverse.foldl (stepS pan w) ([], [wholeW pan w])).1 ∧ (pre.reverse.foldl (stepS pan w) ([], [wholeW pan w])).1.length = pre.length := by
  have hall : ∀ x ∈ pre.reverse, x.length ≤ 1024 ∧ ∀ D ∈ x, Stt pan.length D := fun x hx => by
    have hx := List.mem_reverse.mp hx
    exact ⟨m.lp x hx, fun D hD => m.st D ((m.all D).mpr (.inl ⟨x, hx, hD⟩))⟩
  obtain ⟨_, b2, b3, b4⟩ := back_run (w := w) h pre.reverse last ([], [wholeW pan w]) m.ch (fun a ha => by rw [List.mem_singleton.mp ha]; exact hq) (by simp) (fun D hD => by rw [List.mem_singleton.mp hD]; exact .nil) hall (by simp; omega)
  have hfl : (pre.reverse.foldl (stepS pan w) ([], [wholeW pan w])).1.length = pre.length := by rw [b2]; simp
  obtain ⟨D, hD⟩ := List.exists_mem_of_ne_nil _ b3
  obtain ⟨l, hD0⟩ := b4 D hD
  have hD1 : D = [] := List.mem_singleton.mp (hD0 _ m.bot)
  rw [hD1] at l
  have r := l.row h (.nil h)
  rw [List.append_nil] at r
  refine ⟨⟨r.bel, r.eff, fun R hB hR => ?_⟩, hfl⟩
  have hlow := m.low h hB hR
  refine ⟨by omega, fun hRl => ?_⟩
  rcases back_lex h m hB hR (by omega) pre.reverse.length pre.reverse [] R [] [] rfl (by simp) (by rw [List.length_reverse]; omega) (by simp) (.nil h) with q | q
  · exact .inr q
  · exact .inl q.1.symm
theorem short_best (h : PanN pan) {R : List Int} (hB : Bel pan.length R) : ∃ f, p_shortest_row (S := ST) pan (some R) = mpure f ∧ BestF pan (eff pan R) f := by
  obtain ⟨kn, pre, last, f, e, m, hq, rfl, _, hl, _, _⟩ := short_ok h hB
  exact ⟨_, e, (best_spec h m hq hl).1⟩
end
/-! ### k13: the law's own search -/
section
variable {pan : List (List Int)} {w : Int → Str}
theorem decided_ok (h : PanN pan) {D : List Int} {b : Int} (hD : Stt pan.length D) (hb : 0 ≤ b ∧ b < (pan.length : Int)) : p__law_decided (S := ST) pan (wordsW pan.length w) D b = mpure (decS pan w D b) := by
  have hr := h.len _ (h.row hb.1 hb.2)
  have hl := hD.1
  have hle := h.le
  unfold p__law_decided decS
  simp only [mbind_pure]
  rw [wordsW_at w hb]
  simp only [mbind_pure]
  have e1 : (if (!decide (b ∈ D)) = true then (mpure (!decide (w b = ("on" : Str))) : Mt ST Bool) else mpure false) = mpure (!decide (b ∈ D) && !decide (w b = "on")) := by
    by_cases q : b ∈ D
    · simp [q]
    · simp [q]
  rw [e1, mbind_pure]
  by_cases q1 : (!decide (b ∈ D) && !decide (w b = "on")) = true
  · rw [if_pos q1, if_pos q1]
  · rw [if_neg q1, if_neg q1, midx_row hb.1 hb.2, mbind_pure, compG_id (fun o => !decide (o ∈ D) && !decide (w o = "off")) (by omega) fun o ho => ?_, calmly_pure', mbind_pure, mbind_pure]
    · by_cases q2 : ((rowAt pan b).filter fun o => !decide (o ∈ D) && !decide (w o = "off")) = []
      · rw [if_pos q2, decide_eq_true q2]
        simp only [Bool.not_true, Bool.false_eq_true, if_false]
        rw [mcat_ok (by rw [List.length_singleton]; omega), mbind_pure, mbind_pure, mcat_ok (by rw [List.length_append, List.length_singleton]; omega), mbind_pure, msetS_ok (n := pan.length) (by omega) (fun a ha => ?_) (by rw [List.length_append, List.length_append, List.length_singleton]; omega)]
        · rfl
        · rcases List.mem_append.mp ha with q | q
          · rcases List.mem_append.mp q with q | q
            · exact hD.2.1 a q
            · rw [List.mem_singleton.mp q]; exact hb
          · exact row_bel h q
      · rw [if_neg q2, decide_eq_false q2]
        rfl
    · rw [wordsW_at w (row_bel h ho), mbind_pure]
      by_cases q : o ∈ D
      · simp [q]
      · simp [q]
theorem lay_loopL (h : PanN pan) (hrc : Rc pan w (wholeW pan w) (wholeW pan w)) {c : Kv Bool × List (List (List Int)) → Mt ST Bool} {body : Kv Bool × List (List (List Int)) → Mt ST (Kv Bool × List (List (List Int)))}
    (hc : ∀ kn pre last, last ≠ [] → c (kn, pre ++ [last]) = mpure (!inB (wholeW pan w) last))
    (hb : ∀ kn pre last, MJ pan w kn pre last → pre.length ≤ 20 → ∃ z, Nx pan w kn (last.flatMap fun D => (wholeW pan w).map fun b => (D, b)) z ∧ body (kn, pre ++ [last]) = mpure (z.1, pre ++ [last] ++ [z.2])) :
    ∀ (fuel : Nat) (kn : Kv Bool) (pre : List (List (List Int))) (last : List (List Int)), MJ pan w kn pre last → 12 < pre.length + fuel → pre.length ≤ 11 → ∃ kn2 pre2 last2, whileU c body fuel (kn, pre ++ [last]) = mpure (kn2, pre2 ++ [last2]) ∧ MJ pan w kn2 pre2 last2 ∧ wholeW pan w ∈ last2 ∧ pre2.length ≤ 11
  | 0, kn, pre, last, m, hf, hl => by omega
  | fuel + 1, kn, pre, last, m, hf, hl => by
    unfold whileU
    rw [hc kn pre last (MJ.ne m.toMI hrc), mbind_pure]
    cases e1 : inB (wholeW pan w) last with
    | true =>
      simp only [Bool.not_true, Bool.false_eq_true, if_false]
      exact ⟨kn, pre, last, rfl, m, inB_iff.mp e1, hl⟩
    | false =>
      simp only [Bool.not_false, if_true]
      obtain ⟨z, n, eb⟩ := hb kn pre last m (by omega)
      have hw : wholeW pan w ∉ last := fun q => by
        rw [inB_iff.mpr q] at e1
        cases e1
      obtain ⟨D, hD⟩ := List.exists_mem_of_ne_nil _ (MJ.ne m.toMI hrc)
      have hs := m.sz D hD
      have hDl := (m.st D ((m.all D).mpr (.inr hD))).1
      rw [eb, mbind_pure]
      exact lay_loopL h hrc hc hb fuel z.1 (pre ++ [last]) z.2 (m.step h hw n) (by rw [List.length_append, List.length_singleton]; omega) (by rw [List.length_append, List.length_singleton]; omega)
theorem nx_runs (h : PanN pan) {kn : Kv Bool} {last : List (List Int)} (hnd : (eK kn).Nodup) (hst : ∀ k ∈ eK kn, Stt pan.length k) (hl : ∀ D ∈ last, Stt pan.length D) {B : List Int → Int → Kv Bool × List (List Int) → Mt ST (Kv Bool × List (List Int))}
    (hB : ∀ D b z, Stt pan.length D → (0 ≤ b ∧ b < (pan.length : Int)) → z.1.length ≤ 1024 → z.2.length ≤ 1024 → B D b z = mpure (stP pan w z (D, b))) :
    ∃ z, forU (fun D z => forU (B D) (wholeW pan w) z) last (kn, []) = mpure z ∧ Nx pan w kn (last.flatMap fun D => (wholeW pan w).map fun b => (D, b)) z := by
  rw [forU_pairs]
  have hin : ∀ p ∈ (last.flatMap fun D => (wholeW pan w).map fun b => (D, b)), Stt pan.length p.1 ∧ (0 ≤ p.2 ∧ p.2 < (pan.length : Int)) := fun p hp => by
    obtain ⟨D, hD, hp⟩ := List.mem_flatMap.mp hp
    obtain ⟨b, hb, rfl⟩ := List.mem_map.mp hp
    exact ⟨hl D hD, (mem_whole.mp hb).1⟩
  generalize (last.flatMap fun D => (wholeW pan w).map fun b => (D, b)) = ps at hin ⊢
  have n0 : ∀ (k : Nat) pre post, pre.length = k → ps = pre ++ post → Nx pan w kn pre (pre.foldl (stP pan w) (kn, [])) := by
    intro k
    induction k with
    | zero =>
      intro pre post hk e
      rw [List.length_eq_zero_iff.mp hk]
      exact ⟨hnd, hst, fun k => by simp, (fun _ h => nomatch h), (fun _ h => nomatch h), Nat.zero_le _⟩
    | succ k ih =>
      intro pre post hk e
      rcases List.eq_nil_or_concat pre with q | ⟨pre', p, q⟩
      · rw [q] at hk
        cases hk
      · rw [List.concat_eq_append] at q
        subst q
        have hp := hin p (by rw [e]; simp)
        rw [List.length_append, List.length_singleton] at hk
        rw [List.foldl_append]
        exact (ih pre' (p :: post) (by omega) (by rw [e]; simp)).step h hp.1 hp.2
  refine ⟨ps.foldl (stP pan w) (kn, []), forU_inv ps (kn, []) (fun pre => pre.foldl (stP pan w) (kn, [])) rfl fun pre p post e => ?_, n0 _ ps [] rfl (by simp)⟩
  have hp := hin p (by rw [e]; simp)
  have n := n0 _ pre (p :: post) rfl e
  have h1 := stts_len h.le n.nd n.st
  rw [eK_len] at h1
  have h2 := n.le
  rw [List.foldl_append]
  exact hB p.1 p.2 _ hp.1 hp.2 h1 (by omega)
theorem llays_ok (h : PanN pan) (hrc : Rc pan w (wholeW pan w) (wholeW pan w)) : ∃ kn pre last, p__law_layers (S := ST) pan (wordsW pan.length w) = mpure (pre ++ [last]) ∧ MJ pan w kn pre last ∧ wholeW pan w ∈ last ∧ pre.length ≤ 11 := by
  unfold p__law_layers
  simp only [mbind_pure]
  rw [whole_ok h]
  simp only [mbind_pure]
  obtain ⟨kn, pre, last, e, m, hq, hl⟩ := lay_loopL (w := w) h hrc
    (c := fun (vz7 : (Kv Bool) × (List (List (List Int)))) => mbind (mbind (midx vz7.2 (-(1 : Int))) fun vx8 => mpure (!inB (wholeW pan w) vx8)) fun vb10 => if vb10 = true then mbind (midx vz7.2 (-(1 : Int))) fun vx9 => mpure (!decide (vx9 = ([] : (List (List Int))))) else mpure false)
    (body := fun (vz7 : (Kv Bool) × (List (List (List Int)))) => mbind (mbind (midx vz7.2 (-(1 : Int))) fun vxs27 => forU (fun (vx13 : (List Int)) (vz12 : (Kv Bool) × (List (List Int))) => mbind (forU (fun (vx15 : Int) (vz14 : (Kv Bool) × (List (List Int))) => mbind (p__law_decided pan (wordsW pan.length w) vx13 vx15) fun vafter16 => mbind (mbind (if vafter16.isSome = true then mbind (mopt vafter16) fun vk17 => mpure (!hasP vz14.1 vk17) else mpure false) fun vb25 => if vb25 = true then (mbind (mbind (mopt vafter16) fun vk21 => mputD vz14.1 vk21 true) fun vknown22 => mbind (mbind (mopt vafter16) fun vx24 => mapp vz14.2 vx24) fun vlater23 => mpure (vknown22, vlater23)) else (mpure (vz14.1, vz14.2))) fun vz19 => mpure (vz19.1, vz19.2)) (wholeW pan w) (vz12.1, vz12.2)) fun vz14 => mpure (vz14.1, vz14.2)) vxs27 (vz7.1, ([] : List (List Int)))) fun vz12 => mbind (mapp vz7.2 vz12.2) fun vlayers_here28 => mpure (vz12.1, vlayers_here28))
    (fun kn pre last hne => by
      show mbind (mbind (midx (pre ++ [last]) (-(1 : Int))) _) _ = _
      rw [mlast, mbind_pure, mbind_pure]
      cases inB (wholeW pan w) last with
      | true => rfl
      | false =>
        show (if (!false) = true then mbind (mpure last) fun vx9 => mpure (!decide (vx9 = ([] : (List (List Int))))) else mpure false) = _
        rw [if_pos (show (!false) = true from rfl), mbind_pure, decide_eq_false hne])
    (fun kn pre last m hpl => by
      obtain ⟨z, e, n⟩ := nx_runs (w := w) h m.nd m.st (fun D hD => m.st D ((m.all D).mpr (.inr hD)))
        (B := fun (vx13 : (List Int)) (vx15 : Int) (vz14 : (Kv Bool) × (List (List Int))) => mbind (p__law_decided pan (wordsW pan.length w) vx13 vx15) fun vafter16 => mbind (mbind (if vafter16.isSome = true then mbind (mopt vafter16) fun vk17 => mpure (!hasP vz14.1 vk17) else mpure false) fun vb25 => if vb25 = true then (mbind (mbind (mopt vafter16) fun vk21 => mputD vz14.1 vk21 true) fun vknown22 => mbind (mbind (mopt vafter16) fun vx24 => mapp vz14.2 vx24) fun vlater23 => mpure (vknown22, vlater23)) else (mpure (vz14.1, vz14.2))) fun vz19 => mpure (vz19.1, vz19.2))
        (fun D b z hD hb h1 h2 => by
          rw [decided_ok h hD hb, mbind_pure]
          unfold stP
          dsimp only
          cases decS pan w D b with
          | none => rfl
          | some a =>
            rw [if_pos (show (some a).isSome = true from rfl), mopt_some]
            simp only [mbind_pure]
            unfold hasP
            by_cases hm : a ∈ eK z.1
            · rw [decide_eq_true hm, if_pos hm]
              rfl
            · rw [decide_eq_false hm, if_neg hm]
              simp only [Bool.not_false, if_true]
              unfold mputD
              rw [if_pos (show z.1.length ≤ SZ by have : (SZ : Nat) = 100000 := rfl; omega), mbind_pure, mapp_ok (by omega)]
              unfold putP
              rw [if_neg hm]
              rfl)
      refine ⟨z, n, ?_⟩
      show mbind (mbind (midx (pre ++ [last]) (-(1 : Int))) _) _ = _
      rw [mlast, mbind_pure]
      have e' : forU (S := ST) (fun (vx13 : (List Int)) (vz12 : (Kv Bool) × (List (List Int))) => mbind (forU (fun (vx15 : Int) (vz14 : (Kv Bool) × (List (List Int))) => mbind (p__law_decided pan (wordsW pan.length w) vx13 vx15) fun vafter16 => mbind (mbind (if vafter16.isSome = true then mbind (mopt vafter16) fun vk17 => mpure (!hasP vz14.1 vk17) else mpure false) fun vb25 => if vb25 = true then (mbind (mbind (mopt vafter16) fun vk21 => mputD vz14.1 vk21 true) fun vknown22 => mbind (mbind (mopt vafter16) fun vx24 => mapp vz14.2 vx24) fun vlater23 => mpure (vknown22, vlater23)) else (mpure (vz14.1, vz14.2))) fun vz19 => mpure (vz19.1, vz19.2)) (wholeW pan w) (vz12.1, vz12.2)) fun vz14 => mpure (vz14.1, vz14.2)) last (kn, ([] : List (List Int))) = mpure z := by
        rw [← e]
        congr 1
        funext D z
        exact mbind_ret _
      refine (congrArg (fun q => mbind q fun (z : (Kv Bool) × (List (List Int))) => mbind (mapp (pre ++ [last]) z.2) fun vlayers_here28 => mpure (z.1, vlayers_here28)) e').trans ?_
      rw [mbind_pure, mapp_ok (by simp; omega), mbind_pure])
    1000 [(([] : List Int), true)] [] [[]] (start_MJ h) (by simp) (by simp)
  exact ⟨kn, pre, last, congrArg (fun q => mbind q fun (z : (Kv Bool) × List (List (List Int))) => mpure z.2) e, m, hq, hl⟩
theorem range_get {α : Type} : ∀ (xs pre rest : List α), (List.range' pre.length xs.length).filterMap ((pre ++ xs ++ rest)[·]?) = xs
  | [], pre, rest => rfl
  | x :: xs, pre, rest => by
    rw [List.length_cons, List.range'_succ, List.filterMap_cons]
    have e : (pre ++ x :: xs ++ rest)[pre.length]? = some x := by simp
    rw [e]
    have ih := range_get xs (pre ++ [x]) rest
    rw [List.length_append, List.length_singleton] at ih
    rw [show pre ++ x :: xs ++ rest = pre ++ [x] ++ xs ++ rest by simp, ih]
theorem rev2_range : ∀ n, n ≤ 11 → sliceRange (sliceBounds (some (-2)) none (some (-1)) (n + 1)).1 (sliceBounds (some (-2)) none (some (-1)) (n + 1)).2.1 (sliceBounds (some (-2)) none (some (-1)) (n + 1)).2.2 = (List.range' 0 n).reverse := by decide
theorem stepD_rev2 {α : Type} (pre : List α) (x : α) (h : pre.length ≤ 11) : stepD (pre ++ [x]) (some (-(2 : Int))) none (some (-1)) = pre.reverse := by
  unfold stepD
  rw [List.length_append, List.length_singleton]
  have e := rev2_range pre.length h
  rw [show (some (-(2 : Int))) = some (-2) from rfl, e, List.filterMap_reverse]
  have := range_get pre [] [x]
  rw [List.length_nil, List.nil_append] at this
  rw [this]
/-- the law's turn for a layer -/
def fstB (g : Int → List (List Int)) : List Int → List Int → List (List Int) × List Int
  | [], row => ([], row)
  | b :: bs, row => if g b = [] then fstB g bs row else (g b, row ++ [b])
theorem fstB_pairs (g : Int → List (List Int)) : ∀ (bs : List Int) (row : List Int), bs.Nodup → fstB g bs row = match (bs.flatMap fun b => (g b).map fun D => (b, D)) with
    | [] => ([], row)
    | p :: ps => (((p :: ps).filter fun q => decide (q.1 = p.1)).map (fun q => q.2), row ++ [p.1])
  | [], row, _ => rfl
  | b :: bs, row, hn => by
    have hn := List.nodup_cons.mp hn
    unfold fstB
    rw [List.flatMap_cons]
    by_cases e : g b = []
    · rw [if_pos e, e, List.map_nil, List.nil_append]
      exact fstB_pairs g bs row hn.2
    · rw [if_neg e]
      obtain ⟨D, Ds, eg⟩ := List.exists_cons_of_ne_nil e
      rw [eg, List.map_cons, List.cons_append]
      dsimp only
      rw [← List.cons_append, ← List.map_cons (f := fun D => (b, D)), List.filter_append, List.map_append]
      have h1 : ((((D :: Ds).map fun D => (b, D))).filter fun q => decide (q.1 = b)) = (D :: Ds).map fun D => (b, D) := List.filter_eq_self.mpr fun q hq => by
        obtain ⟨_, _, rfl⟩ := List.mem_map.mp hq
        simp
      have h2 : (bs.flatMap fun b => (g b).map fun D => (b, D)).filter (fun q => decide (q.1 = b)) = [] := List.filter_eq_nil_iff.mpr fun q hq k => by
        obtain ⟨c, hc, hq⟩ := List.mem_flatMap.mp hq
        obtain ⟨_, _, rfl⟩ := List.mem_map.mp hq
        have : c = b := of_decide_eq_true k
        exact hn.1 (this ▸ hc)
      rw [h1, h2, List.map_nil, List.append_nil, List.map_map]
      show (D :: Ds, row ++ [b]) = ((D :: Ds).map (fun D => D), row ++ [b])
      rw [List.map_id']
theorem fstB_le (g : Int → List (List Int)) : ∀ (bs row : List Int), (fstB g bs row).2.length ≤ row.length + 1
  | [], row => by show row.length ≤ row.length + 1; omega
  | b :: bs, row => by
    unfold fstB
    split
    · exact fstB_le g bs row
    · simp
theorem stepS_fstB (z : List Int × List (List Int)) (L : List (List Int)) : (fstB (fun b => L.filter fun D => inO (decS pan w D b) z.2) (upto pan.length) z.1).2 = (stepS pan w z L).1 ∧ (pairsOf pan w z.2 L ≠ [] → (fstB (fun b => L.filter fun D => inO (decS pan w D b) z.2) (upto pan.length) z.1).1 = (stepS pan w z L).2) := by
  rw [fstB_pairs _ _ _ (nodup_upto _)]
  unfold stepS
  show _ ∧ (pairsOf pan w z.2 L ≠ [] → _)
  unfold pairsOf
  cases ((upto pan.length).flatMap fun b => (L.filter fun D => inO (decS pan w D b) z.2).map fun D => (b, D)) with
  | nil => exact ⟨rfl, fun q => absurd rfl q⟩
  | cons p ps => exact ⟨rfl, fun _ => rfl⟩
end
/-! ### k13: the law's best row, its first row -/
section
variable {pan : List (List Int)} {w : Int → Str}
noncomputable def lbB (pan : List (List Int)) (E : List Str) : List (List Int) → List Int × List (List Int) → Mt ST (List Int × List (List Int)) := fun (vx14 : (List (List Int))) (vz11 : (List Int) × (List (List Int))) => mbind (mbind (mrng (0 : Int) (pan.length : Int)) fun vxs28 => forU (fun (vx18 : Int) (vz16 : (List (List Int)) × (List Int)) => mbind (if decide (vz16.1 = ([] : (List (List Int)))) = true then (mbind (calmly (compG (fun (vx20 : (List Int)) => mbind (p__law_decided pan E vx20 vx18) fun vx21 => mpure (inO vx21 vz11.2)) (fun (vx20 : (List Int)) => mpure vx20) vx14)) fun vfound23 => mbind (if (!decide (vfound23 = ([] : (List (List Int))))) = true then (mbind (mcat vz16.2 ([vx18])) fun vrow_here25 => mpure vrow_here25) else (mpure vz16.2)) fun vz24 => mpure (vfound23, vz24)) else (mpure (vz16.1, vz16.2))) fun vz19 => mpure (vz19.1, vz19.2)) vxs28 (([] : List (List Int)), vz11.1)) fun vz16 => mpure (vz16.2, vz16.1)
theorem fst_run {B : Int → List (List Int) × List Int → Mt ST (List (List Int) × List Int)} (g : Int → List (List Int)) : ∀ (bs : List Int) (row : List Int),
    (∀ b ∈ bs, ∀ z : List (List Int) × List Int, z.2.length ≤ row.length + 1 → B b z = mpure (if z.1 = [] then (g b, if g b = [] then z.2 else z.2 ++ [b]) else z)) → forU B bs ([], row) = mpure (fstB g bs row)
  | [], row, _ => rfl
  | b :: bs, row, h => by
    unfold forU fstB
    rw [h b (by simp) ([], row) (by show row.length ≤ _; omega), mbind_pure, if_pos rfl]
    by_cases e : g b = []
    · rw [if_pos e, if_pos e, e]
      exact fst_run g bs row fun c hc => h c (by simp [hc])
    · rw [if_neg e, if_neg e]
      have stay : ∀ (cs : List Int), (∀ c ∈ cs, c ∈ bs) → forU B cs (g b, row ++ [b]) = mpure (g b, row ++ [b]) := by
        intro cs
        induction cs with
        | nil => intro _; rfl
        | cons c cs ih =>
          intro hc
          unfold forU
          rw [h c (by simp [hc c (by simp)]) (g b, row ++ [b]) (by simp), mbind_pure, if_neg e]
          exact ih fun d hd => hc d (by simp [hd])
      exact stay bs fun c hc => hc
theorem lb_step (h : PanN pan) {L : List (List Int)} {z : List Int × List (List Int)} (hL : L.length ≤ 1024) (hs : ∀ D ∈ L, Stt pan.length D) (hz : z.1.length ≤ 100) (hne : pairsOf pan w z.2 L ≠ []) : lbB pan (wordsW pan.length w) L z = mpure (stepS pan w z L) := by
  have hle := h.le
  unfold lbB
  rw [mrng_nat pan.length (by omega), mbind_pure]
  rw [fst_run (fun b => L.filter fun D => inO (decS pan w D b) z.2) (upto pan.length) z.1 fun b hb y hy => ?_, mbind_pure]
  · obtain ⟨s1, s2⟩ := stepS_fstB (pan := pan) (w := w) z L
    rw [s1, s2 hne]
  · have hb := mem_upto.mp hb
    obtain ⟨fd, rw_⟩ := y
    have hy : rw_.length ≤ z.1.length + 1 := hy
    dsimp only
    by_cases q1 : fd = []
    · rw [decide_eq_true q1, if_pos rfl, if_pos q1, compG_id (fun D => inO (decS pan w D b) z.2) (by omega) fun D hD => ?_, calmly_pure', mbind_pure]
      · by_cases q2 : (L.filter fun D => inO (decS pan w D b) z.2) = []
        · rw [decide_eq_true q2, if_pos q2]
          rfl
        · rw [decide_eq_false q2, if_neg q2, if_pos (by rfl), mcat_ok (by rw [List.length_singleton]; omega)]
          rfl
      · rw [decided_ok h (hs D hD) hb, mbind_pure]
    · rw [decide_eq_false q1, if_neg (by decide), if_neg q1]
      rfl
theorem back_same {B : List (List Int) → List Int × List (List Int) → Mt ST (List Int × List (List Int))} (h : PanN pan)
    (hB : ∀ L (z : List Int × List (List Int)), L.length ≤ 1024 → (∀ D ∈ L, Stt pan.length D) → z.1.length ≤ 100 → pairsOf pan w z.2 L ≠ [] → B L z = mpure (stepS pan w z L)) :
    ∀ (xs : List (List (List Int))) (cur : List (List Int)) (z : List Int × List (List Int)), Chn pan w cur xs → (∀ a ∈ z.2, a ∈ cur) → z.2 ≠ [] → (∀ x ∈ xs, x.length ≤ 1024 ∧ ∀ D ∈ x, Stt pan.length D) → z.1.length + xs.length ≤ 100 → forU B xs z = mpure (xs.foldl (stepS pan w) z)
  | [], cur, z, _, hsub, hne, _, _ => rfl
  | x :: xs, cur, z, c, hsub, hne, hx, hz => by
    rw [List.length_cons] at hz
    have hp : pairsOf pan w z.2 x ≠ [] := by
      obtain ⟨a, ha⟩ := List.exists_mem_of_ne_nil _ hne
      obtain ⟨D, hD, b, hb, e⟩ := c.1 a (hsub a ha)
      exact List.ne_nil_of_mem (mem_pairs (p := (b, D)).mpr ⟨hb, hD, a, ha, e⟩)
    have hst : ∃ p ps, pairsOf pan w z.2 x = p :: ps ∧ stepS pan w z x = (z.1 ++ [p.1], ((p :: ps).filter fun q => decide (q.1 = p.1)).map fun q => q.2) := by
      unfold stepS
      cases e : pairsOf pan w z.2 x with
      | nil => exact absurd e hp
      | cons p ps => exact ⟨p, ps, rfl, rfl⟩
    obtain ⟨p, ps, e1, e2⟩ := hst
    unfold forU
    rw [hB x z (hx x (by simp)).1 (hx x (by simp)).2 (by omega) hp, mbind_pure, List.foldl_cons]
    refine back_same h hB xs x _ c.2 (fun D hD => ?_) ?_ (fun y hy => hx y (by simp [hy])) (by rw [e2]; simp; omega)
    · rw [e2] at hD
      obtain ⟨q, hq, rfl⟩ := List.mem_map.mp hD
      exact (mem_pairs.mp (by rw [e1]; exact (List.mem_filter.mp hq).1 : q ∈ pairsOf pan w z.2 x)).2.1
    · rw [e2]
      have : p.2 ∈ (((p :: ps).filter fun q => decide (q.1 = p.1)).map fun q => q.2) := List.mem_map.mpr ⟨p, List.mem_filter.mpr ⟨by simp, by simp⟩, rfl⟩
      exact List.ne_nil_of_mem this
theorem lbest_ok (h : PanN pan) {R : List Int} (hB : Bel pan.length R) : ∃ f, p__law_best (S := ST) pan (eff pan R) = mpure (some f) ∧ BestF pan (eff pan R) f := by
  have hrc := ex_rc (w := wAft pan R) h hB rfl
  obtain ⟨kn, pre, last, e, m, hq, hl⟩ := llays_ok (w := wAft pan R) h hrc
  refine ⟨_, ?_, (best_spec h m hq hl).1⟩
  have hall : ∀ x ∈ pre.reverse, x.length ≤ 1024 ∧ ∀ D ∈ x, Stt pan.length D := fun x hx => by
    have hx := List.mem_reverse.mp hx
    exact ⟨m.lp x hx, fun D hD => m.st D ((m.all D).mpr (.inl ⟨x, hx, hD⟩))⟩
  have hne : last ≠ [] := List.ne_nil_of_mem hq
  rw [show eff pan R = wordsW pan.length (wAft pan R) from rfl]
  unfold p__law_best
  rw [e]
  simp only [mbind_pure]
  rw [mlast]
  simp only [mbind_pure]
  rw [decide_eq_false hne, if_neg (by decide), whole_ok h]
  simp only [mbind_pure]
  rw [stepD_rev2 pre last hl]
  have run := back_same (w := wAft pan R) (B := lbB pan (wordsW pan.length (wAft pan R))) h (fun L z h1 h2 h3 h4 => lb_step h h1 h2 h3 h4) pre.reverse last ([], [wholeW pan (wAft pan R)]) m.ch (fun a ha => by rw [List.mem_singleton.mp ha]; exact hq) (by simp) hall (by simp; omega)
  exact congrArg (fun q => mbind q fun z : List Int × List (List Int) => mpure (some z.1)) run
end
section
variable {pan : List (List Int)}
theorem leffect_ok (h : PanN pan) {row : List Int} (hr : Bel pan.length row) : p__law_effect (S := ST) pan row = mpure (eff pan row) := by
  have hle := h.le
  unfold p__law_effect
  simp only [mbind_pure, mbind_ret]
  rw [mrng_nat pan.length (by omega), mbind_pure]
  refine forU_inv (upto pan.length) [] (fun pre => pre.map (wAft pan row)) rfl fun pre x post e => ?_
  have hx : 0 ≤ x ∧ x < (pan.length : Int) := mem_upto.mp (by rw [e]; simp)
  have hl := congrArg List.length e
  rw [upto_length, List.length_append, List.length_cons] at hl
  have inner : forU (S := ST) (fun (vx7 : Int) (vz6 : Str) => mbind (mpure (decide (vx7 = x))) fun vb14 => if vb14 = true then (mpure ("on" : Str)) else (mbind (mbind (midx pan vx7) fun vx10 => mpure (decide (x ∈ vx10))) fun vb13 => if vb13 = true then (mpure ("off" : Str)) else (mpure vz6))) row ("same" : Str) = mpure (wAft pan row x) := by
    refine forU_inv row ("same" : Str) (fun pre => wFrom pan "same" pre x) rfl fun pre b post e2 => ?_
    have hb := hr b (by rw [e2]; simp)
    rw [mbind_pure]
    show _ = mpure ((pre ++ [b]).foldl (wNew pan x) "same")
    rw [List.foldl_append]
    show _ = mpure (wNew pan x (wFrom pan "same" pre x) b)
    unfold wNew
    by_cases q : b = x
    · rw [decide_eq_true q, if_pos rfl, if_pos q.symm]
    · rw [decide_eq_false q, if_neg (by decide), if_neg (fun z => q z.symm), midx_row hb.1 hb.2, mbind_pure, mbind_pure]
      by_cases q2 : x ∈ rowAt pan b
      · rw [decide_eq_true q2, if_pos rfl, if_pos q2]
      · rw [decide_eq_false q2, if_neg (by decide), if_neg q2]
  simp only [mbind_pure] at inner ⊢
  rw [inner, mbind_pure, mapp_ok (by rw [List.length_map]; omega), List.map_append] <;> rfl
end
def layR (n : Nat) : Nat → List (List Int)
  | 0 => [[]]
  | k + 1 => (layR n k).flatMap fun r => ((upto n).filter fun b => !decide (b ∈ r)).map fun b => r ++ [b]
def allR (n : Nat) : Nat → List (List Int)
  | 0 => [[]]
  | k + 1 => allR n k ++ layR n (k + 1)
theorem mem_layR {n : Nat} : ∀ {k : Nat} {r : List Int}, r ∈ layR n k ↔ Bel n r ∧ r.Nodup ∧ r.length = k
  | 0, r => by
    rw [layR, List.mem_singleton]
    exact ⟨fun e => by rw [e]; exact ⟨(fun _ h => nomatch h), List.nodup_nil, rfl⟩, fun h => List.length_eq_zero_iff.mp h.2.2⟩
  | k + 1, r => by
    rw [layR, List.mem_flatMap]
    constructor
    · rintro ⟨s, hs, hr⟩
      obtain ⟨b, hb, rfl⟩ := List.mem_map.mp hr
      obtain ⟨hb1, hb2⟩ := List.mem_filter.mp hb
      obtain ⟨h1, h2, h3⟩ := mem_layR.mp hs
      refine ⟨fun a ha => ?_, List.nodup_append.mpr ⟨h2, by simp, fun x hx y hy q => ?_⟩, by rw [List.length_append, h3] <;> rfl⟩
      · rcases List.mem_append.mp ha with q | q
        · exact h1 a q
        · rw [List.mem_singleton.mp q]; exact mem_upto.mp hb1
      · rw [List.mem_singleton.mp hy] at q
        rw [q] at hx
        simp [hx] at hb2
    · rintro ⟨h1, h2, h3⟩
      have hne : r ≠ [] := fun e => by rw [e] at h3; cases h3
      have e := List.dropLast_concat_getLast hne
      refine ⟨r.dropLast, mem_layR.mpr ⟨fun a ha => h1 a ((List.dropLast_sublist _).mem ha), h2.sublist (List.dropLast_sublist _), by rw [List.length_dropLast, h3] <;> rfl⟩, List.mem_map.mpr ⟨r.getLast hne, List.mem_filter.mpr ⟨mem_upto.mpr (h1 _ (List.getLast_mem hne)), ?_⟩, e⟩⟩
      rw [← e] at h2
      have := (List.nodup_append.mp h2).2.2
      simp only [Bool.not_eq_true', decide_eq_false_iff_not]
      exact fun q => this _ q _ (by simp) rfl
theorem mem_allR {n : Nat} : ∀ {k : Nat} {r : List Int}, r ∈ allR n k ↔ Bel n r ∧ r.Nodup ∧ r.length ≤ k
  | 0, r => by
    have := mem_layR (n := n) (k := 0) (r := r)
    rw [layR] at this
    rw [allR, this]
    exact ⟨fun h => ⟨h.1, h.2.1, Nat.le_of_eq h.2.2⟩, fun h => ⟨h.1, h.2.1, Nat.le_zero.mp h.2.2⟩⟩
  | k + 1, r => by
    rw [allR, List.mem_append, mem_allR (k := k), mem_layR]
    constructor
    · rintro (⟨h1, h2, h3⟩ | ⟨h1, h2, h3⟩)
      · exact ⟨h1, h2, by omega⟩
      · exact ⟨h1, h2, by omega⟩
    · rintro ⟨h1, h2, h3⟩
      by_cases q : r.length = k + 1
      · exact .inr ⟨h1, h2, q⟩
      · exact .inl ⟨h1, h2, by omega⟩
theorem flatR_len {n : Nat} : ∀ L : List (List Int), (L.flatMap fun r => ((upto n).filter fun b => !decide (b ∈ r)).map fun b => r ++ [b]).length ≤ L.length * n
  | [] => by simp
  | x :: L => by
    have h1 := flatR_len (n := n) L
    have h2 := List.length_filter_le (fun b => !decide (b ∈ x)) (upto n)
    rw [upto_length] at h2
    rw [List.flatMap_cons, List.length_append, List.length_map, List.length_cons, Nat.add_mul]
    omega
theorem layR_len {n : Nat} (hn : n ≤ 5) : ∀ k, (layR n k).length ≤ 5 ^ k
  | 0 => Nat.le_refl _
  | k + 1 => by
    have h1 := flatR_len (n := n) (layR n k)
    have h2 := layR_len hn k
    rw [layR, Nat.pow_succ]
    exact Nat.le_trans h1 (Nat.mul_le_mul h2 hn)
theorem layR_small {n k : Nat} (hn : n ≤ 5) (hk : k ≤ 5) : (layR n k).length ≤ 3125 := Nat.le_trans (layR_len hn k) (Nat.le_trans (Nat.pow_le_pow_right (by omega) hk) (by decide))
theorem allR_small {n : Nat} (hn : n ≤ 5) : ∀ k, k ≤ 5 → (allR n k).length ≤ (k + 1) * 3125
  | 0, _ => by rw [allR]; decide
  | k + 1, hk => by
    have h1 := allR_small hn k (by omega)
    have h2 := layR_small hn hk
    rw [allR, List.length_append]
    omega
theorem rows_ok {n : Nat} (hn : n ≤ 5) : p__law_rows (S := ST) (n : Int) = mpure (allR n n) := by
  unfold p__law_rows
  simp only [mbind_pure, mbind_ret]
  rw [mrng_nat n (by omega)]
  simp only [mbind_pure]
  rw [forU_inv (upto n) ([[]], [[]]) (fun pre => (layR n pre.length, allR n pre.length)) rfl fun pre x post e => ?_, mbind_pure, upto_length]
  obtain ⟨hx, hl⟩ := upto_split e
  dsimp only
  have inner : ∀ L : List (List Int), (∀ r ∈ L, r.length ≤ 5) → L.length ≤ 3125 → forU (S := ST) (fun (vx7 : List Int) (vz6 : List (List Int)) => mbind (calmly (compM (fun (vx10 : Int) => (!decide (vx10 ∈ vx7))) (fun (vx10 : Int) => mcat vx7 [vx10]) (upto n))) fun vx12 => mcat vz6 vx12) L [] = mpure (L.flatMap fun r => ((upto n).filter fun b => !decide (b ∈ r)).map fun b => r ++ [b]) := fun L hL hc => by
    refine forU_inv L [] (fun pre => pre.flatMap fun r => ((upto n).filter fun b => !decide (b ∈ r)).map fun b => r ++ [b]) rfl fun pre x post e => ?_
    have hp : pre.length ≤ 3125 := by rw [e, List.length_append] at hc; omega
    have hf := flatR_len (n := n) pre
    have hpn : pre.length * n ≤ 3125 * 5 := Nat.mul_le_mul hp hn
    have h2 := List.length_filter_le (fun b => !decide (b ∈ x)) (upto n)
    rw [upto_length] at h2
    rw [compM_pure (fun b => x ++ [b]) (by rw [upto_length]; omega) fun b _ _ => mcat_ok (by have := hL x (by rw [e]; simp); rw [List.length_singleton]; omega), calmly_pure', mbind_pure, mcat_ok (by rw [List.length_map]; omega), List.flatMap_append]
    simp
  rw [inner _ (fun r hr => by have := (mem_layR.mp hr).2.2; omega) (layR_small hn (by omega)), mbind_pure, mcat_ok (by
    have h1 := allR_small hn pre.length (by omega)
    have h2 := layR_small hn (show pre.length + 1 ≤ 5 by omega)
    rw [layR] at h2
    omega)]
  simp only [mbind_pure]
  rw [List.length_append, List.length_singleton]
  rfl
theorem mem_plain {b : Int} : ∀ {R : List Int}, b ∈ plain R ↔ b ∈ R
  | [] => Iff.rfl
  | a :: R => by
    unfold plain
    split
    · rename_i h
      rw [mem_plain, List.mem_cons]
      exact ⟨.inr, fun q => q.elim (fun q => by rw [q]; exact h) id⟩
    · rw [List.mem_cons, List.mem_cons, mem_plain]
theorem nodup_plain : ∀ R : List Int, (plain R).Nodup
  | [] => List.nodup_nil
  | a :: R => by
    unfold plain
    split
    · exact nodup_plain R
    · rename_i h
      exact List.nodup_cons.mpr ⟨fun q => h (mem_plain.mp q), nodup_plain R⟩
theorem plain_len : ∀ (r : List Int), (plain r).length ≤ r.length
  | [] => Nat.le_refl _
  | b :: r => by
    unfold plain
    have := plain_len r
    split
    · rw [List.length_cons]; omega
    · rw [List.length_cons, List.length_cons]; omega
theorem forX_q {S σ α β : Type} {z : σ} {body : α → σ → Mt S (Lp σ β)} : ∀ (xs : List α), (∀ x ∈ xs, body x z = mpure (.nx z)) → forX body xs z = mpure (.inl z)
  | [], _ => rfl
  | x :: xs, hb => by
    unfold forX
    rw [hb x (by simp), mbind_pure]
    exact forX_q xs fun y hy => hb y (by simp [hy])
theorem eff_plain {pan : List (List Int)} (R : List Int) : eff pan (plain R) = eff pan R := by
  unfold eff
  exact List.map_congr_left fun i _ => wFrom_plain pan i R "same"
theorem plain_eq : ∀ r : List Int, (plain r).length = r.length → plain r = r
  | [], _ => rfl
  | b :: r, h => by
    unfold plain at h ⊢
    have hp := plain_len r
    split at h
    · rw [List.length_cons] at h
      omega
    · rename_i hb
      rw [if_neg hb]
      rw [List.length_cons, List.length_cons] at h
      rw [plain_eq r (by omega)]
/-- the listing's order -/
def Od (a b : List Int) : Prop := a.length < b.length ∨ (a.length = b.length ∧ Lx a b)
theorem layR_od {n : Nat} : ∀ k, (layR n k).Pairwise Lx
  | 0 => List.pairwise_singleton _ _
  | k + 1 => by
    unfold layR
    refine List.pairwise_flatMap.mpr ⟨fun r _ => ?_, (layR_od k).imp fun {a b} hab p hp q hq => ?_⟩
    · exact List.pairwise_map.mpr (((sorted_upto n).sublist List.filter_sublist).imp fun {x y} hxy => Lx.last r hxy)
    · obtain ⟨x, _, rfl⟩ := List.mem_map.mp hp
      obtain ⟨y, _, rfl⟩ := List.mem_map.mp hq
      exact hab.app [x] [y]
theorem allR_od {n : Nat} : ∀ k, (allR n k).Pairwise Od
  | 0 => List.pairwise_singleton _ _
  | k + 1 => by
    unfold allR
    refine List.pairwise_append.mpr ⟨allR_od k, List.Pairwise.imp_of_mem (fun {a b} ha hb hab => ?_) (layR_od (n := n) (k + 1)), fun a ha b hb => ?_⟩
    · exact .inr ⟨by rw [(mem_layR.mp ha).2.2, (mem_layR.mp hb).2.2], hab⟩
    · have h1 := (mem_allR.mp ha).2.2
      have h2 := (mem_layR.mp hb).2.2
      exact .inl (by omega)
section
variable {pan : List (List Int)}
theorem BestF.nodup {E : List Str} {f : List Int} (b : BestF pan E f) : f.Nodup := by
  have h1 := (b.min (plain f) (fun a ha => b.bel a (mem_plain.mp ha)) ((eff_plain f).trans b.eq)).1
  have h2 := plain_len f
  rw [← plain_eq f (by omega)]
  exact nodup_plain f
theorem first_ok (h : PanN pan) {E : List Str} {f : List Int} (b : BestF pan E f) : p__law_first (S := ST) pan (allR pan.length pan.length) E = mpure (some f) := by
  have hfl := nodup_bel b.nodup b.bel
  have hm : f ∈ allR pan.length pan.length := mem_allR.mpr ⟨b.bel, b.nodup, hfl⟩
  have hf : (allR pan.length pan.length).find? (fun r => decide (eff pan r = E)) = some f := by
    obtain ⟨as, bs, e, hn⟩ := List.eq_append_cons_of_mem hm
    have hp := allR_od (n := pan.length) pan.length
    rw [e] at hp ⊢
    refine List.find?_eq_some_iff_append.mpr ⟨decide_eq_true b.eq, as, bs, rfl, fun y hy => ?_⟩
    have hyf : Od y f := (List.pairwise_append.mp hp).2.2 y hy f (by simp)
    have hyB : Bel pan.length y := (mem_allR.mp (show y ∈ allR pan.length pan.length by rw [e]; simp [hy])).1
    have : ¬ eff pan y = E := fun q => by
      obtain ⟨g1, g2⟩ := b.min y hyB q
      rcases hyf with k | ⟨k1, k2⟩
      · omega
      · rcases g2 k1 with k | k
        · rw [k] at k2; exact k2.asym k2
        · exact k2.asym k
    simp [this]
  unfold p__law_first
  rw [mbind_pure, forX_find (fun r => decide (eff pan r = E)) some _ (fun r hr => ?_), hf]
  · rfl
  · rw [leffect_ok h (mem_allR.mp hr).1, mbind_pure, mbind_pure]
    cases decide (eff pan r = E) <;> rfl
theorem tri (h : PanN pan) {R : List Int} (hB : Bel pan.length R) : ∃ f, p_shortest_row (S := ST) pan (some R) = mpure f ∧ p__law_best (S := ST) pan (eff pan R) = mpure (some f) ∧ BestF pan (eff pan R) f := by
  obtain ⟨f, e1, b1⟩ := short_best h hB
  obtain ⟨g, e2, b2⟩ := lbest_ok h hB
  rw [b2.uniq b1] at e2
  exact ⟨f, e1, e2, b1⟩
end
theorem row_runs {n : Nat} (h1 : 1 ≤ n) (h2 : n ≤ 10) {M : Int} (hM1 : 0 ≤ M) (hM2 : M ≤ 60) : Runs 62 (p__law_row (n : Int) M) fun r => r.length ≤ M.toNat ∧ Bel n r := by
  unfold p__law_row
  simp only [mbind_assoc, mbind_pure]
  refine runs_d (by omega) (by omega) (by omega) fun k hk1 hk2 => ?_
  obtain ⟨t, rfl⟩ : ∃ t : Nat, k = t := ⟨k.toNat, by omega⟩
  rw [mrng_nat t (by omega)]
  simp only [mbind_pure, mbind_ret]
  refine runs_calm (runs_mono (runs_compM (c := 1) (fun _ y => 0 ≤ y ∧ y < (n : Int)) (by rw [upto_length]; omega) fun y hy => runs_draw (by omega) (by omega)) (by rw [upto_length]; omega) ?_)
  rintro ys ⟨e, h⟩
  have := List.length_filter_le (fun _ => true) (upto t)
  rw [upto_length] at this
  refine ⟨by omega, fun a ha => ?_⟩
  obtain ⟨_, _, q⟩ := h a ha
  exact q
def HP : List (List Int) := [[(1 : Int), (2 : Int), (3 : Int)], [(4 : Int)], [(5 : Int)], [(4 : Int), (5 : Int)], ([] : (List Int)), ([] : (List Int))]
theorem hp_self : ∀ (i : Nat) r, HP[i]? = some r → (i : Int) ∉ r := fun i r e => by
  match i, e with
  | 0, e => cases e; simp
  | 1, e => cases e; simp
  | 2, e => cases e; simp
  | 3, e => cases e; simp
  | 4, e => cases e; simp
  | 5, e => cases e; simp
  | i + 6, e => simp [HP] at e
theorem hp_pan : PanN HP := { pos := by decide, le := by decide, len := by decide, rng := by decide, self := hp_self, nd := by decide }
theorem hp_one : ∀ a ∈ upto 6, ¬ eff HP [a] = eff HP [3, 0] := by decide +kernel
theorem hp_two : ∀ a ∈ upto 6, ∀ b ∈ upto 6, eff HP [a, b] = eff HP [3, 0] → a = 3 ∧ b = 0 := by decide +kernel
theorem hp_nil : ¬ eff HP [] = eff HP [3, 0] := by decide +kernel
theorem hp_row {f : List Int} (b : BestF HP (eff HP [3, 0]) f) : f = [3, 0] := by
  have hl := (b.min [3, 0] (show ∀ a ∈ [(3 : Int), 0], 0 ≤ a ∧ a < ((6 : Nat) : Int) by decide) rfl).1
  have hB := b.bel
  have he := b.eq
  match f, hl, hB, he with
  | [], _, _, he => exact absurd he hp_nil
  | [a], _, hB, he => exact absurd he (hp_one a (mem_upto.mpr (hB a (by simp))))
  | [a, c], _, hB, he =>
    obtain ⟨h1, h2⟩ := hp_two a (mem_upto.mpr (hB a (by simp))) c (mem_upto.mpr (hB c (by simp))) he
    rw [h1, h2]
  | _ :: _ :: _ :: _, hl, _, _ => simp at hl
theorem hp_rows0 : ∀ r ∈ [[(1 : Int), (2 : Int), (0 : Int)], [(2 : Int), (1 : Int), (0 : Int)], [(3 : Int), (0 : Int)]], (∀ a ∈ r, 0 ≤ a ∧ a < ((6 : Nat) : Int)) ∧ eff HP r = eff HP [3, 0] := by decide +kernel
theorem hp_rows : ∀ r ∈ [[(1 : Int), (2 : Int), (0 : Int)], [(2 : Int), (1 : Int), (0 : Int)], [(3 : Int), (0 : Int)]], Bel HP.length r ∧ eff HP r = eff HP [3, 0] := fun r hr => hp_rows0 r hr
theorem hp_short : ∀ r ∈ [[(1 : Int), (2 : Int), (0 : Int)], [(2 : Int), (1 : Int), (0 : Int)], [(3 : Int), (0 : Int)]], p_shortest_row (S := ST) HP (some r) = mpure [3, 0] := fun r hr => by
  obtain ⟨h1, h2⟩ := hp_rows r hr
  obtain ⟨f, e, b⟩ := short_best hp_pan h1
  rw [h2] at b
  rw [e, hp_row b]
theorem hp_comp : compM (S := ST) (fun (vx2 : List Int) => true) (fun (vx2 : List Int) => p_shortest_row ([[(1 : Int), (2 : Int), (3 : Int)], [(4 : Int)], [(5 : Int)], [(4 : Int), (5 : Int)], ([] : (List Int)), ([] : (List Int))]) (some vx2)) [[(1 : Int), (2 : Int), (0 : Int)], [(2 : Int), (1 : Int), (0 : Int)], [(3 : Int), (0 : Int)]] = mpure [[3, 0], [3, 0], [3, 0]] :=
  compM_pure (fun _ => [3, 0]) (by decide) (fun r hr _ => hp_short r hr)
section
variable {pan : List (List Int)}
theorem rok_f (h : PanN pan) {E : List Str} {f : List Int} (b : BestF pan E f) : ROk 1 10 (eT eI f) := by
  have hle := h.le
  have := nodup_bel b.nodup b.bel
  exact rok_row (m := pan.length) (by omega) b.bel (by omega)
theorem shown2 (h : PanN pan) {E : List Str} {f : List Int} (b : BestF pan E f) : mreprR (S := ST) (eL (eT eI) [f, f]) = mpure (toP (eL (eT eI) [f, f])).shown :=
  mreprR_ok (rok_eL (n := 2) (dp := 1) (bk := 10) (fun d hd => by
    simp only [List.mem_cons, List.not_mem_nil, or_false, or_self] at hd
    rw [hd]; exact rok_f h b) (by simp)).rich (by omega) (by omega)
theorem turnA (h : PanN pan) {rs : List (List Int)} (hrs : ∀ r ∈ rs, Bel pan.length r) : forX (fun (vx17 : (List Int)) (vz14 : Unit) => mbind (mbind (p__law_effect pan vx17) fun vx18 => p__law_first pan (allR pan.length pan.length) vx18) fun vdue19 => mbind (mbind (mbind (p__law_effect pan vx17) fun vx20 => p__law_best pan vx20) fun vx21 => mpure (!decide (vdue19 = vx21))) fun vb22 => if vb22 = true then (mbind (mpure false) fun vr23 => mpure (.rt vr23)) else (mbind (mbind (mbind (mbind (mbind (mpure (2 : Int)) fun vn24 => mrng (0 : Int) vn24) fun vxs26 => calmly (compM (fun (vx25 : Int) => true) (fun (vx25 : Int) => p_shortest_row pan (some vx17)) vxs26)) fun vx27 => mreprR ((eL (eT eI)) vx27)) fun vx28 => mbind (mreprR ((eL (eO (eT eI))) [vdue19, vdue19])) fun vx29 => mpure (!decide (vx28 = vx29))) fun vb30 => if vb30 = true then (mbind (mpure false) fun vr31 => mpure (.rt vr31)) else (mpure (.nx ())))) rs () = (mpure (.inl ()) : Mt ST (Unit ⊕ Bool)) := by
  refine forX_q (z := ()) _ fun r hr => ?_
  have hB := hrs r hr
  obtain ⟨f, e1, e2, b⟩ := tri h hB
  rw [leffect_ok h hB, mbind_pure, first_ok h b, mbind_pure, mbind_pure, e2, mbind_pure, mbind_pure, decide_eq_true rfl]
  simp only [Bool.not_true, Bool.false_eq_true, if_false]
  rw [mbind_pure, show mrng (S := ST) 0 2 = mpure (upto 2) from mrng_nat 2 (by omega), mbind_pure, compM_pure (fun _ => f) (by decide) (fun _ _ _ => e1), calmly_pure', mbind_pure]
  have hm : ((upto 2).filter fun _ => true).map (fun _ => f) = [f, f] := rfl
  rw [hm, shown2 h b, mbind_pure]
  rw [show eL (eO (eT eI)) [some f, some f] = eL (eT eI) [f, f] from rfl, shown2 h b, mbind_pure, mbind_pure, decide_eq_true rfl]
  rfl
theorem shownP (h : PanN pan) {row : List Int} (hB : Bel pan.length row) (hl : row.length ≤ 60) : mreprR (S := ST) (eL eD [eT (eT eI) pan, eT eI row]) = mpure (toP (eL eD [eT (eT eI) pan, eT eI row])).shown :=
  mreprR_ok (dp := 3) (bk := 2 * 111) (rok_eL (n := 2) (dp := 2) (bk := 110) (fun d hd => by
    have hle := h.le
    simp only [List.mem_cons, List.not_mem_nil, or_false] at hd
    rcases hd with rfl | rfl
    · exact (h.toPan.rok (by omega)).mono (by omega) (Nat.le_refl _)
    · exact (rok_row (m := pan.length) (by omega) hB hl).mono (by omega) (by omega)) (by simp)).rich (by omega) (by omega)
theorem best_own (h : PanN pan) {E : List Str} {f : List Int} (b : BestF pan E f) : p_shortest_row (S := ST) pan (some f) = mpure f := by
  obtain ⟨g, e, c⟩ := short_best h b.bel
  rw [b.eq] at c
  rw [e, c.uniq b]
end
theorem mfinL_inl {S σ τ β : Type} (z : σ) (k : σ → Mt S (Lp τ β)) : mfinL (mpure (.inl z)) k = k z := rfl
theorem law_runs0 : Runs 3000 p_law fun b => b = true := by
  unfold p_law
  rw [q_shortest_row_eq]
  rw [mbind_pure, mbind_pure]
  rw [hp_comp, calmly_pure', mbind_pure]
  have hr : mrepL (S := ST) ([[(3 : Int), (0 : Int)]]) (3 : Int) = mpure [[3, 0], [3, 0], [3, 0]] := if_pos (by decide)
  have hs : mreprR (S := ST) (eL (eT eI) [[3, 0], [3, 0], [3, 0]]) = mpure (toP (eL (eT eI) [[3, 0], [3, 0], [3, 0]])).shown :=
    mreprR_ok (rok_eL (n := 3) (dp := 1) (bk := 10) (fun d hd => by
      simp only [List.mem_cons, List.not_mem_nil, or_false, or_self] at hd
      rw [hd]; exact rok_row (m := 6) (by omega) (by decide) (by decide)) (by simp)).rich (by omega) (by omega)
  rw [hr, mbind_pure, hs, mbind_pure, mbind_pure, mbind_pure, decide_eq_true rfl]
  simp only [Bool.not_true, Bool.false_eq_true, if_false]
  rw [mfin_bind, mbind_pure, show mrng (S := ST) 0 5 = mpure (upto 5) from mrng_nat 5 (by omega), mbind_pure]
  refine runs_fin (c := 300) (fun _ => True) trivial (by decide) (fun x hx _ _ => ?_) fun _ _ => ?_
  · refine runs_b (panel_runs (by omega) (by omega)) (by omega) fun pan ⟨h, hpl⟩ => ?_
    have h5 : pan.length ≤ 5 := by omega
    have hpos := h.pos
    rw [rows_ok h5, mbind_pure, mfinL_bind, mbind_assoc]
    refine runs_b (row_runs hpos h.le (by omega) (by omega)) (by omega) fun r1 ⟨_, hB1⟩ => ?_
    rw [mbind_assoc]
    refine runs_b (row_runs hpos h.le (by omega) (by omega)) (by omega) fun r2 ⟨_, hB2⟩ => ?_
    rw [mbind_pure, turnA h (fun r hr => ?_), mfinL_inl]
    · exact runs_p ⟨(), rfl, trivial⟩
    · simp only [List.mem_cons, List.not_mem_nil, or_false] at hr
      rcases hr with rfl | rfl | rfl
      · exact hB1
      · exact hB2
      · exact fun _ h => nomatch h
  · rw [mfin_bind, mbind_pure, show mrng (S := ST) 0 4 = mpure (upto 4) from mrng_nat 4 (by omega), mbind_pure]
    refine runs_fin (c := 300) (fun _ => True) trivial (by decide) (fun x hx _ _ => ?_) fun _ _ => runs_p rfl
    have hx := mem_upto.mp hx
    rw [midx_getD 6 hx.1 (by simpa using hx.2), mbind_pure]
    have hmp : ∀ z ∈ [(6 : Int), (8 : Int), (9 : Int), (10 : Int)], 1 ≤ z ∧ z ≤ 10 := by decide
    have hp := hmp _ (getD_mem (xs := [(6 : Int), (8 : Int), (9 : Int), (10 : Int)]) 6 hx.1 (by simpa using hx.2))
    refine runs_b (panel_runs hp.1 hp.2) (by omega) fun pan ⟨h, hpl⟩ => ?_
    have hpos := h.pos
    rw [midx_getD 6 hx.1 (by simpa using hx.2), mbind_pure]
    have hmr : ∀ z ∈ [(12 : Int), (60 : Int), (12 : Int), (6 : Int)], 0 ≤ z ∧ z ≤ 60 := by decide
    have hr := hmr _ (getD_mem (xs := [(12 : Int), (60 : Int), (12 : Int), (6 : Int)]) 6 hx.1 (by simpa using hx.2))
    refine runs_b (row_runs hpos h.le hr.1 hr.2) (by omega) fun row ⟨hrl, hB⟩ => ?_
    have hl : row.length ≤ 60 := by omega
    obtain ⟨f, e1, e2, b⟩ := tri h hB
    rw [shownP h hB hl, mbind_pure, leffect_ok h hB, mbind_pure, e2, mbind_pure, mbind_pure]
    dsimp only
    rw [e1, mbind_pure, best_own h b, mbind_pure, mbind_pure, shown2 h b, mbind_pure]
    rw [show eL (eO (eT eI)) [some f, some f] = eL (eT eI) [f, f] from rfl, shown2 h b, mbind_pure, mbind_pure, decide_eq_true rfl]
    simp only [Bool.not_true, Bool.false_eq_true, if_false]
    rw [mbind_pure, mbind_pure, decide_eq_true rfl]
    exact runs_p ⟨(), rfl, trivial⟩
theorem law_runs : RunH 3000 (fun _ => none) p_law fun b _ => b = true := rh_mono (rh_r law_runs0) (Nat.le_refl _) fun _ _ h => h.2
theorem law_true (ns : List Int) (hl : ns.length ≤ 63) (_ : ∀ z ∈ ns, Builtin.Int.intBits z ≤ 1048576) : ∃ st', d_law [.scr (ns.map .int)] [] = .ok (.bl true) st' := law_end (nN := 8) (tr_law []) law_runs (by decide) ns hl
--PROOF
-- ### that they mean so
structure Txt (K : PySem.W.Frag) (mg : Str → Option Value) : Prop where
  m_any : mg "any" = none
  m_enumerate : mg "enumerate" = none
  m_int : mg "int" = none
  m_len : mg "len" = none
  m_list : mg "list" = none
  m_range : mg "range" = none
  m_repr : mg "repr" = none
  m_set : mg "set" = none
  m_sorted : mg "sorted" = none
  m_tuple : mg "tuple" = none
  g_OFF : ∃ t, mg "OFF" = some (.str ("off" : Str) t)
  g_ON : ∃ t, mg "ON" = some (.str ("on" : Str) t)
  g_SAME : ∃ t, mg "SAME" = some (.str ("same" : Str) t)
section
variable {P : Program} {w : World} {K : PySem.W.Frag} {mg : Str → Option Value} {base : Heap}
theorem sc_changed_word : FnScope N_changed_word ["panel", "pressed", "button", "word"] (defScope s_changed_word) := ⟨rfl, rfl, rfl, by decide +kernel, rfl, by decide +kernel, by decide +kernel⟩
theorem b_changed_word (T : Txt K mg)   {f : Addr} {cdv : Value} {B : Around} {fr : List Env} {s : Shared} {H : Hp} {E : XK} (bd : Bd (cxOf (CXk 7 P w) P w K mg base N_changed_word "changed_word" (defScope s_changed_word) f cdv B fr s H E) (wE E) 6)
    (hp : PassesOwn (model P w) (B.deeper (envOfC "changed_word" (defScope s_changed_word) s.heap.objs.size f cdv)) (envOfC "changed_word" (defScope s_changed_word) s.heap.objs.size f cdv) (cxOf (CXk 7 P w) P w K mg base N_changed_word "changed_word" (defScope s_changed_word) f cdv B fr s H E).xe) :
    DSs (cxOf (CXk 7 P w) P w K mg base N_changed_word "changed_word" (defScope s_changed_word) f cdv B fr s H E) (wE E) (defBody s_changed_word) m_changed_word :=
  (dss_cons (ds_if (dt_cmp (op_pEq bd.u64) (vr 2) (vr 1)) (dss_one (ds_ret (de_gs (by rfl) T.g_ON))) dss_nil)
  (dss_one (ds_ret (de_if (dt_cmp (op_pIn bd.u65) (vr 2) (de_idx (vr 0) (vr 1))) (de_gs (by rfl) T.g_OFF) (vr 3)))))
theorem g_changed_word (T : Txt K mg)   {f : Addr} {fd : FuncData} (F : Fun K "changed_word" "changed_word" s_changed_word f fd) : FnG P w K mg base 7 f fd ["panel", "pressed", "button", "word"] (spD K 4 d_changed_word) :=
  fnG_of F sc_changed_word (by decide) fun _ _ _ _ _ _ bd hp => b_changed_word T  bd hp
theorem sc_effect_after : FnScope N_effect_after ["panel", "effect", "pressed"] (defScope s_effect_after) := ⟨rfl, rfl, rfl, by decide +kernel, rfl, by decide +kernel, by decide +kernel⟩
theorem b_effect_after (T : Txt K mg) (C_changed_word : FnC P w K mg base 7 "changed_word" 4 d_changed_word)  {f : Addr} {cdv : Value} {B : Around} {fr : List Env} {s : Shared} {H : Hp} {E : XK} (bd : Bd (cxOf (CXk 8 P w) P w K mg base N_effect_after "effect_after" (defScope s_effect_after) f cdv B fr s H E) (wE E) 7)
    (hp : PassesOwn (model P w) (B.deeper (envOfC "effect_after" (defScope s_effect_after) s.heap.objs.size f cdv)) (envOfC "effect_after" (defScope s_effect_after) s.heap.objs.size f cdv) (cxOf (CXk 8 P w) P w K mg base N_effect_after "effect_after" (defScope s_effect_after) f cdv B fr s H E).xe) :
    DSs (cxOf (CXk 8 P w) P w K mg base N_effect_after "effect_after" (defScope s_effect_after) f cdv B fr s H E) (wE E) (defBody s_effect_after) m_effect_after :=
  (dss_one (ds_ret (de_bT call_pTuple (by rfl) T.m_tuple (by rfl) (da_cons (de_frz (dl_lc (own := [("button", 3), ("word", 4)]) bd.calm bd.nd (di_enum (by rfl) T.m_enumerate (vr 1)) (blkOk_by (own := [("button", 3), ("word", 4)]) (N := N_effect_after) (sc := defScope s_effect_after) (by decide +kernel)) (by decide) (fun _ _ _ _ _ => (dg_tup bd.blk.calm (dgs_cons (gn 3 bd.blk) (dgs_cons (gn 4 bd.blk) dgs_nil)))) (fun _ _ _ _ _ => dts_nil) (fun _ _ _ _ _ => (de_call bd.blk C_changed_word (by decide) (by rfl) nn_changed_word (da_cons (vr 0) (da_cons (vr 2) (da_cons (vr 3) (da_cons (vr 4) da_nil)))))))) da_nil))))
theorem g_effect_after (T : Txt K mg) (C_changed_word : FnC P w K mg base 7 "changed_word" 4 d_changed_word)  {f : Addr} {fd : FuncData} (F : Fun K "effect_after" "effect_after" s_effect_after f fd) : FnG P w K mg base 8 f fd ["panel", "effect", "pressed"] (spD K 3 d_effect_after) :=
  fnG_of F sc_effect_after (by decide) fun _ _ _ _ _ _ bd hp => b_effect_after T C_changed_word bd hp
theorem sc_effect_of : FnScope N_effect_of ["panel", "row"] (defScope s_effect_of) := ⟨rfl, rfl, rfl, by decide +kernel, rfl, by decide +kernel, by decide +kernel⟩
theorem b_effect_of (T : Txt K mg) (C_effect_after : FnC P w K mg base 8 "effect_after" 3 d_effect_after)  {f : Addr} {cdv : Value} {B : Around} {fr : List Env} {s : Shared} {H : Hp} {E : XK} (bd : Bd (cxOf (CXk 9 P w) P w K mg base N_effect_of "effect_of" (defScope s_effect_of) f cdv B fr s H E) (wE E) 8)
    (hp : PassesOwn (model P w) (B.deeper (envOfC "effect_of" (defScope s_effect_of) s.heap.objs.size f cdv)) (envOfC "effect_of" (defScope s_effect_of) s.heap.objs.size f cdv) (cxOf (CXk 9 P w) P w K mg base N_effect_of "effect_of" (defScope s_effect_of) f cdv B fr s H E).xe) :
    DSs (cxOf (CXk 9 P w) P w K mg base N_effect_of "effect_of" (defScope s_effect_of) f cdv B fr s H E) (wE E) (defBody s_effect_of) m_effect_of :=
  (dss_cons (st 2 bd (de_bin op_pMul (de_tup (da_cons (de_gs (by rfl) T.g_SAME) da_nil)) (de_b call_pLen (by rfl) T.m_len (by rfl) (da_cons (vr 0) da_nil))))
  (dss_cons (ds_for hp bd.calm (di_seq (vr 1)) (gn 3 bd) (dss_one (st 2 bd (de_call bd C_effect_after (by decide) (by rfl) nn_effect_after (da_cons (vr 0) (da_cons (vr 2) (da_cons (vr 3) da_nil)))))))
  (dss_one (ds_ret (vr 2)))))
theorem g_effect_of (T : Txt K mg) (C_effect_after : FnC P w K mg base 8 "effect_after" 3 d_effect_after)  {f : Addr} {fd : FuncData} (F : Fun K "effect_of" "effect_of" s_effect_of f fd) : FnG P w K mg base 9 f fd ["panel", "row"] (spD K 2 d_effect_of) :=
  fnG_of F sc_effect_of (by decide) fun _ _ _ _ _ _ bd hp => b_effect_of T C_effect_after bd hp
theorem sc_decided_with : FnScope N_decided_with ["panel", "effect", "decided", "pressed"] (defScope s_decided_with) := ⟨rfl, rfl, rfl, by decide +kernel, rfl, by decide +kernel, by decide +kernel⟩
theorem b_decided_with (T : Txt K mg)   {f : Addr} {cdv : Value} {B : Around} {fr : List Env} {s : Shared} {H : Hp} {E : XK} (bd : Bd (cxOf (CXk 1 P w) P w K mg base N_decided_with "decided_with" (defScope s_decided_with) f cdv B fr s H E) (wE E) 0)
    (hp : PassesOwn (model P w) (B.deeper (envOfC "decided_with" (defScope s_decided_with) s.heap.objs.size f cdv)) (envOfC "decided_with" (defScope s_decided_with) s.heap.objs.size f cdv) (cxOf (CXk 1 P w) P w K mg base N_decided_with "decided_with" (defScope s_decided_with) f cdv B fr s H E).xe) :
    DSs (cxOf (CXk 1 P w) P w K mg base N_decided_with "decided_with" (defScope s_decided_with) f cdv B fr s H E) (wE E) (defBody s_decided_with) m_decided_with :=
  (dss_cons (ds_setLc (i := 4) (own := [("button", 5)]) true bd.calm bd.nd rfl rfl (sw_true rfl rfl rfl (by decide +kernel)) (di_seq (de_tup (da_cons (vr 3) (da_star (de_idx (vr 0) (vr 3)) da_nil)))) (blkOk_by (own := [("button", 5)]) (N := N_decided_with) (sc := defScope s_decided_with) (by decide +kernel)) (by decide) (fun _ _ _ _ _ => (gn 5 bd.blk)) (fun _ _ _ _ _ => (dts1 (dt_cmp (op_pNotIn bd.blk.u65) (vr 5) (vr 2)))) (fun _ _ _ _ _ => (vr 5)))
  (dss_cons (ds_if (dt_tru (de_b (call_pAny bd.calm) (by rfl) T.m_any (by rfl) (da_cons (de_frz (dl_lc (own := [("button", 5)]) bd.calm bd.nd (di_seq (vr 4)) (blkOk_by (own := [("button", 5)]) (N := N_decided_with) (sc := defScope s_decided_with) (by decide +kernel)) (by decide) (fun _ _ _ _ _ => (gn 5 bd.blk)) (fun _ _ _ _ _ => dts_nil) (fun _ _ _ _ _ => (de_cmp (op_pNe bd.blk.u64) (de_idx (vr 1) (vr 5)) (de_if (dt_cmp (op_pEq bd.blk.u64) (vr 5) (vr 3)) (de_gs (by rfl) T.g_ON) (de_gs (by rfl) T.g_OFF)))))) da_nil))) (dss_one (ds_ret de_non)) dss_nil)
  (dss_one (ds_ret (de_bT call_pTuple (by rfl) T.m_tuple (by rfl) (da_cons (de_frz (dl_b (call_pSorted bd.calm bd.u70) (by rfl) T.m_sorted (by rfl) (da_cons (de_frz (dl_disp (da_star (vr 2) (da_star (vr 4) da_nil)))) da_nil))) da_nil))))))
theorem g_decided_with (T : Txt K mg)   {f : Addr} {fd : FuncData} (F : Fun K "decided_with" "decided_with" s_decided_with f fd) : FnG P w K mg base 1 f fd ["panel", "effect", "decided", "pressed"] (spD K 4 d_decided_with) :=
  fnG_of F sc_decided_with (by decide) fun _ _ _ _ _ _ bd hp => b_decided_with T  bd hp
theorem sc_next_layer : GScope N_next_layer ["panel", "effect", "layer", "known"] (defScope s_next_layer) := ⟨rfl, rfl, rfl, by decide +kernel, rfl, by decide +kernel, by decide +kernel⟩
theorem b_next_layer (T : Txt K mg) (C_decided_with : FnC P w K mg base 1 "decided_with" 4 d_decided_with) {f : Addr} {cdv : Value} {B : Around} {fr : List Env} {s : Shared} {H : Hp} {E : XK} {pn : List (Addr × Obj)} (bd : Bd (gcxOf P w K mg base N_next_layer "next_layer" (defScope s_next_layer) f cdv B fr s H E pn) (wE E) 1) (hp : PassesOwn (model P w) (gcxOf P w K mg base N_next_layer "next_layer" (defScope s_next_layer) f cdv B fr s H E pn).A (gcxOf P w K mg base N_next_layer "next_layer" (defScope s_next_layer) f cdv B fr s H E pn).env (gcxOf P w K mg base N_next_layer "next_layer" (defScope s_next_layer) f cdv B fr s H E pn).xe) :
    DGns (gcxOf P w K mg base N_next_layer "next_layer" (defScope s_next_layer) f cdv B fr s H E pn) (wE E) (defBody s_next_layer) m_next_layer :=
  (dgn_one (dgn_for hp bd.calm (di_seq (vr 2)) (gn 4 bd) (dgn_one (dgn_for hp bd.calm (di_range1 (by rfl) T.m_range (de_b call_pLen (by rfl) T.m_len (by rfl) (da_cons (vr 0) da_nil))) (gn 5 bd) (dgn_cons (dgn_plain (st 6 bd (de_call bd C_decided_with (by decide) (by rfl) nn_decided_with (da_cons (vr 0) (da_cons (vr 1) (da_cons (vr 4) (da_cons (vr 5) da_nil)))))))
      (dgn_one (dgn_if (dt_w (dw_and (dt_cmp op_pIsNot (vr 6) de_non) (dw_and1 (dt_cmp (op_pNotInD bd.u65) (vr 6) (vr 3))))) (dgn_cons (dgn_plain (ds_dput bd.u65 (vr 3) (vr 6) de_bl))
        (dgn_one (dgn_yield (vr 6)))) dgn_nil)))))))
theorem g_next_layer (T : Txt K mg) (C_decided_with : FnC P w K mg base 1 "decided_with" 4 d_decided_with) {f : Addr} {fd : FuncData} (F : Fun K "next_layer" "next_layer" s_next_layer f fd) : GFn P w K mg base 2 f fd ["panel", "effect", "layer", "known"] (spG K 4 d_next_layer) :=
  gen_of F sc_next_layer (by decide) (by decide) fun _ _ _ _ _ _ _ bd hp => b_next_layer T C_decided_with bd hp
theorem sc_layers_of : FnScope N_layers_of ["panel", "effect"] (defScope s_layers_of) := ⟨rfl, rfl, rfl, by decide +kernel, rfl, by decide +kernel, by decide +kernel⟩
theorem b_layers_of (T : Txt K mg) (C_next_layer : GnC P w K mg base 2 "next_layer" 4 d_next_layer)  {f : Addr} {cdv : Value} {B : Around} {fr : List Env} {s : Shared} {H : Hp} {E : XK} (bd : Bd (cxOf (CXk 9 P w) P w K mg base N_layers_of "layers_of" (defScope s_layers_of) f cdv B fr s H E) (wE E) 8)
    (hp : PassesOwn (model P w) (B.deeper (envOfC "layers_of" (defScope s_layers_of) s.heap.objs.size f cdv)) (envOfC "layers_of" (defScope s_layers_of) s.heap.objs.size f cdv) (cxOf (CXk 9 P w) P w K mg base N_layers_of "layers_of" (defScope s_layers_of) f cdv B fr s H E).xe) :
    DSs (cxOf (CXk 9 P w) P w K mg base N_layers_of "layers_of" (defScope s_layers_of) f cdv B fr s H E) (wE E) (defBody s_layers_of) m_layers_of :=
  (dss_cons (st 2 bd (de_bT call_pTuple (by rfl) T.m_tuple (by rfl) (da_cons (de_frz (dl_lc (own := [("button", 3), ("word", 4)]) bd.calm bd.nd (di_enum (by rfl) T.m_enumerate (vr 1)) (blkOk_by (own := [("button", 3), ("word", 4)]) (N := N_layers_of) (sc := defScope s_layers_of) (by decide +kernel)) (by decide) (fun _ _ _ _ _ => (dg_tup bd.blk.calm (dgs_cons (gn 3 bd.blk) (dgs_cons (gn 4 bd.blk) dgs_nil)))) (fun _ _ _ _ _ => (dts1 (dt_cmp (op_pNe bd.blk.u64) (vr 4) (de_gs (by rfl) T.g_SAME)))) (fun _ _ _ _ _ => (vr 3)))) da_nil)))
  (dss_cons (ds_par (i := 5) (j := 6) bd.calm bd.nd rfl rfl (by decide) rfl rfl (da_cons (de_new (dl_disp (da_cons (de_frz (dl_disp (da_cons (de_tup da_nil) da_nil))) da_nil))) (da_cons (de_newD1 bd.u65 (de_tup da_nil) de_bl) da_nil)) (by rfl))
  (dss_cons (ds_while hp (dt_cmp (op_pNotIn bd.u65) (vr 2) (de_idx (vr 5) (de_neg de_int))) (dss_one (ds_expr (de_m PySem.F.plainAttrs_list PySem.F.slot_list_append PySem.F.type_list_append mt_pAppend (vr 5) (da_cons (de_frz (dl_listG bd C_next_layer needG_gnD (by decide) (by rfl) T.m_list (by rfl) (da_cons (vr 0) (da_cons (vr 1) (da_cons (de_idx (vr 5) (de_neg de_int)) (da_cons (vr 6) da_nil)))))) da_nil)))))
  (dss_fz (dss_one (ds_ret (de_frz (dl_disp (da_star (de_frz (dl_slL (vr 5) do_none (do_some (de_neg de_int)))) (da_cons (de_frz (dl_disp (da_cons (vr 2) da_nil))) da_nil))))))))))
theorem g_layers_of (T : Txt K mg) (C_next_layer : GnC P w K mg base 2 "next_layer" 4 d_next_layer)  {f : Addr} {fd : FuncData} (F : Fun K "layers_of" "layers_of" s_layers_of f fd) : FnG P w K mg base 9 f fd ["panel", "effect"] (spD K 2 d_layers_of) :=
  fnG_of F sc_layers_of (by decide) fun _ _ _ _ _ _ bd hp => b_layers_of T C_next_layer bd hp
theorem sc_shortest_row : FnScope N_shortest_row ["panel", "row"] (defScope s_shortest_row) := ⟨rfl, rfl, rfl, by decide +kernel, rfl, by decide +kernel, by decide +kernel⟩
theorem b_shortest_row (T : Txt K mg) (C_effect_of : FnC P w K mg base 9 "effect_of" 2 d_effect_of) (C_decided_with : FnC P w K mg base 1 "decided_with" 4 d_decided_with) (C_layers_of : FnC P w K mg base 9 "layers_of" 2 d_layers_of)  {f : Addr} {cdv : Value} {B : Around} {fr : List Env} {s : Shared} {H : Hp} {E : XK} (bd : Bd (cxOf (CXk 10 P w) P w K mg base N_shortest_row "shortest_row" (defScope s_shortest_row) f cdv B fr s H E) (wE E) 9)
    (hp : PassesOwn (model P w) (B.deeper (envOfC "shortest_row" (defScope s_shortest_row) s.heap.objs.size f cdv)) (envOfC "shortest_row" (defScope s_shortest_row) s.heap.objs.size f cdv) (cxOf (CXk 10 P w) P w K mg base N_shortest_row "shortest_row" (defScope s_shortest_row) f cdv B fr s H E).xe) :
    DSs (cxOf (CXk 10 P w) P w K mg base N_shortest_row "shortest_row" (defScope s_shortest_row) f cdv B fr s H E) (wE E) (defBody s_shortest_row) m_shortest_row :=
  (dss_cons (st 2 bd (de_call bd C_effect_of (by decide) (by rfl) nn_effect_of (da_cons (vr 0) (da_cons (vr 1) da_nil))))
  (dss_cons (ds_asg (de_call bd C_layers_of (by decide) (by rfl) nn_layers_of (da_cons (vr 0) (da_cons (vr 2) da_nil))) (dg_starF bd.calm (dgs_starC (gn 3 bd) (dgs_cons (gn 4 bd) dgs_nil))))
  (dss_cons (st 5 bd (de_tup da_nil))
  (dss_cons (ds_for hp bd.calm (di_seq (de_frz (dl_revL (vr 3)))) (gn 6 bd) (dss_cons (st 7 bd (de_frz (dl_lstRg bd.calm (by rfl) T.m_list (by rfl) T.m_range (de_b call_pLen (by rfl) T.m_len (by rfl) (da_cons (vr 0) da_nil)))))
    (dss_cons (ds_setLc2 (i := 8) (own := [("one", 9), ("rest", 10)]) (vs1 := [10]) true bd.calm bd.nd rfl rfl (sw_true rfl rfl rfl (by decide +kernel)) (di_seq (vr 7)) (blkOk_by (own := [("one", 9), ("rest", 10)]) (N := N_shortest_row) (sc := defScope s_shortest_row) (by decide +kernel)) (by decide) (by decide) (by decide) (fun _ _ _ _ _ => (gn 9 bd.blk)) (fun _ _ _ _ _ => dts_nil) (fun _ _ _ _ _ => (di_seq (vr 6))) (fun _ _ _ _ _ => (gn 10 bd.blk)) (fun _ _ _ _ _ => (dts1 (dt_cmp (op_pIn bd.blk.u65) (de_call bd.blk C_decided_with (by decide) (by rfl) nn_decided_with (da_cons (vr 0) (da_cons (vr 2) (da_cons (vr 10) (da_cons (vr 9) da_nil))))) (vr 4)))) (fun _ _ _ _ _ => (de_tup (da_cons (vr 9) (da_cons (vr 10) da_nil)))))
    (dss_cons (st 5 bd (de_tup (da_star (vr 5) (da_cons (de_idx (de_idx (vr 8) de_int) de_int) da_nil))))
    (dss_one (st 4 bd (de_frz (dl_lc (own := [("one", 9), ("rest", 10)]) bd.calm bd.nd (di_seq (vr 8)) (blkOk_by (own := [("one", 9), ("rest", 10)]) (N := N_shortest_row) (sc := defScope s_shortest_row) (by decide +kernel)) (by decide) (fun _ _ _ _ _ => (dg_tup bd.blk.calm (dgs_cons (gn 9 bd.blk) (dgs_cons (gn 10 bd.blk) dgs_nil)))) (fun _ _ _ _ _ => (dts1 (dt_cmp (op_pEq bd.blk.u64) (vr 9) (de_idx (vr 5) (de_neg de_int))))) (fun _ _ _ _ _ => (vr 10))))))))))
  (dss_one (ds_ret (vr 5)))))))
theorem g_shortest_row (T : Txt K mg) (C_effect_of : FnC P w K mg base 9 "effect_of" 2 d_effect_of) (C_decided_with : FnC P w K mg base 1 "decided_with" 4 d_decided_with) (C_layers_of : FnC P w K mg base 9 "layers_of" 2 d_layers_of)  {f : Addr} {fd : FuncData} (F : Fun K "shortest_row" "shortest_row" s_shortest_row f fd) : FnG P w K mg base 10 f fd ["panel", "row"] (spD K 2 d_shortest_row) :=
  fnG_of F sc_shortest_row (by decide) fun _ _ _ _ _ _ bd hp => b_shortest_row T C_effect_of C_decided_with C_layers_of bd hp
theorem sc__law_draws : FnScope N__law_draws ["_law_script"] (defScope s__law_draws) := ⟨rfl, rfl, rfl, by decide +kernel, rfl, by decide +kernel, by decide +kernel⟩
theorem b__law_draws (T : Txt K mg)   {f : Addr} {cdv : Value} {B : Around} {fr : List Env} {s : Shared} {H : Hp} {E : XK} (bd : Bd (cxOf (CXk 7 P w) P w K mg base N__law_draws "_law_draws" (defScope s__law_draws) f cdv B fr s H E) (wE E) 6)
    (hp : PassesOwn (model P w) (B.deeper (envOfC "_law_draws" (defScope s__law_draws) s.heap.objs.size f cdv)) (envOfC "_law_draws" (defScope s__law_draws) s.heap.objs.size f cdv) (cxOf (CXk 7 P w) P w K mg base N__law_draws "_law_draws" (defScope s__law_draws) f cdv B fr s H E).xe) :
    DSs (cxOf (CXk 7 P w) P w K mg base N__law_draws "_law_draws" (defScope s__law_draws) f cdv B fr s H E) (wE E) (defBody s__law_draws) m__law_draws :=
  (dss_cons (st 1 bd (de_frz (dl_bin op_pCat (de_frz (dl_bT call_pList (by rfl) T.m_list (by rfl) (da_cons (de_frz (dl_slL (vr 0) do_none (do_some de_int))) da_nil))) (de_frz (dl_bin op_pRepL (de_frz (dl_disp (da_cons de_int da_nil))) (de_bT call_pInt (by rfl) T.m_int (by rfl) (da_cons (de_cmp (op_pEq bd.u64) (de_b call_pLen (by rfl) T.m_len (by rfl) (da_cons (vr 0) da_nil)) de_int) da_nil)))))))
  (dss_one (ds_ret (de_new (dl_disp (da_cons (vr 1) (da_cons de_int (da_cons (de_new (dl_lc (own := [("_law_cell", 2)]) bd.calm bd.nd (di_seq (vr 1)) (blkOk_by (own := [("_law_cell", 2)]) (N := N__law_draws) (sc := defScope s__law_draws) (by decide +kernel)) (by decide) (fun _ _ _ _ _ => (gn 2 bd.blk)) (fun _ _ _ _ _ => dts_nil) (fun _ _ _ _ _ => (de_bin op_pMul (vr 2) (de_bT call_pInt (by rfl) T.m_int (by rfl) (da_cons (de_cmp op_pGe (vr 2) (de_bin op_pPow de_int de_int)) da_nil)))))) da_nil))))))))
theorem g__law_draws (T : Txt K mg)   {f : Addr} {fd : FuncData} (F : Fun K "_law_draws" "_law_draws" s__law_draws f fd) : FnG P w K mg base 7 f fd ["_law_script"] (spD K 1 d__law_draws) :=
  fnG_of F sc__law_draws (by decide) fun _ _ _ _ _ _ bd hp => b__law_draws T  bd hp
theorem sc__law_next : FnScope N__law_next ["_law_drawn", "_law_many"] (defScope s__law_next) := ⟨rfl, rfl, rfl, by decide +kernel, rfl, by decide +kernel, by decide +kernel⟩
theorem b__law_next (T : Txt K mg)   {f : Addr} {cdv : Value} {B : Around} {fr : List Env} {s : Shared} {H : Hp} {E : XK} (bd : Bd (cxOf (CXk 7 P w) P w K mg base N__law_next "_law_next" (defScope s__law_next) f cdv B fr s H E) (wE E) 6)
    (hp : PassesOwn (model P w) (B.deeper (envOfC "_law_next" (defScope s__law_next) s.heap.objs.size f cdv)) (envOfC "_law_next" (defScope s__law_next) s.heap.objs.size f cdv) (cxOf (CXk 7 P w) P w K mg base N__law_next "_law_next" (defScope s__law_next) f cdv B fr s H E).xe) :
    DSs (cxOf (CXk 7 P w) P w K mg base N__law_next "_law_next" (defScope s__law_next) f cdv B fr s H E) (wE E) (defBody s__law_next) m__law_next :=
  (dss_cons (ds_asg (vr 0) (dg_lst bd.calm (dgs_cons (gn 2 bd) (dgs_cons (gn 3 bd) (dgs_cons (gn 4 bd) dgs_nil)))))
  (dss_cons (st 5 bd (de_bin op_pMod (vr 3) (de_b call_pLen (by rfl) T.m_len (by rfl) (da_cons (vr 2) da_nil))))
  (dss_cons (ds_asg (de_bin op_pAdd (vr 3) de_int) (dg_sub (vr 0) de_int))
  (dss_cons (ds_if (dt_cmp op_pGt (de_idx (vr 4) (vr 5)) de_int) (dss_cons (st 6 bd (de_bin op_pMod (de_idx (vr 4) (vr 5)) (vr 1)))
    (dss_cons (ds_asg (de_bin op_pDiv (de_idx (vr 4) (vr 5)) (vr 1)) (dg_sub (vr 4) (vr 5)))
    (dss_one (ds_ret (vr 6))))) dss_nil)
  (dss_cons (st 7 bd (de_bin op_pMod (de_bin op_pPow (de_bin op_pAdd (de_bin op_pAdd (de_bin op_pMod (de_idx (vr 2) (vr 5)) de_int) (de_bin op_pMul de_int (vr 3))) de_int) de_int) de_int))
  (dss_cons (st 8 bd (de_bin op_pMod (de_bin op_pPow (de_bin op_pAdd (de_bin op_pAdd (vr 7) (de_bin op_pMul (de_bin op_pMul de_int (vr 3)) (vr 3))) de_int) de_int) de_int))
  (dss_one (ds_ret (de_bin op_pMod (de_bin op_pMod (de_bin op_pAdd (de_bin op_pMul (vr 8) de_int) (vr 7)) de_int) (vr 1))))))))))
theorem g__law_next (T : Txt K mg)   {f : Addr} {fd : FuncData} (F : Fun K "_law_next" "_law_next" s__law_next f fd) : FnG P w K mg base 7 f fd ["_law_drawn", "_law_many"] (spD K 2 d__law_next) :=
  fnG_of F sc__law_next (by decide) fun _ _ _ _ _ _ bd hp => b__law_next T  bd hp
theorem sc__law_panel : FnScope N__law_panel ["_law_drawn", "_law_most"] (defScope s__law_panel) := ⟨rfl, rfl, rfl, by decide +kernel, rfl, by decide +kernel, by decide +kernel⟩
theorem b__law_panel (T : Txt K mg) (C__law_next : FnC P w K mg base 7 "_law_next" 2 d__law_next)  {f : Addr} {cdv : Value} {B : Around} {fr : List Env} {s : Shared} {H : Hp} {E : XK} (bd : Bd (cxOf (CXk 8 P w) P w K mg base N__law_panel "_law_panel" (defScope s__law_panel) f cdv B fr s H E) (wE E) 7)
    (hp : PassesOwn (model P w) (B.deeper (envOfC "_law_panel" (defScope s__law_panel) s.heap.objs.size f cdv)) (envOfC "_law_panel" (defScope s__law_panel) s.heap.objs.size f cdv) (cxOf (CXk 8 P w) P w K mg base N__law_panel "_law_panel" (defScope s__law_panel) f cdv B fr s H E).xe) :
    DSs (cxOf (CXk 8 P w) P w K mg base N__law_panel "_law_panel" (defScope s__law_panel) f cdv B fr s H E) (wE E) (defBody s__law_panel) m__law_panel :=
  (dss_cons (st 2 bd (de_idx (de_frz (dl_disp (da_cons (de_bin op_pAdd de_int (de_call bd C__law_next (by decide) (by rfl) nn__law_next (da_cons (vr 0) (da_cons (vr 1) da_nil)))) (da_cons (vr 1) da_nil)))) (de_bT call_pInt (by rfl) T.m_int (by rfl) (da_cons (de_cmp (op_pEq bd.u64) (de_call bd C__law_next (by decide) (by rfl) nn__law_next (da_cons (vr 0) (da_cons de_int da_nil))) de_int) da_nil))))
  (dss_cons (ds_asg (de_tup (da_cons (de_call bd C__law_next (by decide) (by rfl) nn__law_next (da_cons (vr 0) (da_cons de_int da_nil))) (da_cons (de_new (dl_disp da_nil)) da_nil))) (dg_tup bd.calm (dgs_cons (gn 3 bd) (dgs_cons (gn 4 bd) dgs_nil))))
  (dss_cons (ds_for hp bd.calm (di_range1 (by rfl) T.m_range (vr 2)) (gn 5 bd) (dss_cons (ds_setLc (i := 6) (own := [("_law_other", 7)]) true bd.calm bd.nd rfl rfl (sw_true rfl rfl rfl (by decide +kernel)) (di_range1 (by rfl) T.m_range (vr 2)) (blkOk_by (own := [("_law_other", 7)]) (N := N__law_panel) (sc := defScope s__law_panel) (by decide +kernel)) (by decide) (fun _ _ _ _ _ => (gn 7 bd.blk)) (fun _ _ _ _ _ => (dts1 (dt_cmp (op_pNe bd.blk.u64) (vr 7) (vr 5)))) (fun _ _ _ _ _ => (vr 7)))
    (dss_one (ds_expr (de_m PySem.F.plainAttrs_list PySem.F.slot_list_append PySem.F.type_list_append mt_pAppend (vr 4) (da_cons (de_bT call_pTuple (by rfl) T.m_tuple (by rfl) (da_cons (de_frz (dl_lc (own := [("_law_other", 7)]) bd.calm bd.nd (di_seq (vr 6)) (blkOk_by (own := [("_law_other", 7)]) (N := N__law_panel) (sc := defScope s__law_panel) (by decide +kernel)) (by decide) (fun _ _ _ _ _ => (gn 7 bd.blk)) (fun _ _ _ _ _ => (dts1 (dt_cmp (op_pLt bd.blk.u65) (de_call bd.blk C__law_next (by decide) (by rfl) nn__law_next (da_cons (vr 0) (da_cons de_int da_nil))) (vr 3)))) (fun _ _ _ _ _ => (vr 7)))) da_nil)) da_nil))))))
  (dss_fz (dss_one (ds_ret (de_bT call_pTuple (by rfl) T.m_tuple (by rfl) (da_cons (vr 4) da_nil))))))))
theorem g__law_panel (T : Txt K mg) (C__law_next : FnC P w K mg base 7 "_law_next" 2 d__law_next)  {f : Addr} {fd : FuncData} (F : Fun K "_law_panel" "_law_panel" s__law_panel f fd) : FnG P w K mg base 8 f fd ["_law_drawn", "_law_most"] (spD K 2 d__law_panel) :=
  fnG_of F sc__law_panel (by decide) fun _ _ _ _ _ _ bd hp => b__law_panel T C__law_next bd hp
theorem sc__law_row : FnScope N__law_row ["_law_drawn", "_law_n", "_law_most"] (defScope s__law_row) := ⟨rfl, rfl, rfl, by decide +kernel, rfl, by decide +kernel, by decide +kernel⟩
theorem b__law_row (T : Txt K mg) (C__law_next : FnC P w K mg base 7 "_law_next" 2 d__law_next)  {f : Addr} {cdv : Value} {B : Around} {fr : List Env} {s : Shared} {H : Hp} {E : XK} (bd : Bd (cxOf (CXk 8 P w) P w K mg base N__law_row "_law_row" (defScope s__law_row) f cdv B fr s H E) (wE E) 7)
    (hp : PassesOwn (model P w) (B.deeper (envOfC "_law_row" (defScope s__law_row) s.heap.objs.size f cdv)) (envOfC "_law_row" (defScope s__law_row) s.heap.objs.size f cdv) (cxOf (CXk 8 P w) P w K mg base N__law_row "_law_row" (defScope s__law_row) f cdv B fr s H E).xe) :
    DSs (cxOf (CXk 8 P w) P w K mg base N__law_row "_law_row" (defScope s__law_row) f cdv B fr s H E) (wE E) (defBody s__law_row) m__law_row :=
  (dss_one (ds_ret (de_bT call_pTuple (by rfl) T.m_tuple (by rfl) (da_cons (de_frz (dl_lc (own := [("_law_press", 3)]) bd.calm bd.nd (di_range1 (by rfl) T.m_range (de_call bd C__law_next (by decide) (by rfl) nn__law_next (da_cons (vr 0) (da_cons (de_bin op_pAdd (vr 2) de_int) da_nil)))) (blkOk_by (own := [("_law_press", 3)]) (N := N__law_row) (sc := defScope s__law_row) (by decide +kernel)) (by decide) (fun _ _ _ _ _ => (gn 3 bd.blk)) (fun _ _ _ _ _ => dts_nil) (fun _ _ _ _ _ => (de_call bd.blk C__law_next (by decide) (by rfl) nn__law_next (da_cons (vr 0) (da_cons (vr 1) da_nil)))))) da_nil))))
theorem g__law_row (T : Txt K mg) (C__law_next : FnC P w K mg base 7 "_law_next" 2 d__law_next)  {f : Addr} {fd : FuncData} (F : Fun K "_law_row" "_law_row" s__law_row f fd) : FnG P w K mg base 8 f fd ["_law_drawn", "_law_n", "_law_most"] (spD K 3 d__law_row) :=
  fnG_of F sc__law_row (by decide) fun _ _ _ _ _ _ bd hp => b__law_row T C__law_next bd hp
theorem sc__law_effect : FnScope N__law_effect ["_law_panel_here", "_law_row_here"] (defScope s__law_effect) := ⟨rfl, rfl, rfl, by decide +kernel, rfl, by decide +kernel, by decide +kernel⟩
theorem b__law_effect (T : Txt K mg)   {f : Addr} {cdv : Value} {B : Around} {fr : List Env} {s : Shared} {H : Hp} {E : XK} (bd : Bd (cxOf (CXk 7 P w) P w K mg base N__law_effect "_law_effect" (defScope s__law_effect) f cdv B fr s H E) (wE E) 6)
    (hp : PassesOwn (model P w) (B.deeper (envOfC "_law_effect" (defScope s__law_effect) s.heap.objs.size f cdv)) (envOfC "_law_effect" (defScope s__law_effect) s.heap.objs.size f cdv) (cxOf (CXk 7 P w) P w K mg base N__law_effect "_law_effect" (defScope s__law_effect) f cdv B fr s H E).xe) :
    DSs (cxOf (CXk 7 P w) P w K mg base N__law_effect "_law_effect" (defScope s__law_effect) f cdv B fr s H E) (wE E) (defBody s__law_effect) m__law_effect :=
  (dss_cons (st 2 bd (de_new (dl_disp da_nil)))
  (dss_cons (ds_for hp bd.calm (di_range1 (by rfl) T.m_range (de_b call_pLen (by rfl) T.m_len (by rfl) (da_cons (vr 0) da_nil))) (gn 3 bd) (dss_cons (st 4 bd de_str)
    (dss_cons (ds_for hp bd.calm (di_seq (vr 1)) (gn 5 bd) (dss_one (ds_if (dt_cmp (op_pEq bd.u64) (vr 5) (vr 3)) (dss_one (st 4 bd de_str)) (dss_one (ds_if (dt_cmp (op_pIn bd.u65) (vr 3) (de_idx (vr 0) (vr 5))) (dss_one (st 4 bd de_str)) dss_nil)))))
    (dss_one (ds_expr (de_m PySem.F.plainAttrs_list PySem.F.slot_list_append PySem.F.type_list_append mt_pAppend (vr 2) (da_cons (vr 4) da_nil)))))))
  (dss_fz (dss_one (ds_ret (de_bT call_pTuple (by rfl) T.m_tuple (by rfl) (da_cons (vr 2) da_nil)))))))
theorem g__law_effect (T : Txt K mg)   {f : Addr} {fd : FuncData} (F : Fun K "_law_effect" "_law_effect" s__law_effect f fd) : FnG P w K mg base 7 f fd ["_law_panel_here", "_law_row_here"] (spD K 2 d__law_effect) :=
  fnG_of F sc__law_effect (by decide) fun _ _ _ _ _ _ bd hp => b__law_effect T  bd hp
theorem sc__law_rows : FnScope N__law_rows ["_law_n"] (defScope s__law_rows) := ⟨rfl, rfl, rfl, by decide +kernel, rfl, by decide +kernel, by decide +kernel⟩
theorem b__law_rows (T : Txt K mg)   {f : Addr} {cdv : Value} {B : Around} {fr : List Env} {s : Shared} {H : Hp} {E : XK} (bd : Bd (cxOf (CXk 7 P w) P w K mg base N__law_rows "_law_rows" (defScope s__law_rows) f cdv B fr s H E) (wE E) 6)
    (hp : PassesOwn (model P w) (B.deeper (envOfC "_law_rows" (defScope s__law_rows) s.heap.objs.size f cdv)) (envOfC "_law_rows" (defScope s__law_rows) s.heap.objs.size f cdv) (cxOf (CXk 7 P w) P w K mg base N__law_rows "_law_rows" (defScope s__law_rows) f cdv B fr s H E).xe) :
    DSs (cxOf (CXk 7 P w) P w K mg base N__law_rows "_law_rows" (defScope s__law_rows) f cdv B fr s H E) (wE E) (defBody s__law_rows) m__law_rows :=
  (dss_cons (ds_par (i := 1) (j := 2) bd.calm bd.nd rfl rfl (by decide) rfl rfl (da_cons (de_frz (dl_disp (da_cons (de_tup da_nil) da_nil))) (da_cons (de_frz (dl_disp (da_cons (de_tup da_nil) da_nil))) da_nil)) (by rfl))
  (dss_cons (ds_for hp bd.calm (di_range1 (by rfl) T.m_range (vr 0)) (gn 3 bd) (dss_cons (st 4 bd (de_new (dl_disp da_nil)))
    (dss_cons (ds_for hp bd.calm (di_seq (vr 2)) (gn 5 bd) (dss_one (ds_expr (de_m PySem.F.plainAttrs_list PySem.F.slot_list_extend PySem.F.type_list_extend mt_pExtend (vr 4) (da_cons (de_frz (dl_lc (own := [("_law_button", 6)]) bd.calm bd.nd (di_range1 (by rfl) T.m_range (vr 0)) (blkOk_by (own := [("_law_button", 6)]) (N := N__law_rows) (sc := defScope s__law_rows) (by decide +kernel)) (by decide) (fun _ _ _ _ _ => (gn 6 bd.blk)) (fun _ _ _ _ _ => (dts1 (dt_cmp (op_pNotIn bd.blk.u65) (vr 6) (vr 5)))) (fun _ _ _ _ _ => (de_bin op_pAdd (vr 5) (de_tup (da_cons (vr 6) da_nil)))))) da_nil)))))
    (dss_fz (dss_cons (st 2 bd (vr 4))
    (dss_one (st 1 bd (de_frz (dl_bin op_pCat (vr 1) (vr 2))))))))))
  (dss_one (ds_ret (vr 1)))))
theorem g__law_rows (T : Txt K mg)   {f : Addr} {fd : FuncData} (F : Fun K "_law_rows" "_law_rows" s__law_rows f fd) : FnG P w K mg base 7 f fd ["_law_n"] (spD K 1 d__law_rows) :=
  fnG_of F sc__law_rows (by decide) fun _ _ _ _ _ _ bd hp => b__law_rows T  bd hp
theorem sc__law_decided : FnScope N__law_decided ["_law_panel_here", "_law_effect_here", "_law_decided_here", "_law_button"] (defScope s__law_decided) := ⟨rfl, rfl, rfl, by decide +kernel, rfl, by decide +kernel, by decide +kernel⟩
theorem b__law_decided (T : Txt K mg)   {f : Addr} {cdv : Value} {B : Around} {fr : List Env} {s : Shared} {H : Hp} {E : XK} (bd : Bd (cxOf (CXk 7 P w) P w K mg base N__law_decided "_law_decided" (defScope s__law_decided) f cdv B fr s H E) (wE E) 6)
    (hp : PassesOwn (model P w) (B.deeper (envOfC "_law_decided" (defScope s__law_decided) s.heap.objs.size f cdv)) (envOfC "_law_decided" (defScope s__law_decided) s.heap.objs.size f cdv) (cxOf (CXk 7 P w) P w K mg base N__law_decided "_law_decided" (defScope s__law_decided) f cdv B fr s H E).xe) :
    DSs (cxOf (CXk 7 P w) P w K mg base N__law_decided "_law_decided" (defScope s__law_decided) f cdv B fr s H E) (wE E) (defBody s__law_decided) m__law_decided :=
  (dss_cons (ds_if (dt_w (dw_and (dt_cmp (op_pNotIn bd.u65) (vr 3) (vr 2)) (dw_and1 (dt_cmp (op_pNe bd.u64) (de_idx (vr 1) (vr 3)) de_str)))) (dss_one (ds_ret de_non)) dss_nil)
  (dss_cons (ds_if (dt_cmp (op_pNe bd.u64) (de_frz (dl_lc (own := [("_law_one", 4)]) bd.calm bd.nd (di_seq (de_idx (vr 0) (vr 3))) (blkOk_by (own := [("_law_one", 4)]) (N := N__law_decided) (sc := defScope s__law_decided) (by decide +kernel)) (by decide) (fun _ _ _ _ _ => (gn 4 bd.blk)) (fun _ _ _ _ _ => (dts1 (dt_w (dw_and (dt_cmp (op_pNotIn bd.blk.u65) (vr 4) (vr 2)) (dw_and1 (dt_cmp (op_pNe bd.blk.u64) (de_idx (vr 1) (vr 4)) de_str)))))) (fun _ _ _ _ _ => (vr 4)))) (de_frz (dl_disp da_nil))) (dss_one (ds_ret de_non)) dss_nil)
  (dss_one (ds_ret (de_bT call_pTuple (by rfl) T.m_tuple (by rfl) (da_cons (de_frz (dl_sortSet bd.calm (by rfl) T.m_sorted (by rfl) T.m_set (de_bin op_pAdd (de_bin op_pAdd (vr 2) (de_tup (da_cons (vr 3) da_nil))) (de_idx (vr 0) (vr 3))))) da_nil))))))
theorem g__law_decided (T : Txt K mg)   {f : Addr} {fd : FuncData} (F : Fun K "_law_decided" "_law_decided" s__law_decided f fd) : FnG P w K mg base 7 f fd ["_law_panel_here", "_law_effect_here", "_law_decided_here", "_law_button"] (spD K 4 d__law_decided) :=
  fnG_of F sc__law_decided (by decide) fun _ _ _ _ _ _ bd hp => b__law_decided T  bd hp
theorem sc__law_layers : FnScope N__law_layers ["_law_panel_here", "_law_effect_here"] (defScope s__law_layers) := ⟨rfl, rfl, rfl, by decide +kernel, rfl, by decide +kernel, by decide +kernel⟩
theorem b__law_layers (T : Txt K mg) (C__law_decided : FnC P w K mg base 7 "_law_decided" 4 d__law_decided)  {f : Addr} {cdv : Value} {B : Around} {fr : List Env} {s : Shared} {H : Hp} {E : XK} (bd : Bd (cxOf (CXk 8 P w) P w K mg base N__law_layers "_law_layers" (defScope s__law_layers) f cdv B fr s H E) (wE E) 7)
    (hp : PassesOwn (model P w) (B.deeper (envOfC "_law_layers" (defScope s__law_layers) s.heap.objs.size f cdv)) (envOfC "_law_layers" (defScope s__law_layers) s.heap.objs.size f cdv) (cxOf (CXk 8 P w) P w K mg base N__law_layers "_law_layers" (defScope s__law_layers) f cdv B fr s H E).xe) :
    DSs (cxOf (CXk 8 P w) P w K mg base N__law_layers "_law_layers" (defScope s__law_layers) f cdv B fr s H E) (wE E) (defBody s__law_layers) m__law_layers :=
  (dss_cons (st 2 bd (de_bT call_pTuple (by rfl) T.m_tuple (by rfl) (da_cons (de_frz (dl_lc (own := [("_law_button", 3), ("_law_word", 4)]) bd.calm bd.nd (di_enum (by rfl) T.m_enumerate (vr 1)) (blkOk_by (own := [("_law_button", 3), ("_law_word", 4)]) (N := N__law_layers) (sc := defScope s__law_layers) (by decide +kernel)) (by decide) (fun _ _ _ _ _ => (dg_tup bd.blk.calm (dgs_cons (gn 3 bd.blk) (dgs_cons (gn 4 bd.blk) dgs_nil)))) (fun _ _ _ _ _ => (dts1 (dt_cmp (op_pNe bd.blk.u64) (vr 4) de_str))) (fun _ _ _ _ _ => (vr 3)))) da_nil)))
  (dss_cons (ds_par (i := 5) (j := 6) bd.calm bd.nd rfl rfl (by decide) rfl rfl (da_cons (de_new (dl_disp (da_cons (de_frz (dl_disp (da_cons (de_tup da_nil) da_nil))) da_nil))) (da_cons (de_newD1 bd.u65 (de_tup da_nil) de_bl) da_nil)) (by rfl))
  (dss_cons (ds_while hp (dt_w (dw_and (dt_cmp (op_pNotIn bd.u65) (vr 2) (de_idx (vr 5) (de_neg de_int))) (dw_and1 (dt_cmp (op_pNe bd.u64) (de_idx (vr 5) (de_neg de_int)) (de_frz (dl_disp da_nil)))))) (dss_cons (st 7 bd (de_new (dl_disp da_nil)))
    (dss_cons (ds_for hp bd.calm (di_seq (de_idx (vr 5) (de_neg de_int))) (gn 8 bd) (dss_one (ds_for hp bd.calm (di_seq (vr 2)) (gn 3 bd) (dss_cons (st 9 bd (de_call bd C__law_decided (by decide) (by rfl) nn__law_decided (da_cons (vr 0) (da_cons (vr 1) (da_cons (vr 8) (da_cons (vr 3) da_nil))))))
        (dss_one (ds_if (dt_w (dw_and (dt_cmp op_pIsNot (vr 9) de_non) (dw_and1 (dt_cmp (op_pNotInD bd.u65) (vr 9) (vr 6))))) (dss_cons (ds_dput bd.u65 (vr 6) (vr 9) de_bl)
          (dss_one (ds_expr (de_m PySem.F.plainAttrs_list PySem.F.slot_list_append PySem.F.type_list_append mt_pAppend (vr 7) (da_cons (vr 9) da_nil))))) dss_nil))))))
    (dss_fz (dss_one (ds_expr (de_m PySem.F.plainAttrs_list PySem.F.slot_list_append PySem.F.type_list_append mt_pAppend (vr 5) (da_cons (vr 7) da_nil))))))))
  (dss_fz (dss_one (ds_ret (vr 5)))))))
theorem g__law_layers (T : Txt K mg) (C__law_decided : FnC P w K mg base 7 "_law_decided" 4 d__law_decided)  {f : Addr} {fd : FuncData} (F : Fun K "_law_layers" "_law_layers" s__law_layers f fd) : FnG P w K mg base 8 f fd ["_law_panel_here", "_law_effect_here"] (spD K 2 d__law_layers) :=
  fnG_of F sc__law_layers (by decide) fun _ _ _ _ _ _ bd hp => b__law_layers T C__law_decided bd hp
theorem sc__law_best : FnScope N__law_best ["_law_panel_here", "_law_effect_here"] (defScope s__law_best) := ⟨rfl, rfl, rfl, by decide +kernel, rfl, by decide +kernel, by decide +kernel⟩
theorem b__law_best (T : Txt K mg) (C__law_decided : FnC P w K mg base 7 "_law_decided" 4 d__law_decided) (C__law_layers : FnC P w K mg base 8 "_law_layers" 2 d__law_layers)  {f : Addr} {cdv : Value} {B : Around} {fr : List Env} {s : Shared} {H : Hp} {E : XK} (bd : Bd (cxOf (CXk 9 P w) P w K mg base N__law_best "_law_best" (defScope s__law_best) f cdv B fr s H E) (wE E) 8)
    (hp : PassesOwn (model P w) (B.deeper (envOfC "_law_best" (defScope s__law_best) s.heap.objs.size f cdv)) (envOfC "_law_best" (defScope s__law_best) s.heap.objs.size f cdv) (cxOf (CXk 9 P w) P w K mg base N__law_best "_law_best" (defScope s__law_best) f cdv B fr s H E).xe) :
    DSs (cxOf (CXk 9 P w) P w K mg base N__law_best "_law_best" (defScope s__law_best) f cdv B fr s H E) (wE E) (defBody s__law_best) m__law_best :=
  (dss_cons (ds_par (i := 2) (j := 3) bd.calm bd.nd rfl rfl (by decide) rfl rfl (da_cons (de_call bd C__law_layers (by decide) (by rfl) nn__law_layers (da_cons (vr 0) (da_cons (vr 1) da_nil))) (da_cons (de_tup da_nil) da_nil)) (by rfl))
  (dss_cons (ds_if (dt_cmp (op_pEq bd.u64) (de_idx (vr 2) (de_neg de_int)) (de_frz (dl_disp da_nil))) (dss_one (ds_ret de_non)) dss_nil)
  (dss_cons (st 4 bd (de_frz (dl_disp (da_cons (de_bT call_pTuple (by rfl) T.m_tuple (by rfl) (da_cons (de_frz (dl_lc (own := [("_law_button", 5), ("_law_word", 6)]) bd.calm bd.nd (di_enum (by rfl) T.m_enumerate (vr 1)) (blkOk_by (own := [("_law_button", 5), ("_law_word", 6)]) (N := N__law_best) (sc := defScope s__law_best) (by decide +kernel)) (by decide) (fun _ _ _ _ _ => (dg_tup bd.blk.calm (dgs_cons (gn 5 bd.blk) (dgs_cons (gn 6 bd.blk) dgs_nil)))) (fun _ _ _ _ _ => (dts1 (dt_cmp (op_pNe bd.blk.u64) (vr 6) de_str))) (fun _ _ _ _ _ => (vr 5)))) da_nil)) da_nil))))
  (dss_cons (ds_for hp bd.calm (di_seq (de_frz (dl_slNeg (vr 2) (do_some (de_neg de_int))))) (gn 7 bd) (dss_cons (st 8 bd (de_frz (dl_disp da_nil)))
    (dss_cons (ds_for hp bd.calm (di_range1 (by rfl) T.m_range (de_b call_pLen (by rfl) T.m_len (by rfl) (da_cons (vr 0) da_nil))) (gn 5 bd) (dss_one (ds_if (dt_cmp (op_pEq bd.u64) (vr 8) (de_frz (dl_disp da_nil))) (dss_cons (ds_setLc (i := 8) (own := [("_law_one", 9)]) true bd.calm bd.nd rfl rfl (sw_true rfl rfl rfl (by decide +kernel)) (di_seq (vr 7)) (blkOk_by (own := [("_law_one", 9)]) (N := N__law_best) (sc := defScope s__law_best) (by decide +kernel)) (by decide) (fun _ _ _ _ _ => (gn 9 bd.blk)) (fun _ _ _ _ _ => (dts1 (dt_cmp (op_pIn bd.blk.u65) (de_call bd.blk C__law_decided (by decide) (by rfl) nn__law_decided (da_cons (vr 0) (da_cons (vr 1) (da_cons (vr 9) (da_cons (vr 5) da_nil))))) (vr 4)))) (fun _ _ _ _ _ => (vr 9)))
        (dss_one (ds_if (dt_cmp (op_pNe bd.u64) (vr 8) (de_frz (dl_disp da_nil))) (dss_one (st 3 bd (de_bin op_pAdd (vr 3) (de_tup (da_cons (vr 5) da_nil))))) dss_nil))) dss_nil)))
    (dss_one (st 4 bd (vr 8))))))
  (dss_one (ds_ret (vr 3)))))))
theorem g__law_best (T : Txt K mg) (C__law_decided : FnC P w K mg base 7 "_law_decided" 4 d__law_decided) (C__law_layers : FnC P w K mg base 8 "_law_layers" 2 d__law_layers)  {f : Addr} {fd : FuncData} (F : Fun K "_law_best" "_law_best" s__law_best f fd) : FnG P w K mg base 9 f fd ["_law_panel_here", "_law_effect_here"] (spD K 2 d__law_best) :=
  fnG_of F sc__law_best (by decide) fun _ _ _ _ _ _ bd hp => b__law_best T C__law_decided C__law_layers bd hp
theorem sc__law_first : FnScope N__law_first ["_law_panel_here", "_law_rows_here", "_law_due"] (defScope s__law_first) := ⟨rfl, rfl, rfl, by decide +kernel, rfl, by decide +kernel, by decide +kernel⟩
theorem b__law_first (T : Txt K mg) (C__law_effect : FnC P w K mg base 7 "_law_effect" 2 d__law_effect)  {f : Addr} {cdv : Value} {B : Around} {fr : List Env} {s : Shared} {H : Hp} {E : XK} (bd : Bd (cxOf (CXk 8 P w) P w K mg base N__law_first "_law_first" (defScope s__law_first) f cdv B fr s H E) (wE E) 7)
    (hp : PassesOwn (model P w) (B.deeper (envOfC "_law_first" (defScope s__law_first) s.heap.objs.size f cdv)) (envOfC "_law_first" (defScope s__law_first) s.heap.objs.size f cdv) (cxOf (CXk 8 P w) P w K mg base N__law_first "_law_first" (defScope s__law_first) f cdv B fr s H E).xe) :
    DSs (cxOf (CXk 8 P w) P w K mg base N__law_first "_law_first" (defScope s__law_first) f cdv B fr s H E) (wE E) (defBody s__law_first) m__law_first :=
  (dss_cons (ds_for hp bd.calm (di_seq (vr 1)) (gn 3 bd) (dss_one (ds_if (dt_cmp (op_pEq bd.u64) (de_call bd C__law_effect (by decide) (by rfl) nn__law_effect (da_cons (vr 0) (da_cons (vr 3) da_nil))) (vr 2)) (dss_one (ds_ret (vr 3))) dss_nil)))
  (dss_one (ds_ret de_non)))
theorem g__law_first (T : Txt K mg) (C__law_effect : FnC P w K mg base 7 "_law_effect" 2 d__law_effect)  {f : Addr} {fd : FuncData} (F : Fun K "_law_first" "_law_first" s__law_first f fd) : FnG P w K mg base 8 f fd ["_law_panel_here", "_law_rows_here", "_law_due"] (spD K 3 d__law_first) :=
  fnG_of F sc__law_first (by decide) fun _ _ _ _ _ _ bd hp => b__law_first T C__law_effect bd hp
theorem sc_law : FnScope N_law ["_law_script"] (defScope s_law) := ⟨rfl, rfl, rfl, by decide +kernel, rfl, by decide +kernel, by decide +kernel⟩
theorem b_law (T : Txt K mg) (C_shortest_row : FnC P w K mg base 10 "shortest_row" 2 d_shortest_row) (C__law_draws : FnC P w K mg base 7 "_law_draws" 1 d__law_draws) (C__law_panel : FnC P w K mg base 8 "_law_panel" 2 d__law_panel) (C__law_row : FnC P w K mg base 8 "_law_row" 3 d__law_row) (C__law_effect : FnC P w K mg base 7 "_law_effect" 2 d__law_effect) (C__law_rows : FnC P w K mg base 7 "_law_rows" 1 d__law_rows) (C__law_best : FnC P w K mg base 9 "_law_best" 2 d__law_best) (C__law_first : FnC P w K mg base 8 "_law_first" 3 d__law_first)  {f : Addr} {cdv : Value} {B : Around} {fr : List Env} {s : Shared} {H : Hp} {E : XK} (bd : Bd (cxOf (CXk 11 P w) P w K mg base N_law "law" (defScope s_law) f cdv B fr s H E) (wE E) 10)
    (hp : PassesOwn (model P w) (B.deeper (envOfC "law" (defScope s_law) s.heap.objs.size f cdv)) (envOfC "law" (defScope s_law) s.heap.objs.size f cdv) (cxOf (CXk 11 P w) P w K mg base N_law "law" (defScope s_law) f cdv B fr s H E).xe) :
    DSs (cxOf (CXk 11 P w) P w K mg base N_law "law" (defScope s_law) f cdv B fr s H E) (wE E) (defBody s_law) m_law :=
  (dss_cons (st 1 bd (de_call bd C__law_draws (by decide) (by rfl) nn__law_draws (da_cons (vr 0) da_nil)))
  (dss_cons (st 2 bd (de_tup (da_cons (de_tup (da_cons de_int (da_cons de_int (da_cons de_int da_nil)))) (da_cons (de_tup (da_cons de_int da_nil)) (da_cons (de_tup (da_cons de_int da_nil)) (da_cons (de_tup (da_cons de_int (da_cons de_int da_nil))) (da_cons (de_tup da_nil) (da_cons (de_tup da_nil) da_nil))))))))
  (dss_cons (ds_if (dt_cmp (op_pNe bd.u64) (de_b (call_pReprR (bd.gd (by decide)) bd.u70) (by rfl) T.m_repr (by rfl) (da_cons (de_frz (dl_lc (own := [("_law_row_here", 3)]) bd.calm bd.nd (di_seq (de_frz (dl_disp (da_cons (de_tup (da_cons de_int (da_cons de_int (da_cons de_int da_nil)))) (da_cons (de_tup (da_cons de_int (da_cons de_int (da_cons de_int da_nil)))) (da_cons (de_tup (da_cons de_int (da_cons de_int da_nil))) da_nil)))))) (blkOk_by (own := [("_law_row_here", 3)]) (N := N_law) (sc := defScope s_law) (by decide +kernel)) (by decide) (fun _ _ _ _ _ => (gn 3 bd.blk)) (fun _ _ _ _ _ => dts_nil) (fun _ _ _ _ _ => (de_call bd.blk C_shortest_row (by decide) (by rfl) nn_shortest_row (da_cons (vr 2) (da_cons (vr 3) da_nil)))))) da_nil)) (de_b (call_pReprR (bd.gd (by decide)) bd.u70) (by rfl) T.m_repr (by rfl) (da_cons (de_frz (dl_bin op_pRepL (de_frz (dl_disp (da_cons (de_tup (da_cons de_int (da_cons de_int da_nil))) da_nil))) de_int)) da_nil))) (dss_one (ds_ret de_bl)) dss_nil)
  (dss_cons (ds_for hp bd.calm (di_range1 (by rfl) T.m_range de_int) (gn 4 bd) (dss_cons (st 5 bd (de_call bd C__law_panel (by decide) (by rfl) nn__law_panel (da_cons (vr 1) (da_cons de_int da_nil))))
    (dss_cons (st 6 bd (de_call bd C__law_rows (by decide) (by rfl) nn__law_rows (da_cons (de_b call_pLen (by rfl) T.m_len (by rfl) (da_cons (vr 5) da_nil)) da_nil)))
    (dss_one (ds_for hp bd.calm (di_seq (de_frz (dl_disp (da_cons (de_call bd C__law_row (by decide) (by rfl) nn__law_row (da_cons (vr 1) (da_cons (de_b call_pLen (by rfl) T.m_len (by rfl) (da_cons (vr 5) da_nil)) (da_cons de_int da_nil)))) (da_cons (de_call bd C__law_row (by decide) (by rfl) nn__law_row (da_cons (vr 1) (da_cons (de_b call_pLen (by rfl) T.m_len (by rfl) (da_cons (vr 5) da_nil)) (da_cons de_int da_nil)))) (da_cons (de_tup da_nil) da_nil)))))) (gn 3 bd) (dss_cons (st 7 bd (de_call bd C__law_first (by decide) (by rfl) nn__law_first (da_cons (vr 5) (da_cons (vr 6) (da_cons (de_call bd C__law_effect (by decide) (by rfl) nn__law_effect (da_cons (vr 5) (da_cons (vr 3) da_nil))) da_nil)))))
      (dss_cons (ds_if (dt_cmp (op_pNe bd.u64) (vr 7) (de_call bd C__law_best (by decide) (by rfl) nn__law_best (da_cons (vr 5) (da_cons (de_call bd C__law_effect (by decide) (by rfl) nn__law_effect (da_cons (vr 5) (da_cons (vr 3) da_nil))) da_nil)))) (dss_one (ds_ret de_bl)) dss_nil)
      (dss_one (ds_if (dt_cmp (op_pNe bd.u64) (de_b (call_pReprR (bd.gd (by decide)) bd.u70) (by rfl) T.m_repr (by rfl) (da_cons (de_frz (dl_lc (own := [("_law_again", 8)]) bd.calm bd.nd (di_range1 (by rfl) T.m_range de_int) (blkOk_by (own := [("_law_again", 8)]) (N := N_law) (sc := defScope s_law) (by decide +kernel)) (by decide) (fun _ _ _ _ _ => (gn 8 bd.blk)) (fun _ _ _ _ _ => dts_nil) (fun _ _ _ _ _ => (de_call bd.blk C_shortest_row (by decide) (by rfl) nn_shortest_row (da_cons (vr 5) (da_cons (vr 3) da_nil)))))) da_nil)) (de_b (call_pReprR (bd.gd (by decide)) bd.u70) (by rfl) T.m_repr (by rfl) (da_cons (de_frz (dl_disp (da_cons (vr 7) (da_cons (vr 7) da_nil)))) da_nil))) (dss_one (ds_ret de_bl)) dss_nil)))))))))
  (dss_cons (ds_for hp bd.calm (di_range1 (by rfl) T.m_range de_int) (gn 4 bd) (dss_cons (st 5 bd (de_call bd C__law_panel (by decide) (by rfl) nn__law_panel (da_cons (vr 1) (da_cons (de_idx (de_frz (dl_disp (da_cons de_int (da_cons de_int (da_cons de_int (da_cons de_int da_nil)))))) (vr 4)) da_nil))))
    (dss_cons (st 3 bd (de_call bd C__law_row (by decide) (by rfl) nn__law_row (da_cons (vr 1) (da_cons (de_b call_pLen (by rfl) T.m_len (by rfl) (da_cons (vr 5) da_nil)) (da_cons (de_idx (de_frz (dl_disp (da_cons de_int (da_cons de_int (da_cons de_int (da_cons de_int da_nil)))))) (vr 4)) da_nil)))))
    (dss_cons (ds_par (i := 9) (j := 7) bd.calm bd.nd rfl rfl (by decide) rfl rfl (da_cons (de_b (call_pReprR (bd.gd (by decide)) bd.u70) (by rfl) T.m_repr (by rfl) (da_cons (de_frz (dl_disp (da_cons (vr 5) (da_cons (vr 3) da_nil)))) da_nil)) (da_cons (de_call bd C__law_best (by decide) (by rfl) nn__law_best (da_cons (vr 5) (da_cons (de_call bd C__law_effect (by decide) (by rfl) nn__law_effect (da_cons (vr 5) (da_cons (vr 3) da_nil))) da_nil))) da_nil)) (by rfl))
    (dss_cons (ds_if (dt_cmp (op_pNe bd.u64) (de_b (call_pReprR (bd.gd (by decide)) bd.u70) (by rfl) T.m_repr (by rfl) (da_cons (de_frz (dl_disp (da_cons (de_call bd C_shortest_row (by decide) (by rfl) nn_shortest_row (da_cons (vr 5) (da_cons (vr 3) da_nil))) (da_cons (de_call bd C_shortest_row (by decide) (by rfl) nn_shortest_row (da_cons (vr 5) (da_cons (vr 7) da_nil))) da_nil)))) da_nil)) (de_b (call_pReprR (bd.gd (by decide)) bd.u70) (by rfl) T.m_repr (by rfl) (da_cons (de_frz (dl_disp (da_cons (vr 7) (da_cons (vr 7) da_nil)))) da_nil))) (dss_one (ds_ret de_bl)) dss_nil)
    (dss_one (ds_if (dt_cmp (op_pNe bd.u64) (de_b (call_pReprR (bd.gd (by decide)) bd.u70) (by rfl) T.m_repr (by rfl) (da_cons (de_frz (dl_disp (da_cons (vr 5) (da_cons (vr 3) da_nil)))) da_nil)) (vr 9)) (dss_one (ds_ret de_bl)) dss_nil)))))))
  (dss_one (ds_ret de_bl)))))))
theorem g_law (T : Txt K mg) (C_shortest_row : FnC P w K mg base 10 "shortest_row" 2 d_shortest_row) (C__law_draws : FnC P w K mg base 7 "_law_draws" 1 d__law_draws) (C__law_panel : FnC P w K mg base 8 "_law_panel" 2 d__law_panel) (C__law_row : FnC P w K mg base 8 "_law_row" 3 d__law_row) (C__law_effect : FnC P w K mg base 7 "_law_effect" 2 d__law_effect) (C__law_rows : FnC P w K mg base 7 "_law_rows" 1 d__law_rows) (C__law_best : FnC P w K mg base 9 "_law_best" 2 d__law_best) (C__law_first : FnC P w K mg base 8 "_law_first" 3 d__law_first)  {f : Addr} {fd : FuncData} (F : Fun K "law" "law" s_law f fd) : FnG P w K mg base 11 f fd ["_law_script"] (spD K 1 d_law) :=
  fnG_of F sc_law (by decide) fun _ _ _ _ _ _ bd hp => b_law T C_shortest_row C__law_draws C__law_panel C__law_row C__law_effect C__law_rows C__law_best C__law_first bd hp
theorem all_mk {h : Heap} {f0 f1 f2 f3 f4 f5 f6 f7 f8 f9 f10 f11 f12 f13 f14 f15 f16 f17 : Addr} (X : K.In h) (G : h.Ns mainGlobals mg) {fa : Addr} (hfa : mg "law" = some (.ref fa))
    {od0 an0 od1 an1 od2 an2 od3 an3 od4 an4 od5 an5 od6 an6 od7 an7 od8 an8 od9 an9 od10 an10 od11 an11 od12 an12 od13 an13 od14 an14 od15 an15 od16 an16 od17 an17 : Option Addr} {sl0 sl1 sl2 sl3 sl4 sl5 sl6 sl7 sl8 sl9 sl10 sl11 sl12 sl13 sl14 sl15 sl16 sl17 : Array (Option Value)} {oc0 kV0 dc0 pm0 cd0 ct0 oc1 kV1 dc1 pm1 cd1 ct1 oc2 kV2 dc2 pm2 cd2 ct2 oc3 kV3 dc3 pm3 cd3 ct3 oc4 kV4 dc4 pm4 cd4 ct4 oc5 kV5 dc5 pm5 cd5 ct5 oc6 kV6 dc6 pm6 cd6 ct6 oc7 kV7 dc7 pm7 cd7 ct7 oc8 kV8 dc8 pm8 cd8 ct8 oc9 kV9 dc9 pm9 cd9 ct9 oc10 kV10 dc10 pm10 cd10 ct10 oc11 kV11 dc11 pm11 cd11 ct11 oc12 kV12 dc12 pm12 cd12 ct12 oc13 kV13 dc13 pm13 cd13 ct13 oc14 kV14 dc14 pm14 cd14 ct14 oc15 kV15 dc15 pm15 cd15 ct15 oc16 kV16 dc16 pm16 cd16 ct16 oc17 kV17 dc17 pm17 cd17 ct17 : Value}
    (a0 : PySem.W.nsIn K mainGlobals "changed_word" = some (some (.ref f0))) (l0 : K.lookup f0 = some ⟨oc0, od0, .func (PySem.W.fnOf "changed_word" "changed_word" (defArgs s_changed_word) (defBody s_changed_word) (defScope s_changed_word) .none kV0 dc0 pm0 an0 cd0 ct0), sl0⟩) (c0 : PySem.W.codeIn K cd0 "changed_word" = true) (k0 : PySem.W.keepIn K (.ref f0) = true)
    (a1 : PySem.W.nsIn K mainGlobals "effect_after" = some (some (.ref f1))) (l1 : K.lookup f1 = some ⟨oc1, od1, .func (PySem.W.fnOf "effect_after" "effect_after" (defArgs s_effect_after) (defBody s_effect_after) (defScope s_effect_after) .none kV1 dc1 pm1 an1 cd1 ct1), sl1⟩) (c1 : PySem.W.codeIn K cd1 "effect_after" = true) (k1 : PySem.W.keepIn K (.ref f1) = true)
    (a2 : PySem.W.nsIn K mainGlobals "effect_of" = some (some (.ref f2))) (l2 : K.lookup f2 = some ⟨oc2, od2, .func (PySem.W.fnOf "effect_of" "effect_of" (defArgs s_effect_of) (defBody s_effect_of) (defScope s_effect_of) .none kV2 dc2 pm2 an2 cd2 ct2), sl2⟩) (c2 : PySem.W.codeIn K cd2 "effect_of" = true) (k2 : PySem.W.keepIn K (.ref f2) = true)
    (a3 : PySem.W.nsIn K mainGlobals "decided_with" = some (some (.ref f3))) (l3 : K.lookup f3 = some ⟨oc3, od3, .func (PySem.W.fnOf "decided_with" "decided_with" (defArgs s_decided_with) (defBody s_decided_with) (defScope s_decided_with) .none kV3 dc3 pm3 an3 cd3 ct3), sl3⟩) (c3 : PySem.W.codeIn K cd3 "decided_with" = true) (k3 : PySem.W.keepIn K (.ref f3) = true)
    (a4 : PySem.W.nsIn K mainGlobals "next_layer" = some (some (.ref f4))) (l4 : K.lookup f4 = some ⟨oc4, od4, .func (PySem.W.fnOf "next_layer" "next_layer" (defArgs s_next_layer) (defBody s_next_layer) (defScope s_next_layer) .none kV4 dc4 pm4 an4 cd4 ct4), sl4⟩) (c4 : PySem.W.codeIn K cd4 "next_layer" = true) (k4 : PySem.W.keepIn K (.ref f4) = true)
    (a5 : PySem.W.nsIn K mainGlobals "layers_of" = some (some (.ref f5))) (l5 : K.lookup f5 = some ⟨oc5, od5, .func (PySem.W.fnOf "layers_of" "layers_of" (defArgs s_layers_of) (defBody s_layers_of) (defScope s_layers_of) .none kV5 dc5 pm5 an5 cd5 ct5), sl5⟩) (c5 : PySem.W.codeIn K cd5 "layers_of" = true) (k5 : PySem.W.keepIn K (.ref f5) = true)
    (a6 : PySem.W.nsIn K mainGlobals "shortest_row" = some (some (.ref f6))) (l6 : K.lookup f6 = some ⟨oc6, od6, .func (PySem.W.fnOf "shortest_row" "shortest_row" (defArgs s_shortest_row) (defBody s_shortest_row) (defScope s_shortest_row) .none kV6 dc6 pm6 an6 cd6 ct6), sl6⟩) (c6 : PySem.W.codeIn K cd6 "shortest_row" = true) (k6 : PySem.W.keepIn K (.ref f6) = true)
    (a7 : PySem.W.nsIn K mainGlobals "_law_draws" = some (some (.ref f7))) (l7 : K.lookup f7 = some ⟨oc7, od7, .func (PySem.W.fnOf "_law_draws" "_law_draws" (defArgs s__law_draws) (defBody s__law_draws) (defScope s__law_draws) .none kV7 dc7 pm7 an7 cd7 ct7), sl7⟩) (c7 : PySem.W.codeIn K cd7 "_law_draws" = true) (k7 : PySem.W.keepIn K (.ref f7) = true)
    (a8 : PySem.W.nsIn K mainGlobals "_law_next" = some (some (.ref f8))) (l8 : K.lookup f8 = some ⟨oc8, od8, .func (PySem.W.fnOf "_law_next" "_law_next" (defArgs s__law_next) (defBody s__law_next) (defScope s__law_next) .none kV8 dc8 pm8 an8 cd8 ct8), sl8⟩) (c8 : PySem.W.codeIn K cd8 "_law_next" = true) (k8 : PySem.W.keepIn K (.ref f8) = true)
    (a9 : PySem.W.nsIn K mainGlobals "_law_panel" = some (some (.ref f9))) (l9 : K.lookup f9 = some ⟨oc9, od9, .func (PySem.W.fnOf "_law_panel" "_law_panel" (defArgs s__law_panel) (defBody s__law_panel) (defScope s__law_panel) .none kV9 dc9 pm9 an9 cd9 ct9), sl9⟩) (c9 : PySem.W.codeIn K cd9 "_law_panel" = true) (k9 : PySem.W.keepIn K (.ref f9) = true)
    (a10 : PySem.W.nsIn K mainGlobals "_law_row" = some (some (.ref f10))) (l10 : K.lookup f10 = some ⟨oc10, od10, .func (PySem.W.fnOf "_law_row" "_law_row" (defArgs s__law_row) (defBody s__law_row) (defScope s__law_row) .none kV10 dc10 pm10 an10 cd10 ct10), sl10⟩) (c10 : PySem.W.codeIn K cd10 "_law_row" = true) (k10 : PySem.W.keepIn K (.ref f10) = true)
    (a11 : PySem.W.nsIn K mainGlobals "_law_effect" = some (some (.ref f11))) (l11 : K.lookup f11 = some ⟨oc11, od11, .func (PySem.W.fnOf "_law_effect" "_law_effect" (defArgs s__law_effect) (defBody s__law_effect) (defScope s__law_effect) .none kV11 dc11 pm11 an11 cd11 ct11), sl11⟩) (c11 : PySem.W.codeIn K cd11 "_law_effect" = true) (k11 : PySem.W.keepIn K (.ref f11) = true)
    (a12 : PySem.W.nsIn K mainGlobals "_law_rows" = some (some (.ref f12))) (l12 : K.lookup f12 = some ⟨oc12, od12, .func (PySem.W.fnOf "_law_rows" "_law_rows" (defArgs s__law_rows) (defBody s__law_rows) (defScope s__law_rows) .none kV12 dc12 pm12 an12 cd12 ct12), sl12⟩) (c12 : PySem.W.codeIn K cd12 "_law_rows" = true) (k12 : PySem.W.keepIn K (.ref f12) = true)
    (a13 : PySem.W.nsIn K mainGlobals "_law_decided" = some (some (.ref f13))) (l13 : K.lookup f13 = some ⟨oc13, od13, .func (PySem.W.fnOf "_law_decided" "_law_decided" (defArgs s__law_decided) (defBody s__law_decided) (defScope s__law_decided) .none kV13 dc13 pm13 an13 cd13 ct13), sl13⟩) (c13 : PySem.W.codeIn K cd13 "_law_decided" = true) (k13 : PySem.W.keepIn K (.ref f13) = true)
    (a14 : PySem.W.nsIn K mainGlobals "_law_layers" = some (some (.ref f14))) (l14 : K.lookup f14 = some ⟨oc14, od14, .func (PySem.W.fnOf "_law_layers" "_law_layers" (defArgs s__law_layers) (defBody s__law_layers) (defScope s__law_layers) .none kV14 dc14 pm14 an14 cd14 ct14), sl14⟩) (c14 : PySem.W.codeIn K cd14 "_law_layers" = true) (k14 : PySem.W.keepIn K (.ref f14) = true)
    (a15 : PySem.W.nsIn K mainGlobals "_law_best" = some (some (.ref f15))) (l15 : K.lookup f15 = some ⟨oc15, od15, .func (PySem.W.fnOf "_law_best" "_law_best" (defArgs s__law_best) (defBody s__law_best) (defScope s__law_best) .none kV15 dc15 pm15 an15 cd15 ct15), sl15⟩) (c15 : PySem.W.codeIn K cd15 "_law_best" = true) (k15 : PySem.W.keepIn K (.ref f15) = true)
    (a16 : PySem.W.nsIn K mainGlobals "_law_first" = some (some (.ref f16))) (l16 : K.lookup f16 = some ⟨oc16, od16, .func (PySem.W.fnOf "_law_first" "_law_first" (defArgs s__law_first) (defBody s__law_first) (defScope s__law_first) .none kV16 dc16 pm16 an16 cd16 ct16), sl16⟩) (c16 : PySem.W.codeIn K cd16 "_law_first" = true) (k16 : PySem.W.keepIn K (.ref f16) = true)
    (a17 : PySem.W.nsIn K mainGlobals "law" = some (some (.ref f17))) (l17 : K.lookup f17 = some ⟨oc17, od17, .func (PySem.W.fnOf "law" "law" (defArgs s_law) (defBody s_law) (defScope s_law) .none kV17 dc17 pm17 an17 cd17 ct17), sl17⟩) (c17 : PySem.W.codeIn K cd17 "law" = true) (k17 : PySem.W.keepIn K (.ref f17) = true)
    (z_any : PySem.W.nsIn K mainGlobals "any" = some none)
    (z_enumerate : PySem.W.nsIn K mainGlobals "enumerate" = some none)
    (z_int : PySem.W.nsIn K mainGlobals "int" = some none)
    (z_len : PySem.W.nsIn K mainGlobals "len" = some none)
    (z_list : PySem.W.nsIn K mainGlobals "list" = some none)
    (z_range : PySem.W.nsIn K mainGlobals "range" = some none)
    (z_repr : PySem.W.nsIn K mainGlobals "repr" = some none)
    (z_set : PySem.W.nsIn K mainGlobals "set" = some none)
    (z_sorted : PySem.W.nsIn K mainGlobals "sorted" = some none)
    (z_tuple : PySem.W.nsIn K mainGlobals "tuple" = some none)
    {t0 : Tok} (y_OFF : PySem.W.nsIn K mainGlobals "OFF" = some (some (.str ("off" : Str) t0)))
    {t1 : Tok} (y_ON : PySem.W.nsIn K mainGlobals "ON" = some (some (.str ("on" : Str) t1)))
    {t2 : Tok} (y_SAME : PySem.W.nsIn K mainGlobals "SAME" = some (some (.str ("same" : Str) t2)))
    : ∃ fd : FuncData, (∀ (s : Shared) (v : Value), BindsTo s fd ⟨[v], []⟩ [("_law_script", v)]) ∧ ∀ base : Heap, K.In base → base.Ns mainGlobals mg → FnG P w K mg base 11 fa fd ["_law_script"] (spD K 1 d_law) := by
  have e := hfa.symm.trans (PySem.W.mg_of X G a17)
  cases e
  have T : Txt K mg := ⟨PySem.W.mg_none_of X G z_any, PySem.W.mg_none_of X G z_enumerate, PySem.W.mg_none_of X G z_int, PySem.W.mg_none_of X G z_len, PySem.W.mg_none_of X G z_list, PySem.W.mg_none_of X G z_range, PySem.W.mg_none_of X G z_repr, PySem.W.mg_none_of X G z_set, PySem.W.mg_none_of X G z_sorted, PySem.W.mg_none_of X G z_tuple, ⟨_, PySem.W.mg_of X G y_OFF⟩, ⟨_, PySem.W.mg_of X G y_ON⟩, ⟨_, PySem.W.mg_of X G y_SAME⟩⟩
  have F0 := fun_mk (st := s_changed_word) l0 c0 k0
  have b0 := F0.binds (ps := ["panel", "pressed", "button", "word"]) fun _ _ _ _ _ _ us hl => match us, hl with | [_, _, _, _], _ => rfl
  have F1 := fun_mk (st := s_effect_after) l1 c1 k1
  have b1 := F1.binds (ps := ["panel", "effect", "pressed"]) fun _ _ _ _ _ _ us hl => match us, hl with | [_, _, _], _ => rfl
  have F2 := fun_mk (st := s_effect_of) l2 c2 k2
  have b2 := F2.binds (ps := ["panel", "row"]) fun _ _ _ _ _ _ us hl => match us, hl with | [_, _], _ => rfl
  have F3 := fun_mk (st := s_decided_with) l3 c3 k3
  have b3 := F3.binds (ps := ["panel", "effect", "decided", "pressed"]) fun _ _ _ _ _ _ us hl => match us, hl with | [_, _, _, _], _ => rfl
  have F4 := fun_mk (st := s_next_layer) l4 c4 k4
  have b4 := F4.binds (ps := ["panel", "effect", "layer", "known"]) fun _ _ _ _ _ _ us hl => match us, hl with | [_, _, _, _], _ => rfl
  have F5 := fun_mk (st := s_layers_of) l5 c5 k5
  have b5 := F5.binds (ps := ["panel", "effect"]) fun _ _ _ _ _ _ us hl => match us, hl with | [_, _], _ => rfl
  have F6 := fun_mk (st := s_shortest_row) l6 c6 k6
  have b6 := F6.binds (ps := ["panel", "row"]) fun _ _ _ _ _ _ us hl => match us, hl with | [_, _], _ => rfl
  have F7 := fun_mk (st := s__law_draws) l7 c7 k7
  have b7 := F7.binds (ps := ["_law_script"]) fun _ _ _ _ _ _ us hl => match us, hl with | [_], _ => rfl
  have F8 := fun_mk (st := s__law_next) l8 c8 k8
  have b8 := F8.binds (ps := ["_law_drawn", "_law_many"]) fun _ _ _ _ _ _ us hl => match us, hl with | [_, _], _ => rfl
  have F9 := fun_mk (st := s__law_panel) l9 c9 k9
  have b9 := F9.binds (ps := ["_law_drawn", "_law_most"]) fun _ _ _ _ _ _ us hl => match us, hl with | [_, _], _ => rfl
  have F10 := fun_mk (st := s__law_row) l10 c10 k10
  have b10 := F10.binds (ps := ["_law_drawn", "_law_n", "_law_most"]) fun _ _ _ _ _ _ us hl => match us, hl with | [_, _, _], _ => rfl
  have F11 := fun_mk (st := s__law_effect) l11 c11 k11
  have b11 := F11.binds (ps := ["_law_panel_here", "_law_row_here"]) fun _ _ _ _ _ _ us hl => match us, hl with | [_, _], _ => rfl
  have F12 := fun_mk (st := s__law_rows) l12 c12 k12
  have b12 := F12.binds (ps := ["_law_n"]) fun _ _ _ _ _ _ us hl => match us, hl with | [_], _ => rfl
  have F13 := fun_mk (st := s__law_decided) l13 c13 k13
  have b13 := F13.binds (ps := ["_law_panel_here", "_law_effect_here", "_law_decided_here", "_law_button"]) fun _ _ _ _ _ _ us hl => match us, hl with | [_, _, _, _], _ => rfl
  have F14 := fun_mk (st := s__law_layers) l14 c14 k14
  have b14 := F14.binds (ps := ["_law_panel_here", "_law_effect_here"]) fun _ _ _ _ _ _ us hl => match us, hl with | [_, _], _ => rfl
  have F15 := fun_mk (st := s__law_best) l15 c15 k15
  have b15 := F15.binds (ps := ["_law_panel_here", "_law_effect_here"]) fun _ _ _ _ _ _ us hl => match us, hl with | [_, _], _ => rfl
  have F16 := fun_mk (st := s__law_first) l16 c16 k16
  have b16 := F16.binds (ps := ["_law_panel_here", "_law_rows_here", "_law_due"]) fun _ _ _ _ _ _ us hl => match us, hl with | [_, _, _], _ => rfl
  have F17 := fun_mk (st := s_law) l17 c17 k17
  refine ⟨PySem.W.fnOf "law" "law" (defArgs s_law) (defBody s_law) (defScope s_law) .none kV17 dc17 pm17 an17 cd17 ct17, fun s v => .of_eq rfl, fun base _ _ => ?_⟩
  have C_changed_word : FnC P w K mg base 7 "changed_word" 4 d_changed_word := ⟨_, _, _, g_changed_word T  F0, PySem.W.mg_of X G a0, k0, b0⟩
  have C_effect_after : FnC P w K mg base 8 "effect_after" 3 d_effect_after := ⟨_, _, _, g_effect_after T C_changed_word F1, PySem.W.mg_of X G a1, k1, b1⟩
  have C_effect_of : FnC P w K mg base 9 "effect_of" 2 d_effect_of := ⟨_, _, _, g_effect_of T C_effect_after F2, PySem.W.mg_of X G a2, k2, b2⟩
  have C_decided_with : FnC P w K mg base 1 "decided_with" 4 d_decided_with := ⟨_, _, _, g_decided_with T  F3, PySem.W.mg_of X G a3, k3, b3⟩
  have C_next_layer : GnC P w K mg base 2 "next_layer" 4 d_next_layer := ⟨_, _, _, g_next_layer T C_decided_with F4, PySem.W.mg_of X G a4, k4, b4⟩
  have C_layers_of : FnC P w K mg base 9 "layers_of" 2 d_layers_of := ⟨_, _, _, g_layers_of T C_next_layer F5, PySem.W.mg_of X G a5, k5, b5⟩
  have C_shortest_row : FnC P w K mg base 10 "shortest_row" 2 d_shortest_row := ⟨_, _, _, g_shortest_row T C_effect_of C_decided_with C_layers_of F6, PySem.W.mg_of X G a6, k6, b6⟩
  have C__law_draws : FnC P w K mg base 7 "_law_draws" 1 d__law_draws := ⟨_, _, _, g__law_draws T  F7, PySem.W.mg_of X G a7, k7, b7⟩
  have C__law_next : FnC P w K mg base 7 "_law_next" 2 d__law_next := ⟨_, _, _, g__law_next T  F8, PySem.W.mg_of X G a8, k8, b8⟩
  have C__law_panel : FnC P w K mg base 8 "_law_panel" 2 d__law_panel := ⟨_, _, _, g__law_panel T C__law_next F9, PySem.W.mg_of X G a9, k9, b9⟩
  have C__law_row : FnC P w K mg base 8 "_law_row" 3 d__law_row := ⟨_, _, _, g__law_row T C__law_next F10, PySem.W.mg_of X G a10, k10, b10⟩
  have C__law_effect : FnC P w K mg base 7 "_law_effect" 2 d__law_effect := ⟨_, _, _, g__law_effect T  F11, PySem.W.mg_of X G a11, k11, b11⟩
  have C__law_rows : FnC P w K mg base 7 "_law_rows" 1 d__law_rows := ⟨_, _, _, g__law_rows T  F12, PySem.W.mg_of X G a12, k12, b12⟩
  have C__law_decided : FnC P w K mg base 7 "_law_decided" 4 d__law_decided := ⟨_, _, _, g__law_decided T  F13, PySem.W.mg_of X G a13, k13, b13⟩
  have C__law_layers : FnC P w K mg base 8 "_law_layers" 2 d__law_layers := ⟨_, _, _, g__law_layers T C__law_decided F14, PySem.W.mg_of X G a14, k14, b14⟩
  have C__law_best : FnC P w K mg base 9 "_law_best" 2 d__law_best := ⟨_, _, _, g__law_best T C__law_decided C__law_layers F15, PySem.W.mg_of X G a15, k15, b15⟩
  have C__law_first : FnC P w K mg base 8 "_law_first" 3 d__law_first := ⟨_, _, _, g__law_first T C__law_effect F16, PySem.W.mg_of X G a16, k16, b16⟩
  exact g_law T C_shortest_row C__law_draws C__law_panel C__law_row C__law_effect C__law_rows C__law_best C__law_first F17
end
end Lw
namespace Lw
open PySem PySem.Spec PyProof.Rows L2 Dn
theorem all_f {w : World} {K : PySem.W.Frag} {h : Heap} {mg : Str → Option Value} {fa : Addr} (X : K.In h) (G : h.Ns mainGlobals mg) (hfa : mg "law" = some (.ref fa)) (c : Dn.SaysQ fcts fdfs hds w.params K) :
    ∃ fd : FuncData, (∀ (s : Shared) (v : Value), BindsTo s fd ⟨[v], []⟩ [("_law_script", v)]) ∧ ∀ base : Heap, K.In base → base.Ns mainGlobals mg → FnG (PySem.Challenge.rw_pressrelease_k13_shortest_rows).prog w K mg base 11 fa fd ["_law_script"] (spD K 1 d_law) := by
  obtain ⟨oc0, od0, sl0, kV0, dc0, pm0, an0, cd0, ct0, l0, c0, k0, i0⟩ := Dn.fnq_of (c.def_ 0) (c.fact 0)
  obtain ⟨oc1, od1, sl1, kV1, dc1, pm1, an1, cd1, ct1, l1, c1, k1, i1⟩ := Dn.fnq_of (c.def_ 1) (c.fact 1)
  obtain ⟨oc2, od2, sl2, kV2, dc2, pm2, an2, cd2, ct2, l2, c2, k2, i2⟩ := Dn.fnq_of (c.def_ 2) (c.fact 2)
  obtain ⟨oc3, od3, sl3, kV3, dc3, pm3, an3, cd3, ct3, l3, c3, k3, i3⟩ := Dn.fnq_of (c.def_ 3) (c.fact 3)
  obtain ⟨oc4, od4, sl4, kV4, dc4, pm4, an4, cd4, ct4, l4, c4, k4, i4⟩ := Dn.fnq_of (c.def_ 4) (c.fact 4)
  obtain ⟨oc5, od5, sl5, kV5, dc5, pm5, an5, cd5, ct5, l5, c5, k5, i5⟩ := Dn.fnq_of (c.def_ 5) (c.fact 5)
  obtain ⟨oc6, od6, sl6, kV6, dc6, pm6, an6, cd6, ct6, l6, c6, k6, i6⟩ := Dn.fnq_of (c.def_ 6) (c.fact 6)
  obtain ⟨oc7, od7, sl7, kV7, dc7, pm7, an7, cd7, ct7, l7, c7, k7, i7⟩ := Dn.fnq_of (c.def_ 7) (c.fact 7)
  obtain ⟨oc8, od8, sl8, kV8, dc8, pm8, an8, cd8, ct8, l8, c8, k8, i8⟩ := Dn.fnq_of (c.def_ 8) (c.fact 8)
  obtain ⟨oc9, od9, sl9, kV9, dc9, pm9, an9, cd9, ct9, l9, c9, k9, i9⟩ := Dn.fnq_of (c.def_ 9) (c.fact 9)
  obtain ⟨oc10, od10, sl10, kV10, dc10, pm10, an10, cd10, ct10, l10, c10, k10, i10⟩ := Dn.fnq_of (c.def_ 10) (c.fact 10)
  obtain ⟨oc11, od11, sl11, kV11, dc11, pm11, an11, cd11, ct11, l11, c11, k11, i11⟩ := Dn.fnq_of (c.def_ 11) (c.fact 11)
  obtain ⟨oc12, od12, sl12, kV12, dc12, pm12, an12, cd12, ct12, l12, c12, k12, i12⟩ := Dn.fnq_of (c.def_ 12) (c.fact 12)
  obtain ⟨oc13, od13, sl13, kV13, dc13, pm13, an13, cd13, ct13, l13, c13, k13, i13⟩ := Dn.fnq_of (c.def_ 13) (c.fact 13)
  obtain ⟨oc14, od14, sl14, kV14, dc14, pm14, an14, cd14, ct14, l14, c14, k14, i14⟩ := Dn.fnq_of (c.def_ 14) (c.fact 14)
  obtain ⟨oc15, od15, sl15, kV15, dc15, pm15, an15, cd15, ct15, l15, c15, k15, i15⟩ := Dn.fnq_of (c.def_ 15) (c.fact 15)
  obtain ⟨oc16, od16, sl16, kV16, dc16, pm16, an16, cd16, ct16, l16, c16, k16, i16⟩ := Dn.fnq_of (c.def_ 16) (c.fact 16)
  obtain ⟨oc17, od17, sl17, kV17, dc17, pm17, an17, cd17, ct17, l17, c17, k17, i17⟩ := Dn.fnq_of (c.def_ 17) (c.fact 17)
  obtain ⟨ty_OFF, y_OFF⟩ := Dn.str_of (c.fact 46)
  obtain ⟨ty_ON, y_ON⟩ := Dn.str_of (c.fact 47)
  obtain ⟨ty_SAME, y_SAME⟩ := Dn.str_of (c.fact 48)
  exact all_mk (P := (PySem.Challenge.rw_pressrelease_k13_shortest_rows).prog) (w := w) X G hfa (of_decide_eq_true (c.fact 18)) l0 c0 k0 (of_decide_eq_true (c.fact 19)) l1 c1 k1 (of_decide_eq_true (c.fact 20)) l2 c2 k2 (of_decide_eq_true (c.fact 21)) l3 c3 k3 (of_decide_eq_true (c.fact 22)) l4 c4 k4 (of_decide_eq_true (c.fact 23)) l5 c5 k5 (of_decide_eq_true (c.fact 24)) l6 c6 k6 (of_decide_eq_true (c.fact 25)) l7 c7 k7 (of_decide_eq_true (c.fact 26)) l8 c8 k8 (of_decide_eq_true (c.fact 27)) l9 c9 k9 (of_decide_eq_true (c.fact 28)) l10 c10 k10 (of_decide_eq_true (c.fact 29)) l11 c11 k11 (of_decide_eq_true (c.fact 30)) l12 c12 k12 (of_decide_eq_true (c.fact 31)) l13 c13 k13 (of_decide_eq_true (c.fact 32)) l14 c14 k14 (of_decide_eq_true (c.fact 33)) l15 c15 k15 (of_decide_eq_true (c.fact 34)) l16 c16 k16 (of_decide_eq_true (c.fact 35)) l17 c17 k17 (of_decide_eq_true (c.fact 36)) (of_decide_eq_true (c.fact 37)) (of_decide_eq_true (c.fact 38)) (of_decide_eq_true (c.fact 39)) (of_decide_eq_true (c.fact 40)) (of_decide_eq_true (c.fact 41)) (of_decide_eq_true (c.fact 42)) (of_decide_eq_true (c.fact 43)) (of_decide_eq_true (c.fact 44)) (of_decide_eq_true (c.fact 45)) y_OFF y_ON y_SAME
end Lw
open PySem PySem.W PySem.Calls PyProof.Rows in
set_option maxRecDepth 100000 in
set_option maxHeartbeats 0 in
theorem PySem.Challenge.cw_pressrelease_k13_shortest_rows_holds : PySem.Challenge.rw_pressrelease_k13_shortest_rows.Holds := by
  w_on; o_law
  refine HandSHeadRun.head_any (r := OpenLaw.row PySem.Challenge.rw_pressrelease_k13_shortest_rows) (q := view (OpenLaw.row PySem.Challenge.rw_pressrelease_k13_shortest_rows).prog [22]) (H := Dn.hookQ Lw.fcts Lw.fdfs Lw.hds) (ob := Dn.obQ Lw.fcts Lw.fdfs Lw.hds) (M := 9000) (loose := Lw.lse) (d := HandSHeadRun.topDef (OpenLaw.row PySem.Challenge.rw_pressrelease_k13_shortest_rows).prog 22) (kwd := []) Dn.obQ_eq
    (by kernel_rfl) (fun s => by kernel_rfl) Lw.run_all (by kernel_rfl) (by kernel_rfl) (by kernel_rfl) (by rfl) (by first | assumption | decide +kernel) (by decide +kernel) ⟨rfl, rfl, rfl, rfl, rfl, by decide +kernel⟩ ?hw ?hc
  case hw => w_witness2
  case hc =>
    refine Dn.walkQ (l := PySem.Challenge.rw_pressrelease_k13_shortest_rows) (k := 11) (spec := Lw.d_law) (x := "_law_script") rfl (by kernel_rfl) ⟨rfl, by decide, by decide⟩ Lw.law_true ?F
    intro w mg fa h Y G hmg0
    obtain ⟨K, KX, c⟩ := Y
    have hmg : mg ("law" : PySem.Str) = some (.ref fa) := by
      have e : (HandSHeadRun.topDef (OpenLaw.row PySem.Challenge.rw_pressrelease_k13_shortest_rows).prog 22).name = ("law" : PySem.Str) := by kernel_rfl
      rw [← e]
      exact hmg0
    obtain ⟨fd, hb, hF⟩ := Lw.all_f (w := w) KX G hmg c
    exact ⟨K, fd, KX, hb, hF⟩
