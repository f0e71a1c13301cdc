import PyProof.Rows.All
import Wide.All
import OpenK.AllK
import Wide.FinOn
import HandS.ForMost
import HandS.Flow
import HandS.Deep
import HandS.ForExc
import HandS.ExcInit
import HandS.TryMany
import HandS.Star
import HandS.TupMul
import HandS.TupAny
import HandS.TupLe
import HandS.EndBits
import KE.SortData
import KE.DataCmp
import PyProof.ReprRoads
import KE.DataEq
import KE.KRevSl
import HandS.IsInst
import KE.GoesMore
import KE.GoesEnum
import HandS.WordsExc
import HandS.SuiteRaise
import HandS.RaiseFrom
import HandS.SetFor
import HandS.Style
import HandS.Conv
import PyProof.ReprBulk
import KE.DataFind
import HandS.Strs
import HandS.TupSets
import KE.DataMinMax
import HandS.FStr
import HandS.Text
import PyProof.Rows.TupDisplay
import HandS.Dict
import KE.KDictSum
import HandS.ExcOwn
import HandS.ExcIs
import HandS.ExcField
import HandS.Zip0
import HandS.Zip
import HandS.ExcValue
import KE.KDictZip
import KE.KDictItemsList
import KE.KExcInit
import PyProof.FactsAll.set_1
import PyProof.FactsAll.subtypes_5
import PyProof.NeKinds
import HandS.Property
import HandS.Defaults
import HandS.MethStar
import PyProof.RulesMatch
import KE.KCallOwn
import KE.KStar
import OpenK.KOps
import OpenK.KMore
import HandS.Finally
import HandS.Iter
import KE.IntTextLaws
import PyProof.Rows.StrSplitJoin
import PyProof.Rows.StrSplitAre
import PyProof.Rows.StrItems
import PyProof.StrLawsIn
import HandS.GenList
import KE.KSuper
import KE.RegKSuper
import HandS.ClsMeth
import KE.KUnpack
import HandS.OwnEq
import KE.KStateDown
import HandS.Head0
import HandS.Head1
import HandS.Head2
import HandS.HeadHook1
import KE.KWithOwn
import HandS.GenCall
import KE.KDictAny
import PySem.Challenge.RW_pressrelease_k19_whole_conditions_of_eff
set_option Elab.async false
set_option linter.all false
set_option maxRecDepth 100000
set_option maxHeartbeats 4000000
set_option autoImplicit false
namespace Dn
open PySem PySem.Spec PyProof.Rows L2
inductive D where
  | non | bl (b : Bool) | int (i : Int) | str (s : Str) | tup (xs : List D) | lst (xs : List D) | scr (xs : List D) | ref (l : Nat) | adr (a : Addr) | fd (ks : List (List Int)) (xs : List D) | exo (a dd : Addr) (f : Str) (d : D) | obj (nm : Str) (ks : List Str) (xs : List D) | sd (kvs : List (Str × Option Int)) | fnv (nm : Str)
inductive MO where
  | lst (xs : List D) | dct (ks : List (List Int)) (xs : List D) | dcs (ks : List (List Str)) (xs : List D) | ins (nm : Str) (fs : List (Str × D)) | gone
abbrev Sto := List MO
abbrev Rho := List (Option D)
structure Xc where
  nm : Str
  fld : Option (Str × D)
inductive Out (α : Type) where
  | ok (a : α) (st : Sto) | exc (x : Xc) (st : Sto) | bad
abbrev M (α : Type) := Sto → Out α
def Out.bind {α β : Type} (r : Out α) (f : α → Sto → Out β) : Out β :=
  match r with
  | .ok a st => f a st
  | .exc x st => .exc x st
  | .bad => .bad
@[simp] theorem Out.bind_ok {α β : Type} (a : α) (st : Sto) (f : α → Sto → Out β) : (Out.ok a st).bind f = f a st := rfl
@[simp] theorem Out.bind_exc {α β : Type} (x : Xc) (st : Sto) (f : α → Sto → Out β) : (Out.exc x st : Out α).bind f = .exc x st := rfl
@[simp] theorem Out.bind_bad {α β : Type} (f : α → Sto → Out β) : (Out.bad : Out α).bind f = .bad := rfl
theorem nodup_at {α : Type} {l : List α} (h : l.Nodup) {i j : Nat} {x : α} (a : l[i]? = some x) (b : l[j]? = some x) : i = j := by
  obtain ⟨h1, e1⟩ := List.getElem?_eq_some_iff.mp a
  obtain ⟨h2, e2⟩ := List.getElem?_eq_some_iff.mp b
  exact (List.getElem_inj h).mp (e1.trans e2.symm)
class HzC where
  hz : Str → Int
instance (priority := low) hzC0 : HzC := ⟨fun _ => 0⟩
variable [HzC]
def SqP (K : PySem.W.Frag) (F : Hp) (a : Addr) (xs : List V) : Prop :=
  (∃ o : Obj, o.dict = none ∧ F a = some (.frz o (.tup xs))) ∨
    ∃ (o : Obj) (its : Array Value) (n : Nat), K.lookup a = some o ∧ o.cls = .type "tuple" ∧ o.dict = none ∧ o.data = .seq its n ∧ its.size ≤ sizeLine ∧ Vals xs its.toList
def hzI (ks : List Int) : Int := reduceHash (Builtin.Tuple.tupleHashOf (ks.map hashInt))
def entI (x : List Int × Addr × Value) : DictEntry := ⟨hzI x.1, .ref x.2.1, x.2.2⟩
def DctH (a : Addr) (xs : List (List Int × Addr × Value)) (h : Heap) : Prop := ∃ o es ep, h.get? a = some o ∧ o.ExactDict ∧ o.data = .dict es ep ∧ es.toList = xs.map entI ∧ (xs.map (·.1)).Nodup
def DctO (a : Addr) (xs : List (List Int × Addr × Value)) : HO := .ext (DctH a xs)
def hzS (ks : List Str) : Int := reduceHash (Builtin.Tuple.tupleHashOf (ks.map HzC.hz))
def entS (x : List Str × Addr × Value) : DictEntry := ⟨hzS x.1, .ref x.2.1, x.2.2⟩
def DcsH (a : Addr) (xs : List (List Str × Addr × Value)) (h : Heap) : Prop := ∃ o es ep, h.get? a = some o ∧ o.ExactDict ∧ o.data = .dict es ep ∧ es.toList = xs.map entS ∧ (xs.map (·.1)).Nodup
def DcsO (a : Addr) (xs : List (List Str × Addr × Value)) : HO := .ext (DcsH a xs)
def KeysS (K : PySem.W.Frag) (F : Hp) (ks : List (List Str)) (xs : List (List Str × Addr × Value)) : Prop := xs.map (·.1) = ks ∧ ∀ x ∈ xs, SqP K F x.2.1 (x.1.map V.str)
def KeysT (K : PySem.W.Frag) (F : Hp) (ks : List (List Int)) (xs : List (List Int × Addr × Value)) : Prop := xs.map (·.1) = ks ∧ ∀ x ∈ xs, SqP K F x.2.1 (x.1.map V.int)
def oV : Option Int → V
  | none => .non
  | some i => .int i
def sdK (kvs : List (Str × Option Int)) : List (Key × V) := kvs.map fun p => (Sum.inr p.1, oV p.2)
mutual
def Rep (K : PySem.W.Frag) (F : Hp) (ι : List Addr) : D → V → Prop
  | .non, v => v = .non
  | .bl b, v => v = .bl b
  | .int i, v => v = .int i
  | .str s, v => v = .str s
  | .tup xs, v => ∃ a vs, v = .ref a ∧ SqP K F a vs ∧ Reps K F ι xs vs
  | .lst xs, v => ∃ a vs, v = .ref a ∧ F a = some (.lst vs) ∧ Reps K F ι xs vs
  | .scr xs, v => ∃ a vs, v = .ref a ∧ SqL K F a vs ∧ Reps K F ι xs vs
  | .ref l, v => ∃ a, v = .ref a ∧ ι[l]? = some a
  | .adr a, v => v = .ref a
  | .fd ks ds, v => ∃ a xs ws, v = .ref a ∧ (a == sysModules) = false ∧ F a = some (DctO a xs) ∧ KeysT K F ks xs ∧ Vals ws (xs.map (·.2.2)) ∧ Reps K F ι ds ws
  | .exo a dd f d, v => v = .ref a ∧ ∃ u, F dd = some (.xd [(f, u)]) ∧ Rep K F ι d u
  | .obj nm ks ds, v => ∃ a C dx gs, v = .ref a ∧ PySem.W.nsIn K mainGlobals nm = some (some (.ref C)) ∧ F a = some (.ins C dx gs) ∧ gs.map (·.1) = ks ∧ Reps K F ι ds (gs.map (·.2))
  | .sd kvs, v => ∃ a, v = .ref a ∧ F a = some (.dK (sdK kvs))
  | .fnv nm, v => ∃ a, v = .ref a ∧ PySem.W.nsIn K mainGlobals nm = some (some (.ref a))
def Reps (K : PySem.W.Frag) (F : Hp) (ι : List Addr) : List D → List V → Prop
  | [], vs => vs = []
  | d :: ds, vs => ∃ v r, vs = v :: r ∧ Rep K F ι d v ∧ Reps K F ι ds r
end
def Fz : HO → Prop
  | .tup _ => True
  | .lst _ => True
  | .frz _ (.lst _) => True
  | .frz _ (.tup _) => True
  | .ext _ => True
  | .xd _ => True
  | .ins _ _ _ => True
  | .dK _ => True
  | _ => False
def RepF (K : PySem.W.Frag) (F : Hp) (ι : List Addr) : List (Str × D) → List (Str × V) → Prop := Paired fun p q => p.1 = q.1 ∧ Rep K F ι p.2 q.2
def ObjR (K : PySem.W.Frag) (F : Hp) (ι : List Addr) (H : Hp) (a : Addr) : MO → Prop
  | .lst xs => ∃ vs, H a = some (.lst vs) ∧ Reps K F ι xs vs
  | .dct ks ds => ∃ xs ws, (a == sysModules) = false ∧ H a = some (DctO a xs) ∧ KeysT K F ks xs ∧ Vals ws (xs.map (·.2.2)) ∧ Reps K F ι ds ws
  | .dcs ks ds => ∃ xs ws, (a == sysModules) = false ∧ H a = some (DcsO a xs) ∧ KeysS K F ks xs ∧ Vals ws (xs.map (·.2.2)) ∧ Reps K F ι ds ws
  | .gone => True
  | .ins nm fs => ∃ C dx gs, PySem.W.nsIn K mainGlobals nm = some (some (.ref C)) ∧ H a = some (.ins C dx gs) ∧ RepF K F ι fs gs
structure Sim (K : PySem.W.Frag) (F : Hp) (ι : List Addr) (st : Sto) (H : Hp) : Prop where
  sub : ∀ a o, F a = some o → H a = some o
  kind : ∀ a o, F a = some o → Fz o
  len : ι.length = st.length
  nd : ι.Nodup
  free : ∀ (l : Nat) (a : Addr), ι[l]? = some a → st[l]? ≠ some .gone → F a = none
  there : ∀ a, a ∈ ι → H a ≠ none
  obj : ∀ (l : Nat) (m : MO) (a : Addr), st[l]? = some m → ι[l]? = some a → ObjR K F ι H a m
structure Ext (F : Hp) (ι : List Addr) (H F' : Hp) (ι' : List Addr) (H' : Hp) : Prop where
  f : ∀ a o, F a = some o → F' a = some o
  i : ∀ (l : Nat) (a : Addr), ι[l]? = some a → ι'[l]? = some a
  keep : ∀ a o, H a = some o → a ∉ ι → H' a = some o
  there : ∀ a, H' a = none → H a = none
  newF : ∀ a o, F' a = some o → F a = some o ∨ H a = none ∨ a ∈ ι
  newI : ∀ a, a ∈ ι' → a ∈ ι ∨ H a = none
  long : ι.length ≤ ι'.length
section
variable {K : PySem.W.Frag} {F F' F'' : Hp} {ι ι' ι'' : List Addr} {H H' H'' : Hp} {st st' : Sto}
theorem Ext.refl : Ext F ι H F ι H := ⟨fun _ _ h => h, fun _ _ h => h, fun _ _ h _ => h, fun _ h => h, fun _ _ h => .inl h, fun _ h => .inl h, Nat.le_refl _⟩
theorem Ext.trans (a : Ext F ι H F' ι' H') (b : Ext F' ι' H' F'' ι'' H'') : Ext F ι H F'' ι'' H'' := by
  refine ⟨fun x o h => b.f x o (a.f x o h), fun l x h => b.i l x (a.i l x h), fun x o h n => b.keep x o (a.keep x o h n) fun m => ?_, fun x h => a.there x (b.there x h), fun x o h => ?_, fun x h => ?_, Nat.le_trans a.long b.long⟩
  · rcases a.newI x m with q | q
    · exact n q
    · rw [h] at q
      cases q
  · rcases b.newF x o h with q | q | q
    · exact a.newF x o q
    · exact .inr (.inl (a.there x q))
    · rcases a.newI x q with q | q
      · exact .inr (.inr q)
      · exact .inr (.inl q)
  · rcases b.newI x h with q | q
    · exact a.newI x q
    · exact .inr (a.there x q)
theorem Rd.mono {a : Addr} {u : HO} (h : Rd F a u) (f : ∀ a o, F a = some o → F' a = some o) : Rd F' a u := by
  rcases h with h | ⟨o, h⟩
  · exact .inl (f _ _ h)
  · exact .inr ⟨o, f _ _ h⟩
theorem SqP.mono {a : Addr} {vs : List V} (h : SqP K F a vs) (f : ∀ a o, F a = some o → F' a = some o) : SqP K F' a vs := by
  rcases h with ⟨o, h1, h2⟩ | h
  · exact .inl ⟨o, h1, f _ _ h2⟩
  · exact .inr h
theorem SqP.sqT {a : Addr} {vs : List V} (h : SqP K F a vs) : SqT K F a vs := by
  rcases h with ⟨o, _, h2⟩ | ⟨o, its, n, h1, h2, _, h3, h4, h5⟩
  · exact .inl (.inr ⟨o, h2⟩)
  · exact .inr ⟨o, its, n, h1, h2, h3, h4, h5⟩
theorem SqT.mono {a : Addr} {vs : List V} (h : SqT K F a vs) (f : ∀ a o, F a = some o → F' a = some o) : SqT K F' a vs := by
  rcases h with h | h
  · exact .inl (Rd.mono h f)
  · exact .inr h
theorem SqL.mono {a : Addr} {vs : List V} (h : SqL K F a vs) (f : ∀ a o, F a = some o → F' a = some o) : SqL K F' a vs := by
  rcases h with h | h
  · exact .inl (Rd.mono h f)
  · exact .inr h
theorem KeysS.mono {ks : List (List Str)} {xs : List (List Str × Addr × Value)} (h : KeysS K F ks xs) (f : ∀ a o, F a = some o → F' a = some o) : KeysS K F' ks xs := ⟨h.1, fun x hx => (h.2 x hx).mono f⟩
theorem KeysT.mono {ks : List (List Int)} {xs : List (List Int × Addr × Value)} (h : KeysT K F ks xs) (f : ∀ a o, F a = some o → F' a = some o) : KeysT K F' ks xs := ⟨h.1, fun x hx => (h.2 x hx).mono f⟩
mutual
theorem Rep.mono (f : ∀ a o, F a = some o → F' a = some o) (i : ∀ (l : Nat) (a : Addr), ι[l]? = some a → ι'[l]? = some a) : ∀ (d : D) (v : V), Rep K F ι d v → Rep K F' ι' d v
  | .non, _, h => by simpa only [Rep] using h
  | .bl _, _, h => by simpa only [Rep] using h
  | .int _, _, h => by simpa only [Rep] using h
  | .str _, _, h => by simpa only [Rep] using h
  | .adr _, _, h => by simpa only [Rep] using h
  | .tup xs, v, h => by
    simp only [Rep] at h ⊢
    obtain ⟨a, vs, e, q, r⟩ := h
    exact ⟨a, vs, e, SqP.mono q f, Reps.mono f i xs vs r⟩
  | .lst xs, v, h => by
    simp only [Rep] at h ⊢
    obtain ⟨a, vs, e, q, r⟩ := h
    exact ⟨a, vs, e, f _ _ q, Reps.mono f i xs vs r⟩
  | .scr xs, v, h => by
    simp only [Rep] at h ⊢
    obtain ⟨a, vs, e, q, r⟩ := h
    exact ⟨a, vs, e, SqL.mono q f, Reps.mono f i xs vs r⟩
  | .ref l, v, h => by
    simp only [Rep] at h ⊢
    obtain ⟨a, e, q⟩ := h
    exact ⟨a, e, i l a q⟩
  | .fd ks ds, v, h => by
    simp only [Rep] at h ⊢
    obtain ⟨a, xs, ws, e, z, q, kt, vr, r⟩ := h
    exact ⟨a, xs, ws, e, z, f _ _ q, kt.mono f, vr, Reps.mono f i ds ws r⟩
  | .exo a dd g d, v, h => by
    simp only [Rep] at h ⊢
    obtain ⟨e, u, q, r⟩ := h
    exact ⟨e, u, f _ _ q, Rep.mono f i d u r⟩
  | .obj nm ks ds, v, h => by
    simp only [Rep] at h ⊢
    obtain ⟨a, C, dx, gs, e, z, q, kk, r⟩ := h
    exact ⟨a, C, dx, gs, e, z, f _ _ q, kk, Reps.mono f i ds _ r⟩
  | .sd kvs, v, h => by
    simp only [Rep] at h ⊢
    obtain ⟨a, e, q⟩ := h
    exact ⟨a, e, f _ _ q⟩
  | .fnv nm, v, h => by
    simp only [Rep] at h ⊢
    exact h
theorem Reps.mono (f : ∀ a o, F a = some o → F' a = some o) (i : ∀ (l : Nat) (a : Addr), ι[l]? = some a → ι'[l]? = some a) : ∀ (ds : List D) (vs : List V), Reps K F ι ds vs → Reps K F' ι' ds vs
  | [], _, h => by simpa only [Reps] using h
  | d :: ds, vs, h => by
    simp only [Reps] at h ⊢
    obtain ⟨v, r, e, h1, h2⟩ := h
    exact ⟨v, r, e, Rep.mono f i d v h1, Reps.mono f i ds r h2⟩
end
theorem Rep.ext {d : D} {v : V} (h : Rep K F ι d v) (e : Ext F ι H F' ι' H') : Rep K F' ι' d v := Rep.mono e.f e.i d v h
theorem Reps.ext {ds : List D} {vs : List V} (h : Reps K F ι ds vs) (e : Ext F ι H F' ι' H') : Reps K F' ι' ds vs := Reps.mono e.f e.i ds vs h
theorem RepF.ext {fs : List (Str × D)} {gs : List (Str × V)} (h : RepF K F ι fs gs) (e : Ext F ι H F' ι' H') : RepF K F' ι' fs gs := Paired.mapP h fun _ _ q => ⟨q.1, q.2.ext e⟩
theorem Reps.nil : Reps K F ι [] [] := by simp only [Reps]
theorem Reps.cons {d : D} {v : V} {ds : List D} {vs : List V} (h : Rep K F ι d v) (r : Reps K F ι ds vs) : Reps K F ι (d :: ds) (v :: vs) := by
  simp only [Reps]
  exact ⟨v, vs, rfl, h, r⟩
theorem Reps.length : ∀ {ds : List D} {vs : List V}, Reps K F ι ds vs → ds.length = vs.length
  | [], _, h => by simp only [Reps] at h; subst h; rfl
  | _ :: ds, _, h => by
    simp only [Reps] at h
    obtain ⟨v, r, e, _, h2⟩ := h
    subst e
    rw [List.length_cons, List.length_cons, Reps.length h2]
theorem Reps.get : ∀ {ds : List D} {vs : List V} {i : Nat} {d : D}, Reps K F ι ds vs → ds[i]? = some d → ∃ v, vs[i]? = some v ∧ Rep K F ι d v
  | [], _, _, _, _, e => by simp at e
  | d :: ds, _, 0, _, h, e => by
    simp only [Reps] at h
    obtain ⟨v, r, rfl, h1, _⟩ := h
    simp at e
    subst e
    exact ⟨v, rfl, h1⟩
  | d :: ds, _, i + 1, _, h, e => by
    simp only [Reps] at h
    obtain ⟨v, r, rfl, _, h2⟩ := h
    obtain ⟨u, q1, q2⟩ := Reps.get (i := i) h2 (by simpa using e)
    exact ⟨u, by simpa using q1, q2⟩
theorem Reps.append : ∀ {ds es : List D} {vs ws : List V}, Reps K F ι ds vs → Reps K F ι es ws → Reps K F ι (ds ++ es) (vs ++ ws)
  | [], _, _, _, h, g => by simp only [Reps] at h; subst h; exact g
  | d :: ds, _, _, _, h, g => by
    simp only [Reps] at h
    obtain ⟨v, r, rfl, h1, h2⟩ := h
    exact Reps.cons h1 (Reps.append h2 g)
theorem Reps.snoc {ds : List D} {vs : List V} {d : D} {v : V} (h : Reps K F ι ds vs) (g : Rep K F ι d v) : Reps K F ι (ds ++ [d]) (vs ++ [v]) := h.append (Reps.cons g Reps.nil)
theorem Reps.mem {ds : List D} {vs : List V} (h : Reps K F ι ds vs) : ∀ d, d ∈ ds → ∃ v, v ∈ vs ∧ Rep K F ι d v := fun d hd => by
  obtain ⟨i, hi⟩ := List.getElem?_of_mem hd
  obtain ⟨v, q1, q2⟩ := h.get hi
  exact ⟨v, List.mem_of_getElem? q1, q2⟩
theorem Reps.at {ds : List D} {vs : List V} {i : Nat} {d : D} {v : V} (h : Reps K F ι ds vs) (a : ds[i]? = some d) (b : vs[i]? = some v) : Rep K F ι d v := by
  obtain ⟨u, q1, q2⟩ := h.get a
  rw [b] at q1
  cases q1
  exact q2
theorem Sim.sqT (S : Sim K F ι st H) {a : Addr} {vs : List V} (h : SqP K F a vs) : SqT K H a vs := (h.mono S.sub).sqT
theorem Sim.sqL (S : Sim K F ι st H) {a : Addr} {vs : List V} (h : SqL K F a vs) : SqL K H a vs := SqL.mono h S.sub
theorem Ext.frozen {p : Addr} {o : HO} (hp : H p = none) (hF : ∀ a o, F a = some o → H a = some o) : Ext F ι H (upd F p o) ι (upd H p o) := by
  have ne : ∀ a o', F a = some o' → a ≠ p := fun a o' h e => by
    have := hF a o' h
    rw [e, hp] at this
    cases this
  refine ⟨fun a o' h => ?_, fun _ _ h => h, fun a o' h _ => ?_, fun a h => ?_, fun a o' h => ?_, fun _ h => .inl h, Nat.le_refl _⟩
  · rw [upd_ne (ne a o' h)]; exact h
  · rw [upd_ne (ne_of_none h hp)]; exact h
  · by_cases e : a = p
    · subst e; exact hp
    · rw [upd_ne e] at h; exact h
  · by_cases e : a = p
    · subst e; exact .inr (.inl hp)
    · rw [upd_ne e] at h; exact .inl h
theorem ObjR.mono {a : Addr} {m : MO} (h : ObjR K F ι H a m) (f : ∀ a o, F a = some o → F' a = some o) (i : ∀ (l : Nat) (a : Addr), ι[l]? = some a → ι'[l]? = some a) (k : H' a = H a) : ObjR K F' ι' H' a m := by
  cases m with
  | lst xs =>
    obtain ⟨vs, e, r⟩ := h
    exact ⟨vs, k.trans e, Reps.mono f i _ _ r⟩
  | dct ks ds =>
    obtain ⟨xs, ws, z, q, kt, vr, r⟩ := h
    exact ⟨xs, ws, z, k.trans q, kt.mono f, vr, Reps.mono f i _ _ r⟩
  | dcs ks ds =>
    obtain ⟨xs, ws, z, q, kt, vr, r⟩ := h
    exact ⟨xs, ws, z, k.trans q, kt.mono f, vr, Reps.mono f i _ _ r⟩
  | gone => trivial
  | ins C fs =>
    obtain ⟨C, dx, gs, z, e, r⟩ := h
    exact ⟨C, dx, gs, z, k.trans e, Paired.mapP r fun _ _ q => ⟨q.1, Rep.mono f i _ _ q.2⟩⟩
theorem Sim.frozen (S : Sim K F ι st H) {p : Addr} {o : HO} (hp : H p = none) (hz : Fz o) : Sim K (upd F p o) ι st (upd H p o) := by
  have X : Ext F ι H (upd F p o) ι (upd H p o) := Ext.frozen hp S.sub
  have np : ∀ a, a ∈ ι → a ≠ p := fun a h e => S.there a h (by rw [e]; exact hp)
  refine ⟨fun a u h => ?_, fun a u h => ?_, S.len, S.nd, fun l a h hg => ?_, fun a h => ?_, fun l m a h1 h2 => ?_⟩
  · by_cases e : a = p
    · subst e; rw [upd_same] at h ⊢; exact h
    · rw [upd_ne e] at h ⊢; exact S.sub a u h
  · by_cases e : a = p
    · subst e; rw [upd_same] at h; cases h; exact hz
    · rw [upd_ne e] at h; exact S.kind a u h
  · rw [upd_ne (np a (List.mem_of_getElem? h))]; exact S.free l a h hg
  · rw [upd_ne (np a h)]; exact S.there a h
  · exact (S.obj l m a h1 h2).mono X.f X.i (upd_ne (np a (List.mem_of_getElem? h2)))
theorem Sim.laid (S : Sim K F ι st H) {p : Addr} {o : HO} (hp : H p = none) : Sim K F ι st (upd H p o) := by
  have np : ∀ a, a ∈ ι → a ≠ p := fun a h e => S.there a h (by rw [e]; exact hp)
  refine ⟨fun a u h => ?_, S.kind, S.len, S.nd, S.free, fun a h => ?_, fun l m a h1 h2 => ?_⟩
  · rw [upd_ne (ne_of_none (S.sub a u h) hp)]; exact S.sub a u h
  · rw [upd_ne (np a h)]; exact S.there a h
  · exact (S.obj l m a h1 h2).mono (fun _ _ h => h) (fun _ _ h => h) (upd_ne (np a (List.mem_of_getElem? h2)))
theorem Ext.laid {p : Addr} {o : HO} (hp : H p = none) : Ext F ι H F ι (upd H p o) := by
  refine ⟨fun _ _ h => h, fun _ _ h => h, fun a u h _ => ?_, fun a h => ?_, fun _ _ h => .inl h, fun _ h => .inl h, Nat.le_refl _⟩
  · rw [upd_ne (ne_of_none h hp)]; exact h
  · by_cases e : a = p
    · subst e; exact hp
    · rw [upd_ne e] at h; exact h
theorem Sim.freeze (S : Sim K F ι st H) {p : Addr} {o : HO} (hp : H p = some o) (hF : F p = none) (hi : p ∉ ι) (hz : Fz o) : Sim K (upd F p o) ι st H := by
  refine ⟨fun a u h => ?_, fun a u h => ?_, S.len, S.nd, fun l a h hg => ?_, S.there, fun l m a h1 h2 => ?_⟩
  · by_cases e : a = p
    · subst e; rw [upd_same] at h; rw [hp]; exact h
    · rw [upd_ne e] at h; exact S.sub a u h
  · by_cases e : a = p
    · subst e; rw [upd_same] at h; cases h; exact hz
    · rw [upd_ne e] at h; exact S.kind a u h
  · rw [upd_ne (fun e => hi (by rw [← e]; exact List.mem_of_getElem? h))]; exact S.free l a h hg
  · exact (S.obj l m a h1 h2).mono (fun a u h => by rw [upd_ne (fun e => by rw [e, hF] at h; cases h)]; exact h) (fun _ _ h => h) rfl
theorem Ext.freeze {p : Addr} {o : HO} (x : Ext F ι H F' ι' H') (hF : F' p = none) (hp : H p = none) : Ext F ι H (upd F' p o) ι' H' := by
  refine ⟨fun a u h => ?_, x.i, x.keep, x.there, fun a u h => ?_, x.newI, x.long⟩
  · have h' := x.f a u h
    rw [upd_ne (fun e => by rw [e, hF] at h'; cases h')]
    exact h'
  · by_cases e : a = p
    · subst e; exact .inr (.inl hp)
    · rw [upd_ne e] at h; exact x.newF a u h
theorem Sim.locate (S : Sim K F ι st H) {p : Addr} {m : MO} (hp : H p ≠ none) (hF : F p = none) (hi : p ∉ ι) (ho : ObjR K F (ι ++ [p]) H p m) : Sim K F (ι ++ [p]) (st ++ [m]) H := by
  have mo : ∀ (l : Nat) (a : Addr), ι[l]? = some a → (ι ++ [p])[l]? = some a := fun l a h => by
    rw [List.getElem?_append_left (List.getElem?_eq_some_iff.mp h).1]; exact h
  refine ⟨S.sub, S.kind, by simp [S.len], ?_, fun l a h hg => ?_, fun a h => ?_, fun l m' a h1 h2 => ?_⟩
  · rw [List.nodup_append]
    refine ⟨S.nd, by simp, fun a ha b hb e => ?_⟩
    have : b = p := by simpa using hb
    subst this
    subst e
    exact hi ha
  · by_cases hl : l < st.length
    · rw [List.getElem?_append_left hl] at hg
      rw [List.getElem?_append_left (by rw [S.len]; exact hl)] at h
      exact S.free l a h hg
    · rw [List.getElem?_append_right (by rw [S.len]; omega)] at h
      have : a = p := by
        have := List.mem_of_getElem? h
        simpa using this
      subst this; exact hF
  · rcases List.mem_append.mp h with h | h
    · exact S.there a h
    · have : a = p := by simpa using h
      subst this; exact hp
  · by_cases hl : l < st.length
    · rw [List.getElem?_append_left hl] at h1
      rw [List.getElem?_append_left (by rw [S.len]; exact hl)] at h2
      exact (S.obj l m' a h1 h2).mono (fun _ _ h => h) mo rfl
    · have e : l = st.length := by
        have := (List.getElem?_eq_some_iff.mp h1).1
        simp at this
        omega
      subst e
      rw [List.getElem?_append_right (Nat.le_refl _)] at h1
      rw [List.getElem?_append_right (by rw [S.len]; exact Nat.le_refl _)] at h2
      simp [S.len] at h1 h2
      subst h1 h2
      exact ho
theorem Ext.locate {p : Addr} (x : Ext F ι H F' ι' H') (hp : H p = none) : Ext F ι H F' (ι' ++ [p]) H' := by
  refine ⟨x.f, fun l a h => ?_, x.keep, x.there, x.newF, fun a h => ?_, by simp; exact Nat.le_succ_of_le x.long⟩
  · have h' := x.i l a h
    rw [List.getElem?_append_left (List.getElem?_eq_some_iff.mp h').1]; exact h'
  · rcases List.mem_append.mp h with h | h
    · exact x.newI a h
    · have : a = p := by simpa using h
      subst this; exact .inr hp
theorem Sim.write (S : Sim K F ι st H) {l : Nat} {p : Addr} {m : MO} {o : HO} (hl : ι[l]? = some p) (hgo : st[l]? ≠ some .gone) (ho : ObjR K F ι (upd H p o) p m) : Sim K F ι (st.set l m) (upd H p o) := by
  have hp : p ∈ ι := List.mem_of_getElem? hl
  have nf : ∀ a u, F a = some u → a ≠ p := fun a u h e => by
    rw [e, S.free l p hl hgo] at h; cases h
  refine ⟨fun a u h => ?_, S.kind, by simp [S.len], S.nd, fun k a h hg => ?_, fun a h => ?_, fun k m' a h1 h2 => ?_⟩
  · rw [upd_ne (nf a u h)]; exact S.sub a u h
  · by_cases e : k = l
    · subst e
      rw [hl] at h
      cases h
      exact S.free k p hl hgo
    · rw [List.getElem?_set_ne (Ne.symm e)] at hg
      exact S.free k a h hg
  · by_cases e : a = p
    · subst e; rw [upd_same]; simp
    · rw [upd_ne e]; exact S.there a h
  · by_cases e : k = l
    · subst e
      rw [hl] at h2
      cases h2
      have hk : k < st.length := by
        have := (List.getElem?_eq_some_iff.mp h1).1
        simpa using this
      rw [List.getElem?_set_self hk] at h1
      cases h1
      exact ho
    · rw [List.getElem?_set_ne (Ne.symm e)] at h1
      refine (S.obj k m' a h1 h2).mono (fun _ _ h => h) (fun _ _ h => h) (upd_ne fun q => e ?_)
      subst q
      exact nodup_at S.nd h2 hl
theorem Ext.write {l : Nat} {p : Addr} {o : HO} (hl : ι[l]? = some p) (hp : H p ≠ none) : Ext F ι H F ι (upd H p o) := by
  have hm : p ∈ ι := List.mem_of_getElem? hl
  refine ⟨fun _ _ h => h, fun _ _ h => h, fun a u h n => ?_, fun a h => ?_, fun _ _ h => .inl h, fun _ h => .inl h, Nat.le_refl _⟩
  · rw [upd_ne (fun e => n (by rw [e]; exact hm))]; exact h
  · by_cases e : a = p
    · subst e; rw [upd_same] at h; cases h
    · rw [upd_ne e] at h; exact h
theorem Sim.retireO (S : Sim K F ι st H) {l : Nat} {p : Addr} {o : HO} (hl : ι[l]? = some p) (hp : H p = some o) (hz : Fz o) : Sim K (upd F p o) ι (st.set l .gone) H := by
  refine ⟨fun a u h => ?_, fun a u h => ?_, by simp [S.len], S.nd, fun k a h hg => ?_, S.there, fun k m' a h1 h2 => ?_⟩
  · by_cases e : a = p
    · subst e; rw [upd_same] at h; rw [hp]; exact h
    · rw [upd_ne e] at h; exact S.sub a u h
  · by_cases e : a = p
    · subst e; rw [upd_same] at h; cases h; exact hz
    · rw [upd_ne e] at h; exact S.kind a u h
  · by_cases e : k = l
    · subst e
      refine absurd ?_ hg
      have hk : k < st.length := by rw [← S.len]; exact (List.getElem?_eq_some_iff.mp h).1
      rw [List.getElem?_set_self hk]
    · rw [List.getElem?_set_ne (Ne.symm e)] at hg
      rw [upd_ne fun q => e (by subst q; exact nodup_at S.nd h hl)]
      exact S.free k a h hg
  · by_cases e : k = l
    · subst e
      have hk : k < st.length := by
        have := (List.getElem?_eq_some_iff.mp h1).1
        simpa using this
      rw [List.getElem?_set_self hk] at h1
      cases h1
      trivial
    · rw [List.getElem?_set_ne (Ne.symm e)] at h1
      by_cases eg : m' = .gone
      · subst eg; trivial
      · refine (S.obj k m' a h1 h2).mono (fun b u hb => ?_) (fun _ _ h => h) rfl
        by_cases eb : b = p
        · subst eb
          have := S.sub b u hb
          rw [hp] at this
          cases this
          rw [upd_same]
        · rw [upd_ne eb]; exact hb
theorem Sim.retire (S : Sim K F ι st H) {l : Nat} {p : Addr} {vs : List V} (hl : ι[l]? = some p) (hp : H p = some (.lst vs)) : Sim K (upd F p (.lst vs)) ι (st.set l .gone) H := S.retireO hl hp trivial
theorem Ext.retireO (S : Sim K F ι st H) {l : Nat} {p : Addr} {o : HO} (hl : ι[l]? = some p) (hp : H p = some o) : Ext F ι H (upd F p o) ι H := by
  refine ⟨fun a u h => ?_, fun _ _ h => h, fun a u h _ => h, fun a h => h, fun a u h => ?_, fun _ h => .inl h, Nat.le_refl _⟩
  · by_cases e : a = p
    · subst e
      have := S.sub a u h
      rw [hp] at this
      cases this
      rw [upd_same]
    · rw [upd_ne e]; exact h
  · by_cases e : a = p
    · subst e; exact .inr (.inr (List.mem_of_getElem? hl))
    · rw [upd_ne e] at h; exact .inl h
theorem Ext.retire (S : Sim K F ι st H) {l : Nat} {p : Addr} {vs : List V} (hl : ι[l]? = some p) (hp : H p = some (.lst vs)) : Ext F ι H (upd F p (.lst vs)) ι H := Ext.retireO S hl hp
end
end Dn
namespace Dn
open PySem PySem.Spec PyProof.Rows L2
variable [HzC]
def XcR (K : PySem.W.Frag) (F : Hp) (ι : List Addr) (H : Hp) (x : Xc) (cls : Value) (dd : Option Addr) : Prop :=
  PySem.W.nsIn K mainGlobals x.nm = some (some cls) ∧ match x.fld with
    | none => dd = none
    | some (f, d) => ∃ a v, dd = some a ∧ F a = some (.xd [(f, v)]) ∧ Rep K F ι d v
structure REnv (K : PySem.W.Frag) (F : Hp) (ι : List Addr) (ρ : Rho) (σ : L2.St) : Prop where
  len : ρ.length = σ.length
  at_ : ∀ (i : Nat) (d : D), ρ[i]? = some (some d) → ∃ v, σ[i]? = some (some v) ∧ Rep K F ι d v
def post {α β : Type} (K : PySem.W.Frag) (W : WX) (σ : L2.St) (F : Hp) (ι : List Addr) (H : Hp) (P : Hp → Hp → List Addr → Hp → α → β → Prop) (r : Out α) (Q : β → Hp → Prop) : Prop :=
  match r with
  | .ok a st' => ∀ F' ι' H' b, Ext F ι H F' ι' H' → Sim K F' ι' st' H' → P H F' ι' H' a b → Q b H'
  | .exc x st' => ∀ F' ι' H' cls dd, Ext F ι H F' ι' H' → Sim K F' ι' st' H' → XcR K F' ι' H' x cls dd → W cls dd σ H'
  | .bad => False
def pV (K : PySem.W.Frag) : Hp → Hp → List Addr → Hp → D → V → Prop := fun _ F ι _ d v => Rep K F ι d v
def pA (K : PySem.W.Frag) : Hp → Hp → List Addr → Hp → List D → List V → Prop := fun _ F ι _ d v => Reps K F ι d v
def pB : Hp → Hp → List Addr → Hp → Bool → Bool → Prop := fun _ _ _ _ b c => b = c
def pL (K : PySem.W.Frag) : Hp → Hp → List Addr → Hp → List D → V → Prop := fun H0 F ι H ds v => ∃ a vs, v = .ref a ∧ H a = some (.lst vs) ∧ F a = none ∧ a ∉ ι ∧ H0 a = none ∧ Reps K F ι ds vs
def Back {α β : Type} (P : Hp → Hp → List Addr → Hp → α → β → Prop) : Prop := ∀ H0 H1 F ι H a b, (∀ x, H1 x = none → H0 x = none) → P H1 F ι H a b → P H0 F ι H a b
theorem back_V {K : PySem.W.Frag} : Back (pV K) := fun _ _ _ _ _ _ _ _ h => h
theorem back_A {K : PySem.W.Frag} : Back (pA K) := fun _ _ _ _ _ _ _ _ h => h
theorem back_B : Back pB := fun _ _ _ _ _ _ _ _ h => h
theorem back_L {K : PySem.W.Frag} : Back (pL K) := fun _ _ _ _ _ _ _ f ⟨a, vs, e, h, hF, hi, h0, r⟩ => ⟨a, vs, e, h, hF, hi, f a h0, r⟩
section
variable {α β γ δ : Type} {K : PySem.W.Frag} {W : WX} {σ : L2.St} {F F1 : Hp} {ι ι1 : List Addr} {H H1 : Hp} {P : Hp → Hp → List Addr → Hp → α → β → Prop} {P' : Hp → Hp → List Addr → Hp → γ → δ → Prop} {Q : δ → Hp → Prop} {Q' : β → Hp → Prop}
theorem post_ext (bk : Back P') {r : Out γ} (h : post K W σ F ι H P' r Q) (x : Ext F ι H F1 ι1 H1) : post K W σ F1 ι1 H1 P' r Q := by
  cases r with
  | ok a st => exact fun F' ι' H' b y S p => h F' ι' H' b (x.trans y) S (bk _ _ _ _ _ _ _ x.there p)
  | exc e st => exact fun F' ι' H' c d y S p => h F' ι' H' c d (x.trans y) S p
  | bad => exact h
theorem post_seq (bk : Back P') {r : Out α} {f : α → Sto → Out γ} (h : post K W σ F ι H P' (r.bind f) Q)
    (k : ∀ a st1 F1 ι1 H1 b, r = .ok a st1 → Ext F ι H F1 ι1 H1 → Sim K F1 ι1 st1 H1 → P H F1 ι1 H1 a b → post K W σ F1 ι1 H1 P' (f a st1) Q → Q' b H1) : post K W σ F ι H P r Q' := by
  cases r with
  | ok a st => exact fun F' ι' H' b y S p => k a st F' ι' H' b rfl y S p (post_ext bk h y)
  | exc e st => exact h
  | bad => exact h
theorem REnv.ext {ρ : Rho} (h : REnv K F ι ρ σ) (x : Ext F ι H F1 ι1 H1) : REnv K F1 ι1 ρ σ := ⟨h.len, fun i d e => let ⟨v, a, r⟩ := h.at_ i d e; ⟨v, a, r.ext x⟩⟩
theorem REnv.set {ρ : Rho} (h : REnv K F ι ρ σ) {d : D} {v : V} (r : Rep K F ι d v) (i : Nat) : REnv K F ι (ρ.set i (some d)) (σ.set i (some v)) := by
  refine ⟨by simp [h.len], fun j e q => ?_⟩
  by_cases hj : i = j
  · subst hj
    by_cases hl : i < ρ.length
    · rw [List.getElem?_set_self hl] at q
      cases q
      exact ⟨v, by rw [List.getElem?_set_self (by rw [← h.len]; exact hl)], r⟩
    · rw [List.getElem?_eq_none (by simpa using hl)] at q
      cases q
  · rw [List.getElem?_set_ne hj] at q
    rw [List.getElem?_set_ne hj]
    exact h.at_ j e q
def wipeD (ρ : Rho) : List Nat → Rho
  | [] => ρ
  | v :: vs => (wipeD ρ vs).set v none
theorem REnv.wipe {ρ : Rho} (h : REnv K F ι ρ σ) : ∀ vs : List Nat, REnv K F ι (wipeD ρ vs) (wipe σ vs)
  | [] => h
  | v :: vs => by
    have ih := h.wipe vs
    show REnv K F ι ((wipeD ρ vs).set v none) ((L2.wipe σ vs).set v none)
    refine ⟨by simp [ih.len], fun j e q => ?_⟩
    by_cases hj : v = j
    · subst hj
      by_cases hl : v < (wipeD ρ vs).length
      · rw [List.getElem?_set_self hl] at q; cases q
      · rw [List.getElem?_eq_none (by simpa using hl)] at q; cases q
    · rw [List.getElem?_set_ne hj] at q
      rw [List.getElem?_set_ne hj]
      exact ih.at_ j e q
end
def wN : WX := fun _ _ _ _ => False
def nox {α : Type} (r : Out α) : Out α := match r with
  | .ok a st => .ok a st
  | _ => .bad
@[simp] theorem nox_ok {α : Type} (a : α) (st : Sto) : nox (.ok a st) = .ok a st := rfl
@[simp] theorem nox_bad {α : Type} : nox (.bad : Out α) = .bad := rfl
def tG {α β : Type} (K : PySem.W.Frag) (W : WX) (P : Hp → Hp → List Addr → Hp → α → β → Prop) (m : Rho → M α) : L2.St → Hp → (β → Hp → Prop) → Prop := fun σ H Q =>
  ∃ F ι ρ st, Sim K F ι st H ∧ REnv K F ι ρ σ ∧ post K W σ F ι H P (m ρ st) Q
abbrev tV (K : PySem.W.Frag) (W : WX) (m : Rho → M D) : TE := tG K W (pV K) m
abbrev tL (K : PySem.W.Frag) (W : WX) (m : Rho → M (List D)) : TE := tG K W (pL K) m
abbrev tA (K : PySem.W.Frag) (W : WX) (m : Rho → M (List D)) : TA := tG K W (pA K) m
abbrev tT (K : PySem.W.Frag) (W : WX) (m : Rho → M Bool) : TT := tG K W pB m
def DE (X : Cx) (W : WX) (e : Expr) (m : Rho → M D) : Prop := PE X e (tV X.K W m)
def DL (X : Cx) (W : WX) (e : Expr) (m : Rho → M (List D)) : Prop := PE X e (tL X.K W m)
def DA (X : Cx) (W : WX) (es : List Expr) (m : Rho → M (List D)) : Prop := PA X es (tA X.K W m)
def DT (X : Cx) (W : WX) (e : Expr) (m : Rho → M Bool) : Prop := PT X e (tT X.K W m)
theorem PE.weak {X : Cx} {e : Expr} {t t' : TE} (h : PE X e t) (w : ∀ σ H Q, t' σ H Q → t σ H Q) : PE X e t' := ⟨fun pins s σ H Q I q => h.run pins s σ H Q I (w σ H Q q)⟩
theorem PT.weak {X : Cx} {e : Expr} {t t' : TT} (h : PT X e t) (w : ∀ σ H Q, t' σ H Q → t σ H Q) : PT X e t' := ⟨fun pins s σ H Q I q => h.run pins s σ H Q I (w σ H Q q)⟩
theorem PA.weak {X : Cx} {e : List Expr} {t t' : TA} (h : PA X e t) (w : ∀ σ H Q, t' σ H Q → t σ H Q) : PA X e t' := ⟨fun pos pins s σ H Q I q => h.run pos pins s σ H Q I (w σ H Q q)⟩
theorem PS.weak {X : Cx} {e : Stmt} {t t' : TS} (h : PS X e t) (w : ∀ D σ H, t' D σ H → t D σ H) : PS X e t' := ⟨fun pins s σ H D I q => h.run pins s σ H D I (w D σ H q)⟩
theorem PSs.weak {X : Cx} {e : List Stmt} {t t' : TS} (h : PSs X e t) (w : ∀ D σ H, t' D σ H → t D σ H) : PSs X e t' := ⟨fun pins s σ H D I q => h.run pins s σ H D I (w D σ H q)⟩
theorem tG_seq {α β γ δ : Type} {K : PySem.W.Frag} {W : WX} {P : Hp → Hp → List Addr → Hp → α → β → Prop} {P' : Hp → Hp → List Addr → Hp → γ → δ → Prop} (bk : Back P') {m : Rho → M α} {σ : L2.St} {F : Hp} {ι : List Addr} {H : Hp} {ρ : Rho} {st : Sto} {f : α → Sto → Out γ} {Q : δ → Hp → Prop} {Q' : β → Hp → Prop}
    (S : Sim K F ι st H) (R : REnv K F ι ρ σ) (h : post K W σ F ι H P' ((m ρ st).bind f) Q)
    (k : ∀ a st1 F1 ι1 H1 b, Ext F ι H F1 ι1 H1 → Sim K F1 ι1 st1 H1 → REnv K F1 ι1 ρ σ → P H F1 ι1 H1 a b → post K W σ F1 ι1 H1 P' (f a st1) Q → Q' b H1) : tG K W P m σ H Q' :=
  ⟨F, ι, ρ, st, S, R, post_seq bk h fun a st1 F1 ι1 H1 b _ x S1 p q => k a st1 F1 ι1 H1 b x S1 (R.ext x) p q⟩
def lift {α : Type} (o : Option α) : M α := fun st => match o with
  | some a => .ok a st
  | none => .bad
@[simp] theorem lift_some {α : Type} (a : α) (st : Sto) : lift (some a) st = .ok a st := rfl
@[simp] theorem lift_none {α : Type} (st : Sto) : (lift none st : Out α) = .bad := rfl
def mVar (i : Nat) : Rho → M D := fun ρ st => match ρ[i]? with
  | some (some d) => .ok d st
  | _ => .bad
def mLit (d : D) : Rho → M D := fun _ st => .ok d st
section
variable {X : Cx} {W : WX} {pos : Pos}
theorem de_var {i : Nat} {x : Str} (hN : X.N[i]? = some x) (hv : Vis X.env.scope x) (hd : (x == ("__debug__" : Str)) = false := by decide) (hcd : (x == ("__classdict__" : Str)) = false := by decide) : DE X W (.Name x pos) (mVar i) := by
  refine PE.weak (pe_var hN hv hd hcd) fun σ H Q ⟨F, ι, ρ, st, S, R, h⟩ => ?_
  unfold mVar at h
  split at h
  · rename_i d e
    obtain ⟨v, q, r⟩ := R.at_ i d e
    exact ⟨v, q, h F ι H v Ext.refl S r⟩
  · exact h.elim
theorem de_c {e : Expr} {v : V} {d : D} (h : PE X e (tC v)) (r : ∀ F ι, Rep X.K F ι d v) : DE X W e (mLit d) :=
  PE.weak h fun σ H Q ⟨F, ι, ρ, st, S, R, q⟩ => q F ι H v Ext.refl S (r F ι)
theorem de_int {i : Int} {j} : DE X W (.Constant (.int i) j pos) (mLit (.int i)) := de_c pe_int fun _ _ => by simp only [Rep]
theorem de_bl {b : Bool} {j} : DE X W (.Constant (.bool b) j pos) (mLit (.bl b)) := de_c pe_bl fun _ _ => by simp only [Rep]
theorem de_non {j} : DE X W (.Constant .none j pos) (mLit .non) := de_c pe_non fun _ _ => by simp only [Rep]
theorem de_str {x : Str} {j} : DE X W (.Constant (.str x) j pos) (mLit (.str x)) := de_c pe_str fun _ _ => by simp only [Rep]
theorem de_gint {x : Str} {i : Int} {t : Tok} (hg : Gl X x) (hm : X.mg x = some (.int i t)) (hd : (x == ("__debug__" : Str)) = false := by decide) : DE X W (.Name x pos) (mLit (.int i)) := de_c (pe_glob hg hm (v := .int i) ⟨t, rfl⟩ hd) fun _ _ => by simp only [Rep]
theorem de_gstr {x : Str} {i : Str} {t : Tok} (hg : Gl X x) (hm : X.mg x = some (.str i t)) (hd : (x == ("__debug__" : Str)) = false := by decide) : DE X W (.Name x pos) (mLit (.str i)) := de_c (pe_glob hg hm (v := .str i) ⟨t, rfl⟩ hd) fun _ _ => by simp only [Rep]
def mNil : Rho → M (List D) := fun _ st => .ok [] st
def mCons (m : Rho → M D) (r : Rho → M (List D)) : Rho → M (List D) := fun ρ st => (m ρ st).bind fun d st1 => (r ρ st1).bind fun ds st2 => .ok (d :: ds) st2
theorem da_nil : DA X W [] mNil := PA.weak pa_nil fun σ H Q ⟨F, ι, ρ, st, S, R, q⟩ => q F ι H [] Ext.refl S Reps.nil
theorem da_cons {e : Expr} {es : List Expr} {m : Rho → M D} {r : Rho → M (List D)} (h : DE X W e m) (hr : DA X W es r) (hs : starEach (e :: es) X.env = (false, eval e X.env) :: starEach es X.env := by rfl) : DA X W (e :: es) (mCons m r) := by
  refine PA.weak (pa_cons h hr hs) fun σ H Q ⟨F, ι, ρ, st, S, R, q⟩ => ?_
  refine tG_seq back_A S R q fun d st1 F1 ι1 H1 v x1 S1 R1 r1 q1 => ?_
  exact tG_seq back_A S1 R1 q1 fun ds st2 F2 ι2 H2 vs x2 S2 R2 r2 q2 => q2 F2 ι2 H2 _ Ext.refl S2 (Reps.cons (r1.ext x2) r2)
abbrev SZ : Nat := 100000
theorem sz_le {n : Nat} (h : n ≤ SZ) : n ≤ sizeLine := Nat.le_trans h (by decide)
theorem sz_lt {n : Nat} (h : n ≤ SZ) : n < sizeLine := Nat.lt_of_le_of_lt h (by decide)
theorem fin_tup {X : Cx} {pins : List (Addr × Obj)} {σ : L2.St} {H : Hp} {s : Shared} {Q : VK} {ys : List V} {its : List Value} {t' : Nat} (I : Inv X pins σ H s) (r : Vals ys its) (z : ys.length ≤ sizeLine)
    (q : ∀ (p : Addr) (o : Obj), o.dict = none → H p = none → Q (.ref p) (upd H p (.frz o (.tup ys)))) : EP X pins σ Q (.ref s.heap.objs.size) { s with heap := s.heap.push { cls := .type "tuple", data := .seq its.toArray }, toks := t' } := by
  have hn := I.hok.fresh (Nat.le_refl _)
  have hg : (s.heap.push { cls := .type "tuple", data := .seq its.toArray }).get? s.heap.objs.size = some { cls := .type "tuple", data := .seq its.toArray } := Heap.get?_push_size _ rfl
  have ok : ObjOk X.prog X.w (upd H s.heap.objs.size (.frz { cls := .type "tuple", data := .seq its.toArray } (.tup ys))) (s.heap.push { cls := .type "tuple", data := .seq its.toArray }) s.heap.objs.size (.frz { cls := .type "tuple", data := .seq its.toArray } (.tup ys)) :=
    ⟨hg, z, its, r, ⟨_, hg, rfl, _, rfl⟩⟩
  exact ⟨.ref s.heap.objs.size, _, I.laid (t' := t') (fun b u e => Heap.get?_push_of_some _ e) (Nat.le_refl _) ok, rfl, q _ _ rfl hn⟩
def tTupP (t : TA) : TE := fun σ H Q => t σ H fun xs H1 => xs.length ≤ sizeLine ∧ ∀ (p : Addr) (o : Obj), o.dict = none → H1 p = none → Q (.ref p) (upd H1 p (.frz o (.tup xs)))
theorem pe_tupP {X : Cx} {es : List Expr} {x1} {pos : Pos} {t : TA} (h : PA X es t) : PE X (.Tuple es x1 pos) (tTupP t) := by
  refine ⟨fun pins s σ H Q I hq => wpAny_Tuple_spliced (thn (h.run pos pins s σ H _ I hq) fun us s1 ⟨xs, H1, I1, r, z, q⟩ => ?_)⟩
  exact ⟨by rw [← r.length]; exact z, fin_tup (t' := s1.toks) I1 r z q⟩
def mTup (a : Rho → M (List D)) : Rho → M D := fun ρ st => (a ρ st).bind fun xs st1 => if xs.length ≤ SZ then .ok (.tup xs) st1 else .bad
theorem de_tup {es : List Expr} {x1} {a : Rho → M (List D)} (h : DA X W es a) : DE X W (.Tuple es x1 pos) (mTup a) := by
  refine PE.weak (pe_tupP h) fun σ H Q ⟨F, ι, ρ, st, S, R, q⟩ => ?_
  refine tG_seq back_V S R q fun xs st1 F1 ι1 H1 vs x1 S1 R1 r1 q1 => ?_
  split at q1
  · rename_i hz
    refine ⟨by rw [← Reps.length r1]; exact sz_le hz, fun p o ho hp => ?_⟩
    refine q1 (upd F1 p (.frz o (.tup vs))) ι1 _ _ (Ext.frozen hp S1.sub) (S1.frozen hp trivial) ?_
    show Rep _ _ _ _ _
    simp only [Rep]
    exact ⟨p, vs, rfl, .inl ⟨o, ho, upd_same⟩, Reps.ext r1 (Ext.frozen (H := H1) hp S1.sub)⟩
  · exact q1.elim
def lDisp (a : Rho → M (List D)) : Rho → M (List D) := fun ρ st => (a ρ st).bind fun xs st1 => if xs.length ≤ SZ then .ok xs st1 else .bad
theorem pL_new {K : PySem.W.Frag} {F : Hp} {ι : List Addr} {H : Hp} {st : Sto} {p : Addr} {ds : List D} {vs : List V} (S : Sim K F ι st H) (hp : H p = none) (r : Reps K F ι ds vs) : pL K H F ι (upd H p (.lst vs)) ds (.ref p) := by
  refine ⟨p, vs, rfl, upd_same, ?_, fun h => S.there p h hp, hp, r⟩
  cases e : F p with
  | none => rfl
  | some o =>
    have := S.sub p o e
    rw [hp] at this
    cases this
theorem dl_disp {es : List Expr} {a : Rho → M (List D)} (h : DA X W es a) : DL X W (.List es pos) (lDisp a) := by
  refine PE.weak (pe_lst h) fun σ H Q ⟨F, ι, ρ, st, S, R, q⟩ => ?_
  refine tG_seq back_L S R q fun xs st1 F1 ι1 H1 vs x1 S1 R1 r1 q1 => ?_
  split at q1
  · rename_i hz
    refine ⟨by rw [← Reps.length r1]; exact sz_le hz, fun p hp => ?_⟩
    exact q1 F1 ι1 _ _ (Ext.laid hp) (S1.laid hp) (pL_new S1 hp r1)
  · exact q1.elim
def mFrz (l : Rho → M (List D)) : Rho → M D := fun ρ st => (l ρ st).bind fun xs st1 => .ok (.lst xs) st1
def mNew (l : Rho → M (List D)) : Rho → M D := fun ρ st => (l ρ st).bind fun xs st1 => .ok (.ref st1.length) (st1 ++ [.lst xs])
theorem frz_of {K : PySem.W.Frag} {W : WX} {l : Rho → M (List D)} {σ : L2.St} {H : Hp} {Q : VK} (h : tV K W (mFrz l) σ H Q) : tL K W l σ H Q := by
  obtain ⟨F, ι, ρ, st, S, R, q⟩ := h
  refine ⟨F, ι, ρ, st, S, R, ?_⟩
  unfold mFrz at q
  generalize l ρ st = r at q ⊢
  cases r with
  | ok xs st1 =>
    intro F' ι' H' b x S' ⟨a, vs, e, h, hF, hi, h0, rr⟩
    subst e
    have x' := x.freeze (o := .lst vs) hF h0
    refine q (upd F' a (.lst vs)) ι' H' (.ref a) x' (S'.freeze h hF hi trivial) ?_
    show Rep _ _ _ _ _
    simp only [Rep]
    refine ⟨a, vs, rfl, upd_same, Reps.mono (fun b o hb => ?_) (fun _ _ h => h) _ _ rr⟩
    rw [upd_ne (fun e => by rw [e, hF] at hb; cases hb)]
    exact hb
  | exc _ _ => exact q
  | bad => exact q
theorem de_frz {e : Expr} {l : Rho → M (List D)} (h : DL X W e l) : DE X W e (mFrz l) := PE.weak h fun _ _ _ q => frz_of q
theorem new_of {K : PySem.W.Frag} {W : WX} {l : Rho → M (List D)} {σ : L2.St} {H : Hp} {Q : VK} (h : tV K W (mNew l) σ H Q) : tL K W l σ H Q := by
  obtain ⟨F, ι, ρ, st, S, R, q⟩ := h
  refine ⟨F, ι, ρ, st, S, R, ?_⟩
  unfold mNew at q
  generalize l ρ st = r at q ⊢
  cases r with
  | ok xs st1 =>
    intro F' ι' H' b x S' ⟨a, vs, e, h, hF, hi, h0, rr⟩
    subst e
    have mo : ∀ (l : Nat) (b : Addr), ι'[l]? = some b → (ι' ++ [a])[l]? = some b := fun l b h => by
      rw [List.getElem?_append_left (List.getElem?_eq_some_iff.mp h).1]; exact h
    refine q F' (ι' ++ [a]) H' (.ref a) (x.locate h0) (S'.locate (m := .lst xs) (by rw [h]; simp) hF hi ⟨vs, h, Reps.mono (fun _ _ h => h) mo _ _ rr⟩) ?_
    show Rep _ _ _ _ _
    simp only [Rep]
    exact ⟨a, rfl, by rw [← S'.len, List.getElem?_append_right (Nat.le_refl _)]; simp⟩
  | exc _ _ => exact q
  | bad => exact q
theorem de_new {e : Expr} {l : Rho → M (List D)} (h : DL X W e l) : DE X W e (mNew l) := PE.weak h fun _ _ _ q => new_of q
end
end Dn
namespace Dn
open PySem PySem.Spec PyProof.Rows L2
variable [HzC]
mutual
def isP : D → Bool
  | .non => true | .bl _ => true | .int _ => true | .str _ => true
  | .tup xs => isPs xs | .lst xs => isPs xs
  | .scr _ => false | .ref _ => false | .adr _ => false | .fd _ _ => false | .exo _ _ _ _ => false | .obj _ _ _ => false | .sd _ => false | .fnv _ => false
def isPs : List D → Bool
  | [] => true
  | d :: ds => isP d && isPs ds
end
mutual
def toP : D → PyData
  | .non => .none | .bl b => .bool b | .int i => .int i | .str s => .str s
  | .tup xs => .tuple (toPs xs) | .lst xs => .list (toPs xs)
  | .scr _ => .none | .ref _ => .none | .adr _ => .none | .fd _ _ => .none | .exo _ _ _ _ => .none | .obj _ _ _ => .none | .fnv _ => .none | .sd kvs => .dict (kvs.map fun p => (.str p.1, match p.2 with | none => .none | some i => .int i))
def toPs : List D → List PyData
  | [] => []
  | d :: ds => toP d :: toPs ds
end
theorem toPs_map : ∀ ds : List D, toPs ds = ds.map toP
  | [] => rfl
  | d :: ds => by rw [toPs, List.map_cons, toPs_map ds]
mutual
theorem dp_of {K : PySem.W.Frag} {F H : Hp} {ι : List Addr} (sub : ∀ a o, F a = some o → H a = some o) : ∀ (d : D) (v : V), isP d = true → Rep K F ι d v → Dp K H v (toP d)
  | .non, v, _, r => by simp only [Rep] at r; subst r; simp only [toP]; exact .non
  | .bl b, v, _, r => by simp only [Rep] at r; subst r; simp only [toP]; exact .bl b
  | .int b, v, _, r => by simp only [Rep] at r; subst r; simp only [toP]; exact .int b
  | .str b, v, _, r => by simp only [Rep] at r; subst r; simp only [toP]; exact .str b
  | .tup xs, v, p, r => by
    simp only [Rep] at r
    obtain ⟨a, vs, e, q, r⟩ := r
    subst e
    simp only [toP]
    exact .tup (SqP.mono q sub).sqT (dps_of sub xs vs (by simpa only [isP] using p) r)
  | .lst xs, v, p, r => by
    simp only [Rep] at r
    obtain ⟨a, vs, e, q, r⟩ := r
    subst e
    simp only [toP]
    exact .lst (SqL.of (sub _ _ q)) (dps_of sub xs vs (by simpa only [isP] using p) r)
  | .scr _, _, p, _ => by simp [isP] at p
  | .ref _, _, p, _ => by simp [isP] at p
  | .adr _, _, p, _ => by simp [isP] at p
  | .fd _ _, _, p, _ => by simp [isP] at p
  | .exo _ _ _ _, _, p, _ => by simp [isP] at p
  | .obj _ _ _, _, p, _ => by simp [isP] at p
  | .sd _, _, p, _ => by simp [isP] at p
  | .fnv _, _, p, _ => by simp [isP] at p
theorem dps_of {K : PySem.W.Frag} {F H : Hp} {ι : List Addr} (sub : ∀ a o, F a = some o → H a = some o) : ∀ (ds : List D) (vs : List V), isPs ds = true → Reps K F ι ds vs → DpAll K H vs (toPs ds)
  | [], vs, _, r => by simp only [Reps] at r; subst r; simp only [toPs]; exact .nil
  | d :: ds, vs, p, r => by
    simp only [Reps] at r
    obtain ⟨v, rs, e, r1, r2⟩ := r
    subst e
    simp only [isPs, Bool.and_eq_true] at p
    simp only [toPs]
    exact .cons (dp_of sub d v p.1 r1) (dps_of sub ds rs p.2 r2)
end
def lstOf (st : Sto) : D → Option (List D)
  | .lst xs => some xs
  | .ref l => match st[l]? with
    | some (.lst xs) => some xs
    | _ => none
  | _ => none
def seqOf (st : Sto) : D → Option (List D)
  | .tup xs => some xs
  | .scr xs => some xs
  | d => lstOf st d
@[simp] theorem lstOf_lst (st : Sto) (xs : List D) : lstOf st (.lst xs) = some xs := rfl
@[simp] theorem seqOf_tup (st : Sto) (xs : List D) : seqOf st (.tup xs) = some xs := rfl
@[simp] theorem seqOf_lst (st : Sto) (xs : List D) : seqOf st (.lst xs) = some xs := rfl
@[simp] theorem seqOf_scr (st : Sto) (xs : List D) : seqOf st (.scr xs) = some xs := rfl
theorem seqOf_ref {st : Sto} {l : Nat} {xs : List D} (h : st[l]? = some (.lst xs)) : seqOf st (.ref l) = some xs := by simp [seqOf, lstOf, h]
def dat (st : Sto) (d : D) : Option PyData := match d with
  | .ref l => match st[l]? with
    | some (.lst xs) => if isPs xs = true then some (.list (toPs xs)) else none
    | _ => none
  | d => if isP d = true then some (toP d) else none
section
variable {K : PySem.W.Frag} {F H : Hp} {ι : List Addr} {st : Sto}
theorem Sim.lst (S : Sim K F ι st H) {d : D} {v : V} {xs : List D} (r : Rep K F ι d v) (h : lstOf st d = some xs) : ∃ a vs, v = .ref a ∧ H a = some (.lst vs) ∧ Reps K F ι xs vs := by
  unfold lstOf at h
  split at h
  · cases h
    simp only [Rep] at r
    obtain ⟨a, vs, e, q, r⟩ := r
    exact ⟨a, vs, e, S.sub _ _ q, r⟩
  · rename_i l
    split at h
    · rename_i ys e
      cases h
      simp only [Rep] at r
      obtain ⟨a, e2, q⟩ := r
      obtain ⟨vs, h1, h2⟩ := S.obj l _ a e q
      exact ⟨a, vs, e2, h1, h2⟩
    · cases h
  · cases h
theorem Sim.seq (S : Sim K F ι st H) {d : D} {v : V} {xs : List D} (r : Rep K F ι d v) (h : seqOf st d = some xs) : ∃ a vs, v = .ref a ∧ (SqL K H a vs ∨ SqT K H a vs) ∧ Reps K F ι xs vs := by
  unfold seqOf at h
  split at h
  · cases h
    simp only [Rep] at r
    obtain ⟨a, vs, e, q, r⟩ := r
    exact ⟨a, vs, e, .inr (S.sqT q), r⟩
  · cases h
    simp only [Rep] at r
    obtain ⟨a, vs, e, q, r⟩ := r
    exact ⟨a, vs, e, .inl (S.sqL q), r⟩
  · obtain ⟨a, vs, e, q, r⟩ := S.lst r h
    exact ⟨a, vs, e, .inl (SqL.of q), r⟩
theorem Sim.dp (S : Sim K F ι st H) {d : D} {v : V} {p : PyData} (r : Rep K F ι d v) (h : dat st d = some p) : Dp K H v p := by
  unfold dat at h
  split at h
  · rename_i l
    split at h
    · rename_i xs e
      split at h
      · rename_i hp
        cases h
        simp only [Rep] at r
        obtain ⟨a, e2, q⟩ := r
        subst e2
        obtain ⟨vs, h1, h2⟩ := S.obj l _ a e q
        exact .lst (SqL.of h1) (dps_of S.sub xs vs hp h2)
      · cases h
    · cases h
  · split at h
    · rename_i hp
      cases h
      exact dp_of S.sub _ _ hp r
    · cases h
end
def rP (K : PySem.W.Frag) (p : Sto → D → D → Option D) : R2 := fun x y H Q => ∃ F ι st a b d, Sim K F ι st H ∧ Rep K F ι a x ∧ Rep K F ι b y ∧ p st a b = some d ∧
  ∀ F' H' v, Ext F ι H F' ι H' → Sim K F' ι st H' → Rep K F' ι d v → Q v H'
def mOp (p : Sto → D → D → Option D) (m1 m2 : Rho → M D) : Rho → M D := fun ρ st => (m1 ρ st).bind fun a st1 => (m2 ρ st1).bind fun b st2 => lift (p st2 a b) st2
def rPL (K : PySem.W.Frag) (p : Sto → D → D → Option (List D)) : R2 := fun x y H Q => ∃ F ι st a b ds, Sim K F ι st H ∧ Rep K F ι a x ∧ Rep K F ι b y ∧ p st a b = some ds ∧
  ∀ H' v, Ext F ι H F ι H' → Sim K F ι st H' → pL K H F ι H' ds v → Q v H'
def lOp (p : Sto → D → D → Option (List D)) (m1 m2 : Rho → M D) : Rho → M (List D) := fun ρ st => (m1 ρ st).bind fun a st1 => (m2 ρ st1).bind fun b st2 => lift (p st2 a b) st2
section
variable {X : Cx} {W : WX} {pos : Pos} {a b : Expr} {m1 m2 : Rho → M D}
theorem tOp_of {K : PySem.W.Frag} {p : Sto → D → D → Option D} {σ : L2.St} {H : Hp} {Q : VK} (h : tV K W (mOp p m1 m2) σ H Q) : tOp (rP K p) (tV K W m1) (tV K W m2) σ H Q := by
  obtain ⟨F, ι, ρ, st, S, R, q⟩ := h
  refine tG_seq back_V S R q fun d1 st1 F1 ι1 H1 v1 x1 S1 R1 r1 q1 => ?_
  refine tG_seq back_V S1 R1 q1 fun d2 st2 F2 ι2 H2 v2 x2 S2 R2 r2 q2 => ?_
  cases e : p st2 d1 d2 with
  | none => rw [e] at q2; exact q2.elim
  | some d =>
    rw [e] at q2
    exact ⟨F2, ι2, st2, d1, d2, d, S2, Rep.ext r1 x2, r2, e, fun F' H' v x S' r => q2 F' ι2 H' v x S' r⟩
theorem tOpL_of {K : PySem.W.Frag} {p : Sto → D → D → Option (List D)} {σ : L2.St} {H : Hp} {Q : VK} (h : tL K W (lOp p m1 m2) σ H Q) : tOp (rPL K p) (tV K W m1) (tV K W m2) σ H Q := by
  obtain ⟨F, ι, ρ, st, S, R, q⟩ := h
  refine tG_seq back_L S R q fun d1 st1 F1 ι1 H1 v1 x1 S1 R1 r1 q1 => ?_
  refine tG_seq back_L S1 R1 q1 fun d2 st2 F2 ι2 H2 v2 x2 S2 R2 r2 q2 => ?_
  cases e : p st2 d1 d2 with
  | none => rw [e] at q2; exact q2.elim
  | some d =>
    rw [e] at q2
    exact ⟨F2, ι2, st2, d1, d2, d, S2, Rep.ext r1 x2, r2, e, fun H' v x S' r => q2 F2 ι2 H' v x S' r⟩
theorem de_bin {op : Operator} {p : Sto → D → D → Option D} (ho : OpR X (binaryOp op) (rP X.K p)) (ha : DE X W a m1) (hb : DE X W b m2) : DE X W (.BinOp a op b pos) (mOp p m1 m2) :=
  PE.weak (pe_op ho ha hb) fun _ _ _ h => tOp_of h
theorem dl_bin {op : Operator} {p : Sto → D → D → Option (List D)} (ho : OpR X (binaryOp op) (rPL X.K p)) (ha : DE X W a m1) (hb : DE X W b m2) : DL X W (.BinOp a op b pos) (lOp p m1 m2) :=
  PE.weak (pe_op ho ha hb) fun _ _ _ h => tOpL_of h
theorem op_ints {f : Value → Value → Sem Value} {C : Int → Int → Prop} [∀ i j, Decidable (C i j)] {g : Int → Int → Int} {p : Sto → D → D → Option D} (ho : OpR X f (rI C fun i j => .int (g i j)))
    (hp : ∀ st a b d, p st a b = some d → ∃ i j, a = .int i ∧ b = .int j ∧ C i j ∧ d = .int (g i j)) : OpR X f (rP X.K p) := by
  intro pins s σ H x y v u Q I rx ry ⟨F, ι, st, a, b, d, S, ra, rb, e, q⟩
  obtain ⟨i, j, e1, e2, hc, e3⟩ := hp st a b d e
  subst e1 e2 e3
  simp only [Rep] at ra rb
  subst ra rb
  exact ho pins s σ H _ _ v u Q I rx ry ⟨i, j, rfl, rfl, hc, q F H _ Ext.refl S (by simp only [Rep])⟩
def pSub : Sto → D → D → Option D := fun _ a b => match a, b with
  | .int i, .int j => some (.int (i - j))
  | _, _ => none
noncomputable def pDiv : Sto → D → D → Option D := fun _ a b => match a, b with
  | .int i, .int j => @ite _ (0 < j ∧ j < 1073741824) (Classical.propDecidable _) (some (.int (i / j))) (none)
  | _, _ => none
def pMod : Sto → D → D → Option D := fun _ a b => match a, b with
  | .int i, .int j => if 0 < j then some (.int (i % j)) else none
  | _, _ => none
noncomputable def pPow : Sto → D → D → Option D := fun _ a b => match a, b with
  | .int i, .int j => @ite _ (0 ≤ j ∧ j ≤ 1000000 ∧ i.natAbs < 2 ^ 64) (Classical.propDecidable _) (some (.int (i ^ j.toNat))) (none)
  | _, _ => none
def pNeg : Sto → D → Option D := fun _ a => match a with
  | .int i => some (.int (-i))
  | _ => none
theorem op_pDiv : OpR X (binaryOp .FloorDiv) (rP X.K pDiv) := by
  refine op_ints (C := fun i j => 0 < j ∧ j < 1073741824) (g := fun i j => i / j) (op_fdiv) fun st a b d e => ?_
  unfold pDiv at e
  split at e
  · split at e
    · rename_i h; cases e; exact ⟨_, _, rfl, rfl, h, rfl⟩
    · cases e
  · cases e
theorem op_pMod : OpR X (binaryOp .Mod) (rP X.K pMod) := by
  refine op_ints (C := fun i j => 0 < j) (g := fun i j => i % j) (op_mod) fun st a b d e => ?_
  unfold pMod at e
  split at e
  · split at e
    · rename_i h; cases e; exact ⟨_, _, rfl, rfl, h, rfl⟩
    · cases e
  · cases e
theorem op_pPow : OpR X (binaryOp .Pow) (rP X.K pPow) := by
  refine op_ints (C := fun i j => 0 ≤ j ∧ j ≤ 1000000 ∧ i.natAbs < 2 ^ 64) (g := fun i j => i ^ j.toNat) (op_pow) fun st a b d e => ?_
  unfold pPow at e
  split at e
  · split at e
    · rename_i h; cases e; exact ⟨_, _, rfl, rfl, h, rfl⟩
    · cases e
  · cases e
def mUn (p : Sto → D → Option D) (m : Rho → M D) : Rho → M D := fun ρ st => (m ρ st).bind fun a st1 => lift (p st1 a) st1
theorem de_neg (ha : DE X W a m1) : DE X W (.UnaryOp .USub a pos) (mUn pNeg m1) := by
  refine PE.weak (pe_un un_neg ha) fun σ H Q ⟨F, ι, ρ, st, S, R, q⟩ => ?_
  refine tG_seq back_V S R q fun d1 st1 F1 ι1 H1 v1 x1 S1 R1 r1 q1 => ?_
  unfold pNeg at q1
  split at q1
  · rename_i i
    have r : Rep X.K F1 ι1 (.int i) v1 := r1
    simp only [Rep] at r
    exact ⟨i, r, q1 F1 ι1 H1 _ Ext.refl S1 (by show Rep _ _ _ _ _; simp only [Rep])⟩
  · exact q1.elim
def pAdd : Sto → D → D → Option D := fun _ a b => match a, b with
  | .int i, .int j => some (.int (i + j))
  | .int i, .bl k => some (.int (i + b2i k))
  | .str x, .str y => if x.length + y.length ≤ sizeLine then some (.str (x ++ y)) else none
  | .tup xs, .tup ys => if xs.length + ys.length ≤ SZ then some (.tup (xs ++ ys)) else none
  | _, _ => none
theorem new_tup {K : PySem.W.Frag} {F : Hp} {ι : List Addr} {H : Hp} {st : Sto} {xs : List D} {vs : List V} {Q : VK} (S : Sim K F ι st H) (r : Reps K F ι xs vs) (q : ∀ F' H' v, Ext F ι H F' ι H' → Sim K F' ι st H' → Rep K F' ι (.tup xs) v → Q v H') :
    ∀ (p : Addr) (o : Obj), o.dict = none → H p = none → Q (.ref p) (upd H p (.frz o (.tup vs))) := fun p o ho hp => by
  refine q (upd F p (.frz o (.tup vs))) _ _ (Ext.frozen hp S.sub) (S.frozen hp trivial) ?_
  simp only [Rep]
  exact ⟨p, vs, rfl, .inl ⟨o, ho, upd_same⟩, Reps.ext r (Ext.frozen (H := H) hp S.sub)⟩
theorem same_tup {K : PySem.W.Frag} {F : Hp} {ι : List Addr} {H : Hp} {st : Sto} {xs ys : List D} {v : V} {Q : VK} (S : Sim K F ι st H) (r : Rep K F ι (.tup xs) v) (e : xs = ys) (q : ∀ F' H' v, Ext F ι H F' ι H' → Sim K F' ι st H' → Rep K F' ι (.tup ys) v → Q v H') : Q v H :=
  q F H v Ext.refl S (by rw [← e]; exact r)
def rCatP (K : PySem.W.Frag) : R2 := fun x y H Q => ∃ a b xs ys, x = .ref a ∧ y = .ref b ∧ SqT K H a xs ∧ SqT K H b ys ∧ xs.length + ys.length ≤ sizeLine ∧
  (xs = [] → Q (.ref b) H) ∧ (xs ≠ [] → ys = [] → Q (.ref a) H) ∧ (xs ≠ [] → ys ≠ [] → ∀ (p : Addr) (o : Obj), o.dict = none → H p = none → Q (.ref p) (upd H p (.frz o (.tup (xs ++ ys)))))
theorem op_catP : OpR X (binaryOp .Add) (rCatP X.K) := by
  intro pins s σ H x y v u Q I rx ry ⟨a, b, xs, ys, e1, e2, ha, hb, hz, q0, q1, q2⟩
  subst e1 e2
  by_cases hx : xs = []
  · exact op_catA pins s σ H _ _ v u Q I rx ry ⟨a, b, xs, ys, rfl, rfl, ha, hb, hz, q0, q1, fun h => absurd hx h⟩
  · by_cases hy : ys = []
    · exact op_catA pins s σ H _ _ v u Q I rx ry ⟨a, b, xs, ys, rfl, rfl, ha, hb, hz, q0, q1, fun _ h => absurd hy h⟩
    · cases rx
      cases ry
      obtain ⟨i1, r1, p1, _⟩ := I.tuple ha
      obtain ⟨i2, r2, p2, _⟩ := I.tuple hb
      refine HT.cat_tup p1 p2 (fun z => hx (r1.nil_iff.mp z)) (fun z => absurd (r2.nil_iff.mp z) hy) (fun z => ?_) (by rw [← r1.length, ← r2.length]; exact hz)
      exact fin_tup (t' := s.toks) I (r1.append r2) (by rw [List.length_append]; exact hz) (q2 hx hy)
theorem op_pAdd : OpR X (binaryOp .Add) (rP X.K pAdd) := by
  intro pins s σ H x y v u Q I rx ry ⟨F, ι, st, a, b, d, S, ra, rb, e, q⟩
  unfold pAdd at e
  split at e
  · cases e
    simp only [Rep] at ra rb
    subst ra rb
    exact op_add pins s σ H _ _ v u Q I rx ry ⟨_, _, rfl, rfl, q F H _ Ext.refl S (by simp only [Rep])⟩
  · cases e
    simp only [Rep] at ra rb
    subst ra rb
    exact op_add_ib pins s σ H _ _ v u Q I rx ry ⟨_, _, rfl, rfl, q F H _ Ext.refl S (by simp only [Rep])⟩
  · split at e
    · rename_i hz
      cases e
      simp only [Rep] at ra rb
      subst ra rb
      exact op_add_str pins s σ H _ _ v u Q I rx ry ⟨_, _, rfl, rfl, hz, q F H _ Ext.refl S (by simp only [Rep])⟩
    · cases e
  · split at e
    · rename_i xs ys hz
      cases e
      have ra' := ra
      have rb' := rb
      simp only [Rep] at ra rb
      obtain ⟨a1, vs1, e1, h1, r1⟩ := ra
      obtain ⟨a2, vs2, e2, h2, r2⟩ := rb
      subst e1 e2
      refine op_catP pins s σ H _ _ v u Q I rx ry ⟨a1, a2, vs1, vs2, rfl, rfl, S.sqT h1, S.sqT h2, ?_, fun h => ?_, fun h h' => ?_, fun _ _ => new_tup S (r1.append r2) q⟩
      · rw [← r1.length, ← r2.length]; exact sz_le hz
      · subst h
        have : xs = [] := List.eq_nil_of_length_eq_zero r1.length
        subst this
        exact same_tup S rb' rfl q
      · subst h'
        have : ys = [] := List.eq_nil_of_length_eq_zero r2.length
        subst this
        exact same_tup S ra' (by simp) q
    · cases e
  · cases e
def pCat : Sto → D → D → Option (List D) := fun st a b => match lstOf st a, lstOf st b with
  | some xs, some ys => if xs.length + ys.length ≤ SZ then some (xs ++ ys) else none
  | _, _ => none
theorem op_pCat : OpR X (binaryOp .Add) (rPL X.K pCat) := by
  intro pins s σ H x y v u Q I rx ry ⟨F, ι, st, a, b, d, S, ra, rb, e, q⟩
  unfold pCat at e
  split at e
  · rename_i xs ys e1 e2
    split at e
    · rename_i hz
      cases e
      obtain ⟨a1, vs1, q1, h1, r1⟩ := S.lst ra e1
      obtain ⟨a2, vs2, q2, h2, r2⟩ := S.lst rb e2
      subst q1 q2
      exact op_cat pins s σ H _ _ v u Q I rx ry ⟨a1, a2, vs1, vs2, rfl, rfl, h1, h2, by rw [← r1.length, ← r2.length]; exact sz_le hz, fun p hp => q _ _ (Ext.laid hp) (S.laid hp) (pL_new S hp (r1.append r2))⟩
    · cases e
  · cases e
theorem Reps.rep {K : PySem.W.Frag} {F : Hp} {ι : List Addr} {xs : List D} {vs : List V} (h : Reps K F ι xs vs) : ∀ k : Nat, Reps K F ι (List.replicate k xs).flatten (List.replicate k vs).flatten
  | 0 => Reps.nil
  | k + 1 => by
    rw [List.replicate_succ, List.replicate_succ, List.flatten_cons, List.flatten_cons]
    exact h.append (Reps.rep h k)
def pRepL : Sto → D → D → Option (List D) := fun st a b => match lstOf st a, b with
  | some xs, .int k => if xs.length * k.toNat ≤ SZ ∧ -1000000 ≤ k ∧ k ≤ 1000000 then some (List.replicate k.toNat xs).flatten else none
  | _, _ => none
theorem op_pRepL : OpR X (binaryOp .Mult) (rPL X.K pRepL) := by
  intro pins s σ H x y v u Q I rx ry ⟨F, ι, st, a, b, d, S, ra, rb, e, q⟩
  unfold pRepL at e
  split at e
  · rename_i xs k e1
    split at e
    · rename_i hz
      cases e
      obtain ⟨a1, vs1, q1, h1, r1⟩ := S.lst ra e1
      simp only [Rep] at rb
      subst q1 rb
      exact op_rep pins s σ H _ _ v u Q I rx ry ⟨a1, k, vs1, rfl, rfl, h1, by omega, by omega, by rw [← r1.length]; exact sz_le hz.1, fun p hp => q _ _ (Ext.laid hp) (S.laid hp) (pL_new S hp (r1.rep _))⟩
    · cases e
  · cases e
end
end Dn
namespace Dn
open PySem PySem.Spec PyProof.Rows L2
variable [HzC]
theorem tuple_mul_same (l : Addr) (items : Array Value) (n : Nat) (dd : Option Addr) (sl : Array (Option Value)) (x : Int) (u : Tok) (c0 : (decide (x < -(2 ^ 63)) || decide (x ≥ 2 ^ 63)) = false) (c1 : (items.isEmpty || x == 1) = true) :
    Meets (Builtin.«tuple.__mul__» ⟨[.ref l, .int x u], []⟩) (fun _ R s => s.heap.get? l = some { cls := .type "tuple", dict := dd, data := .seq items n, slots := sl } ∧
      R (.ok (.ret (Value.ref l))) s) :=
  .of_wp fun prog w A R s h => by
    obtain ⟨hp, g, d, tk, os⟩ := s
    obtain ⟨hl, h⟩ := h
    have f1 := AutoSeq1.idx_int
    wp_walk using wpAny_loadPart' hl
    repeat (first
      | (refine wpAny_ite_false (decide_eq_false (by rw [c0]; exact Bool.false_ne_true)) ?_; wp_walk using wpAny_loadPart' hl)
      | (refine wpAny_ite_true (decide_eq_true (by rw [c1])) ?_; wp_walk using wpAny_loadPart' hl))
    exact ⟨_, rfl, h⟩
theorem tuple_mul_nil (l : Addr) (items : Array Value) (n : Nat) (dd : Option Addr) (sl : Array (Option Value)) (x : Int) (u : Tok) (c0 : (decide (x < -(2 ^ 63)) || decide (x ≥ 2 ^ 63)) = false) (c1 : (items.isEmpty || x == 1) = false) (c2 : (decide (x ≤ 0) || items.isEmpty) = true) :
    Meets (Builtin.«tuple.__mul__» ⟨[.ref l, .int x u], []⟩) (fun _ R s => s.heap.get? l = some { cls := .type "tuple", dict := dd, data := .seq items n, slots := sl } ∧
      R (.ok (.ret (Value.ref s.heap.objs.size))) { s with heap := s.heap.push { cls := Value.type "tuple", data := Data.seq #[] }, toks := s.toks }) :=
  .of_wp fun prog w A R s h => by
    obtain ⟨hp, g, d, tk, os⟩ := s
    obtain ⟨hl, h⟩ := h
    have f1 := AutoSeq1.idx_int
    wp_walk using wpAny_loadPart' hl
    repeat (first
      | (refine wpAny_ite_false (decide_eq_false (by rw [c0]; exact Bool.false_ne_true)) ?_; wp_walk using wpAny_loadPart' hl)
      | (refine wpAny_ite_false (decide_eq_false (by rw [c1]; exact Bool.false_ne_true)) ?_; wp_walk using wpAny_loadPart' hl)
      | (refine wpAny_ite_true (decide_eq_true (by rw [c2])) ?_; wp_walk using wpAny_loadPart' hl))
    exact ⟨_, rfl, h⟩
section
variable {X : Cx} {W : WX} {pos : Pos} {a b c : Expr} {m1 m2 m3 : Rho → M D}
theorem op_repP : OpR X (binaryOp .Mult) (fun x y H Q => ∃ l k xs, x = .ref l ∧ y = .int k ∧ SqT X.K H l xs ∧ xs ≠ [] ∧ 2 ≤ k ∧ k ≤ 1000 ∧ xs.length ≤ 1000 ∧ ∀ (p : Addr) (o : Obj), o.dict = none → H p = none → Q (.ref p) (upd H p (.frz o (.tup (List.replicate k.toNat xs).flatten)))) := by
  intro pins s σ H x y v u Q I rx ry ⟨l, k, xs, e1, e2, hT, hne, h1, h2, hz, q⟩
  subst e1 e2
  cases rx
  obtain ⟨t, rfl⟩ := ry
  obtain ⟨its, r, ⟨⟨C, dd, dt, sl⟩, ho, hc, n, hd⟩, hs⟩ := I.tuple hT
  simp only at hc hd
  subst hc hd
  have hlen : its.length = xs.length := r.length.symm
  have hin : its ≠ [] := fun e => hne (List.eq_nil_of_length_eq_zero (by rw [← hlen, e]; rfl))
  have hie : its.toArray.isEmpty = false := by
    cases its with
    | nil => exact absurd rfl hin
    | cons _ _ => rfl
  have hsz : its.toArray.size = xs.length := by rw [List.size_toArray, hlen]
  have hmul : ((its.toArray.size : Nat) : Int) * k ≤ 1000000 := by
    rw [hsz]
    have := Int.mul_le_mul_of_nonneg_right (show ((xs.length : Nat) : Int) ≤ 1000 by omega) (show 0 ≤ k by omega)
    omega
  have hnat : k.toNat * xs.length ≤ 1000000 := Nat.le_trans (Nat.mul_le_mul (show k.toNat ≤ 1000 by omega) hz) (by decide)
  have hflat : (List.replicate k.toNat its).flatten.length ≤ sizeLine := by
    rw [PyProof.Rows.lm_len_rep_flat, hlen, sizeLine_eq]
    omega
  have d0 : (decide (k < -(2 ^ 63)) || decide (k ≥ 2 ^ 63)) = false := by
    rw [Bool.or_eq_false_iff]
    exact ⟨decide_eq_false (by omega), decide_eq_false (by omega)⟩
  have d1 : (its.toArray.isEmpty || k == 1) = false := by
    rw [Bool.or_eq_false_iff]
    exact ⟨hie, beq_eq_false_iff_ne.mpr (by omega)⟩
  have d2 : (decide (k ≤ 0) || its.toArray.isEmpty) = false := by
    rw [Bool.or_eq_false_iff]
    exact ⟨decide_eq_false (by omega), hie⟩
  have d4 : Builtin.Tuple.tupleTooMany (((its.toArray.size : Nat) : Int) * k) = false := by
    unfold Builtin.Tuple.tupleTooMany
    exact decide_eq_false (by rw [sizeLine_eq]; omega)
  refine wpAny_binaryOp_repeat_ref (T := "tuple") (U := "int") (by decide) ⟨_, ho, rfl⟩ (fun s' => typeIs_int s' k t) noFill_tuple_mul PySem.F.fills_int_mul PySem.F.slot_int_rmul repeat_tuple PySem.F.slot_int_index.lookup
    (call_meets PySem.F.slot_int_rmul (typeIs_int s k t) PySem.F.entry_int_rmul (PySem.F.args_int_rmul_2 _ _) (int_rmul_tuple k t l its.toArray n dd sl) ⟨ho, rfl, ⟨_, ho, rfl⟩,
      call_meets PySem.F.slot_tuple_mul ⟨_, ho, rfl⟩ PySem.F.entry_tuple_mul (PySem.F.args_tuple_mul_2 _ _) (tuple_mulW l its.toArray n dd sl k t d0 d1 d2 (by omega) d4 (by rw [size_rep, List.size_toArray]; exact hflat)) ⟨ho, ?_⟩⟩)
  rw [size_rep]
  exact fin_tup (t' := s.toks) I (r.rep k.toNat) (by rw [PyProof.Rows.lm_len_rep_flat, sizeLine_eq]; omega) q
noncomputable def pMul : Sto → D → D → Option D := fun _ a b => match a, b with
  | .int i, .int j => @ite _ (i.natAbs < 2 ^ 64 ∨ j.natAbs < 2 ^ 64) (Classical.propDecidable _) (some (.int (i * j))) (none)
  | .tup xs, .int k => if xs.length ≤ 1000 ∧ -1000 ≤ k ∧ k ≤ 1000 then some (.tup (List.replicate k.toNat xs).flatten) else none
  | _, _ => none
theorem op_pMul : OpR X (binaryOp .Mult) (rP X.K pMul) := by
  intro pins s σ H x y v u Q I rx ry ⟨F, ι, st, a, b, d, S, ra, rb, e, q⟩
  unfold pMul at e
  split at e
  · split at e
    · rename_i hc
      cases e
      simp only [Rep] at ra rb
      subst ra rb
      refine op_mul pins s σ H _ _ v u Q I rx ry ⟨_, _, rfl, rfl, ?_, q F H _ Ext.refl S (by simp only [Rep])⟩
      rcases hc with h | h
      · exact .inl (by omega)
      · exact .inr (by omega)
    · cases e
  · split at e
    · rename_i xs k hc
      cases e
      have ra' := ra
      simp only [Rep] at ra rb
      obtain ⟨a1, vs, e1, h1, r1⟩ := ra
      subst e1 rb
      have hT := S.sqT h1
      have hx := rx
      cases rx
      obtain ⟨t, rfl⟩ := ry
      obtain ⟨its, r, ⟨⟨cls, dd, data, sl⟩, ho, hc1, n, hd⟩, hs⟩ := I.tuple hT
      simp only at hc1 hd
      subst hc1 hd
      have hle : its.length = xs.length := r.length.symm.trans r1.length.symm
      have c0 : (decide (k < -(2 ^ 63)) || decide (k ≥ 2 ^ 63)) = false := by
        rw [decide_eq_false (by omega), decide_eq_false (by omega)] <;> rfl
      by_cases c1 : (its.toArray.isEmpty || k == 1) = true
      · refine wpAny_binaryOp_repeat_ref (T := "tuple") (U := "int") (by decide) ⟨_, ho, rfl⟩ (fun s' => typeIs_int s' k t) noFill_tuple_mul PySem.F.fills_int_mul PySem.F.slot_int_rmul repeat_tuple PySem.F.slot_int_index.lookup
          (call_meets PySem.F.slot_int_rmul (typeIs_int s k t) PySem.F.entry_int_rmul (PySem.F.args_int_rmul_2 _ _) (int_rmul_tuple k t a1 its.toArray n dd sl)
            ⟨ho, rfl, ⟨_, ho, rfl⟩, call_meets PySem.F.slot_tuple_mul ⟨_, ho, rfl⟩ PySem.F.entry_tuple_mul (PySem.F.args_tuple_mul_2 _ _) (tuple_mul_same a1 its.toArray n dd sl k t c0 c1) ⟨ho, ?_⟩⟩)
        refine ⟨.ref a1, H, I, rfl, q F H _ Ext.refl S ?_⟩
        have e2 : (List.replicate k.toNat xs).flatten = xs := by
          rw [Bool.or_eq_true] at c1
          rcases c1 with c1 | c1
          · have : its = [] := by simpa using c1
            have h0 : xs = [] := List.eq_nil_of_length_eq_zero (by rw [← hle, this]; rfl)
            subst h0
            simp
          · have : k = 1 := by simpa using c1
            subst this
            simp
        rw [e2]
        exact ra'
      · have c1 : (its.toArray.isEmpty || k == 1) = false := by simpa using c1
        by_cases c2 : (decide (k ≤ 0) || its.toArray.isEmpty) = true
        · refine wpAny_binaryOp_repeat_ref (T := "tuple") (U := "int") (by decide) ⟨_, ho, rfl⟩ (fun s' => typeIs_int s' k t) noFill_tuple_mul PySem.F.fills_int_mul PySem.F.slot_int_rmul repeat_tuple PySem.F.slot_int_index.lookup
            (call_meets PySem.F.slot_int_rmul (typeIs_int s k t) PySem.F.entry_int_rmul (PySem.F.args_int_rmul_2 _ _) (int_rmul_tuple k t a1 its.toArray n dd sl)
              ⟨ho, rfl, ⟨_, ho, rfl⟩, call_meets PySem.F.slot_tuple_mul ⟨_, ho, rfl⟩ PySem.F.entry_tuple_mul (PySem.F.args_tuple_mul_2 _ _) (tuple_mul_nil a1 its.toArray n dd sl k t c0 c1 c2) ⟨ho, ?_⟩⟩)
          have e2 : (List.replicate k.toNat xs).flatten = [] := by
            rw [Bool.or_eq_true] at c2
            rcases c2 with c2 | c2
            · have : k.toNat = 0 := by
                have := of_decide_eq_true c2
                omega
              rw [this]
              rfl
            · rw [Bool.or_eq_false_iff] at c1
              rw [c1.1] at c2
              cases c2
          rw [e2] at q
          exact fin_tup (t' := s.toks) I (ys := []) (its := []) .nil (Nat.zero_le _) (new_tup S Reps.nil q)
        · have h2 : 2 ≤ k := by
            simp only [Bool.or_eq_true, decide_eq_true_eq, not_or] at c2
            rw [Bool.or_eq_false_iff] at c1
            have : k ≠ 1 := by simpa using c1.2
            omega
          have hne : vs ≠ [] := by
            intro h0
            rw [Bool.or_eq_false_iff] at c1
            have h1 := c1.1
            subst h0
            cases r
            simp at h1
          exact op_repP pins s σ H _ _ _ _ Q I hx (show RelV (V.int k) (Value.int k t) from ⟨t, rfl⟩) ⟨a1, k, vs, rfl, rfl, hT, hne, h2, hc.2.2, by rw [← r1.length]; exact hc.1, new_tup S (r1.rep _) q⟩
    · cases e
  · cases e
def pEq : Sto → D → D → Option D := fun st a b => match a, b with
  | .str x, .str y => some (.bl ((x == y)))
  | a, b => match dat st a, dat st b with
  | some p, some q => if min p.depth q.depth ≤ 64 then some (.bl (PyData.eqv p q)) else none
  | _, _ => none
def pNe : Sto → D → D → Option D := fun st a b => match a, b with
  | .str x, .str y => some (.bl (!(x == y)))
  | a, b => match dat st a, dat st b with
  | some p, some q => if min p.depth q.depth ≤ 64 then some (.bl (!PyData.eqv p q)) else none
  | _, _ => none
mutual
theorem plain_toP : ∀ d : D, isP d = true → (toP d).plain = true
  | .non, _ => rfl
  | .bl _, _ => rfl
  | .int _, _ => rfl
  | .str _, _ => rfl
  | .tup xs, h => by
    simp only [isP] at h
    simp only [toP, PyData.plain]
    exact plain_toPs xs h
  | .lst xs, h => by
    simp only [isP] at h
    simp only [toP, PyData.plain]
    exact plain_toPs xs h
  | .scr _, h => by simp [isP] at h
  | .ref _, h => by simp [isP] at h
  | .adr _, h => by simp [isP] at h
  | .fd _ _, h => by simp [isP] at h
  | .exo _ _ _ _, h => by simp [isP] at h
  | .obj _ _ _, h => by simp [isP] at h
  | .sd _, h => by simp [isP] at h
  | .fnv _, h => by simp [isP] at h
theorem plain_toPs : ∀ ds : List D, isPs ds = true → PyData.plainAll (toPs ds) = true
  | [], _ => rfl
  | d :: ds, h => by
    simp only [isPs, Bool.and_eq_true] at h
    simp only [toPs, PyData.plainAll, plain_toP d h.1, plain_toPs ds h.2, Bool.and_self]
end
theorem dat_plain {st : Sto} {d : D} {p : PyData} (h : dat st d = some p) : p.plain = true := by
  unfold dat at h
  split at h
  · split at h
    · split at h
      · rename_i hp
        cases h
        simp only [PyData.plain]
        exact plain_toPs _ hp
      · cases h
    · cases h
  · split at h
    · rename_i hp
      cases h
      exact plain_toP _ hp
    · cases h
theorem op_pEq (hu : X.A.units + 64 < cLine) : OpR X (compareOp .Eq) (rP X.K pEq) := by
  intro pins s σ H x y v u Q I rx ry ⟨F, ι, st, a, b, d, S, ra, rb, e, q⟩
  unfold pEq at e
  split at e
  · rename_i x1 y1
    cases e
    have e1 : x = V.str x1 := by simpa only [Rep] using ra
    have e2 : y = V.str y1 := by simpa only [Rep] using rb
    subst e1
    subst e2
    refine op_eq pins s σ H _ _ v u Q I rx ry ⟨rfl, ?_⟩
    rw [dec_str]
    exact q F H _ Ext.refl S (by simp only [Rep])
  split at e
  · rename_i p1 p2 e1 e2
    split at e
    · rename_i hc
      cases e
      obtain ⟨as, r1⟩ := Dp.reads I p1 x v (S.dp ra e1) rx
      obtain ⟨bs, r2⟩ := Dp.reads I p2 y u (S.dp rb e2) ry
      exact SeqAt.eq_plain r1 r2 (dat_plain e1) (dat_plain e2) (by omega) ⟨.bl _, H, I, rfl, q F H _ Ext.refl S (by simp only [Rep])⟩
    · cases e
  · cases e
theorem op_pNe (hu : X.A.units + 64 < cLine) : OpR X (compareOp .NotEq) (rP X.K pNe) := by
  intro pins s σ H x y v u Q I rx ry ⟨F, ι, st, a, b, d, S, ra, rb, e, q⟩
  unfold pNe at e
  split at e
  · rename_i x1 y1
    cases e
    have e1 : x = V.str x1 := by simpa only [Rep] using ra
    have e2 : y = V.str y1 := by simpa only [Rep] using rb
    subst e1
    subst e2
    refine op_ne pins s σ H _ _ v u Q I rx ry ⟨rfl, ?_⟩
    rw [dec_str]
    exact q F H _ Ext.refl S (by simp only [Rep])
  split at e
  · rename_i p1 p2 e1 e2
    split at e
    · rename_i hc
      cases e
      obtain ⟨as, r1⟩ := Dp.reads I p1 x v (S.dp ra e1) rx
      obtain ⟨bs, r2⟩ := Dp.reads I p2 y u (S.dp rb e2) ry
      exact SeqAt.ne_plain r1 r2 (dat_plain e1) (dat_plain e2) (by omega) ⟨.bl _, H, I, rfl, q F H _ Ext.refl S (by simp only [Rep])⟩
    · cases e
  · cases e
def inD (st : Sto) (a b : D) : Option Bool := match b with
  | .str y => match a with
    | .str x => some (!(Builtin.Str.occurrences y x 0 y.length 1).isEmpty)
    | _ => none
  | b => match dat st a, dat st b with
    | some p, some (.list ds) => if p.depth ≤ 64 then some (ds.any fun z => PyData.eqv z p) else none
    | some p, some (.tuple ds) => if p.depth ≤ 64 then some (ds.any fun z => PyData.eqv z p) else none
    | _, _ => none
def pIn : Sto → D → D → Option D := fun st a b => (inD st a b).map fun k => .bl k
def pNotIn : Sto → D → D → Option D := fun st a b => (inD st a b).map fun k => .bl (!k)
theorem op_pIn (hu : X.A.units + 65 < cLine) : OpR X (compareOp .In) (rP X.K pIn) := by
  intro pins s σ H x y v u Q I rx ry ⟨F, ι, st, a, b, d, S, ra, rb, e, q⟩
  unfold pIn inD at e
  split at e
  · split at e
    · cases e
      simp only [Rep] at ra rb
      subst ra rb
      exact op_in_str pins s σ H _ _ v u Q I rx ry ⟨_, _, rfl, rfl, q F H _ Ext.refl S (by simp only [Rep])⟩
    · cases e
  · split at e
    · rename_i p ds e1 e2
      split at e
      · rename_i hc
        cases e
        obtain ⟨as, r1⟩ := Dp.reads I p x v (S.dp ra e1) rx
        obtain ⟨bs, r2⟩ := Dp.reads I (.list ds) y u (S.dp rb e2) ry
        exact SeqAt.in_list_data r2 r1 (by simpa only [PyData.plain] using dat_plain e2) (dat_plain e1) (by omega) ⟨.bl _, H, I, rfl, q F H _ Ext.refl S (by simp only [Rep])⟩
      · cases e
    · rename_i p ds e1 e2
      split at e
      · rename_i hc
        cases e
        obtain ⟨as, r1⟩ := Dp.reads I p x v (S.dp ra e1) rx
        obtain ⟨bs, r2⟩ := Dp.reads I (.tuple ds) y u (S.dp rb e2) ry
        exact SeqAt.in_tuple_data r2 r1 (by simpa only [PyData.plain] using dat_plain e2) (dat_plain e1) (by omega) ⟨.bl _, H, I, rfl, q F H _ Ext.refl S (by simp only [Rep])⟩
      · cases e
    · cases e
theorem op_pNotIn (hu : X.A.units + 65 < cLine) : OpR X (compareOp .NotIn) (rP X.K pNotIn) := by
  intro pins s σ H x y v u Q I rx ry ⟨F, ι, st, a, b, d, S, ra, rb, e, q⟩
  unfold pNotIn inD at e
  split at e
  · split at e
    · cases e
      simp only [Rep] at ra rb
      subst ra rb
      exact op_notin_str pins s σ H _ _ v u Q I rx ry ⟨_, _, rfl, rfl, q F H _ Ext.refl S (by simp only [Rep])⟩
    · cases e
  · split at e
    · rename_i p ds e1 e2
      split at e
      · rename_i hc
        cases e
        obtain ⟨as, r1⟩ := Dp.reads I p x v (S.dp ra e1) rx
        obtain ⟨bs, r2⟩ := Dp.reads I (.list ds) y u (S.dp rb e2) ry
        exact SeqAt.notIn_list_data r2 r1 (by simpa only [PyData.plain] using dat_plain e2) (dat_plain e1) (by omega) ⟨.bl _, H, I, rfl, q F H _ Ext.refl S (by simp only [Rep])⟩
      · cases e
    · rename_i p ds e1 e2
      split at e
      · rename_i hc
        cases e
        obtain ⟨as, r1⟩ := Dp.reads I p x v (S.dp ra e1) rx
        obtain ⟨bs, r2⟩ := Dp.reads I (.tuple ds) y u (S.dp rb e2) ry
        exact SeqAt.notIn_tuple_data r2 r1 (by simpa only [PyData.plain] using dat_plain e2) (dat_plain e1) (by omega) ⟨.bl _, H, I, rfl, q F H _ Ext.refl S (by simp only [Rep])⟩
      · cases e
    · cases e
def pLt : Sto → D → D → Option D := fun st a b => match a, b with
  | .int i, .int j => some (.bl (decide (i < j)))
  | .str x, .str y => some (.bl (decide (x.cps.toList < y.cps.toList)))
  | .tup xs, .tup ys => if isPs xs = true ∧ isPs ys = true ∧ PySem.W.alikeAll (toPs xs) (toPs ys) = true ∧ PyData.depth (toP (.tup xs)) ≤ 64 then some (.bl (PySem.W.dataLt (toP (.tup xs)) (toP (.tup ys)))) else none
  | _, _ => none
def pLe : Sto → D → D → Option D := fun _ a b => match a, b with
  | .int i, .int j => some (.bl (decide (i ≤ j)))
  | _, _ => none
def pGt : Sto → D → D → Option D := fun _ a b => match a, b with
  | .int i, .int j => some (.bl (decide (j < i)))
  | _, _ => none
def pGe : Sto → D → D → Option D := fun _ a b => match a, b with
  | .int i, .int j => some (.bl (decide (j ≤ i)))
  | _, _ => none
theorem op_cmpI {f : Value → Value → Sem Value} {g : Int → Int → Bool} {p : Sto → D → D → Option D} (ho : OpR X f (rI0 fun i j => .bl (g i j)))
    (hp : ∀ st a b d, p st a b = some d → ∃ i j, a = .int i ∧ b = .int j ∧ d = .bl (g i j)) : OpR X f (rP X.K p) := by
  intro pins s σ H x y v u Q I rx ry ⟨F, ι, st, a, b, d, S, ra, rb, e, q⟩
  obtain ⟨i, j, e1, e2, e3⟩ := hp st a b d e
  subst e1 e2 e3
  simp only [Rep] at ra rb
  subst ra rb
  exact ho pins s σ H _ _ v u Q I rx ry ⟨i, j, rfl, rfl, q F H _ Ext.refl S (by simp only [Rep])⟩
theorem op_pLt (hu : X.A.units + 65 < cLine) : OpR X (compareOp .Lt) (rP X.K pLt) := by
  intro pins s σ H x y v u Q I rx ry ⟨F, ι, st, a, b, d, S, ra, rb, e, q⟩
  unfold pLt at e
  split at e
  · cases e
    simp only [Rep] at ra rb
    subst ra rb
    exact op_lt pins s σ H _ _ v u Q I rx ry ⟨_, _, rfl, rfl, q F H _ Ext.refl S (by simp only [Rep])⟩
  · cases e
    simp only [Rep] at ra rb
    subst ra rb
    exact op_lt_str pins s σ H _ _ v u Q I rx ry ⟨_, _, rfl, rfl, q F H _ Ext.refl S (by simp only [Rep])⟩
  · split at e
    · rename_i xs ys hc
      cases e
      obtain ⟨h1, h2, h3, h4⟩ := hc
      obtain ⟨as, r1⟩ := Dp.reads I _ x v (dp_of S.sub (.tup xs) x (by simp only [isP]; exact h1) ra) rx
      obtain ⟨bs, r2⟩ := Dp.reads I _ y u (dp_of S.sub (.tup ys) y (by simp only [isP]; exact h2) rb) ry
      exact PySem.W.lt_data r1 r2 (by simp only [toP, PySem.W.alike]; exact h3) (by simp only [toP]; exact fun h => nomatch h) (by omega) ⟨.bl _, H, I, rfl, q F H _ Ext.refl S (by simp only [Rep])⟩
    · cases e
  · cases e
theorem op_pGt : OpR X (compareOp .Gt) (rP X.K pGt) := op_cmpI op_gt fun st a b d e => by
  unfold pGt at e
  split at e
  · cases e; exact ⟨_, _, rfl, rfl, rfl⟩
  · cases e
theorem op_pGe : OpR X (compareOp .GtE) (rP X.K pGe) := op_cmpI op_ge fun st a b d e => by
  unfold pGe at e
  split at e
  · cases e; exact ⟨_, _, rfl, rfl, rfl⟩
  · cases e
def D.isNon : D → Bool
  | .non => true
  | _ => false
def pIs : Sto → D → D → Option D := fun _ a b => match b with
  | .non => some (.bl a.isNon)
  | _ => none
def pIsNot : Sto → D → D → Option D := fun _ a b => match b with
  | .non => some (.bl (!a.isNon))
  | _ => none
theorem isNon_of {K : PySem.W.Frag} {F : Hp} {ι : List Addr} {d : D} {v : V} (r : Rep K F ι d v) : decide (v = V.non) = d.isNon := by
  cases d <;> simp only [Rep] at r <;> first
    | (subst r; rfl)
    | (subst r; exact decide_eq_false (fun h => nomatch h))
    | (obtain ⟨_, _, e, _⟩ := r; subst e; exact decide_eq_false (fun h => nomatch h))
    | (obtain ⟨_, e, _⟩ := r; subst e; exact decide_eq_false (fun h => nomatch h))
    | (obtain ⟨_, _, _, e, _⟩ := r; subst e; exact decide_eq_false (fun h => nomatch h))
    | (obtain ⟨_, _, _, _, e, _⟩ := r; subst e; exact decide_eq_false (fun h => nomatch h))
    | (rw [r.1]; exact decide_eq_false (fun h => nomatch h))
theorem op_pIs : OpR X (compareOp .Is) (rP X.K pIs) := by
  intro pins s σ H x y v u Q I rx ry ⟨F, ι, st, a, b, d, S, ra, rb, e, q⟩
  unfold pIs at e
  split at e
  · cases e
    simp only [Rep] at rb
    subst rb
    exact op_isN pins s σ H _ _ v u Q I rx ry ⟨rfl, by rw [isNon_of ra]; exact q F H _ Ext.refl S (by simp only [Rep])⟩
  · cases e
theorem op_pIsNot : OpR X (compareOp .IsNot) (rP X.K pIsNot) := by
  intro pins s σ H x y v u Q I rx ry ⟨F, ι, st, a, b, d, S, ra, rb, e, q⟩
  unfold pIsNot at e
  split at e
  · cases e
    simp only [Rep] at rb
    subst rb
    exact op_notN pins s σ H _ _ v u Q I rx ry ⟨rfl, by rw [isNon_of ra]; exact q F H _ Ext.refl S (by simp only [Rep])⟩
  · cases e
theorem de_cmp {op : CmpOp} {p : Sto → D → D → Option D} (ho : OpR X (compareOp op) (rP X.K p)) (ha : DE X W a m1) (hb : DE X W b m2) (hm : behindInMarks op b = false := by rfl) : DE X W (.Compare a [op] [b] pos) (mOp p m1 m2) :=
  PE.weak (pe_cmpR ho ha hb hm) fun _ _ _ h => tOp_of h
def isB (m : Rho → M D) : Rho → M Bool := fun ρ st => (m ρ st).bind fun d st1 => match d with
  | .bl k => .ok k st1
  | _ => .bad
theorem isB_of {K : PySem.W.Frag} {m : Rho → M D} {σ : L2.St} {H : Hp} {Q : Bool → Hp → Prop} (h : tT K W (isB m) σ H Q) : tTest (tV K W m) σ H Q := by
  obtain ⟨F, ι, ρ, st, S, R, q⟩ := h
  refine tG_seq back_B S R q fun d1 st1 F1 ι1 H1 v1 x1 S1 R1 r1 q1 => ?_
  split at q1
  · have r : Rep K F1 ι1 (.bl _) v1 := r1
    simp only [Rep] at r
    exact ⟨_, r, q1 F1 ι1 H1 _ Ext.refl S1 rfl⟩
  · exact q1.elim
theorem dt_cmp {op : CmpOp} {p : Sto → D → D → Option D} (ho : OpR X (compareOp op) (rP X.K p)) (ha : DE X W a m1) (hb : DE X W b m2) (hm : behindInMarks op b = false := by rfl) : DT X W (.Compare a [op] [b] pos) (isB (mOp p m1 m2)) :=
  PT.weak (pt_cmpR ho ha hb hm) fun σ H Q h => by
    have q := isB_of h
    unfold tTest at q ⊢
    exact tOp_of q
def D.truth (st : Sto) : D → Option Bool
  | .non => some false
  | .bl b => some b
  | .int i => some (i != 0)
  | .str s => if s.length ≤ sizeLine then some ((s.length : Int) != 0) else none
  | d => (seqOf st d).map fun xs => !xs.isEmpty
theorem isEmpty_reps {K : PySem.W.Frag} {F : Hp} {ι : List Addr} {xs : List D} {vs : List V} (r : Reps K F ι xs vs) : (!xs.isEmpty) = !vs.isEmpty := by
  have := r.length
  cases xs <;> cases vs <;> simp at this ⊢
theorem truth_of {K : PySem.W.Frag} {F : Hp} {ι : List Addr} {H : Hp} {st : Sto} {d : D} {v : V} {k : Bool} (S : Sim K F ι st H) (r : Rep K F ι d v) (h : d.truth st = some k) : TruV K v H k := by
  unfold D.truth at h
  split at h
  · cases h; simp only [Rep] at r; subst r; rfl
  · cases h; simp only [Rep] at r; subst r; rfl
  · cases h; simp only [Rep] at r; subst r; rfl
  · split at h
    · rename_i hz
      cases h; simp only [Rep] at r; subst r; exact ⟨hz, rfl⟩
    · cases h
  · cases e : seqOf st d with
    | none => rw [e] at h; cases h
    | some xs =>
      rw [e] at h
      cases h
      obtain ⟨a, vs, e1, hs, r1⟩ := S.seq r e
      subst e1
      show TruV K (V.ref a) H (!xs.isEmpty)
      rw [isEmpty_reps r1]
      rcases hs with hs | hs
      · exact .inl ⟨vs, hs, rfl⟩
      · exact .inr (.inl ⟨vs, hs, rfl⟩)
def mTru (m : Rho → M D) : Rho → M Bool := fun ρ st => (m ρ st).bind fun d st1 => lift (d.truth st1) st1
theorem dt_tru (ha : DE X W a m1) (he : ∀ whole, isTrue a X.env whole = (do let v ← whole; standAt a.pos; holding [v] (truthy v)) := by intro _; rfl) : DT X W a (mTru m1) := by
  refine PT.weak (pt_truth ha he) fun σ H Q ⟨F, ι, ρ, st, S, R, q⟩ => ?_
  refine tG_seq back_B S R q fun d1 st1 F1 ι1 H1 v1 x1 S1 R1 r1 q1 => ?_
  cases e : d1.truth st1 with
  | none => rw [e] at q1; exact q1.elim
  | some k =>
    rw [e] at q1
    exact ⟨k, truth_of S1 r1 e, q1 F1 ι1 H1 k Ext.refl S1 rfl⟩
def DW (X : Cx) (W : WX) (e : Expr) (m : Rho → M Bool) : Prop := PW X e (tT X.K W m)
theorem PW.weak {X : Cx} {e : Expr} {t t' : TT} (h : PW X e t) (w : ∀ σ H Q, t' σ H Q → t σ H Q) : PW X e t' := ⟨fun wh pins s σ H Q I q => h.run wh pins s σ H Q I (w σ H Q q)⟩
theorem dt_w {e : Expr} {m : Rho → M Bool} (h : DW X W e m) : DT X W e m := L2.PW.pt h
def bAnd (m1 m2 : Rho → M Bool) : Rho → M Bool := fun ρ st => (m1 ρ st).bind fun k st1 => if k = true then m2 ρ st1 else .ok false st1
def bOr (m1 m2 : Rho → M Bool) : Rho → M Bool := fun ρ st => (m1 ρ st).bind fun k st1 => if k = true then .ok true st1 else m2 ρ st1
def bNot (m1 : Rho → M Bool) : Rho → M Bool := fun ρ st => (m1 ρ st).bind fun k st1 => .ok (!k) st1
variable {b1 b2 : Rho → M Bool} {rest : List Expr}
theorem dw_and1 (ha : DT X W a b1) : DW X W (.BoolOp .And [a] pos) b1 := pw_and1 ha
theorem dw_or1 (ha : DT X W a b1) : DW X W (.BoolOp .Or [a] pos) b1 := pw_or1 ha
theorem dw_and (ha : DT X W a b1) (hb : DW X W (.BoolOp .And (b :: rest) pos) b2) : DW X W (.BoolOp .And (a :: b :: rest) pos) (bAnd b1 b2) := by
  refine PW.weak (pw_and ha hb) fun σ H Q ⟨F, ι, ρ, st, S, R, q⟩ => ?_
  refine tG_seq back_B S R q fun k st1 F1 ι1 H1 k' x1 S1 R1 r1 q1 => ?_
  have r1 : k = k' := r1
  subst r1
  cases k with
  | true => exact ⟨F1, ι1, ρ, st1, S1, R1, q1⟩
  | false => exact q1 F1 ι1 H1 false Ext.refl S1 rfl
theorem dw_or (ha : DT X W a b1) (hb : DW X W (.BoolOp .Or (b :: rest) pos) b2) : DW X W (.BoolOp .Or (a :: b :: rest) pos) (bOr b1 b2) := by
  refine PW.weak (pw_or ha hb) fun σ H Q ⟨F, ι, ρ, st, S, R, q⟩ => ?_
  refine tG_seq back_B S R q fun k st1 F1 ι1 H1 k' x1 S1 R1 r1 q1 => ?_
  have r1 : k = k' := r1
  subst r1
  cases k with
  | false => exact ⟨F1, ι1, ρ, st1, S1, R1, q1⟩
  | true => exact q1 F1 ι1 H1 true Ext.refl S1 rfl
theorem dt_not (ha : DT X W a b1) : DT X W (.UnaryOp .Not a pos) (bNot b1) := by
  refine PT.weak (pt_not ha) fun σ H Q ⟨F, ι, ρ, st, S, R, q⟩ => ?_
  refine tG_seq back_B S R q fun k st1 F1 ι1 H1 k' x1 S1 R1 r1 q1 => ?_
  have r1 : k = k' := r1
  subst r1
  exact q1 F1 ι1 H1 _ Ext.refl S1 rfl
def mAndV (m1 m2 : Rho → M D) : Rho → M D := fun ρ st => (m1 ρ st).bind fun d st1 => (lift (d.truth st1) st1).bind fun k st2 => if k = true then m2 ρ st2 else .ok d st2
theorem de_one {op : BoolOp} (h : DE X W a m1) : DE X W (.BoolOp op [a] pos) m1 := pe_one h
theorem de_and (ha : DE X W a m1) (hb : DE X W (.BoolOp .And (b :: rest) pos) m2) : DE X W (.BoolOp .And (a :: b :: rest) pos) (mAndV m1 m2) := by
  refine PE.weak (pe_andT ha hb) fun σ H Q ⟨F, ι, ρ, st, S, R, q⟩ => ?_
  refine tG_seq back_V S R q fun d1 st1 F1 ι1 H1 v1 x1 S1 R1 r1 q1 => ?_
  cases e : d1.truth st1 with
  | none => rw [e] at q1; exact q1.elim
  | some k =>
    rw [e] at q1
    refine ⟨k, truth_of S1 r1 e, ?_⟩
    cases k with
    | true => exact ⟨F1, ι1, ρ, st1, S1, R1, q1⟩
    | false => exact q1 F1 ι1 H1 _ Ext.refl S1 r1
def mIf (t : Rho → M Bool) (m1 m2 : Rho → M D) : Rho → M D := fun ρ st => (t ρ st).bind fun k st1 => if k = true then m1 ρ st1 else m2 ρ st1
theorem de_if (hc : DT X W c b1) (ha : DE X W a m1) (hb : DE X W b m2) : DE X W (.IfExp c a b pos) (mIf b1 m1 m2) := by
  refine PE.weak (pe_ifExp hc ha hb) fun σ H Q ⟨F, ι, ρ, st, S, R, q⟩ => ?_
  refine tG_seq back_V S R q fun k st1 F1 ι1 H1 k' x1 S1 R1 r1 q1 => ?_
  have r1 : k = k' := r1
  subst r1
  cases k with
  | true => exact ⟨F1, ι1, ρ, st1, S1, R1, q1⟩
  | false => exact ⟨F1, ι1, ρ, st1, S1, R1, q1⟩
end
end Dn
namespace Dn
open PySem PySem.Spec PyProof.Rows L2
variable [HzC]
section
variable {X : Cx} {W : WX} {pos p2 : Pos} {a b c : Expr} {m1 m2 m3 : Rho → M D}
theorem atI_reps {K : PySem.W.Frag} {F : Hp} {ι : List Addr} {xs : List D} {vs : List V} {i : Int} {d : D} (r : Reps K F ι xs vs) (h : atI xs i = some d) : ∃ v, atI vs i = some v ∧ Rep K F ι d v := by
  unfold atI at h ⊢
  rw [← r.length]
  cases e : ixN xs.length i with
  | none => rw [e] at h; cases h
  | some j =>
    rw [e] at h
    exact r.get h
def pIdx : Sto → D → D → Option D := fun st a i => match a, i with
  | .str z, .int i => if z.length ≤ sizeLine then (atI z.cps.toList i).map fun c => .str ⟨#[c]⟩ else none
  | a, .int i => (seqOf st a).bind fun xs => atI xs i
  | _, _ => none
theorem ix_pIdx : IxR X (rP X.K pIdx) := by
  intro value slice pins s σ H x y v u Q I rx ry ⟨F, ι, st, a, b, d, S, ra, rb, e, q⟩ hs
  unfold pIdx at e
  split at e
  · split at e
    · rename_i hz
      rename_i i
      simp only [Rep] at ra rb
      subst ra rb
      rename_i z
      cases e2 : atI z.cps.toList i with
      | none => rw [e2] at e; cases e
      | some cc =>
        rw [e2] at e
        cases e
        exact ix_seq value slice pins s σ H _ _ v u Q I rx ry (.inr (.inr ⟨_, _, cc, rfl, rfl, hz, e2, q F H _ Ext.refl S (by simp only [Rep])⟩)) hs
    · cases e
  · rename_i i hn
    cases e1 : seqOf st a with
    | none => rw [e1] at e; cases e
    | some xs =>
      rw [e1] at e
      have e : atI xs i = some d := e
      obtain ⟨p, vs, e2, h2, r⟩ := S.seq ra e1
      simp only [Rep] at rb
      subst e2 rb
      obtain ⟨w, hw, rw'⟩ := atI_reps r e
      rcases h2 with h2 | h2
      · exact ix_seq value slice pins s σ H _ _ v u Q I rx ry (.inl ⟨p, vs, i, w, rfl, rfl, h2, hw, q F H _ Ext.refl S rw'⟩) hs
      · exact ix_seq value slice pins s σ H _ _ v u Q I rx ry (.inr (.inl ⟨p, vs, i, w, rfl, rfl, h2, hw, q F H _ Ext.refl S rw'⟩)) hs
  · cases e
theorem de_idx (ha : DE X W a m1) (hb : DE X W b m2) (hs : PlainIx b := by intro _ _; rfl) : DE X W (.Subscript a b pos) (mOp pIdx m1 m2) :=
  PE.weak (pe_ix ix_pIdx ha hb hs) fun _ _ _ h => tOp_of h
def pO : Hp → Hp → List Addr → Hp → Option Int → Option Int → Prop := fun _ _ _ _ b c => b = c
theorem back_O : Back pO := fun _ _ _ _ _ _ _ _ h => h
def DO (X : Cx) (W : WX) (e : Option Expr) (m : Rho → M (Option Int)) : Prop := PO X e (tG X.K W pO m)
theorem PO.weak {X : Cx} {e : Option Expr} {t t' : TO} (h : PO X e t) (w : ∀ σ H Q, t' σ H Q → t σ H Q) : PO X e t' := ⟨fun pins s σ H Q I q => h.run pins s σ H Q I (w σ H Q q)⟩
def oNone : Rho → M (Option Int) := fun _ st => .ok none st
def oSome (m : Rho → M D) : Rho → M (Option Int) := fun ρ st => (m ρ st).bind fun d st1 => match d with
  | .int i => .ok (some i) st1
  | _ => .bad
theorem do_none : DO X W none oNone := PO.weak po_none fun σ H Q ⟨F, ι, ρ, st, S, R, q⟩ => q F ι H none Ext.refl S rfl
theorem do_some (ha : DE X W a m1) : DO X W (some a) (oSome m1) := by
  refine PO.weak (po_some ha) fun σ H Q ⟨F, ι, ρ, st, S, R, q⟩ => ?_
  refine tG_seq back_O S R q fun d1 st1 F1 ι1 H1 v1 x1 S1 R1 r1 q1 => ?_
  split at q1
  · have r : Rep X.K F1 ι1 (.int _) v1 := r1
    simp only [Rep] at r
    exact ⟨_, r, q1 F1 ι1 H1 _ Ext.refl S1 rfl⟩
  · exact q1.elim
def cutD {α : Type} (xs : List α) (lo hi : Option Int) : List α := (xs.drop (HT.sIx xs.length 0 lo)).take (HT.sIx xs.length xs.length hi - HT.sIx xs.length 0 lo)
theorem Reps.drop {K : PySem.W.Frag} {F : Hp} {ι : List Addr} : ∀ {xs : List D} {vs : List V} (n : Nat), Reps K F ι xs vs → Reps K F ι (xs.drop n) (vs.drop n)
  | _, _, 0, r => r
  | [], _, _ + 1, r => by simp only [Reps] at r; subst r; exact Reps.nil
  | d :: ds, _, n + 1, r => by
    simp only [Reps] at r
    obtain ⟨v, rs, e, _, r2⟩ := r
    subst e
    exact Reps.drop n r2
theorem Reps.take {K : PySem.W.Frag} {F : Hp} {ι : List Addr} : ∀ {xs : List D} {vs : List V} (n : Nat), Reps K F ι xs vs → Reps K F ι (xs.take n) (vs.take n)
  | _, _, 0, r => by simp; exact Reps.nil
  | [], _, _ + 1, r => by simp only [Reps] at r; subst r; exact Reps.nil
  | d :: ds, _, n + 1, r => by
    simp only [Reps] at r
    obtain ⟨v, rs, e, r1, r2⟩ := r
    subst e
    exact Reps.cons r1 (Reps.take n r2)
theorem Reps.rev {K : PySem.W.Frag} {F : Hp} {ι : List Addr} : ∀ {xs : List D} {vs : List V}, Reps K F ι xs vs → Reps K F ι xs.reverse vs.reverse
  | [], _, r => by simp only [Reps] at r; subst r; exact Reps.nil
  | d :: ds, _, r => by
    simp only [Reps] at r
    obtain ⟨v, rs, e, r1, r2⟩ := r
    subst e
    rw [List.reverse_cons, List.reverse_cons]
    exact (Reps.rev r2).snoc r1
theorem cut_reps {K : PySem.W.Frag} {F : Hp} {ι : List Addr} {xs : List D} {vs : List V} (r : Reps K F ι xs vs) (lo hi : Option Int) : Reps K F ι (cutD xs lo hi) (cutV vs lo hi) := by
  unfold cutD cutV
  rw [← r.length]
  exact (r.drop _).take _
theorem cutD_whole {α : Type} {xs : List α} {lo hi : Option Int} (h : HT.sIx xs.length 0 lo = 0 ∧ HT.sIx xs.length xs.length hi = xs.length) : cutD xs lo hi = xs := by
  unfold cutD
  rw [h.1, h.2]
  simp
def rSlP (K : PySem.W.Frag) : V → Option Int → Option Int → Hp → VK → Prop := fun x lo hi H Q => ∃ a xs, x = .ref a ∧ SqT K H a xs ∧
  (HT.sIx xs.length 0 lo = 0 ∧ HT.sIx xs.length xs.length hi = xs.length → Q (.ref a) H) ∧ (¬ (HT.sIx xs.length 0 lo = 0 ∧ HT.sIx xs.length xs.length hi = xs.length) → ∀ (p : Addr) (o : Obj), o.dict = none → H p = none → Q (.ref p) (upd H p (.frz o (.tup (cutV xs lo hi)))))
theorem sl_tupP : SlR X (rSlP X.K) := by
  intro pins s σ H x v vl vu lo hi sl Q I rx hs pl pu ⟨a, xs, e, hx, q1, q2⟩
  subst e
  by_cases hw : HT.sIx xs.length 0 lo = 0 ∧ HT.sIx xs.length xs.length hi = xs.length
  · exact sl_tupA pins s σ H _ v vl vu lo hi sl Q I rx hs pl pu ⟨a, xs, rfl, hx, q1, fun h => absurd hw h⟩
  · cases rx
    obtain ⟨its, r, ht, hz⟩ := I.tuple hx
    have hn : its.toArray.size = xs.length := by rw [List.size_toArray, r.length]
    refine ⟨"tuple", _, PyProof.Rows.slot_tuple_getitem.lookup, ht.typeIs, HT.getItem_tuple_cut ht hs pl pu (by rw [hn]; exact hw) ?_ (by rw [hn]; exact hz)⟩
    rw [hn]
    exact fin_tup (t' := s.toks) I ((r.drop (HT.sIx xs.length 0 lo)).take (HT.sIx xs.length xs.length hi - HT.sIx xs.length 0 lo)) (Nat.le_trans (cutV_length xs lo hi) hz) (q2 hw)
def mSlT (m : Rho → M D) (l h : Rho → M (Option Int)) : Rho → M D := fun ρ st => (m ρ st).bind fun d st1 => (l ρ st1).bind fun lo st2 => (h ρ st2).bind fun hi st3 => match d with
  | .tup xs => .ok (.tup (cutD xs lo hi)) st3
  | _ => .bad
theorem de_slT {lo hi : Option Expr} {l h : Rho → M (Option Int)} (ha : DE X W a m1) (hl : DO X W lo l) (hh : DO X W hi h) : DE X W (.Subscript a (.Slice lo hi none p2) pos) (mSlT m1 l h) := by
  refine PE.weak (pe_slice sl_tupP ha hl hh) fun σ H Q ⟨F, ι, ρ, st, S, R, q⟩ => ?_
  refine tG_seq back_V S R q fun d st1 F1 ι1 H1 v1 x1 S1 R1 r1 q1 => ?_
  refine tG_seq back_V S1 R1 q1 fun lo st2 F2 ι2 H2 lo' x2 S2 R2 r2 q2 => ?_
  refine tG_seq back_V S2 R2 q2 fun hi st3 F3 ι3 H3 hi' x3 S3 R3 r3 q3 => ?_
  have r2 : lo = lo' := r2
  have r3 : hi = hi' := r3
  subst r2 r3
  split at q3
  · rename_i xs
    have r : Rep X.K F3 ι3 (.tup xs) v1 := (Rep.ext r1 x2).ext x3
    have r' := r
    simp only [Rep] at r
    obtain ⟨p, vs, e, hq, rr⟩ := r
    subst e
    have q3' : ∀ F' H' v, Ext F3 ι3 H3 F' ι3 H' → Sim X.K F' ι3 st3 H' → Rep X.K F' ι3 (.tup (cutD xs lo hi)) v → Q v H' := fun F' H' v x S' r => q3 F' ι3 H' v x S' r
    refine ⟨p, vs, rfl, S3.sqT hq, fun hw => ?_, fun hw => new_tup S3 (cut_reps rr lo hi) q3'⟩
    exact same_tup S3 r' (cutD_whole (by rw [rr.length]; exact hw)).symm q3'
  · exact q3.elim
def lSlL (m : Rho → M D) (l h : Rho → M (Option Int)) : Rho → M (List D) := fun ρ st => (m ρ st).bind fun d st1 => (l ρ st1).bind fun lo st2 => (h ρ st2).bind fun hi st3 => match d with
  | .scr xs => .ok (cutD xs lo hi) st3
  | d => (lift (lstOf st3 d) st3).bind fun xs st4 => .ok (cutD xs lo hi) st4
theorem dl_slL {lo hi : Option Expr} {l h : Rho → M (Option Int)} (ha : DE X W a m1) (hl : DO X W lo l) (hh : DO X W hi h) : DL X W (.Subscript a (.Slice lo hi none p2) pos) (lSlL m1 l h) := by
  refine PE.weak (pe_slice sl_list ha hl hh) fun σ H Q ⟨F, ι, ρ, st, S, R, q⟩ => ?_
  refine tG_seq back_L S R q fun d st1 F1 ι1 H1 v1 x1 S1 R1 r1 q1 => ?_
  refine tG_seq back_L S1 R1 q1 fun lo st2 F2 ι2 H2 lo' x2 S2 R2 r2 q2 => ?_
  refine tG_seq back_L S2 R2 q2 fun hi st3 F3 ι3 H3 hi' x3 S3 R3 r3 q3 => ?_
  have r2 : lo = lo' := r2
  have r3 : hi = hi' := r3
  subst r2 r3
  have r : Rep X.K F3 ι3 d v1 := (Rep.ext r1 x2).ext x3
  split at q3
  · rename_i xs
    simp only [Rep] at r
    obtain ⟨p, vs, e, hq, rr⟩ := r
    subst e
    exact ⟨p, vs, rfl, S3.sqL hq, fun n hn => q3 F3 ι3 _ _ (Ext.laid hn) (S3.laid hn) (pL_new S3 hn (cut_reps rr lo hi))⟩
  · cases e : lstOf st3 d with
    | none => rw [e] at q3; exact q3.elim
    | some xs =>
      rw [e] at q3
      obtain ⟨p, vs, e2, hq, rr⟩ := S3.lst r e
      subst e2
      exact ⟨p, vs, rfl, SqL.of hq, fun n hn => q3 F3 ι3 _ _ (Ext.laid hn) (S3.laid hn) (pL_new S3 hn (cut_reps rr lo hi))⟩
def SlR3 (X : Cx) (r : V → Hp → VK → Prop) : Prop :=
  ∀ (pins : List (Addr × Obj)) (s : Shared) (σ : L2.St) (H : Hp) (x : V) (v vk : Value) (sl : Addr) (Q : VK), Inv X pins σ H s → RelV x v → s.heap.IsSliceOf sl .none .none vk → IsPart vk (some (-1)) → r x H Q →
    ∃ T id, typeLookup (.type T) "__getitem__" = pure (some (.builtin id)) ∧ s.TypeIs v T ∧ wpAny (model X.prog X.w) X.A (getItem v (.ref sl)) (EP X pins σ Q) X.xe s
theorem pe_rev {r : V → Hp → VK → Prop} {te : TE} (hr : SlR3 X r) (he : PE X a te) {j1 : Nat} {q1 q2 : Pos} : PE X (.Subscript a (.Slice none none (some (.UnaryOp .USub (.Constant (.int 1) j1 q1) q2)) p2) pos) (fun σ H Q => te σ H fun x H1 => r x H1 Q) := by
  refine ⟨fun pins s σ H Q I h => ?_⟩
  refine Subscript_ (thn (he.run pins s σ H _ I h) fun v s1 ⟨x, H1, I1, r1, g1⟩ => ?_)
  refine wpAny_Slice ?_
  rw [evalPart_none, evalPart_some]
  refine wpAny_pure (wpAny_pure ?_)
  refine thn ((pe_un (pos := q2) un_neg (pe_int (i := 1) (j := j1) (pos := q1))).run pins s1 σ H1 (fun y H2 => y = .int (-1) ∧ H2 = H1) I1 ⟨1, rfl, rfl, rfl⟩) fun vk s2 ⟨y, H2, I2, r2, ey, eH⟩ => ?_
  subst ey eH
  obtain ⟨t, rfl⟩ := r2
  have I4 : Inv X pins σ H2 { s2 with heap := s2.heap.push { cls := .type "slice", data := .fields #[.none, .none, .int (-1) t] } } := I2.kept (t' := s2.toks) fun b ob q => Heap.get?_push_of_some _ q
  obtain ⟨T, id, hT, ht, hg⟩ := hr pins { s2 with heap := s2.heap.push { cls := .type "slice", data := .fields #[.none, .none, .int (-1) t] } } σ H2 x v _ s2.heap.objs.size Q I4 r1 (Heap.IsSliceOf.new ..) (.int _ t) g1
  show wpAny (model X.prog X.w) X.A (subscriptTail a (.Slice none none (some (.UnaryOp .USub (.Constant (.int 1) j1 _) q2)) p2) v (.ref s2.heap.objs.size)) (EP X pins σ Q) X.xe { s2 with heap := s2.heap.push { cls := .type "slice", data := .fields #[.none, .none, .int (-1) t] } }
  exact tail_any (ops := [v, .ref s2.heap.objs.size]) ht hT hg (by with_unfolding_all rfl)
theorem sl_revL : SlR3 X (fun x H Q => ∃ a xs, x = .ref a ∧ SqL X.K H a xs ∧ ∀ p, H p = none → Q (.ref p) (upd H p (.lst xs.reverse))) := by
  intro pins s σ H x v vk sl Q I rx hs pk ⟨a, xs, e, hx, q⟩
  subst e
  cases rx
  obtain ⟨its, r, ht, hz⟩ := I.list hx
  have hlen := r.length
  refine ⟨"list", _, slot_list_getitem.lookup, ht.isList.typeIs, ?_⟩
  refine wpAny_getItem_list_slice ht.isList hs .none .none pk (by decide) ?_ (by rw [List.size_toArray]; omega)
  rw [PySem.W.krv_pick]
  refine ⟨.ref s.heap.objs.size, _, I.laid (t' := s.toks) (o := .lst xs.reverse) (fun b ob q => Heap.get?_push_of_some _ q) (Nat.le_refl _) ?_, rfl, q _ (I.hok.fresh (Nat.le_refl _))⟩
  exact ⟨by rw [List.length_reverse]; exact hz, its.reverse, 0, r.reverse, Heap.get?_push_size _ rfl⟩
def lRevL (m : Rho → M D) : Rho → M (List D) := fun ρ st => (m ρ st).bind fun d st1 => (lift (lstOf st1 d) st1).bind fun xs st2 => .ok xs.reverse st2
theorem dl_revL {j1 : Nat} {q1 q2 : Pos} (ha : DE X W a m1) : DL X W (.Subscript a (.Slice none none (some (.UnaryOp .USub (.Constant (.int 1) j1 q1) q2)) p2) pos) (lRevL m1) := by
  refine PE.weak (pe_rev sl_revL ha) fun σ H Q ⟨F, ι, ρ, st, S, R, q⟩ => ?_
  refine tG_seq back_L S R q fun d st1 F1 ι1 H1 v1 x1 S1 R1 r1 q1 => ?_
  cases e : lstOf st1 d with
  | none => rw [e] at q1; exact q1.elim
  | some xs =>
    rw [e] at q1
    obtain ⟨p, vs, e2, hq, rr⟩ := S1.lst r1 e
    exact ⟨p, vs, e2, SqL.of hq, fun n hn => q1 F1 ι1 _ _ (Ext.laid hn) (S1.laid hn) (pL_new S1 hn rr.rev)⟩
end
end Dn
namespace Dn
open PySem PySem.Spec PyProof.Rows L2
variable [HzC]
def rB (K : PySem.W.Frag) (p : Sto → List D → Option D) : List V → Hp → VK → Prop := fun vs H Q => ∃ F ι st ds d, Sim K F ι st H ∧ Reps K F ι ds vs ∧ p st ds = some d ∧
  ∀ F' H' v, Ext F ι H F' ι H' → Sim K F' ι st H' → Rep K F' ι d v → Q v H'
def rBL (K : PySem.W.Frag) (p : Sto → List D → Option (List D)) : List V → Hp → VK → Prop := fun vs H Q => ∃ F ι st ds xs, Sim K F ι st H ∧ Reps K F ι ds vs ∧ p st ds = some xs ∧
  ∀ H' v, Ext F ι H F ι H' → Sim K F ι st H' → pL K H F ι H' xs v → Q v H'
def mB (p : Sto → List D → Option D) (a : Rho → M (List D)) : Rho → M D := fun ρ st => (a ρ st).bind fun ds st1 => lift (p st1 ds) st1
def lB (p : Sto → List D → Option (List D)) (a : Rho → M (List D)) : Rho → M (List D) := fun ρ st => (a ρ st).bind fun ds st1 => lift (p st1 ds) st1
section
variable {X : Cx} {W : WX} {pos p2 p : Pos} {e : Expr} {es : List Expr} {bid T : String} {x : Str} {m1 m2 : Rho → M D} {am : Rho → M (List D)} {pf : Sto → List D → Option D} {pl : Sto → List D → Option (List D)}
theorem tCB_of {σ : L2.St} {H : Hp} {Q : VK} (h : tV X.K W (mB pf am) σ H Q) : tCB (rB X.K pf) (tA X.K W am) σ H Q := by
  obtain ⟨F, ι, ρ, st, S, R, q⟩ := h
  refine tG_seq back_V S R q fun ds st1 F1 ι1 H1 vs x1 S1 R1 r1 q1 => ?_
  cases e : pf st1 ds with
  | none => rw [e] at q1; exact q1.elim
  | some d =>
    rw [e] at q1
    exact ⟨F1, ι1, st1, ds, d, S1, r1, e, fun F' H' v x S' r => q1 F' ι1 H' v x S' r⟩
theorem tCBL_of {σ : L2.St} {H : Hp} {Q : VK} (h : tL X.K W (lB pl am) σ H Q) : tCB (rBL X.K pl) (tA X.K W am) σ H Q := by
  obtain ⟨F, ι, ρ, st, S, R, q⟩ := h
  refine tG_seq back_L S R q fun ds st1 F1 ι1 H1 vs x1 S1 R1 r1 q1 => ?_
  cases e : pl st1 ds with
  | none => rw [e] at q1; exact q1.elim
  | some d =>
    rw [e] at q1
    exact ⟨F1, ι1, st1, ds, d, S1, r1, e, fun H' v x S' r => q1 F1 ι1 H' v x S' r⟩
theorem de_b (hc : CallR X (.builtin bid) (rB X.K pf)) (hg : Gl X x) (hm : X.mg x = none) (hv : bootBuiltins x = some (.builtin bid)) (ha : DA X W (e :: es) am) (hn : x ≠ "__name__" := by decide) (hdb : (x == ("__debug__" : Str)) = false := by decide)
    (he : starEach (e :: es) X.env = (false, eval e X.env) :: starEach es X.env := by rfl) (hpl : (backTo pos (starEach es X.env)).any (·.1) = false := by rfl) : DE X W (.Call (.Name x p) (e :: es) [] pos) (mB pf am) :=
  PE.weak (pe_callB hc hg hm hv ha hn hdb he hpl) fun _ _ _ h => tCB_of h
theorem de_bT (hc : CallR X (.type T) (rB X.K pf)) (hg : Gl X x) (hm : X.mg x = none) (hv : bootBuiltins x = some (.type T)) (ha : DA X W (e :: es) am) (hn : x ≠ "__name__" := by decide) (hdb : (x == ("__debug__" : Str)) = false := by decide)
    (he : starEach (e :: es) X.env = (false, eval e X.env) :: starEach es X.env := by rfl) (hpl : (backTo pos (starEach es X.env)).any (·.1) = false := by rfl) : DE X W (.Call (.Name x p) (e :: es) [] pos) (mB pf am) :=
  PE.weak (pe_callTy hc hg hm hv ha hn hdb he hpl) fun _ _ _ h => tCB_of h
theorem dl_b (hc : CallR X (.builtin bid) (rBL X.K pl)) (hg : Gl X x) (hm : X.mg x = none) (hv : bootBuiltins x = some (.builtin bid)) (ha : DA X W (e :: es) am) (hn : x ≠ "__name__" := by decide) (hdb : (x == ("__debug__" : Str)) = false := by decide)
    (he : starEach (e :: es) X.env = (false, eval e X.env) :: starEach es X.env := by rfl) (hpl : (backTo pos (starEach es X.env)).any (·.1) = false := by rfl) : DL X W (.Call (.Name x p) (e :: es) [] pos) (lB pl am) :=
  PE.weak (pe_callB hc hg hm hv ha hn hdb he hpl) fun _ _ _ h => tCBL_of h
theorem dl_bT (hc : CallR X (.type T) (rBL X.K pl)) (hg : Gl X x) (hm : X.mg x = none) (hv : bootBuiltins x = some (.type T)) (ha : DA X W (e :: es) am) (hn : x ≠ "__name__" := by decide) (hdb : (x == ("__debug__" : Str)) = false := by decide)
    (he : starEach (e :: es) X.env = (false, eval e X.env) :: starEach es X.env := by rfl) (hpl : (backTo pos (starEach es X.env)).any (·.1) = false := by rfl) : DL X W (.Call (.Name x p) (e :: es) [] pos) (lB pl am) :=
  PE.weak (pe_callTy hc hg hm hv ha hn hdb he hpl) fun _ _ _ h => tCBL_of h
theorem Reps.one {K : PySem.W.Frag} {F : Hp} {ι : List Addr} {d : D} {vs : List V} (r : Reps K F ι [d] vs) : ∃ v, vs = [v] ∧ Rep K F ι d v := by
  simp only [Reps] at r
  obtain ⟨v, r', e, h, e2⟩ := r
  subst e2
  exact ⟨v, e, h⟩
theorem Reps.two {K : PySem.W.Frag} {F : Hp} {ι : List Addr} {d d' : D} {vs : List V} (r : Reps K F ι [d, d'] vs) : ∃ v v', vs = [v, v'] ∧ Rep K F ι d v ∧ Rep K F ι d' v' := by
  simp only [Reps] at r
  obtain ⟨v, r', e, h, v', r'', e', h', e2⟩ := r
  subst e2 e'
  exact ⟨v, v', e, h, h'⟩
def pLen : Sto → List D → Option D := fun st ds => match ds with
  | [.str z] => if z.length ≤ sizeLine then some (.int z.length) else none
  | [d] => (seqOf st d).map fun xs => .int xs.length
  | _ => none
theorem call_pLen : CallR X (.builtin "len") (rB X.K pLen) := by
  intro pins s σ H vs us Q I rv ⟨F, ι, st, ds, d, S, ra, e, q⟩
  unfold pLen at e
  split at e
  · split at e
    · rename_i hz
      cases e
      obtain ⟨v, e1, r⟩ := ra.one
      simp only [Rep] at r
      subst e1 r
      exact call_len_str pins s σ H _ us Q I rv ⟨_, rfl, hz, q F H _ Ext.refl S (by simp only [Rep])⟩
    · cases e
  · rename_i d' _
    cases e1 : seqOf st d' with
    | none => rw [e1] at e; cases e
    | some xs =>
      rw [e1] at e
      cases e
      obtain ⟨v, e2, r⟩ := ra.one
      obtain ⟨a, ys, e3, hs, rr⟩ := S.seq r e1
      subst e2 e3
      exact call_len_seq pins s σ H _ us Q I rv ⟨a, ys, rfl, hs, q F H _ Ext.refl S (by simp only [Rep]; rw [rr.length])⟩
  · cases e
def pInt : Sto → List D → Option D := fun _ ds => match ds with
  | [.int i] => some (.int i)
  | [.bl k] => some (.int (if k then 1 else 0))
  | _ => none
theorem call_pInt : CallR X (.type "int") (rB X.K pInt) := by
  intro pins s σ H vs us Q I rv ⟨F, ι, st, ds, d, S, ra, e, q⟩
  unfold pInt at e
  split at e
  · cases e
    obtain ⟨v, e1, r⟩ := ra.one
    simp only [Rep] at r
    subst e1 r
    exact call_int1 pins s σ H _ us Q I rv (.inl ⟨_, rfl, q F H _ Ext.refl S (by simp only [Rep])⟩)
  · cases e
    obtain ⟨v, e1, r⟩ := ra.one
    simp only [Rep] at r
    subst e1 r
    exact call_int1 pins s σ H _ us Q I rv (.inr ⟨_, rfl, q F H _ Ext.refl S (by simp only [Rep])⟩)
  · cases e
def blOf : List D → Option (List Bool)
  | [] => some []
  | .bl b :: r => (blOf r).map (b :: ·)
  | _ => none
theorem blOf_map : ∀ bs : List Bool, blOf (bs.map D.bl) = some bs
  | [] => rfl
  | b :: r => by rw [List.map_cons, blOf, blOf_map r]; rfl
theorem reps_bl {K : PySem.W.Frag} {F : Hp} {ι : List Addr} : ∀ {ds : List D} {bs : List Bool} {vs : List V}, Reps K F ι ds vs → blOf ds = some bs → vs = bs.map V.bl
  | [], _, _, r, h => by simp only [Reps] at r; cases h; subst r; rfl
  | .bl b :: ds, bs, vs, r, h => by
    simp only [Reps, Rep] at r
    obtain ⟨v, rs, e, e1, r2⟩ := r
    unfold blOf at h
    cases e2 : blOf ds with
    | none => rw [e2] at h; cases h
    | some cs =>
      rw [e2] at h
      cases h
      rw [e, e1, reps_bl r2 e2]
      rfl
  | .non :: _, _, _, _, h => by simp [blOf] at h
  | .int _ :: _, _, _, _, h => by simp [blOf] at h
  | .str _ :: _, _, _, _, h => by simp [blOf] at h
  | .tup _ :: _, _, _, _, h => by simp [blOf] at h
  | .lst _ :: _, _, _, _, h => by simp [blOf] at h
  | .scr _ :: _, _, _, _, h => by simp [blOf] at h
  | .ref _ :: _, _, _, _, h => by simp [blOf] at h
  | .adr _ :: _, _, _, _, h => by simp [blOf] at h
  | .fd _ _ :: _, _, _, _, h => by simp [blOf] at h
  | .exo _ _ _ _ :: _, _, _, _, h => by simp [blOf] at h
  | .obj _ _ _ :: _, _, _, _, h => by simp [blOf] at h
  | .sd _ :: _, _, _, _, h => by simp [blOf] at h
  | .fnv _ :: _, _, _, _, h => by simp [blOf] at h
def pAll : Sto → List D → Option D := fun st ds => match ds with
  | [d] => ((lstOf st d).bind blOf).map fun bs => .bl (bs.all id)
  | _ => none
def pAny : Sto → List D → Option D := fun st ds => match ds with
  | [d] => ((lstOf st d).bind blOf).map fun bs => .bl (bs.any id)
  | _ => none
theorem call_pAll (hc : X.calm = true) : CallR X (.builtin "all") (rB X.K pAll) := by
  intro pins s σ H vs us Q I rv ⟨F, ι, st, ds, d, S, ra, e, q⟩
  unfold pAll at e
  split at e
  · rename_i d'
    cases e1 : lstOf st d' with
    | none => rw [e1] at e; cases e
    | some xs =>
      rw [e1] at e
      have e : (blOf xs).map (fun bs => D.bl (bs.all id)) = some d := e
      cases e2 : blOf xs with
      | none => rw [e2] at e; cases e
      | some bs =>
        rw [e2] at e
        cases e
        obtain ⟨v, e3, r⟩ := ra.one
        obtain ⟨a, ys, e4, hs, rr⟩ := S.lst r e1
        subst e3 e4
        have e5 := reps_bl rr e2
        subst e5
        exact cr_all hc pins s σ H _ us Q I rv ⟨a, bs, rfl, SqL.of hs, q F H _ Ext.refl S (by simp only [Rep])⟩
  · cases e
theorem call_pAny (hc : X.calm = true) : CallR X (.builtin "any") (rB X.K pAny) := by
  intro pins s σ H vs us Q I rv ⟨F, ι, st, ds, d, S, ra, e, q⟩
  unfold pAny at e
  split at e
  · rename_i d'
    cases e1 : lstOf st d' with
    | none => rw [e1] at e; cases e
    | some xs =>
      rw [e1] at e
      have e : (blOf xs).map (fun bs => D.bl (bs.any id)) = some d := e
      cases e2 : blOf xs with
      | none => rw [e2] at e; cases e
      | some bs =>
        rw [e2] at e
        cases e
        obtain ⟨v, e3, r⟩ := ra.one
        obtain ⟨a, ys, e4, hs, rr⟩ := S.lst r e1
        subst e3 e4
        have e5 := reps_bl rr e2
        subst e5
        exact cr_any hc pins s σ H _ us Q I rv ⟨a, bs, rfl, SqL.of hs, q F H _ Ext.refl S (by simp only [Rep])⟩
  · cases e
def pTuple : Sto → List D → Option D := fun st ds => match ds with
  | [.tup xs] => some (.tup xs)
  | [d] => (lstOf st d).map fun xs => .tup xs
  | _ => none
theorem call_tupP : CallR X (.type "tuple") (fun xs H Q => ∃ p ys, xs = [.ref p] ∧ SqL X.K H p ys ∧ ∀ (l : Addr) (o : Obj), o.dict = none → H l = none → Q (.ref l) (upd H l (.frz o (.tup ys)))) := by
  intro pins s σ H xs us Q I r ⟨p, ys, e, hq, q⟩
  subst e
  obtain ⟨u, rfl, rx⟩ := vals1 r
  cases rx
  obtain ⟨its, r', pl, hz⟩ := I.list hq
  have hl := r'.length
  refine call_tuple_list pl.isList (fun h' kp => ?_) (by rw [List.size_toArray]; omega)
  have I1 : Inv X pins σ H { s with heap := h' } := I.kept (t' := s.toks) kp
  exact fin_tup (t' := s.toks) I1 r' hz q
theorem call_pTuple : CallR X (.type "tuple") (rB X.K pTuple) := by
  intro pins s σ H vs us Q I rv ⟨F, ι, st, ds, d, S, ra, e, q⟩
  unfold pTuple at e
  split at e
  · cases e
    obtain ⟨v, e1, r⟩ := ra.one
    have r' := r
    simp only [Rep] at r
    obtain ⟨a, ys, e2, hs, rr⟩ := r
    subst e1 e2
    exact call_tuple_of pins s σ H _ us Q I rv ⟨a, ys, rfl, .inr ⟨S.sqT hs, q F H _ Ext.refl S r'⟩⟩
  · rename_i d' _
    cases e1 : lstOf st d' with
    | none => rw [e1] at e; cases e
    | some xs =>
      rw [e1] at e
      cases e
      obtain ⟨v, e3, r⟩ := ra.one
      obtain ⟨a, ys, e4, hs, rr⟩ := S.lst r e1
      subst e3 e4
      exact call_tupP pins s σ H _ us Q I rv ⟨a, ys, rfl, SqL.of hs, new_tup S rr q⟩
  · cases e
def pList : Sto → List D → Option (List D) := fun st ds => match ds with
  | [d] => seqOf st d
  | _ => none
theorem call_pList : CallR X (.type "list") (rBL X.K pList) := by
  intro pins s σ H vs us Q I rv ⟨F, ι, st, ds, d, S, ra, e, q⟩
  unfold pList at e
  split at e
  · obtain ⟨v, e3, r⟩ := ra.one
    obtain ⟨a, ys, e4, hs, rr⟩ := S.seq r e
    subst e3 e4
    exact call_list_of pins s σ H _ us Q I rv ⟨a, ys, rfl, hs, fun l hl => q _ _ (Ext.laid hl) (S.laid hl) (pL_new S hl rr)⟩
  · cases e
end
end Dn
namespace Dn
open PySem PySem.Spec PyProof.Rows L2
inductive SK where
  | l | t
def SqX (K : PySem.W.Frag) (H : Hp) : SK → Addr → List V → Prop
  | .l, a, xs => SqL K H a xs
  | .t, a, xs => SqT K H a xs
def IsSq (h : Heap) : SK → Addr → Array Value → Prop
  | .l, a, xs => h.IsList a xs
  | .t, a, xs => h.IsTuple a xs
def ItAt (h : Heap) : SK → Addr → Addr → Nat → Prop
  | .l, it, a, i => h.IsListIter it a i
  | .t, it, a, i => h.IsTupleIter it a i
def itObj (a : Addr) : SK → Obj
  | .l => { cls := .type "list_iterator", data := .fields #[.ref a, .int 0 0] }
  | .t => { cls := .type "tuple_iterator", data := .fields #[.ref a, .int 0 0] }
theorem begins_sq (k : SK) (a : Addr) (items : Array Value) : Begins (.ref a) (itObj a k) fun h => IsSq h k a items := by
  cases k with
  | l => exact begins_list a items
  | t => exact begins_tuple a items
theorem draws_sq {prog : Program} {w : World} {A : Around} (hh : A.handled = none) (k : SK) (it a : Addr) (hne : a ≠ it) (items : Array Value) :
    Draws prog w A it [it, a] items.size (fun i v => items[i]? = some v) (fun i h => ItAt h k it a i ∧ IsSq h k a items) := by
  cases k with
  | l => exact Draws.list hh it a hne items
  | t => exact Draws.tuple hh it a hne items
theorem ItAt.obj {h : Heap} {k : SK} {it a : Addr} {i : Nat} (x : ItAt h k it a i) : ∃ o n vs, h.get? it = some o ∧ o.cls = .type n ∧ o.data = .fields vs := by
  cases k with
  | l => obtain ⟨o, e, c, d⟩ := x; exact ⟨o, _, _, e, c, d⟩
  | t => obtain ⟨o, e, c, d⟩ := x; exact ⟨o, _, _, e, c, d⟩
theorem ItAt.at {h h' : Heap} {k : SK} {it a : Addr} {i : Nat} (x : ItAt h k it a i) (e : ∀ o, h.get? it = some o → h'.get? it = some o) : ItAt h' k it a i := by
  cases k with
  | l => exact Heap.IsListIter.at x e
  | t => exact Heap.IsTupleIter.at x e
theorem ItAt.start {h : Heap} {k : SK} {it a : Addr} (e : h.get? it = some (itObj a k)) : ItAt h k it a 0 := by
  cases k with
  | l => exact ⟨_, e, rfl, rfl⟩
  | t => exact ⟨_, e, rfl, rfl⟩
theorem _root_.L2.Inv.sqx {X : Cx} {pins : List (Addr × Obj)} {σ : L2.St} {H : Hp} {s : Shared} {k : SK} {a : Addr} {xs : List V} (I : Inv X pins σ H s) (h : SqX X.K H k a xs) : ∃ its : List Value, Vals xs its ∧ IsSq s.heap k a its.toArray ∧ a < s.heap.objs.size := by
  cases k with
  | l =>
    obtain ⟨its, r, p, _⟩ := I.list h
    exact ⟨its, r, p.isList, p.lt⟩
  | t =>
    obtain ⟨its, r, p, _⟩ := I.tuple h
    exact ⟨its, r, p, p.lt⟩
theorem _root_.L2.Inv.sqx_inj {X : Cx} {pins : List (Addr × Obj)} {σ : L2.St} {H : Hp} {s : Shared} {k : SK} {a : Addr} {xs ys : List V} (I : Inv X pins σ H s) (h : SqX X.K H k a xs) (h' : SqX X.K H k a ys) : xs = ys := by
  cases k with
  | l => exact I.list_inj h h'
  | t => exact I.tuple_inj h h'
def IteX (K : PySem.W.Frag) (k : SK) (a : Addr) : It :=
  ⟨fun i H => ∃ (xs : List V) (x : V), SqX K H k a xs ∧ xs[i]? = some x, fun i H v H' => ∃ (T : Addr) (x : V) (o : Obj), v = .ref T ∧ H T = none ∧ o.dict = none ∧ H' = upd H T (.frz o (.tup [.int (i : Nat), x])) ∧ ∀ xs, SqX K H k a xs → xs[i]? = some x, fun i H => ∃ xs : List V, SqX K H k a xs ∧ xs.length = i⟩
theorem turn_enumX {P : Program} {w : World} {K : PySem.W.Frag} {elts : List Expr} {kk : Nat} {tpos : Pos} (k : SK) (a e it : Addr) :
    Turn P w K (.Tuple elts kk tpos) (IteX K k a) [e, it] e (fun i h => (∃ old, IsEnum h e it ((i : Nat) : Int) old) ∧ ItAt h k it a i ∧ e ≠ it ∧ a ≠ it ∧ e ≠ a) where
  mem := by simp
  obj := fun i h st b hb => by
    obtain ⟨⟨old, he⟩, hi, _⟩ := st
    have e' : b = e ∨ b = it := by simpa using hb
    rcases e' with z | z
    · rw [z]; exact ⟨_, he, fun v q => nomatch q⟩
    · rw [z]
      obtain ⟨o, n, vs, ho, _, hd⟩ := hi.obj
      exact ⟨o, ho, fun v q => by rw [hd] at q; cases q⟩
  keep := fun i h h' st kp => let ⟨⟨old, he⟩, hi, hne⟩ := st; ⟨⟨old, kp e (by simp) _ he⟩, hi.at fun o q => kp it (by simp) o q, hne⟩
  item := by
    intro X hP hw hK hc i pins s σ H E I hf st hg
    subst hP hw hK
    obtain ⟨⟨old, he⟩, hit, hne, hai, hea⟩ := st
    obtain ⟨xs, x, hq, hx⟩ := hg
    obtain ⟨its, rv, p, hal⟩ := I.sqx hq
    obtain ⟨u, hu, ru⟩ := rv.get hx
    have hel : e < s.heap.objs.size := Heap.lt_size he
    have hil : it < s.heap.objs.size := by obtain ⟨_, _, _, q, _⟩ := hit.obj; exact Heap.lt_size q
    have hlt : i < its.toArray.size := by
      have := (List.getElem?_eq_some_iff.mp hu).1
      simpa using this
    refine wpAny_pyNext_enum_itemD (draws_sq (A := X.A.in1) (I.ok.hd hc) k it a hai its.toArray) he ⟨hit, p⟩ hlt hne (by simp [hne, hea]) fun y h' tk hy ho ⟨hit', p'⟩ hT hsz hk => ?_
    have ey : y = u := by
      have hu' : its.toArray[i]? = some u := by simpa using hu
      rw [hu'] at hy
      exact (Option.some.inj hy).symm
    subst ey
    refine ⟨_, rfl, wpAny_letOwnedTupleGo_enum (s := { s with heap := h', toks := tk + 1 }) ho fun h'' he' sb => ?_⟩
    have hT2 : h''.get? s.heap.objs.size = some { cls := .type "tuple", data := .seq #[.int i tk, y] } := (sb.2 _ (Nat.ne_of_gt hel)).trans hT
    have new : ObjOk X.prog X.w (upd H s.heap.objs.size (.frz { cls := .type "tuple", data := .seq #[.int i tk, y] } (.tup [.int (i : Nat), x]))) h'' s.heap.objs.size (.frz { cls := .type "tuple", data := .seq #[.int i tk, y] } (.tup [.int (i : Nat), x])) :=
      ⟨hT2, by show 2 ≤ sizeLine; decide, [.int i tk, y], .cons ⟨_, rfl⟩ (.cons ru .nil), ⟨_, hT2, rfl, _, rfl⟩⟩
    have I1 : Inv X pins σ (upd H s.heap.objs.size (.frz { cls := .type "tuple", data := .seq #[.int i tk, y] } (.tup [.int (i : Nat), x]))) { s with heap := h'', toks := tk + 1 } :=
      I.turnedNew (ch := [e, it]) (fun b ob hb q => (sb.2 b (fun z => hb (by simp [z]))).trans (hk b ob (fun z => hb (by simp [z])) (fun z => hb (by simp [z])) q)) hf (Nat.le_refl _) new
    refine ⟨.ref s.heap.objs.size, _, I1, rfl, ⟨_, x, _, rfl, I.hok.fresh (Nat.le_refl _), rfl, rfl, fun ys hy => by rw [I.sqx_inj hy hq]; exact hx⟩, ⟨⟨y, ?_⟩, hit'.at fun o q => (sb.2 it (Ne.symm hne)).trans q, hne, hai, hea⟩, fun b hb => ?_⟩
    · have e1 : ((i + 1 : Nat) : Int) = (i : Int) + 1 := by omega
      rw [e1]; exact he'
    · have hb' : b < s.heap.objs.size := by
        have e' : b = e ∨ b = it := by simpa using hb
        rcases e' with z | z
        · rw [z]; exact hel
        · rw [z]; exact hil
      rw [upd_ne (Nat.ne_of_lt hb')]
      exact (hf b hb).1
  done := by
    intro X hP hw hK hc i pins s σ H E I hf st hg
    subst hP hw hK
    obtain ⟨⟨old, he⟩, hit, hne, hai, hea⟩ := st
    obtain ⟨xs, hq, hx⟩ := hg
    obtain ⟨its, rv, p, hal⟩ := I.sqx hq
    obtain ⟨f0, f1, f2, f3, f4, f5⟩ := hf it (by simp)
    have hl := rv.length
    have en : i = its.toArray.size := by simp; omega
    exact wpAny_pyNext_enum_endD (draws_sq (A := X.A.in1) (I.ok.hd hc) k it a hai its.toArray) he ⟨by rw [← en]; exact hit, p⟩ fun h' eb => ⟨rfl, I.turned (t' := s.toks) (fun b o hb q => eb b o hb q) f0 f1 f3 f4 f5⟩
  self := fun A i s Q E st h => let ⟨⟨_, he⟩, _⟩ := st; wpAny_pyIter_enum he h
theorem meets_enumerate_newB1 {v : Value} {o : Obj} {H : Heap → Prop} (B : Begins v o H) :
    Meets (Builtin.«enumerate.__new__» ⟨[.type "enumerate", v], []⟩) (fun _ R s => H s.heap ∧
      R (.ok (.ret (.ref (s.heap.push o).objs.size))) { s with heap := (s.heap.push o).push { cls := .type "enumerate", data := .fields #[.none, .bool false, .ref s.heap.objs.size, rawInt 0, .none, .none] } }) :=
  .of_wp fun prog w A R s h => by
    obtain ⟨hp, g, d, tk, os⟩ := s; obtain ⟨h1, h⟩ := h
    have hsub := sub_enumerate
    have q1 : ∀ {A' : Around} {E : Value → Shared → Prop} {Q : Value → Shared → Prop}, Q (.ref hp.objs.size) ⟨hp.push o, g, d, tk, os⟩ → wpAny (model prog w) A' (pyIter v) Q E ⟨hp, g, d, tk, os⟩ :=
      fun q => B.iter prog w _ _ ⟨hp, g, d, tk, os⟩ _ h1 q
    wp_walk using q1
    refine wpAny_stack_any fun st => wpAny_pure ?_
    split
    · rename_i c _ _ _ _ _
      cases (c == Value.type "enumerate")
      · wp_walk using q1
        exact ⟨_, rfl, h⟩
      · wp_walk using q1
        exact ⟨_, rfl, h⟩
    · wp_walk using q1
      exact ⟨_, rfl, h⟩
theorem call_enumX {prog : Program} {w : World} {A : Around} {E : Value → Shared → Prop} {s : Shared} {v : Value} {o : Obj} {H : Heap → Prop} {Q : Value → Shared → Prop} (B : Begins v o H) (h1 : H s.heap)
    (h : ∀ h', IsEnum h' (s.heap.objs.size + 1) s.heap.objs.size 0 .none → h'.get? s.heap.objs.size = some o → h'.objs.size = s.heap.objs.size + 2 →
      (∀ b o, s.heap.get? b = some o → h'.get? b = some o) → Q (.ref (s.heap.objs.size + 1)) { s with heap := h' }) :
    wpAny (model prog w) A (call (.type "enumerate") [v]) Q E s := by
  refine callType_new PySem.F.called_enumerate (by decide) (PySem.F.typeCall_enumerate_1 _) (PySem.F.newCall_enumerate_1 _) (fun obj => PySem.F.args_object_init_2 obj _) PySem.F.entry_enumerate_new
    (meets_enumerate_newB1 B) ⟨h1, ?_⟩
  have hz : (s.heap.push o).objs.size = s.heap.objs.size + 1 := Heap.size_push ..
  show _ ∧ _
  rw [hz]
  have he : IsEnum ((s.heap.push o).push { cls := .type "enumerate", data := .fields #[.none, .bool false, .ref s.heap.objs.size, rawInt 0, .none, .none] }) (s.heap.objs.size + 1) s.heap.objs.size 0 .none := by
    have := Heap.get?_push_size (s.heap.push o) (o := { cls := .type "enumerate", data := .fields #[.none, .bool false, .ref s.heap.objs.size, rawInt 0, .none, .none] }) rfl
    rw [hz] at this; exact this
  refine ⟨⟨_, he, rfl⟩, h _ he (Heap.get?_push_of_some _ (Heap.get?_push_size _ B.free)) (by rw [Heap.size_push, hz]) fun b o x => Heap.get?_push_of_some _ (Heap.get?_push_of_some _ x)⟩
def iEnumX (K : PySem.W.Frag) (ta : TA) : TI := fun σ H R => ta σ H fun vs H1 => ∃ a k xs, vs = [.ref a] ∧ SqX K H1 k a xs ∧ R (IteX K k a) H1
theorem pi_enumX {X : Cx} {e : Expr} {ta : TA} {p pos tpos : Pos} {elts : List Expr} {kk : Nat} (hg : Gl X "enumerate") (hm : X.mg "enumerate" = none) (ha : PA X [e] ta) (hs : starEach [e] X.env = [(false, eval e X.env)] := by rfl) :
    PI X (.Tuple elts kk tpos) (.Call (.Name "enumerate" p) [e] [] pos) (iEnumX X.K ta) := by
  refine ⟨fun pins s σ H R I h => ?_⟩
  refine Call_ (ld_blt I hg hm boot_enumerate (PyProof.Rows.callWith_type1 (thn (ha.run pos pins s σ H _ I h) fun us s1 ⟨vs, H1, I1, r1, q1⟩ => ?_) hs rfl))
  obtain ⟨a, k, xs, ex, hq, q⟩ := q1
  subst ex
  cases r1 with
  | cons r rr =>
    cases rr
    cases r
    obtain ⟨its, rv, p', hal⟩ := I1.sqx hq
    refine call_enumX (begins_sq k a its.toArray) p' fun h' he hit hsz hk => wpAny_pyIter_enum he ?_
    have I2 : Inv X pins σ H1 { s1 with heap := h' } := I1.kept (t' := s1.toks) hk
    refine ⟨s1.heap.objs.size + 1, [s1.heap.objs.size + 1, s1.heap.objs.size], _, _, H1, rfl, I2, turn_enumX k a (s1.heap.objs.size + 1) s1.heap.objs.size, ⟨⟨.none, he⟩, ItAt.start hit, Nat.succ_ne_self _, Nat.ne_of_lt hal, Nat.ne_of_gt (Nat.lt_succ_of_lt hal)⟩, fun b hb => ?_, q⟩
    have e' : b = s1.heap.objs.size + 1 ∨ b = s1.heap.objs.size := by simpa using hb
    have hle : s1.heap.objs.size ≤ b := by
      rcases e' with z | z
      · rw [z]; exact Nat.le_add_right _ _
      · rw [z]; exact Nat.le_refl _
    exact I1.fpOk hle (I1.hok.fresh hle)
end Dn
namespace Dn
open PySem PySem.Spec PyProof.Rows L2
variable [HzC]
def pR (K : PySem.W.Frag) (js : List Nat) (σ0 : L2.St) : Hp → Hp → List Addr → Hp → Rho → L2.St → Prop := fun _ F ι _ ρ σ => REnv K F ι ρ σ ∧ ∀ vs : List Nat, (∀ j, j ∈ js → j ∈ vs) → wipe σ vs = wipe σ0 vs
theorem back_R {K : PySem.W.Frag} {js : List Nat} {σ0 : L2.St} : Back (pR K js σ0) := fun _ _ _ _ _ _ _ _ h => h
def tGt (K : PySem.W.Frag) (js : List Nat) (gf : D → Rho → M Rho) : TG := fun v σ H Q => ∃ F ι ρ st d, Sim K F ι st H ∧ REnv K F ι ρ σ ∧ Rep K F ι d v ∧ post K wN σ F ι H (pR K js σ) (gf d ρ st) Q
def DG (X : Cx) (js : List Nat) (e : Expr) (gf : D → Rho → M Rho) : Prop := PG X e (tGt X.K js gf)
theorem PG.weak {X : Cx} {e : Expr} {t t' : TG} (h : PG X e t) (w : ∀ v σ H Q, t' v σ H Q → t v σ H Q) : PG X e t' := ⟨fun pins s σ H v u Q I r q => h.run pins s σ H v u Q I r (w v σ H Q q)⟩
theorem wipe_set {σ : L2.St} {i : Nat} {x : Option V} : ∀ {vs : List Nat}, i ∈ vs → wipe (σ.set i x) vs = wipe σ vs
  | v :: vs, h => by
    show (wipe (σ.set i x) vs).set v none = (wipe σ vs).set v none
    by_cases hm : i ∈ vs
    · rw [wipe_set hm]
    · have e : i = v := by
        rcases List.mem_cons.mp h with e | e
        · exact e
        · exact absurd e hm
      subst e
      have key : ∀ (vs : List Nat), i ∉ vs → wipe (σ.set i x) vs = (wipe σ vs).set i x := by
        intro vs
        induction vs with
        | nil => intro _; rfl
        | cons u us ih =>
          intro h
          have h1 : i ≠ u := fun e => h (by simp [e])
          have h2 : i ∉ us := fun e => h (List.mem_cons_of_mem _ e)
          show (wipe (σ.set i x) us).set u none = ((wipe σ us).set u none).set i x
          rw [ih h2, List.set_comm _ _ h1]
      rw [key vs hm, List.set_set]
def gN (i : Nat) : D → Rho → M Rho := fun d ρ st => .ok (ρ.set i (some d)) st
theorem dg_name {X : Cx} {pos : Pos} {i : Nat} {x : Str} (hN : X.N.Nodup) (hi : X.N[i]? = some x) (hx : Loc X.env.scope x) (hf : X.fn x = true ∨ X.env.scope.names.lookup x = some .local := by first | exact .inl rfl | exact .inr rfl | assumption) : DG X [i] (.Name x pos) (gN i) :=
  PG.weak (pg_name hN hi hx hf) fun v σ H Q ⟨F, ι, ρ, st, d, S, R, r, q⟩ =>
    q F ι H _ Ext.refl S ⟨R.set r i, fun vs h => wipe_set (h i (by simp))⟩
def tGts (K : PySem.W.Frag) (js : List Nat) (gf : List D → Rho → M Rho) : TGs := fun vs σ H Q => ∃ F ι ρ st ds, Sim K F ι st H ∧ REnv K F ι ρ σ ∧ Reps K F ι ds vs ∧ post K wN σ F ι H (pR K js σ) (gf ds ρ st) Q
def DGs (X : Cx) (js : List Nat) (es : List Expr) (gf : List D → Rho → M Rho) : Prop := PGs X es (tGts X.K js gf)
theorem PGs.weak {X : Cx} {e : List Expr} {t t' : TGs} (h : PGs X e t) (w : ∀ v σ H Q, t' v σ H Q → t v σ H Q) : PGs X e t' := ⟨fun pins s σ H v u Q I r q => h.run pins s σ H v u Q I r (w v σ H Q q)⟩
def gsNil : List D → Rho → M Rho := fun ds ρ st => match ds with
  | [] => .ok ρ st
  | _ => .bad
def gsCons (g : D → Rho → M Rho) (gs : List D → Rho → M Rho) : List D → Rho → M Rho := fun ds ρ st => match ds with
  | d :: r => (g d ρ st).bind fun ρ1 st1 => gs r ρ1 st1
  | [] => .bad
theorem dgs_nil {X : Cx} : DGs X [] [] gsNil := by
  refine PGs.weak pgs_nil fun vs σ H Q ⟨F, ι, ρ, st, ds, S, R, r, q⟩ => ?_
  unfold gsNil at q
  split at q
  · simp only [Reps] at r
    exact ⟨r, q F ι H σ Ext.refl S ⟨R, fun _ _ => rfl⟩⟩
  · exact q.elim
theorem dgs_cons {X : Cx} {e : Expr} {es : List Expr} {j1 j2 : List Nat} {g : D → Rho → M Rho} {gs : List D → Rho → M Rho} (h1 : DG X j1 e g) (h2 : DGs X j2 es gs)
    (hs : (assignEach (e :: es) X.env).map (·.2) = assign e X.env :: (assignEach es X.env).map (·.2) := by rfl) : DGs X (j1 ++ j2) (e :: es) (gsCons g gs) := by
  refine PGs.weak (pgs_cons h1 h2 hs) fun vs σ H Q ⟨F, ι, ρ, st, ds, S, R, r, q⟩ => ?_
  unfold gsCons at q
  split at q
  · rename_i d ds'
    simp only [Reps] at r
    obtain ⟨v, vr, e, r1, r2⟩ := r
    refine ⟨v, vr, e, F, ι, ρ, st, d, S, R, r1, ?_⟩
    refine post_seq back_R q fun ρ1 st1 F1 ι1 H1 σ1 _ x1 S1 ⟨R1, k1⟩ q1 => ?_
    refine ⟨F1, ι1, ρ1, st1, ds', S1, R1, Reps.ext r2 x1, ?_⟩
    generalize gs ds' ρ1 st1 = rr at q1
    cases rr with
    | ok ρ2 st2 => exact fun F' ι' H' σ' y S' ⟨R', k'⟩ => q1 F' ι' H' σ' y S' ⟨R', fun vs hv => (k' vs fun j hj => hv j (List.mem_append_right _ hj)).trans (k1 vs fun j hj => hv j (List.mem_append_left _ hj))⟩
    | exc x st2 => exact fun F' ι' H' c d y S' r => (q1 F' ι' H' c d y S' r : False).elim
    | bad => exact q1
  · exact q.elim
def gT (n : Nat) (gs : List D → Rho → M Rho) : D → Rho → M Rho := fun d ρ st => match d with
  | .tup xs => if xs.length = n then gs xs ρ st else .bad
  | _ => .bad
theorem dg_tup {X : Cx} {pos : Pos} {es : List Expr} {k n : Nat} {js : List Nat} {gs : List D → Rho → M Rho} (hc : X.calm = true) (h : DGs X js es gs)
    (hn : (assignEach es X.env).length = n := by rfl) (hst : (assignEach es X.env).findIdx? (·.1) = none := by rfl) : DG X js (.Tuple es k pos) (gT n gs) := by
  refine PG.weak (pg_tup hc h hn hst) fun v σ H Q ⟨F, ι, ρ, st, d, S, R, r, q⟩ => ?_
  unfold gT at q
  split at q
  · split at q
    · rename_i xs hl
      simp only [Rep] at r
      obtain ⟨a, vs, e, h, rr⟩ := r
      exact ⟨a, vs, e, S.sqT h, by rw [← rr.length]; exact hl, F, ι, ρ, st, xs, S, R, rr, q⟩
    · exact q.elim
  · exact q.elim
structure Src where
  items : List D
  held : List (Nat × List D)
def heldOk (held : List (Nat × List D)) (st : Sto) : Prop := ∀ p, p ∈ held → st[p.1]? = some (.lst p.2)
@[simp] theorem heldOk_nil (st : Sto) : heldOk [] st ↔ True := ⟨fun _ => trivial, fun _ _ h => by cases h⟩
@[simp] theorem heldOk_one (l : Nat) (xs : List D) (st : Sto) : heldOk [(l, xs)] st ↔ st[l]? = some (.lst xs) := by
  constructor
  · intro h; exact h (l, xs) (by simp)
  · intro h p hp
    have : p = (l, xs) := by simpa using hp
    subst this; exact h
structure Grow (F : Hp) (ι : List Addr) (F' : Hp) (ι' : List Addr) : Prop where
  f : ∀ a o, F a = some o → F' a = some o
  i : ∀ (l : Nat) (a : Addr), ι[l]? = some a → ι'[l]? = some a
theorem Ext.grow {F : Hp} {ι : List Addr} {H F' : Hp} {ι' : List Addr} {H' : Hp} (x : Ext F ι H F' ι' H') : Grow F ι F' ι' := ⟨x.f, x.i⟩
structure SrcIt (K : PySem.W.Frag) (F : Hp) (ι : List Addr) (src : Src) (J : It) : Prop where
  go : ∀ (i : Nat) F' ι' st' H', Grow F ι F' ι' → Sim K F' ι' st' H' → heldOk src.held st' → i < src.items.length → J.go i H'
  stop : ∀ F' ι' st' H', Grow F ι F' ι' → Sim K F' ι' st' H' → heldOk src.held st' → J.stop src.items.length H'
  yld : ∀ (i : Nat) F' ι' st' H' x H2 d, Grow F ι F' ι' → Sim K F' ι' st' H' → heldOk src.held st' → src.items[i]? = some d → J.yld i H' x H2 → ∃ F2, Ext F' ι' H' F2 ι' H2 ∧ Sim K F2 ι' st' H2 ∧ Rep K F2 ι' d x
def pI (K : PySem.W.Frag) : Hp → Hp → List Addr → Hp → Src → It → Prop := fun _ F ι _ src J => SrcIt K F ι src J
theorem back_I {K : PySem.W.Frag} : Back (pI K) := fun _ _ _ _ _ _ _ _ h => h
def DI (X : Cx) (W : WX) (tg iter : Expr) (ms : Rho → M Src) : Prop := PI X tg iter (tG X.K W (pI X.K) ms)
theorem PI.weak {X : Cx} {tg e : Expr} {t t' : TI} (h : PI X tg e t) (w : ∀ σ H Q, t' σ H Q → t σ H Q) : PI X tg e t' := ⟨fun pins s σ H Q I q => h.run pins s σ H Q I (w σ H Q q)⟩
def srcOf (st : Sto) : D → Option Src
  | .tup xs => some ⟨xs, []⟩
  | .lst xs => some ⟨xs, []⟩
  | .scr xs => some ⟨xs, []⟩
  | .ref l => match st[l]? with
    | some (.lst xs) => some ⟨xs, [(l, xs)]⟩
    | _ => none
  | _ => none
theorem src_sq {K : PySem.W.Frag} {F : Hp} {ι : List Addr} {d : D} {v : V} {st : Sto} {H : Hp} {src : Src} (S : Sim K F ι st H) (r : Rep K F ι d v) (h : srcOf st d = some src) :
    ∃ k a, v = .ref a ∧ (∃ vs, SqX K H k a vs) ∧ ∀ F' ι' st' H', Grow F ι F' ι' → Sim K F' ι' st' H' → heldOk src.held st' → ∃ vs, SqX K H' k a vs ∧ Reps K F' ι' src.items vs := by
  unfold srcOf at h
  split at h
  · cases h
    simp only [Rep] at r
    obtain ⟨a, vs, e, hq, rr⟩ := r
    exact ⟨.t, a, e, ⟨vs, S.sqT hq⟩, fun F' ι' st' H' g S' _ => ⟨vs, S'.sqT (SqP.mono hq g.f), Reps.mono g.f g.i _ _ rr⟩⟩
  · cases h
    simp only [Rep] at r
    obtain ⟨a, vs, e, hq, rr⟩ := r
    exact ⟨.l, a, e, ⟨vs, SqL.of (S.sub _ _ hq)⟩, fun F' ι' st' H' g S' _ => ⟨vs, SqL.of (S'.sub _ _ (g.f _ _ hq)), Reps.mono g.f g.i _ _ rr⟩⟩
  · cases h
    simp only [Rep] at r
    obtain ⟨a, vs, e, hq, rr⟩ := r
    exact ⟨.l, a, e, ⟨vs, S.sqL hq⟩, fun F' ι' st' H' g S' _ => ⟨vs, S'.sqL (SqL.mono hq g.f), Reps.mono g.f g.i _ _ rr⟩⟩
  · rename_i l
    split at h
    · rename_i xs e1
      cases h
      simp only [Rep] at r
      obtain ⟨a, e, hi⟩ := r
      obtain ⟨vs, hv, _⟩ := S.obj l _ a e1 hi
      refine ⟨.l, a, e, ⟨vs, SqL.of hv⟩, fun F' ι' st' H' g S' ho => ?_⟩
      obtain ⟨ws, hw, rw'⟩ := S'.obj l _ a (ho (l, xs) (by simp)) (g.i l a hi)
      exact ⟨ws, SqL.of hw, rw'⟩
    · cases h
  · cases h
def ItX (K : PySem.W.Frag) : SK → Addr → It
  | .l, a => Itl K a
  | .t, a => Itt K a
def iSqX (K : PySem.W.Frag) (tl : TE) : TI := fun σ H R => tl σ H fun x H1 => ∃ k a, x = .ref a ∧ (∃ xs, SqX K H1 k a xs) ∧ R (ItX K k a) H1
theorem pi_sqX {X : Cx} {tg l : Expr} {tl : TE} (hl : PE X l tl) : PI X tg l (iSqX X.K tl) := by
  refine ⟨fun pins s σ H R I h => ?_⟩
  refine thn (hl.run pins s σ H _ I h) fun v s1 ⟨x, H1, I1, r1, q1⟩ => ?_
  obtain ⟨k, a, e, ⟨xs, hq⟩, q⟩ := q1
  subst e
  cases r1
  have fp : ∀ b, b ∈ [s1.heap.objs.size] → FpOk X pins H1 b := fun b hb => by
    have e : b = s1.heap.objs.size := by simpa using hb
    subst e
    exact I1.fpOk (Nat.le_refl _) (I1.hok.fresh (Nat.le_refl _))
  cases k with
  | l =>
    obtain ⟨its, rv, p, hz⟩ := I1.list hq
    refine wpAny_pyIter_list p.isList ?_
    exact ⟨s1.heap.objs.size, [s1.heap.objs.size], _, _, H1, rfl, I1.kept (t' := s1.toks) fun b o e => Heap.get?_push_of_some _ e, turn_list a _, ⟨_, Heap.get?_push_size _ rfl, rfl, rfl⟩, fp, q⟩
  | t =>
    obtain ⟨its, rv, p, hz⟩ := I1.tuple hq
    refine wpAny_pyIter_tuple (show s1.heap.IsTuple a its.toArray from p) ?_
    exact ⟨s1.heap.objs.size, [s1.heap.objs.size], _, _, H1, rfl, I1.kept (t' := s1.toks) fun b o e => Heap.get?_push_of_some _ e, turn_tuple a _, ⟨_, Heap.get?_push_size _ rfl, rfl, rfl⟩, fp, q⟩
def iSeq (m : Rho → M D) : Rho → M Src := fun ρ st => (m ρ st).bind fun d st1 => lift (srcOf st1 d) st1
section
variable {X : Cx} {W : WX} {pos p2 p : Pos} {tg e e2 : Expr} {m1 m2 m3 : Rho → M D} {am : Rho → M (List D)}
theorem di_seq (h : DE X W e m1) : DI X W tg e (iSeq m1) := by
  refine PI.weak (pi_sqX h) fun σ H Q ⟨F, ι, ρ, st, S, R, q⟩ => ?_
  refine tG_seq back_I S R q fun d st1 F1 ι1 H1 v1 x1 S1 R1 r1 q1 => ?_
  cases e1 : srcOf st1 d with
  | none => rw [e1] at q1; exact q1.elim
  | some src =>
    rw [e1] at q1
    obtain ⟨k, a, e, hs, hk⟩ := src_sq S1 r1 e1
    refine ⟨k, a, e, hs, q1 F1 ι1 H1 (ItX X.K k a) Ext.refl S1 ⟨fun i F' ι' st' H' g S' ho hi => ?_, fun F' ι' st' H' g S' ho => ?_, fun i F' ι' st' H' x H2 d g S' ho hd y => ?_⟩⟩
    · obtain ⟨vs, hv, rv⟩ := hk F' ι' st' H' g S' ho
      obtain ⟨v, q, _⟩ := rv.get (List.getElem?_eq_getElem hi)
      cases k with
      | l => exact ⟨vs, v, hv, q⟩
      | t => exact ⟨vs, v, hv, q⟩
    · obtain ⟨vs, hv, rv⟩ := hk F' ι' st' H' g S' ho
      cases k with
      | l => exact ⟨vs, hv, Nat.le_of_eq rv.length.symm⟩
      | t => exact ⟨vs, hv, Nat.le_of_eq rv.length.symm⟩
    · obtain ⟨vs, hv, rv⟩ := hk F' ι' st' H' g S' ho
      cases k with
      | l =>
        obtain ⟨e, y⟩ := y
        subst e
        exact ⟨F', Ext.refl, S', rv.at hd (y vs hv)⟩
      | t =>
        obtain ⟨e, y⟩ := y
        subst e
        exact ⟨F', Ext.refl, S', rv.at hd (y vs hv)⟩
def rngD (lo : Int) (n : Nat) : List D := (List.range n).map fun i : Nat => .int (lo + (i : Int))
theorem rngD_length (lo : Int) (n : Nat) : (rngD lo n).length = n := by unfold rngD; simp
theorem rngD_get {lo : Int} {n i : Nat} {d : D} (h : (rngD lo n)[i]? = some d) : d = .int (lo + (i : Int)) := by
  unfold rngD at h
  rw [List.getElem?_map] at h
  cases e : (List.range n)[i]? with
  | none => rw [e] at h; cases h
  | some j =>
    rw [e] at h
    have := List.getElem?_eq_some_iff.mp e
    obtain ⟨h1, h2⟩ := this
    rw [List.getElem_range] at h2
    subst h2
    exact (Option.some.inj h).symm
theorem src_range {K : PySem.W.Frag} {F : Hp} {ι : List Addr} {lo : Int} {n : Nat} : SrcIt K F ι ⟨rngD lo n, []⟩ (Itr lo n) := by
  refine ⟨fun i F' ι' st' H' g S' ho hi => ?_, fun F' ι' st' H' g S' ho => ?_, fun i F' ι' st' H' x H2 d g S' ho hd y => ?_⟩
  · have hi' : i < (rngD lo n).length := hi
    rw [rngD_length] at hi'
    exact hi'
  · show n ≤ (rngD lo n).length
    rw [rngD_length]
    exact Nat.le_refl _
  · obtain ⟨e, y⟩ := y
    subst e y
    have hd' := rngD_get hd
    subst hd'
    exact ⟨F', Ext.refl, S', by simp only [Rep]⟩
noncomputable def rng1 : D → Option Src
  | .int j => @ite _ (-(2 ^ 62) ≤ j ∧ j < 2 ^ 62) (Classical.propDecidable _) (some ⟨rngD 0 j.toNat, []⟩) (none)
  | _ => none
noncomputable def iRng1D (m : Rho → M D) : Rho → M Src := fun ρ st => (m ρ st).bind fun d st1 => lift (rng1 d) st1
theorem di_range1 (hg : Gl X "range") (hm : X.mg "range" = none) (h : DE X W e m1) (hs : starEach [e] X.env = [(false, eval e X.env)] := by rfl) : DI X W tg (.Call (.Name "range" p) [e] [] pos) (iRng1D m1) := by
  have ha : PA X [e] (tCons (tV X.K W m1) tNil) := pa_cons h pa_nil hs
  refine PI.weak (pi_range1 hg hm ha hs) fun σ H Q ⟨F, ι, ρ, st, S, R, q⟩ => ?_
  refine tG_seq back_I S R q fun d st1 F1 ι1 H1 v1 x1 S1 R1 r1 q1 => ?_
  unfold rng1 at q1
  split at q1
  · rename_i j
    split at q1
    · rename_i hb
      have rv : Rep X.K F1 ι1 (.int j) v1 := r1
      simp only [Rep] at rv
      exact ⟨j, by rw [rv], hb.1, hb.2, q1 F1 ι1 H1 _ Ext.refl S1 src_range⟩
    · exact q1.elim
  · exact q1.elim
def enumD (n : Nat) : List D → List D
  | [] => []
  | d :: r => .tup [.int (n : Int), d] :: enumD (n + 1) r
theorem enumD_length : ∀ (xs : List D) (n : Nat), (enumD n xs).length = xs.length
  | [], _ => rfl
  | _ :: r, n => by rw [enumD, List.length_cons, List.length_cons, enumD_length r]
theorem enumD_get : ∀ {xs : List D} {n i : Nat} {d : D}, (enumD n xs)[i]? = some d → ∃ x, xs[i]? = some x ∧ d = .tup [.int ((n + i : Nat) : Int), x]
  | [], _, _, _, h => by simp [enumD] at h
  | x :: r, n, 0, d, h => by
    simp [enumD] at h
    exact ⟨x, rfl, h.symm⟩
  | x :: r, n, i + 1, d, h => by
    rw [enumD, List.getElem?_cons_succ] at h
    obtain ⟨y, h1, h2⟩ := enumD_get h
    exact ⟨y, by simpa using h1, by rw [h2]; congr 4; omega⟩
def iEnumD (m : Rho → M D) : Rho → M Src := fun ρ st => (m ρ st).bind fun d st1 => (lift (srcOf st1 d) st1).bind fun src st2 => .ok ⟨enumD 0 src.items, src.held⟩ st2
theorem new_pair {K : PySem.W.Frag} {F : Hp} {ι : List Addr} {st : Sto} {H : Hp} {T : Addr} {d1 d2 : D} {v1 v2 : V} {o : Obj} (S : Sim K F ι st H) (hT : H T = none) (ho : o.dict = none) (r1 : Rep K F ι d1 v1) (r2 : Rep K F ι d2 v2) :
    ∃ F2, Ext F ι H F2 ι (upd H T (.frz o (.tup [v1, v2]))) ∧ Sim K F2 ι st (upd H T (.frz o (.tup [v1, v2]))) ∧ Rep K F2 ι (.tup [d1, d2]) (.ref T) := by
  have x : Ext F ι H (upd F T (.frz o (.tup [v1, v2]))) ι (upd H T (.frz o (.tup [v1, v2]))) := Ext.frozen hT S.sub
  refine ⟨_, x, S.frozen hT trivial, ?_⟩
  simp only [Rep]
  exact ⟨T, [v1, v2], rfl, .inl ⟨o, ho, upd_same⟩, Reps.cons (r1.ext x) (Reps.cons (r2.ext x) Reps.nil)⟩
theorem di_enum {elts : List Expr} {kk : Nat} {tpos : Pos} (hg : Gl X "enumerate") (hm : X.mg "enumerate" = none) (h : DE X W e m1) (hs : starEach [e] X.env = [(false, eval e X.env)] := by rfl) : DI X W (.Tuple elts kk tpos) (.Call (.Name "enumerate" p) [e] [] pos) (iEnumD m1) := by
  have ha : PA X [e] (tCons (tV X.K W m1) tNil) := pa_cons h pa_nil hs
  refine PI.weak (pi_enumX hg hm ha hs) fun σ H Q ⟨F, ι, ρ, st, S, R, q⟩ => ?_
  refine tG_seq back_I S R q fun d st1 F1 ι1 H1 v1 x1 S1 R1 r1 q1 => ?_
  cases e1 : srcOf st1 d with
  | none => rw [e1] at q1; exact q1.elim
  | some src =>
    rw [e1] at q1
    obtain ⟨k, a, e, ⟨vs, hs⟩, hk⟩ := src_sq S1 r1 e1
    refine ⟨a, k, vs, by rw [e], hs, q1 F1 ι1 H1 (IteX X.K k a) Ext.refl S1 ⟨fun i F' ι' st' H' g S' ho hi => ?_, fun F' ι' st' H' g S' ho => ?_, fun i F' ι' st' H' x H2 d g S' ho hd y => ?_⟩⟩
    · obtain ⟨vs, hv, rv⟩ := hk F' ι' st' H' g S' ho
      have hi' : i < src.items.length := by
        have h0 : i < (enumD 0 src.items).length := hi
        rw [enumD_length] at h0
        exact h0
      obtain ⟨v, q, _⟩ := rv.get (List.getElem?_eq_getElem hi')
      exact ⟨vs, v, hv, q⟩
    · obtain ⟨vs, hv, rv⟩ := hk F' ι' st' H' g S' ho
      exact ⟨vs, hv, by rw [← rv.length]; exact (enumD_length _ _).symm⟩
    · obtain ⟨vs, hv, rv⟩ := hk F' ι' st' H' g S' ho
      obtain ⟨T, z, o, ex, hT, hd0, eH, y⟩ := y
      obtain ⟨w, hw, ed⟩ := enumD_get hd
      subst ex eH ed
      have e0 : ((0 + i : Nat) : Int) = (i : Int) := by omega
      rw [e0]
      exact new_pair S' hT hd0 (by simp only [Rep]) (rv.at hw (y vs hv))
end
end Dn
namespace Dn
open PySem PySem.Spec PyProof.Rows L2
variable [HzC]
theorem Ext.outF {F : Hp} {ι : List Addr} {H F' : Hp} {ι' : List Addr} {H' : Hp} (x : Ext F ι H F' ι' H') {p : Addr} (hH : H p ≠ none) (hF : F p = none) (hi : p ∉ ι) : F' p = none := by
  cases e : F' p with
  | none => rfl
  | some o =>
    rcases x.newF p o e with q | q | q
    · rw [hF] at q; cases q
    · exact absurd q hH
    · exact absurd q hi
theorem Ext.outI {F : Hp} {ι : List Addr} {H F' : Hp} {ι' : List Addr} {H' : Hp} (x : Ext F ι H F' ι' H') {p : Addr} (hH : H p ≠ none) (hi : p ∉ ι) : p ∉ ι' := fun h => by
  rcases x.newI p h with q | q
  · exact hi q
  · exact hH q
theorem Sim.outside {K : PySem.W.Frag} {F : Hp} {ι : List Addr} {st : Sto} {H : Hp} (S : Sim K F ι st H) {p : Addr} {o : HO} (hF : F p = none) (hi : p ∉ ι) : Sim K F ι st (upd H p o) := by
  have nf : ∀ a u, F a = some u → a ≠ p := fun a u h e => by rw [e, hF] at h; cases h
  have ni : ∀ a, a ∈ ι → a ≠ p := fun a h e => hi (by rw [← e]; exact h)
  refine ⟨fun a u h => by rw [upd_ne (nf a u h)]; exact S.sub a u h, S.kind, S.len, S.nd, S.free, fun a h => by rw [upd_ne (ni a h)]; exact S.there a h, fun l m a h1 h2 => ?_⟩
  exact (S.obj l m a h1 h2).mono (fun _ _ h => h) (fun _ _ h => h) (upd_ne (ni a (List.mem_of_getElem? h2)))
theorem Ext.outside {F : Hp} {ι : List Addr} {H F' : Hp} {ι' : List Addr} {H' : Hp} (x : Ext F ι H F' ι' H') {p : Addr} {o : HO} (h0 : H p = none) (h1 : H' p ≠ none) : Ext F ι H F' ι' (upd H' p o) := by
  refine ⟨x.f, x.i, fun a u h n => ?_, fun a h => ?_, x.newF, x.newI, x.long⟩
  · rw [upd_ne (ne_of_none h h0)]; exact x.keep a u h n
  · by_cases e : a = p
    · subst e; exact h0
    · rw [upd_ne e] at h; exact x.there a h
theorem wipe_idem (σ : L2.St) (vs : List Nat) : wipe (wipe σ vs) vs = wipe σ vs := by
  have key : ∀ (us : List Nat), (∀ u ∈ us, u ∈ vs) → ∀ τ : L2.St, wipe (wipe τ us) vs = wipe τ vs := by
    intro us
    induction us with
    | nil => intro _ τ; rfl
    | cons u us ih =>
      intro h τ
      show wipe ((wipe τ us).set u none) vs = _
      rw [wipe_set (h u (by simp)), ih (fun v hv => h v (List.mem_cons_of_mem _ hv))]
  exact key vs (fun _ h => h) σ
open Classical in
noncomputable def lcL (held : List (Nat × List D)) (f : D → Sto → Out (Option D)) : List D → Sto → Out (List D)
  | [], st => if heldOk held st then .ok [] st else .bad
  | d :: ds, st => if heldOk held st then (f d st).bind fun o st1 => (lcL held f ds st1).bind fun ys st2 => .ok (o.toList ++ ys) st2 else .bad
def lcF (gf : D → Rho → M Rho) (mt : Rho → M Bool) (me : Rho → M D) (ρ : Rho) : D → Sto → Out (Option D) := fun d st =>
  (gf d ρ st).bind fun ρ2 s2 => (mt ρ2 s2).bind fun b s3 => if b = true then (me ρ2 s3).bind fun y s4 => .ok (some y) s4 else .ok none s3
noncomputable def lLc (ms : Rho → M Src) (gf : D → Rho → M Rho) (mt : Rho → M Bool) (me : Rho → M D) (vs : List Nat) : Rho → M (List D) := fun ρ st =>
  (ms ρ st).bind fun src st1 => if src.items.length ≤ SZ then nox (lcL src.held (lcF gf mt me (wipeD ρ vs)) src.items st1) else .bad
theorem bind_ok {α β : Type} {r : Out α} {f : α → Sto → Out β} {b : β} {st : Sto} (h : r.bind f = .ok b st) : ∃ a st1, r = .ok a st1 ∧ f a st1 = .ok b st := by
  cases r with
  | ok a st1 => exact ⟨a, st1, rfl, h⟩
  | exc _ _ => cases h
  | bad => cases h
def DTs (X : Cx) (W : WX) (ifs : List Expr) (m : Rho → M Bool) : Prop := PTs X ifs (tT X.K W m)
def bYes : Rho → M Bool := fun _ st => .ok true st
theorem dts_nil {X : Cx} {W : WX} : DTs X W [] bYes := ⟨fun pins s σ H Q I ⟨F, ι, ρ, st, S, R, q⟩ => pts_nil.run pins s σ H Q I (q F ι H true Ext.refl S rfl)⟩
theorem dts_one {X : Cx} {W : WX} {c : Expr} {m : Rho → M Bool} (h : DT X W c m) : DTs X W [c] m := pts_one h
theorem post_ok {α β : Type} {K : PySem.W.Frag} {W : WX} {σ : L2.St} {F : Hp} {ι : List Addr} {H : Hp} {P : Hp → Hp → List Addr → Hp → α → β → Prop} {r : Out α} {a : α} {st : Sto} {Q : β → Hp → Prop} (e : r = .ok a st)
    (h : ∀ F' ι' H' b, Ext F ι H F' ι' H' → Sim K F' ι' st H' → P H F' ι' H' a b → Q b H') : post K W σ F ι H P r Q := by
  subst e
  exact h
theorem lc_of {K : PySem.W.Frag} {W : WX} {ms : Rho → M Src} {js : List Nat} {gf : D → Rho → M Rho} {mt : Rho → M Bool} {me : Rho → M D} {vs : List Nat} (hjs : ∀ j, j ∈ js → j ∈ vs) {σ : L2.St} {H : Hp} {Q : VK} (h : tL K W (lLc ms gf mt me vs) σ H Q) :
    tLc (tG K W (pI K) ms) (tGt K js gf) (tT K wN mt) (tV K wN me) vs σ H Q := by
  obtain ⟨F, ι, ρ, st, S, R, q⟩ := h
  refine tG_seq back_L S R q fun src st1 F1 ι1 H1 J x1 S1 R1 hJ q1 => ?_
  have hJ : SrcIt K F1 ι1 src J := hJ
  split at q1
  rotate_left
  · exact q1.elim
  rename_i hsz
  intro D hD
  cases er : lcL src.held (lcF gf mt me (wipeD ρ vs)) src.items st1 with
  | exc _ _ => rw [er] at q1; exact (q1 : False).elim
  | bad => rw [er] at q1; exact (q1 : False).elim
  | ok tot stf =>
    rw [er] at q1
    have q1 : ∀ F' ι' H' b, Ext F1 ι1 H1 F' ι' H' → Sim K F' ι' stf H' → pL K H1 F' ι' H' tot b → Q b H' := q1
    refine ⟨fun i m H' => m = src.items.length - i ∧ i ≤ src.items.length ∧ ∃ F' ι' st' acc av, Ext F1 ι1 H1 F' ι' H' ∧ Sim K F' ι' st' H' ∧ H' D = some (.lst av) ∧ F' D = none ∧ D ∉ ι' ∧ Reps K F' ι' acc av ∧ acc.length ≤ i ∧
      ∃ ys, lcL src.held (lcF gf mt me (wipeD ρ vs)) (src.items.drop i) st' = .ok ys stf ∧ acc ++ ys = tot, ⟨_, rfl, Nat.zero_le _, F1, ι1, st1, [], [], Ext.laid hD, S1.laid hD, upd_same, ?_, fun h => S1.there D h hD, Reps.nil, Nat.zero_le _, tot, er, rfl⟩, ?_⟩
    · cases e : F1 D with
      | none => rfl
      | some o =>
        have := S1.sub D o e
        rw [hD] at this
        cases this
    rintro i m H' ⟨rfl, hi, F', ι', st', acc, av, x', S', hv, hF', hi', ra, hla, ys, ey, et⟩
    by_cases hlt : i < src.items.length
    · right
      rw [List.drop_eq_getElem_cons hlt] at ey
      unfold lcL at ey
      split at ey
      rotate_left
      · cases ey
      rename_i ho
      obtain ⟨o, st2, e1, ey⟩ := bind_ok ey
      obtain ⟨ys', st3, e2, ey⟩ := bind_ok ey
      cases ey
      have g' : Grow F1 ι1 F' ι' := x'.grow
      refine ⟨hJ.go i F' ι' st' H' g' S' ho hlt, fun H'' => ∃ m', m' < src.items.length - i ∧ _, fun H'' h => h, fun x H2 y => ?_⟩
      obtain ⟨F2, x2, S2, r2⟩ := hJ.yld i F' ι' st' H' x H2 src.items[i] g' S' ho (by simp [hlt]) y
      unfold lcF at e1
      obtain ⟨ρ2, s2, e3, e1⟩ := bind_ok e1
      obtain ⟨b, s3, e4, e1⟩ := bind_ok e1
      have nH' : H' D ≠ none := by rw [hv]; simp
      refine ⟨F2, ι', wipeD ρ vs, st', _, S2, ((R1.ext x').ext x2).wipe vs, r2, post_ok e3 fun F3 ι3 H3 σ2 x3 S3 ⟨R3, hw⟩ => ?_⟩
      refine ⟨(hw vs hjs).trans (wipe_idem σ vs), F3, ι3, ρ2, s2, S3, R3, post_ok e4 fun F4 ι4 H4 b' x4 S4 eb => ?_⟩
      have eb : b = b' := eb
      subst eb
      have xx4 : Ext F' ι' H' F4 ι4 H4 := (x2.trans x3).trans x4
      cases b with
      | false =>
        rw [if_neg (by decide)] at e1 ⊢
        cases e1
        refine ⟨_, ?_, rfl, hlt, F4, ι4, _, acc, av, x'.trans xx4, S4, xx4.keep D _ hv hi', xx4.outF nH' hF' hi', xx4.outI nH' hi', ra.ext xx4, Nat.le_succ_of_le hla, ys', e2, et⟩
        omega
      | true =>
        rw [if_pos rfl] at e1 ⊢
        obtain ⟨yd, s4, e5, e1⟩ := bind_ok e1
        cases e1
        refine ⟨F4, ι4, ρ2, s3, S4, R3.ext x4, post_ok e5 fun F5 ι5 H5 yv x5 S5 r5 => ?_⟩
        have xx5 : Ext F' ι' H' F5 ι5 H5 := xx4.trans x5
        have hv5 := xx5.keep D _ hv hi'
        have hF5 := xx5.outF nH' hF' hi'
        have hi5 := xx5.outI nH' hi'
        refine ⟨av, hv5, by rw [← ra.length]; exact sz_lt (by omega), _, ?_, rfl, hlt, F5, ι5, _, acc ++ [yd], av ++ [yv], (x'.trans xx5).outside hD (by rw [hv5]; simp), S5.outside hF5 hi5, upd_same, hF5, hi5, (ra.ext xx5).snoc r5, ?_, ys', e2, ?_⟩
        · omega
        · rw [List.length_append]; simp; omega
        · rw [← et]; simp
    · left
      have e0 : i = src.items.length := by omega
      subst e0
      rw [List.drop_length] at ey
      unfold lcL at ey
      split at ey
      rotate_left
      · cases ey
      rename_i ho
      cases ey
      rw [List.append_nil] at et
      subst et
      exact ⟨hJ.stop F' ι' _ H' x'.grow S' ho, q1 F' ι' H' (.ref D) x' S' ⟨D, av, rfl, hv, hF', hi', hD, ra⟩⟩
section
variable {X : Cx} {W : WX} {pos spos py : Pos} {tg iter elt : Expr} {ifs : List Expr} {scope : Scope} {own : List (Str × Nat)} {ms : Rho → M Src} {js : List Nat} {gf : D → Rho → M Rho} {mt : Rho → M Bool} {me : Rho → M D}
theorem dl_lc (hc : X.calm = true) (hN : X.N.Nodup) (hi : DI X W tg iter ms) (ok : BlkOk X.N X.env.scope scope own) (hjs : ∀ j, j ∈ js → j ∈ own.map (·.2))
    (hg : ∀ (s : Shared) (H : Hp) (C : Addr) (cl : List (Str × Addr)) (fp : List Addr), DG (X.blk s H scope (compEnvC scope cl C X.env) fp) js tg gf) (ht : ∀ (s : Shared) (H : Hp) (C : Addr) (cl : List (Str × Addr)) (fp : List Addr), DTs (X.blk s H scope (compEnvC scope cl C X.env) fp) wN ifs mt)
    (he : ∀ (s : Shared) (H : Hp) (C : Addr) (cl : List (Str × Addr)) (fp : List Addr), DE (X.blk s H scope (compEnvC scope cl C X.env) fp) wN elt me) (hs : ∀ x, foldedSetIterable iter X.env x = pure x := by intro _; rfl) :
    DL X W (.ListComp elt [⟨tg, iter, ifs, 0⟩] scope pos) (lLc ms gf mt me (own.map (·.2))) :=
  PE.weak (pe_lc (g := tGt X.K js gf) (tt := tT X.K wN mt) (te := tV X.K wN me) hc hN hi ok hg ht he hs) fun _ _ _ h => lc_of hjs h
end
inductive Fl where
  | next (ρ : Rho) (st : Sto) | ret (d : D) (st : Sto) | brk (ρ : Rho) (st : Sto) | cnt (ρ : Rho) (st : Sto) | exc (x : Xc) (ρ : Rho) (st : Sto) | bad
def Out.fl {α : Type} (r : Out α) (ρ : Rho) (f : α → Sto → Fl) : Fl := match r with
  | .ok a st => f a st
  | .exc x st => .exc x ρ st
  | .bad => .bad
@[simp] theorem Out.fl_ok {α : Type} (a : α) (st : Sto) (ρ : Rho) (f : α → Sto → Fl) : (Out.ok a st).fl ρ f = f a st := rfl
@[simp] theorem Out.fl_exc {α : Type} (x : Xc) (st : Sto) (ρ : Rho) (f : α → Sto → Fl) : (Out.exc x st : Out α).fl ρ f = .exc x ρ st := rfl
@[simp] theorem Out.fl_bad {α : Type} (ρ : Rho) (f : α → Sto → Fl) : (Out.bad : Out α).fl ρ f = .bad := rfl
def sPost (K : PySem.W.Frag) (W : WX) (E : Ends) (F : Hp) (ι : List Addr) (H : Hp) (r : Fl) : Prop := match r with
  | .next ρ' st' => ∀ F' ι' H' σ', Ext F ι H F' ι' H' → Sim K F' ι' st' H' → REnv K F' ι' ρ' σ' → E.nx σ' H'
  | .brk ρ' st' => ∀ F' ι' H' σ', Ext F ι H F' ι' H' → Sim K F' ι' st' H' → REnv K F' ι' ρ' σ' → E.bk σ' H'
  | .cnt ρ' st' => ∀ F' ι' H' σ', Ext F ι H F' ι' H' → Sim K F' ι' st' H' → REnv K F' ι' ρ' σ' → E.ct σ' H'
  | .ret d st' => ∀ F' ι' H' v, Ext F ι H F' ι' H' → Sim K F' ι' st' H' → Rep K F' ι' d v → E.rt v H'
  | .exc x ρ' st' => ∀ F' ι' H' cls dd σ', Ext F ι H F' ι' H' → Sim K F' ι' st' H' → REnv K F' ι' ρ' σ' → XcR K F' ι' H' x cls dd → W cls dd σ' H'
  | .bad => False
theorem sPost_ext {K : PySem.W.Frag} {W : WX} {E : Ends} {F F1 : Hp} {ι ι1 : List Addr} {H H1 : Hp} {r : Fl} (h : sPost K W E F ι H r) (x : Ext F ι H F1 ι1 H1) : sPost K W E F1 ι1 H1 r := by
  cases r with
  | next ρ st => exact fun F' ι' H' σ' y => h F' ι' H' σ' (x.trans y)
  | brk ρ st => exact fun F' ι' H' σ' y => h F' ι' H' σ' (x.trans y)
  | cnt ρ st => exact fun F' ι' H' σ' y => h F' ι' H' σ' (x.trans y)
  | ret d st => exact fun F' ι' H' σ' y => h F' ι' H' σ' (x.trans y)
  | exc e ρ st => exact fun F' ι' H' c d σ' y => h F' ι' H' c d σ' (x.trans y)
  | bad => exact h
def tS (K : PySem.W.Frag) (W : WX) (m : Rho → Sto → Fl) : TS := fun E σ H => ∃ F ι ρ st, Sim K F ι st H ∧ REnv K F ι ρ σ ∧ sPost K W E F ι H (m ρ st)
def DS (X : Cx) (W : WX) (s : Stmt) (m : Rho → Sto → Fl) : Prop := PS X s (tS X.K W m)
def DSs (X : Cx) (W : WX) (s : List Stmt) (m : Rho → Sto → Fl) : Prop := PSs X s (tS X.K W m)
theorem fl_seq {α β : Type} {K : PySem.W.Frag} {W : WX} {P : Hp → Hp → List Addr → Hp → α → β → Prop} {m : Rho → M α} {E : Ends} {σ : L2.St} {F : Hp} {ι : List Addr} {H : Hp} {ρ : Rho} {st : Sto} {f : α → Sto → Fl} {Q' : β → Hp → Prop}
    (S : Sim K F ι st H) (R : REnv K F ι ρ σ) (h : sPost K W E F ι H ((m ρ st).fl ρ f))
    (k : ∀ a st1 F1 ι1 H1 b, Ext F ι H F1 ι1 H1 → Sim K F1 ι1 st1 H1 → REnv K F1 ι1 ρ σ → P H F1 ι1 H1 a b → sPost K W E F1 ι1 H1 (f a st1) → Q' b H1) : tG K W P m σ H Q' := by
  refine ⟨F, ι, ρ, st, S, R, ?_⟩
  cases e : m ρ st with
  | ok a st1 =>
    rw [e] at h
    exact fun F1 ι1 H1 b x S1 p => k a st1 F1 ι1 H1 b x S1 (R.ext x) p (sPost_ext h x)
  | exc y st1 =>
    rw [e] at h
    exact fun F1 ι1 H1 c d x S1 p => h F1 ι1 H1 c d σ x S1 (R.ext x) p
  | bad =>
    rw [e] at h
    exact h
section
variable {X : Cx} {W : WX} {pos : Pos} {st : Stmt} {rest : List Stmt} {s1 s2 : Rho → Sto → Fl}
def sNext : Rho → Sto → Fl := fun ρ st => .next ρ st
def Fl.seq (r : Fl) (k : Rho → Sto → Fl) : Fl := match r with
  | .next ρ st => k ρ st
  | r => r
def sSeq (s1 s2 : Rho → Sto → Fl) : Rho → Sto → Fl := fun ρ st => (s1 ρ st).seq s2
theorem dss_nil : DSs X W [] sNext := PSs.weak pss_nil fun E σ H ⟨F, ι, ρ, st, S, R, q⟩ => q F ι H σ Ext.refl S R
theorem dss_cons (h1 : DS X W st s1) (h2 : DSs X W rest s2) : DSs X W (st :: rest) (sSeq s1 s2) := by
  refine PSs.weak (pss_cons h1 h2) fun E σ H ⟨F, ι, ρ, st, S, R, q⟩ => ⟨F, ι, ρ, st, S, R, ?_⟩
  unfold sSeq Fl.seq at q
  generalize s1 ρ st = r at q
  cases r with
  | next ρ1 st1 => exact fun F' ι' H' σ' x S' R' => ⟨F', ι', ρ1, st1, S', R', sPost_ext q x⟩
  | ret d st1 => exact q
  | brk ρ1 st1 => exact q
  | cnt ρ1 st1 => exact q
  | exc x ρ1 st1 => exact q
  | bad => exact q
theorem dss_one (h1 : DS X W st s1) : DSs X W [st] s1 := pss_one h1
def sBrk : Rho → Sto → Fl := fun ρ st => .brk ρ st
def sCnt : Rho → Sto → Fl := fun ρ st => .cnt ρ st
variable {e c : Expr} {m : Rho → M D} {mt : Rho → M Bool}
def sDrop (m : Rho → M D) : Rho → Sto → Fl := fun ρ st => (m ρ st).fl ρ fun _ st1 => .next ρ st1
theorem ds_expr (he : DE X W e m) (hs : swapsWith e none pos.line X.env = pure false := by rfl) : DS X W (.Expr e pos) (sDrop m) :=
  PS.weak (ps_expr he hs) fun E σ H ⟨F, ι, ρ, st, S, R, q⟩ => fl_seq S R q fun a st1 F1 ι1 H1 b x1 S1 R1 r1 q1 => q1 F1 ι1 H1 σ Ext.refl S1 R1
def sRet (m : Rho → M D) : Rho → Sto → Fl := fun ρ st => (m ρ st).fl ρ fun d st1 => .ret d st1
theorem ds_ret (he : DE X W e m) : DS X W (.Return (some e) pos) (sRet m) :=
  PS.weak (ps_ret he) fun E σ H ⟨F, ι, ρ, st, S, R, q⟩ => fl_seq S R q fun a st1 F1 ι1 H1 b x1 S1 R1 r1 q1 => q1 F1 ι1 H1 b Ext.refl S1 r1
def sIf (t : Rho → M Bool) (s1 s2 : Rho → Sto → Fl) : Rho → Sto → Fl := fun ρ st => (t ρ st).fl ρ fun b st1 => if b = true then s1 ρ st1 else s2 ρ st1
theorem ds_if {p1 p2 : List Stmt} (hc : DT X W c mt) (h1 : DSs X W p1 s1) (h2 : DSs X W p2 s2) : DS X W (.If c p1 p2 pos) (sIf mt s1 s2) := by
  refine PS.weak (ps_if hc h1 h2) fun E σ H ⟨F, ι, ρ, st, S, R, q⟩ => fl_seq S R q fun a st1 F1 ι1 H1 b x1 S1 R1 r1 q1 => ?_
  have r1 : a = b := r1
  subst r1
  cases a with
  | true => exact ⟨F1, ι1, ρ, st1, S1, R1, q1⟩
  | false => exact ⟨F1, ι1, ρ, st1, S1, R1, q1⟩
def sAsg (gf : D → Rho → M Rho) (m : Rho → M D) : Rho → Sto → Fl := fun ρ st => (m ρ st).fl ρ fun d st1 => (nox (gf d ρ st1)).fl ρ fun ρ2 st2 => .next ρ2 st2
theorem ds_asg {tg : Expr} {js : List Nat} {gf : D → Rho → M Rho} (he : DE X W e m) (hg : DG X js tg gf) (hs : swapsWithSole [tg] e pos.line X.env = pure false := by rfl) (hw : swappedStores [tg] e X.env = pure none := by rfl)
    (h1 : (assignEach [tg] X.env).map (·.2) = [assign tg X.env] := by rfl) : DS X W (.Assign [tg] e pos) (sAsg gf m) := by
  refine PS.weak (ps_asg he hg hs hw h1) fun E σ H ⟨F, ι, ρ, st, S, R, q⟩ => fl_seq S R q fun a st1 F1 ι1 H1 b x1 S1 R1 r1 q1 => ?_
  refine ⟨F1, ι1, ρ, st1, a, S1, R1, r1, ?_⟩
  cases e1 : gf a ρ st1 with
  | ok ρ2 st2 =>
    rw [e1] at q1
    exact fun F' ι' H' σ' x S' r => q1 F' ι' H' σ' x S' r.1
  | exc _ _ => rw [e1] at q1; exact (q1 : False).elim
  | bad => rw [e1] at q1; exact (q1 : False).elim
theorem name_of {K : PySem.W.Frag} {i : Nat} {E : Ends} {σ : L2.St} {H : Hp} (h : tS K W (sAsg (gN i) m) E σ H) : tV K W m σ H fun x H1 => gName i x σ H1 E.nx := by
  obtain ⟨F, ι, ρ, st, S, R, q⟩ := h
  exact fl_seq S R q fun a st1 F1 ι1 H1 b x1 S1 R1 r1 q1 => q1 F1 ι1 H1 _ Ext.refl S1 (R1.set r1 i)
theorem ds_set {i : Nat} {x : Str} {pos' : Pos} (hN : X.N.Nodup) (hi : X.N[i]? = some x) (hx : Loc X.env.scope x) (he : DE X W e m) (hs : swapsWith e (some (.Name x pos')) pos.line X.env = pure false := by rfl) (hf : X.fn x = true ∨ X.env.scope.names.lookup x = some .local := by first | exact .inl rfl | exact .inr rfl | assumption) :
    DS X W (.Assign [.Name x pos'] e pos) (sAsg (gN i) m) :=
  PS.weak (ps_set hN hi hx he hs hf) fun E σ H h => name_of h
theorem ds_setLc {spos py : Pos} {tg iter elt : Expr} {ifs : List Expr} {scope : Scope} {own : List (Str × Nat)} {ms : Rho → M Src} {js : List Nat} {gf : D → Rho → M Rho} {mt : Rho → M Bool} {me : Rho → M D} {i : Nat} {y : Str} (fz : Bool) (hc : X.calm = true) (hN : X.N.Nodup) (hy : X.N[i]? = some y) (hyl : X.env.scope.names.lookup y = some .local)
    (hsw : swapsWith (.ListComp elt [⟨tg, iter, ifs, 0⟩] scope pos) (some (.Name y py)) spos.line X.env = pure true) (hi : DI X W tg iter ms) (ok : BlkOk X.N X.env.scope scope own) (hjs : ∀ j, j ∈ js → j ∈ own.map (·.2))
    (hg : ∀ (s : Shared) (H : Hp) (C : Addr) (cl : List (Str × Addr)) (fp : List Addr), DG (X.blk s H scope (compEnvC scope cl C X.env) fp) js tg gf) (ht : ∀ (s : Shared) (H : Hp) (C : Addr) (cl : List (Str × Addr)) (fp : List Addr), DTs (X.blk s H scope (compEnvC scope cl C X.env) fp) wN ifs mt)
    (he : ∀ (s : Shared) (H : Hp) (C : Addr) (cl : List (Str × Addr)) (fp : List Addr), DE (X.blk s H scope (compEnvC scope cl C X.env) fp) wN elt me) (hs : ∀ x, foldedSetIterable iter X.env x = pure x := by intro _; rfl) :
    DS X W (.Assign [.Name y py] (.ListComp elt [⟨tg, iter, ifs, 0⟩] scope pos) spos) (sAsg (gN i) ((if fz = true then mFrz else mNew) (lLc ms gf mt me (own.map (·.2))))) :=
  PS.weak (ps_setLc (g := tGt X.K js gf) (tt := tT X.K wN mt) (te := tV X.K wN me) hc hN hy hyl hsw hi ok hg ht he hs) fun E σ H h => lc_of hjs (by
    have q := name_of h
    cases fz with
    | true => exact frz_of q
    | false => exact new_of q)
def sPar (i j : Nat) (a : Rho → M (List D)) : Rho → Sto → Fl := fun ρ st => (a ρ st).fl ρ fun ds st1 => match ds with
  | [x, y] => .next ((ρ.set i (some x)).set j (some y)) st1
  | _ => .bad
theorem ds_par {i j : Nat} {x y : Str} {a b : Expr} {am : Rho → M (List D)} {px py pt : Pos} {kt k2 pt2} (hc : X.calm = true) (hN : X.N.Nodup) (hi : X.N[i]? = some x) (hj : X.N[j]? = some y) (hij : i ≠ j)
    (hx : X.env.scope.names.lookup x = some .local) (hy : X.env.scope.names.lookup y = some .local) (ha : DA X W [a, b] am)
    (hw : swappedStores [.Tuple [.Name x px, .Name y py] kt pt] (.Tuple [a, b] k2 pt2) X.env = pure (some [x, y]))
    (hs : swapsWithSole [.Tuple [.Name x px, .Name y py] kt pt] (.Tuple [a, b] k2 pt2) pos.line X.env = pure false := by rfl) :
    DS X W (.Assign [.Tuple [.Name x px, .Name y py] kt pt] (.Tuple [a, b] k2 pt2) pos) (sPar i j am) := by
  refine PS.weak (ps_par hc hN hi hj hij hx hy ha hw hs) fun E σ H ⟨F, ι, ρ, st, S, R, q⟩ => fl_seq S R q fun ds st1 F1 ι1 H1 vs x1 S1 R1 r1 q1 => ?_
  split at q1
  · rename_i d1 d2
    obtain ⟨v1, v2, e, r1, r2⟩ := Reps.two (show Reps X.K F1 ι1 [d1, d2] vs from r1)
    exact ⟨v1, v2, e, q1 F1 ι1 H1 _ Ext.refl S1 ((R1.set r1 i).set r2 j)⟩
  · exact q1.elim
open Classical in
noncomputable def forL (held : List (Nat × List D)) (body : D → Rho → Sto → Fl) : List D → Rho → Sto → Fl
  | [], ρ, st => if heldOk held st then .next ρ st else .bad
  | d :: ds, ρ, st => if heldOk held st then (match body d ρ st with
    | .next ρ' st' => forL held body ds ρ' st'
    | .cnt ρ' st' => forL held body ds ρ' st'
    | .brk ρ' st' => .next ρ' st'
    | r => r) else .bad
def forB (gf : D → Rho → M Rho) (mb : Rho → Sto → Fl) : D → Rho → Sto → Fl := fun d ρ st => (nox (gf d ρ st)).fl ρ fun ρ' st' => mb ρ' st'
noncomputable def sFor (ms : Rho → M Src) (gf : D → Rho → M Rho) (mb : Rho → Sto → Fl) : Rho → Sto → Fl := fun ρ st => (ms ρ st).fl ρ fun src st1 => forL src.held (forB gf mb) src.items ρ st1
theorem ds_for {tg iter : Expr} {body : List Stmt} {ms : Rho → M Src} {js : List Nat} {gf : D → Rho → M Rho} {mb : Rho → Sto → Fl} (hp : PassesOwn (model X.prog X.w) X.A X.env X.xe) (hc : X.calm = true) (hi : DI X W tg iter ms) (hg : DG X js tg gf) (hb : DSs X W body mb)
    (hs : ∀ x, foldedSetIterable iter X.env x = pure x := by intro _; rfl) : DS X W (.For tg iter body [] pos) (sFor ms gf mb) := by
  refine PS.weak (ps_for hp hc hi hg hb hs) fun E σ H ⟨F, ι, ρ, st, S, R, q⟩ => fl_seq S R q fun src st1 F1 ι1 H1 J x1 S1 R1 hJ q1 => ?_
  have hJ : SrcIt X.K F1 ι1 src J := hJ
  refine ⟨fun i m σ' H' => m = src.items.length - i ∧ i ≤ src.items.length ∧ ∃ F' ι' ρ' st', Ext F1 ι1 H1 F' ι' H' ∧ Sim X.K F' ι' st' H' ∧ REnv X.K F' ι' ρ' σ' ∧ sPost X.K W E F' ι' H' (forL src.held (forB gf mb) (src.items.drop i) ρ' st'),
    ⟨_, rfl, Nat.zero_le _, F1, ι1, ρ, st1, Ext.refl, S1, R1, q1⟩, ?_⟩
  rintro i m σ' H' ⟨rfl, hi, F', ι', ρ', st', x', S', R', q'⟩
  by_cases hlt : i < src.items.length
  · right
    rw [List.drop_eq_getElem_cons hlt] at q'
    unfold forL at q'
    split at q'
    rotate_left
    · exact q'.elim
    rename_i ho
    refine ⟨hJ.go i F' ι' st' H' x'.grow S' ho hlt, fun σ'' H'' => ∃ m', m' < src.items.length - i ∧ _, fun σ'' H'' h => h, fun x H2 y => ?_⟩
    obtain ⟨F2, x2, S2, r2⟩ := hJ.yld i F' ι' st' H' x H2 src.items[i] x'.grow S' ho (by simp [hlt]) y
    refine ⟨F2, ι', ρ', st', _, S2, R'.ext x2, r2, ?_⟩
    unfold forB at q'
    cases e1 : gf src.items[i] ρ' st' with
    | exc _ _ => rw [e1] at q'; exact (q' : False).elim
    | bad => rw [e1] at q'; exact (q' : False).elim
    | ok ρ2 st2 =>
      rw [e1] at q'
      intro F3 ι3 H3 σ3 x3 S3 R3
      refine ⟨F3, ι3, ρ2, st2, S3, R3.1, ?_⟩
      have xx : Ext F' ι' H' F3 ι3 H3 := x2.trans x3
      have q'' := sPost_ext q' xx
      simp only [nox_ok, Out.fl_ok] at q''
      cases e2 : mb ρ2 st2 with
      | next ρ4 st4 =>
        rw [e2] at q''
        intro F4 ι4 H4 σ4 x4 S4 R4
        exact ⟨src.items.length - (i + 1), by omega, rfl, hlt, F4, ι4, ρ4, st4, (x'.trans xx).trans x4, S4, R4, sPost_ext q'' x4⟩
      | cnt ρ4 st4 =>
        rw [e2] at q''
        intro F4 ι4 H4 σ4 x4 S4 R4
        exact ⟨src.items.length - (i + 1), by omega, rfl, hlt, F4, ι4, ρ4, st4, (x'.trans xx).trans x4, S4, R4, sPost_ext q'' x4⟩
      | brk ρ4 st4 => rw [e2] at q''; exact q''
      | ret d st4 => rw [e2] at q''; exact q''
      | exc x ρ4 st4 => rw [e2] at q''; exact q''
      | bad => rw [e2] at q''; exact q''
  · left
    have e0 : i = src.items.length := by omega
    subst e0
    rw [List.drop_length] at q'
    unfold forL at q'
    split at q'
    rotate_left
    · exact q'.elim
    rename_i ho
    exact ⟨hJ.stop F' ι' st' H' x'.grow S' ho, q' F' ι' H' σ' Ext.refl S' R'⟩
def whileL (t : Rho → M Bool) (mb : Rho → Sto → Fl) : Nat → Rho → Sto → Fl
  | 0, _, _ => .bad
  | n + 1, ρ, st => (t ρ st).fl ρ fun b st1 => if b = true then (match mb ρ st1 with
    | .next ρ' st' => whileL t mb n ρ' st'
    | .cnt ρ' st' => whileL t mb n ρ' st'
    | .brk ρ' st' => .next ρ' st'
    | r => r) else .next ρ st1
def sWhile (n : Nat) (t : Rho → M Bool) (mb : Rho → Sto → Fl) : Rho → Sto → Fl := fun ρ st => whileL t mb n ρ st
theorem ds_while {n : Nat} {body : List Stmt} {mb : Rho → Sto → Fl} (hp : PassesOwn (model X.prog X.w) X.A X.env X.xe) (hc : DT X W c mt) (hb : DSs X W body mb) : DS X W (.While c body [] pos) (sWhile n mt mb) := by
  refine PS.weak (ps_while hp hc hb) fun E σ H ⟨F, ι, ρ, st, S, R, q⟩ => ?_
  refine ⟨fun m σ' H' => ∃ F' ι' ρ' st', Sim X.K F' ι' st' H' ∧ REnv X.K F' ι' ρ' σ' ∧ sPost X.K W E F' ι' H' (whileL mt mb m ρ' st'), ⟨n, F, ι, ρ, st, S, R, q⟩, ?_⟩
  rintro m σ' H' ⟨F', ι', ρ', st', S', R', q'⟩
  cases m with
  | zero => exact (q' : False).elim
  | succ m =>
    refine fl_seq S' R' q' fun a st1 F1 ι1 H1 b x1 S1 R1 r1 q1 => ?_
    have r1 : a = b := r1
    subst r1
    cases a with
    | false => exact q1 F1 ι1 H1 σ' Ext.refl S1 R1
    | true =>
      rw [if_pos rfl] at q1 ⊢
      refine ⟨fun σ'' H'' => ∃ m', m' < m + 1 ∧ _, fun σ'' H'' h => h, F1, ι1, ρ', st1, S1, R1, ?_⟩
      cases e2 : mb ρ' st1 with
      | next ρ4 st4 =>
        rw [e2] at q1
        exact fun F4 ι4 H4 σ4 x4 S4 R4 => ⟨m, Nat.lt_succ_self m, F4, ι4, ρ4, st4, S4, R4, sPost_ext q1 x4⟩
      | cnt ρ4 st4 =>
        rw [e2] at q1
        exact fun F4 ι4 H4 σ4 x4 S4 R4 => ⟨m, Nat.lt_succ_self m, F4, ι4, ρ4, st4, S4, R4, sPost_ext q1 x4⟩
      | brk ρ4 st4 => rw [e2] at q1; exact q1
      | ret d st4 => rw [e2] at q1; exact q1
      | exc x ρ4 st4 => rw [e2] at q1; exact q1
      | bad => rw [e2] at q1; exact q1
end
end Dn
namespace Dn
open PySem PySem.Spec PyProof.Rows L2
variable [HzC]
mutual
def D.low (n : Nat) : D → Bool
  | .tup xs => D.lows n xs
  | .lst xs => D.lows n xs
  | .scr xs => D.lows n xs
  | .ref l => decide (l < n)
  | .non => true
  | .bl _ => true
  | .int _ => true
  | .str _ => true
  | .adr _ => true
  | .fd _ xs => D.lows n xs
  | .exo _ _ _ d => D.low n d
  | .obj _ _ xs => D.lows n xs
  | .sd _ => true
  | .fnv _ => true
def D.lows (n : Nat) : List D → Bool
  | [] => true
  | d :: ds => D.low n d && D.lows n ds
end
def MO.low (n : Nat) : MO → Bool
  | .lst xs => D.lows n xs
  | .dct _ xs => D.lows n xs
  | .dcs _ xs => D.lows n xs
  | .gone => true
  | .ins _ fs => fs.all fun p => p.2.low n
section
variable {K : PySem.W.Frag} {F F' : Hp} {ι ι' : List Addr} {H H' : Hp} {st st' : Sto} {n : Nat}
mutual
theorem Rep.cut : ∀ (d : D) (v : V), Rep K F ι d v → d.low n = true → Rep K F (ι.take n) d v
  | .non, _, h, _ => by simpa only [Rep] using h
  | .bl _, _, h, _ => by simpa only [Rep] using h
  | .int _, _, h, _ => by simpa only [Rep] using h
  | .str _, _, h, _ => by simpa only [Rep] using h
  | .adr _, _, h, _ => by simpa only [Rep] using h
  | .tup xs, v, h, l => by
    simp only [Rep] at h ⊢
    simp only [D.low] at l
    obtain ⟨a, vs, e, q, r⟩ := h
    exact ⟨a, vs, e, q, Reps.cut xs vs r l⟩
  | .lst xs, v, h, l => by
    simp only [Rep] at h ⊢
    simp only [D.low] at l
    obtain ⟨a, vs, e, q, r⟩ := h
    exact ⟨a, vs, e, q, Reps.cut xs vs r l⟩
  | .scr xs, v, h, l => by
    simp only [Rep] at h ⊢
    simp only [D.low] at l
    obtain ⟨a, vs, e, q, r⟩ := h
    exact ⟨a, vs, e, q, Reps.cut xs vs r l⟩
  | .ref j, v, h, l => by
    simp only [Rep] at h ⊢
    simp only [D.low, decide_eq_true_eq] at l
    obtain ⟨a, e, q⟩ := h
    exact ⟨a, e, by rw [List.getElem?_take_of_lt l]; exact q⟩
  | .fd ks ds, v, h, l => by
    simp only [Rep] at h ⊢
    simp only [D.low] at l
    obtain ⟨a, xs, ws, e, z, q, kt, vr, r⟩ := h
    exact ⟨a, xs, ws, e, z, q, kt, vr, Reps.cut ds ws r l⟩
  | .exo a dd g d, v, h, l => by
    simp only [Rep] at h ⊢
    simp only [D.low] at l
    obtain ⟨e, u, q, r⟩ := h
    exact ⟨e, u, q, Rep.cut d u r l⟩
  | .obj nm ks ds, v, h, l => by
    simp only [Rep] at h ⊢
    simp only [D.low] at l
    obtain ⟨a, C, dx, gs, e, z, q, kk, r⟩ := h
    exact ⟨a, C, dx, gs, e, z, q, kk, Reps.cut ds _ r l⟩
  | .sd kvs, v, h, l => by
    simp only [Rep] at h ⊢
    exact h
  | .fnv _, v, h, l => by
    simp only [Rep] at h ⊢
    exact h
theorem Reps.cut : ∀ (ds : List D) (vs : List V), Reps K F ι ds vs → D.lows n ds = true → Reps K F (ι.take n) ds vs
  | [], _, h, _ => by simpa only [Reps] using h
  | d :: ds, vs, h, l => by
    simp only [Reps] at h ⊢
    simp only [D.lows, Bool.and_eq_true] at l
    obtain ⟨v, r, e, h1, h2⟩ := h
    exact ⟨v, r, e, Rep.cut d v h1 l.1, Reps.cut ds r h2 l.2⟩
end
mutual
theorem Rep.isLow : ∀ (d : D) (v : V), Rep K F ι d v → d.low ι.length = true
  | .non, _, _ => by simp only [D.low]
  | .bl _, _, _ => by simp only [D.low]
  | .int _, _, _ => by simp only [D.low]
  | .str _, _, _ => by simp only [D.low]
  | .adr _, _, _ => by simp only [D.low]
  | .tup xs, v, h => by
    simp only [Rep] at h
    simp only [D.low]
    obtain ⟨a, vs, e, q, r⟩ := h
    exact Reps.isLow xs vs r
  | .lst xs, v, h => by
    simp only [Rep] at h
    simp only [D.low]
    obtain ⟨a, vs, e, q, r⟩ := h
    exact Reps.isLow xs vs r
  | .scr xs, v, h => by
    simp only [Rep] at h
    simp only [D.low]
    obtain ⟨a, vs, e, q, r⟩ := h
    exact Reps.isLow xs vs r
  | .ref j, v, h => by
    simp only [Rep] at h
    simp only [D.low, decide_eq_true_eq]
    obtain ⟨a, e, q⟩ := h
    exact (List.getElem?_eq_some_iff.mp q).1
  | .fd ks ds, v, h => by
    simp only [Rep] at h
    simp only [D.low]
    obtain ⟨a, xs, ws, e, z, q, kt, vr, r⟩ := h
    exact Reps.isLow ds ws r
  | .exo a dd g d, v, h => by
    simp only [Rep] at h
    simp only [D.low]
    obtain ⟨e, u, q, r⟩ := h
    exact Rep.isLow d u r
  | .obj nm ks ds, v, h => by
    simp only [Rep] at h
    simp only [D.low]
    obtain ⟨a, C, dx, gs, e, z, q, kk, r⟩ := h
    exact Reps.isLow ds _ r
  | .sd kvs, v, h => by simp only [D.low]
  | .fnv _, v, h => by simp only [D.low]
theorem Reps.isLow : ∀ (ds : List D) (vs : List V), Reps K F ι ds vs → D.lows ι.length ds = true
  | [], _, _ => by simp only [D.lows]
  | d :: ds, vs, h => by
    simp only [Reps] at h
    simp only [D.lows, Bool.and_eq_true]
    obtain ⟨v, r, e, h1, h2⟩ := h
    exact ⟨Rep.isLow d v h1, Reps.isLow ds r h2⟩
end
theorem RepF.cut {fs : List (Str × D)} {gs : List (Str × V)} (h : RepF K F ι fs gs) (l : (fs.all fun p => p.2.low n) = true) : RepF K F (ι.take n) fs gs := by
  induction h with
  | nil => exact .nil
  | cons a b ih =>
    simp only [List.all_cons, Bool.and_eq_true] at l
    exact .cons ⟨a.1, Rep.cut _ _ a.2 l.1⟩ (ih l.2)
theorem RepF.isLow {fs : List (Str × D)} {gs : List (Str × V)} (h : RepF K F ι fs gs) : (fs.all fun p => p.2.low ι.length) = true := by
  induction h with
  | nil => rfl
  | cons a b ih =>
    simp only [List.all_cons, Bool.and_eq_true]
    exact ⟨Rep.isLow _ _ a.2, ih⟩
theorem ObjR.cut {a : Addr} {m : MO} (h : ObjR K F ι H a m) (l : m.low n = true) : ObjR K F (ι.take n) H a m := by
  cases m with
  | lst xs =>
    obtain ⟨vs, e, r⟩ := h
    exact ⟨vs, e, Reps.cut _ _ r l⟩
  | dct ks ds =>
    obtain ⟨xs, ws, z, q, kt, vr, r⟩ := h
    exact ⟨xs, ws, z, q, kt, vr, Reps.cut _ _ r l⟩
  | dcs ks ds =>
    obtain ⟨xs, ws, z, q, kt, vr, r⟩ := h
    exact ⟨xs, ws, z, q, kt, vr, Reps.cut _ _ r l⟩
  | gone => trivial
  | ins C fs =>
    obtain ⟨C, dx, gs, z, e, r⟩ := h
    exact ⟨C, dx, gs, z, e, RepF.cut r l⟩
theorem ObjR.isLow {a : Addr} {m : MO} (h : ObjR K F ι H a m) : m.low ι.length = true := by
  cases m with
  | lst xs =>
    obtain ⟨vs, e, r⟩ := h
    exact Reps.isLow _ _ r
  | dct ks ds =>
    obtain ⟨xs, ws, z, q, kt, vr, r⟩ := h
    exact Reps.isLow _ _ r
  | dcs ks ds =>
    obtain ⟨xs, ws, z, q, kt, vr, r⟩ := h
    exact Reps.isLow _ _ r
  | gone => rfl
  | ins C fs =>
    obtain ⟨C, dx, gs, z, e, r⟩ := h
    exact RepF.isLow r
theorem Sim.isLow (S : Sim K F ι st H) {l : Nat} {m : MO} (e : st[l]? = some m) : m.low st.length = true := by
  have hl : l < ι.length := by rw [S.len]; exact (List.getElem?_eq_some_iff.mp e).1
  rw [← S.len]
  exact (S.obj l m _ e (List.getElem?_eq_getElem hl)).isLow
theorem Sim.take (S : Sim K F ι st H) (h : ∀ (l : Nat) (m : MO), (st.take n)[l]? = some m → m.low n = true) : Sim K F (ι.take n) (st.take n) H := by
  refine ⟨S.sub, S.kind, by rw [List.length_take, List.length_take, S.len], S.nd.sublist (List.take_sublist _ _), fun l a q hg => ?_, fun a q => S.there a (List.mem_of_mem_take q), fun l m a e1 e2 => ?_⟩
  · have hl : l < n := by
      have := (List.getElem?_eq_some_iff.mp q).1
      rw [List.length_take] at this
      omega
    rw [List.getElem?_take_of_lt hl] at q hg
    exact S.free l a q hg
  have hl : l < n := by
    have := (List.getElem?_eq_some_iff.mp e1).1
    rw [List.length_take] at this
    omega
  refine ObjR.cut (S.obj l m a ?_ ?_) (h l m e1)
  · rw [← List.getElem?_take_of_lt hl]; exact e1
  · rw [← List.getElem?_take_of_lt hl]; exact e2
theorem Ext.take (x : Ext F ι H F' ι' H') (h : ι.length ≤ n) : Ext F ι H F' (ι'.take n) H' := by
  refine ⟨x.f, fun l a q => ?_, x.keep, x.there, x.newF, fun a q => x.newI a (List.mem_of_mem_take q), ?_⟩
  · have hl := (List.getElem?_eq_some_iff.mp q).1
    rw [List.getElem?_take_of_lt (by omega)]
    exact x.i l a q
  · rw [List.length_take]
    have := x.long
    omega
end
def lowS (n : Nat) (st : Sto) : Prop := ∀ (l : Nat) (m : MO), st[l]? = some m → m.low n = true
def Xc.low (n : Nat) (x : Xc) : Bool := match x.fld with
  | none => true
  | some p => p.2.low n
def MO.isIns : MO → Bool
  | .ins _ _ => true
  | _ => false
def Tidy (st0 st : Sto) : Prop := st0.length ≤ st.length ∧ (∀ (l : Nat) (m : MO), l < st0.length → st[l]? = some m → st0[l]? = some m ∨ m.low st0.length = true) ∧ ∀ (l : Nat) (m : MO), st0.length ≤ l → st[l]? = some m → m.isIns = false
open Classical in
noncomputable def clean (st0 : Sto) (r : Out D) : Out D := match r with
  | .ok d st => if d.low st0.length = true ∧ Tidy st0 st then .ok d (st.take st0.length) else .ok d st
  | .exc x st => if x.low st0.length = true ∧ Tidy st0 st then .exc x (st.take st0.length) else .exc x st
  | .bad => .bad
section
variable {K : PySem.W.Frag} {W : WX} {σ : L2.St} {F F' : Hp} {ι ι' : List Addr} {H H' : Hp} {st st' : Sto} {Q : VK}
theorem clean_low (S : Sim K F ι st H) (h : Tidy st st') : lowS st.length (st'.take st.length) := fun l m e => by
  have hl : l < st.length := by
    have := (List.getElem?_eq_some_iff.mp e).1
    rw [List.length_take] at this
    omega
  rw [List.getElem?_take_of_lt hl] at e
  rcases h.2.1 l m hl e with q | q
  · exact S.isLow q
  · exact q
theorem clean_ok {d : D} {v : V} (S : Sim K F ι st H) (x : Ext F ι H F' ι' H') (S' : Sim K F' ι' st' H') (r : Rep K F' ι' d v) (q : post K W σ F ι H (pV K) (clean st (.ok d st')) Q) : Q v H' := by
  unfold clean at q
  dsimp only at q
  split at q
  · rename_i h
    exact q F' (ι'.take st.length) H' v (x.take (by rw [S.len]; exact Nat.le_refl _)) (S'.take (clean_low S h.2)) (Rep.cut _ _ r h.1)
  · exact q F' ι' H' v x S' r
theorem clean_exc {e : Xc} {cls : Value} {dd : Option Addr} (S : Sim K F ι st H) (x : Ext F ι H F' ι' H') (S' : Sim K F' ι' st' H') (r : XcR K F' ι' H' e cls dd) (q : post K W σ F ι H (pV K) (clean st (.exc e st')) Q) : W cls dd σ H' := by
  unfold clean at q
  dsimp only at q
  split at q
  · rename_i h
    refine q F' (ι'.take st.length) H' cls dd (x.take (by rw [S.len]; exact Nat.le_refl _)) (S'.take (clean_low S h.2)) ⟨r.1, ?_⟩
    have h1 := h.1
    have r2 := r.2
    unfold Xc.low at h1
    split
    · rename_i e1
      rw [e1] at r2
      exact r2
    · rename_i f d e1
      rw [e1] at r2 h1
      obtain ⟨a, v, q1, q2, q3⟩ := r2
      exact ⟨a, v, q1, q2, Rep.cut _ _ q3 h1⟩
  · exact q F' ι' H' cls dd x S' r
end
def flOut (r : Fl) : Out D := match r with
  | .next _ st => .ok .non st
  | .ret d st => .ok d st
  | .exc x _ st => .exc x st
  | _ => .bad
def rho0 (n : Nat) (ds : List D) : Rho := ds.map some ++ List.replicate (n - ds.length) none
noncomputable def fnD (np nN : Nat) (body : Rho → Sto → Fl) : List D → M D := fun ds st => if ds.length = np then clean st (flOut (body (rho0 nN ds) st)) else .bad
def wE (E : XK) : WX := fun cls dd _ H => E cls dd H
def spD (K : PySem.W.Frag) (np : Nat) (spec : List D → M D) : Sp := fun vs H Q E => vs.length = np ∧ ∃ F ι st ds, Sim K F ι st H ∧ Reps K F ι ds vs ∧ post K (wE E) [] F ι H (pV K) (spec ds st) Q
def CXk (k : Nat) (P : Program) (w : World) : CXT := if 40 ≤ k then L2.CX P w else L2N.CX P w
theorem cxk_ge {k : Nat} (h : 40 ≤ k) : CXk k = L2.CX := by funext P w; unfold CXk; rw [if_pos h]
theorem cxk_lt {k : Nat} (h : ¬ 40 ≤ k) : CXk k = L2N.CX := by funext P w; unfold CXk; rw [if_neg h]
theorem cxN_c {P : Program} {w : World} {fr : List Env} {H : Hp} {s s' : Shared} {E : XK} {u : Value} (h : L2N.CX P w fr H s E u s') : L2.CX P w fr H s E u s' := by
  obtain ⟨a, B, H', cls, d, e, fl, r⟩ := h
  exact ⟨a, B, H', cls, d, e, L2H.flyingZ_imp (fun _ z => z.zc) fl, r⟩
theorem cxk_mono {k k' : Nat} {P : Program} {w : World} {fr : List Env} {H : Hp} {s s' : Shared} {E : XK} {u : Value} (hk : k ≤ k') (h : CXk k P w fr H s E u s') : CXk k' P w fr H s E u s' := by
  by_cases h1 : 40 ≤ k
  · rw [cxk_ge h1] at h
    rw [cxk_ge (Nat.le_trans h1 hk)]
    exact h
  · rw [cxk_lt h1] at h
    by_cases h2 : 40 ≤ k'
    · rw [cxk_ge h2]
      exact cxN_c h
    · rw [cxk_lt h2]
      exact h
theorem crk_mono {k k' : Nat} {P : Program} {w : World} {fr : List Env} {H : Hp} {s s' : Shared} {E : XK} {Q : VK} {r : Result} (hk : k ≤ k') (h : CR (CXk k P w) fr P w H s Q E r s') : CR (CXk k' P w) fr P w H s Q E r s' := by
  cases r with
  | error e => exact cxk_mono hk h
  | ok fl => cases fl <;> exact h
structure TkK (k : Nat) (X : Cx) (W : WX) : Prop where
  n : L2N.Takes X W
  c : 40 ≤ k → L2.Takes X W
theorem heldZ_imp {h B : Heap} {l : List Env} {a L : Addr} {Z Z' : Obj → Prop} (z : ∀ o, Z o → Z' o) (x : HandSPX.HeldZ B l a Z L h) : HandSPX.HeldZ B l a Z' L h := ⟨x.1, x.2.1, x.2.2.1, L2H.tracedZ_imp z x.2.2.2⟩
theorem skyN_c {B h : Heap} {l : List Env} {a L : Addr} {cls : Value} {d : Option Addr} (x : Sky B l a (L2N.Zn cls d) L h) : Sky B l a (Zc cls d) L h := by
  rcases x with ⟨hB, hn, hl, oe, vs, he, hz, r⟩ | fl | hd
  · exact .inl ⟨hB, hn, hl, oe, vs, he, hz.zc, r⟩
  · exact .inr (.inl (L2H.flyingZ_imp (fun _ z => z.zc) fl))
  · exact .inr (.inr (heldZ_imp (fun _ z => z.zc) hd))
theorem TkK.of {k : Nat} {X : Cx} {W : WX} (t : L2.Takes X W) : TkK k X W := ⟨fun u s' ⟨a, B, sI, pins, σ, H, cls, d, e, I, nb, up, sky, r⟩ => t u s' ⟨a, B, sI, pins, σ, H, cls, d, e, I, nb, up, skyN_c sky, r⟩, fun _ => t⟩
theorem TkK.low {k : Nat} {X : Cx} {W : WX} (t : L2N.Takes X W) (h : k < 40 := by decide) : TkK k X W := ⟨t, fun h' => absurd h' (by omega)⟩
theorem TkK.mono {k j : Nat} {X : Cx} {W : WX} (t : TkK j X W) (h : k ≤ j) : TkK k X W := ⟨t.n, fun h' => t.c (Nat.le_trans h' h)⟩
theorem tkK_of {k : Nat} {X : Cx} {E : XK} (hs : X.stack = X.env :: X.outer) (hf : X.env.frame = some X.env.locals) (hex : X.ex = []) {E₁ : Value → Shared → Prop}
    (hx : X.xe = fun e s' => wpAny (model X.prog X.w) X.A (leaving X.env e) (fun _ s'' => CXk (k + 1) X.prog X.w X.outer X.H_0 X.s_0 E e s'') E₁ s') : TkK k X (fun cls d _ H => E cls d H) := by
  by_cases h : 40 ≤ k + 1
  · rw [cxk_ge h] at hx
    exact .of (takes_of hs hf hex hx)
  · rw [cxk_lt h] at hx
    exact ⟨L2N.takes_of hs hf hex hx, fun h' => absurd (Nat.le_succ_of_le h') h⟩
theorem passK {k : Nat} {X : Cx} {W : WX} (tk : TkK k X W) (σ : L2.St) : PassesAt (CXk k X.prog X.w) X σ (WE W σ) := by
  by_cases h : 40 ≤ k
  · rw [cxk_ge h]
    exact L2.passAt (tk.c h) σ
  · rw [cxk_lt h]
    exact L2N.passAt tk.n σ
theorem cx_no {k : Nat} {P : Program} {w : World} {fr : List Env} {H : Hp} {s s' : Shared} {e : Value} (h : CXk k P w fr H s (fun _ _ _ => False) e s') : False := by
  replace h := cxk_mono (k' := k + 40) (Nat.le_add_right k 40) h
  rw [cxk_ge (Nat.le_add_left 40 k)] at h
  obtain ⟨a, B, H', cls, d, ea, fl, hok, ub, na, os, ag, he⟩ := h
  exact he
structure FnG (P : Program) (w : World) (K : PySem.W.Frag) (mg : Str → Option Value) (base : Heap) (k : Nat) (f : Addr) (fd : FuncData) (ps : List Str) (sp : Sp) : Prop where
  len : ∀ vs H Q E, sp vs H Q E → vs.length = ps.length
  run : ∀ (B : Around) (fr : List Env) (s : Shared) (H : Hp) (ar : Args) (us : List Value) (vs : List V) (Q : VK) (E : XK), Room k B → (5 < k → B.guards = some []) → Env0 P w K mg base B fr s H → BindsTo s fd ar (ps.zip us) → Vals vs us → sp vs H Q E →
    codeAny (model P w) B (.call (.ref f) ar) (CR (CXk k P w) fr P w H s Q E) s
structure Bd (X : Cx) (W : WX) (k : Nat) : Prop where
  room : Room k X.A
  gd : 5 < k → X.A.guards = some []
  calm : X.calm = true
  nd : X.N.Nodup
  tk : TkK k X W
theorem REnv.start {K : PySem.W.Frag} {F : Hp} {ι : List Addr} {ds : List D} {vs : List V} {N : List Str} (r : Reps K F ι ds vs) (hl : ds.length ≤ N.length) : REnv K F ι (rho0 N.length ds) (start N vs) := by
  have e := r.length
  refine ⟨?_, fun i d h => ?_⟩
  · unfold rho0 L2.start
    simp only [List.length_append, List.length_map, List.length_replicate]
    omega
  · unfold rho0 at h
    have hi : i < ds.length := by
      by_cases hi : i < ds.length
      · exact hi
      · rw [List.getElem?_append_right (by simpa using hi), List.getElem?_replicate] at h
        split at h <;> cases h
    rw [List.getElem?_append_left (by simpa using hi), List.getElem?_map] at h
    cases e1 : ds[i]? with
    | none => rw [e1] at h; cases h
    | some d1 =>
      rw [e1] at h
      cases h
      obtain ⟨v, q1, q2⟩ := r.get e1
      refine ⟨v, ?_, q2⟩
      unfold L2.start
      rw [List.getElem?_append_left (by rw [List.length_map]; omega), List.getElem?_map, q1]
      rfl
theorem body_end {K : PySem.W.Frag} {E : XK} {Q : VK} {F : Hp} {ι : List Addr} {H : Hp} {st : Sto} {r : Fl} (S : Sim K F ι st H) (q : post K (wE E) [] F ι H (pV K) (clean st (flOut r)) Q) :
    sPost K (wE E) { nx := fun _ H' => Q .non H', rt := Q } F ι H r := by
  cases r with
  | next ρ st' => exact fun F' ι' H' σ' x S' R' => clean_ok (v := V.non) S x S' (by simp only [Rep]) q
  | ret d st' => exact fun F' ι' H' v x S' r' => clean_ok S x S' r' q
  | exc e ρ st' => exact fun F' ι' H' cls dd σ' x S' R' r' => clean_exc (σ := []) S x S' r' q
  | brk _ _ => exact (q : False).elim
  | cnt _ _ => exact (q : False).elim
  | bad => exact (q : False).elim
section
variable {P : Program} {w : World} {K : PySem.W.Frag} {mg : Str → Option Value} {base : Heap}
theorem fnG_of {x qual : Str} {stm : Stmt} {f : Addr} {fd : FuncData} {N ps : List Str} {k : Nat} {m : Rho → Sto → Fl} (Fn : Fun K x qual stm f fd) (SC : FnScope N ps (defScope stm)) (hN : ps.length ≤ N.length)
    (hb : ∀ (cdv : Value) (B : Around) (fr : List Env) (s : Shared) (H : Hp) (E : XK), Bd (cxOf (CXk (k + 1) P w) P w K mg base N qual (defScope stm) f cdv B fr s H E) (wE E) k →
      PassesOwn (model P w) (B.deeper (envOfC qual (defScope stm) s.heap.objs.size f cdv)) (envOfC qual (defScope stm) s.heap.objs.size f cdv) (cxOf (CXk (k + 1) P w) P w K mg base N qual (defScope stm) f cdv B fr s H E).xe →
      DSs (cxOf (CXk (k + 1) P w) P w K mg base N qual (defScope stm) f cdv B fr s H E) (wE E) (defBody stm) m) :
    FnG P w K mg base (k + 1) f fd ps (spD K ps.length (fnD ps.length N.length m)) := by
  obtain ⟨oc, od, kV, doc, pm, an, cdv, ct, osl, rfl, lk, hcd⟩ := Fn.ex
  refine ⟨fun vs H Q E h => h.1, fun B fr s H ar us vs Q E hr hgd e0 hbn rv hsp => ?_⟩
  have hl : vs.length = ps.length := hsp.1
  have hKs : K.In s.heap := e0.mod.kin.keeps fun b o e => (e0.bs b o e).1
  have hlim : s.heap.NoLimit := e0.mod.nolimit.keeps fun b o e => (e0.bs b o e).1
  refine codeAny_call_function hr.depth (hKs _ _ lk) rfl SC.co SC.gen rfl (PySem.W.codeRec_of hKs hcd) (hbn _ _ _ _ ?_)
  refine wpAny_newFunctionEnv_cells SC.kind (fun ⟨y, u⟩ hy => ?_) fun env he s1 ic => ?_
  · rcases SC.par y (List.of_mem_zip hy).1 with q | q
    · exact .inl q
    · exact .inr ⟨q, PySem.W.cellsFrom_some _ _ _ (.inl q)⟩
  subst he
  refine ⟨hlim.keeps ic.toInCall.keep, codeAny_func ?_⟩
  obtain ⟨_, F, ι, st, ds, S, rs, q⟩ := hsp
  have hds : ds.length = ps.length := by rw [rs.length]; exact hl
  have I := inv_start (CX := CXk (k + 1) P w) (E := E) (cd := cdv) SC hr.hd e0 hl rv ic
  have bd : Bd (cxOf (CXk (k + 1) P w) P w K mg base N qual (defScope stm) f cdv B fr s H E) (wE E) k :=
    ⟨hr.deeper _, fun h => hgd (by omega), rfl, SC.nd, tkK_of (X := cxOf (CXk (k + 1) P w) P w K mg base N qual (defScope stm) f cdv B fr s H E) (E := E) (E₁ := fun e' s'' => CXk (k + 1) P w fr H s E e' s'') rfl rfl rfl rfl⟩
  have hown := passes_of (X := cxOf (CXk (k + 1) P w) P w K mg base N qual (defScope stm) f cdv B fr s H E) (K := fun e s'' => CXk (k + 1) P w fr H s E e s'') (E₁ := fun e' s'' => CXk (k + 1) P w fr H s E e' s'') rfl
  unfold fnD at q
  rw [if_pos hds] at q
  refine wpAny_mono ((hb cdv B fr s H E bd hown).run [] s1 (start N vs) H { nx := fun _ H' => Q .non H', rt := Q } I ⟨F, ι, rho0 N.length ds, st, S, REnv.start rs (by omega), body_end S q⟩) (fun fl s' hs => ?_) fun e s' hs => hs
  cases fl with
  | ret u =>
    obtain ⟨v, σ', H', J, r', qq⟩ := hs
    exact ⟨v, H', J.os, J.bare, J.base, J.hok, r', qq⟩
  | next =>
    obtain ⟨σ', H', J, qq⟩ := hs
    exact ⟨V.non, H', J.os, J.bare, J.base, J.hok, rfl, qq⟩
  | brk =>
    obtain ⟨_, _, _, qq⟩ := hs
    exact False.elim qq
  | cont =>
    obtain ⟨_, _, _, qq⟩ := hs
    exact False.elim qq
structure FnC (P : Program) (w : World) (K : PySem.W.Frag) (mg : Str → Option Value) (base : Heap) (k : Nat) (x : Str) (np : Nat) (spec : List D → M D) : Prop where
  ex : ∃ (f : Addr) (fd : FuncData) (ps : List Str), FnG P w K mg base k f fd ps (spD K np spec) ∧ mg x = some (.ref f) ∧ PySem.W.keepIn K (.ref f) = true ∧ Binds K fd ps []
end
section
variable {X : Cx} {W : WX} {k j : Nat} {x : Str} {np : Nat} {spec : List D → M D} {p pos : Pos} {e : Expr} {es : List Expr} {am : Rho → M (List D)}
theorem run_fnG {pins : List (Addr × Obj)} {σ : L2.St} {H : Hp} {s : Shared} {Q : VK} {us : List Value} {vs : List V} {f : Addr} {fd : FuncData} {ps : List Str} {sp : Sp} (F : FnG X.prog X.w X.K X.mg X.base k f fd ps sp) (hr : Room k X.A) (hgd : 5 < k → X.A.guards = some []) (hb : Binds X.K fd ps [])
    (tk : TkK k X W) (I : Inv X pins σ H s) (r : Vals vs us) (h : sp vs H Q (fun cls dd H' => W cls dd σ H')) : wpAny (model X.prog X.w) X.A (call (.ref f) us) (EP X pins σ Q) X.xe s := by
  have hl : (us ++ []).length = ps.length := by rw [List.append_nil, ← r.length]; exact F.len _ _ _ _ h
  have bn := hb s us I.kIn hl
  rw [List.append_nil] at bn
  refine wpAny_call (codeAny_mono (F.run X.A X.stack s H ⟨us, []⟩ us vs Q _ hr hgd I.env0 bn r h) fun r s' hq => ?_)
  cases r with
  | error y => exact passK tk σ pins H s y s' I hq
  | ok fl =>
    cases fl with
    | ret u => exact I.after hq
    | next => exact False.elim hq
    | brk => exact False.elim hq
    | cont => exact False.elim hq
def mCall (spec : List D → M D) (am : Rho → M (List D)) : Rho → M D := fun ρ st => (am ρ st).bind fun ds st1 => spec ds st1
theorem post_wE {α β : Type} {K : PySem.W.Frag} {σ : L2.St} {F : Hp} {ι : List Addr} {H : Hp} {R : Hp → Hp → List Addr → Hp → α → β → Prop} {r : Out α} {Q : β → Hp → Prop} (h : post K W σ F ι H R r Q) : post K (wE fun cls dd H' => W cls dd σ H') [] F ι H R r Q := by
  cases r with
  | ok a st => exact h
  | exc y st => exact h
  | bad => exact h
theorem spD_of {σ : L2.St} {F : Hp} {ι : List Addr} {H : Hp} {st : Sto} {ds : List D} {vs : List V} {Q : VK} {K : PySem.W.Frag} (S : Sim K F ι st H) (r : Reps K F ι ds vs) (hn : ds.length = np) (q : post K W σ F ι H (pV K) (spec ds st) Q) : spD K np spec vs H Q (fun cls dd H' => W cls dd σ H') :=
  ⟨by rw [← r.length]; exact hn, F, ι, st, ds, S, r, post_wE q⟩
def NeedN (np : Nat) (spec : List D → M D) : Prop := ∀ ds st, ds.length ≠ np → spec ds st = .bad
theorem needN_fnD {nN : Nat} {m : Rho → Sto → Fl} : NeedN np (fnD np nN m) := fun ds st h => by unfold fnD; rw [if_neg h]
theorem de_call (B : Bd X W j) (C : FnC X.prog X.w X.K X.mg X.base k x np spec) (hk : k ≤ j) (hg : Gl X x) (nn : NeedN np spec) (ha : DA X W (e :: es) am) (hdb : (x == ("__debug__" : Str)) = false := by decide)
    (he : starEach (e :: es) X.env = (false, eval e X.env) :: starEach es X.env := by rfl) (hpl : (backTo pos (starEach es X.env)).any (·.1) = false := by rfl) : DE X W (.Call (.Name x p) (e :: es) [] pos) (mCall spec am) := by
  obtain ⟨f, fd, ps, F, hm, kp, hb⟩ := C.ex
  refine ⟨fun pins s σ H Q I ⟨F0, ι, ρ, st, S, R, q⟩ => ?_⟩
  refine wpAny_Call_Name_kw (ld_glob I hg hm ?_ hdb)
  refine PySem.W.callWith_K (h₀ := X.base) I.ok.mod.kin kp (thn (ha.run pos pins s σ H (fun vs H1 => spD X.K np spec vs H1 Q (fun cls dd H' => W cls dd σ H')) I ?_) fun us s1 ⟨vs, H1, I1, r, qq⟩ => ⟨I1.kIn, ?_⟩) he hpl
  · refine tG_seq back_V S R q fun ds st1 F1 ι1 H1 vs x1 S1 R1 r1 q1 => ?_
    by_cases hn : ds.length = np
    · exact spD_of S1 r1 hn q1
    · rw [nn ds st1 hn] at q1
      exact (q1 : False).elim
  · exact run_fnG F (B.room.mono hk) (fun h => B.gd (by omega)) hb (B.tk.mono hk) I1 r qq
end
end Dn
namespace Dn
open PySem PySem.Spec PyProof.Rows L2
variable [HzC]
section
variable {P : Program} {w : World} {K : PySem.W.Frag} {mg mb : Str → Option Value} {k : Nat} {fa p : Addr} {fd : FuncData} {x : Str} {sp : Sp} {t : Shared} {us : List Value} {ns : List Int}
theorem end_at (KX : K.In t.heap) (hns : t.heap.Ns mainGlobals mg) (hb : t.heap.Ns builtinsNs mb) (hbb : ∀ y : Str, y ≠ "__name__" → mb y = bootBuiltins y) (hlim : t.heap.NoLimit) (hg : t.gens = #[])
    (hp : t.heap.get? p = some { cls := .type "list", data := .seq us.toArray }) (hr : Room k callerA) (G : ∀ base : Heap, K.In base → base.Ns mainGlobals mg → FnG P w K mg base k fa fd [x] sp)
    (hbind : ∀ (s : Shared) (u : Value), BindsTo s fd ⟨[u], []⟩ [(x, u)]) {H : Hp} (hO : Only H) (hsp : sp [.ref p] H (fun v _ => v = .bl true) fun _ _ _ => False) (hok : HOk P w H t.heap) (one : ∀ c, H c ≠ none → c = p) (out : H p ≠ none → K.lookup p = none) :
    codeAny (model P w) callerA (.call (.ref fa) ⟨[.ref p], []⟩) (fun r t' => r = .ok (.ret (.bool true)) ∧ OldK t.heap t'.heap ∧ t'.os = t.os ∧ AllBare t'.gens) t := by
  have alone : ∀ {c : Addr} {o : Obj}, t.heap.get? c = some o → (∀ xs : Array Value, o.data ≠ .seq xs) → H c = none := fun {c o} e d => by
    cases q : H c with
    | none => rfl
    | some u =>
      obtain rfl : c = p := one c (by rw [q]; simp)
      rw [e] at hp
      cases hp
      exact absurd rfl (d us.toArray)
  have shown : ∀ {c : Addr} {f : Str → Option Value}, t.heap.Ns c f → (hidT t.heap H).Ns c f := fun {c f} ⟨o, es, n, e, d, r⟩ =>
    ⟨o, es, n, hidT_get e (alone e fun xs z => by rw [d] at z; cases z), d, r⟩
  have inB : K.In (hidT t.heap H) := fun c o e => hidT_get (KX c o e) (by
    cases q : H c with
    | none => rfl
    | some u =>
      obtain rfl : c = p := one c (by rw [q]; simp)
      have := out (by rw [q]; simp)
      rw [e] at this
      cases this)
  have M : Mod K mg (hidT t.heap H) := by
    refine ⟨inB, shown hns, ⟨mb, shown hb, hbb⟩, ?_⟩
    obtain ⟨f, h1, h2⟩ := hlim
    exact ⟨f, shown h1, h2⟩
  have E : Env0 P w K mg (hidT t.heap H) callerA [] t H := by
    refine ⟨rfl, M, fun c o e => of_hidT e, Nat.le_of_eq (hidT_size _ _), trivial, fun c hc => ?_, hok, .of_eq hg⟩
    cases (show c ∈ ([] : List Addr) from hc)
  refine codeAny_mono ((G _ inB (shown hns)).run callerA [] t H ⟨[.ref p], []⟩ [.ref p] [.ref p] _ _ hr (fun _ => rfl) E (hbind t (.ref p)) (.cons rfl .nil) hsp) fun r t' h => ?_
  cases r with
  | error e =>
    exact (cx_no h).elim
  | ok fl =>
    cases fl with
    | next => exact False.elim h
    | brk => exact False.elim h
    | cont => exact False.elim h
    | ret u =>
      obtain ⟨v, H', os, bare, un, hok', rv, hv⟩ := h
      obtain rfl : v = .bl true := hv
      obtain rfl : u = Value.bool true := rv
      refine ⟨rfl, OldK.of_keep fun c o e => ?_, os, bare⟩
      rcases hO c with z | ⟨o2, xs, z⟩
      · refine un.keep c o e z (fun y => ?_) (by simp)
        cases (show c ∈ ([] : List Addr) from y)
      · have y1 := (hok c _ z).1
        have y2 := (hok' c _ (un.frzs c o2 _ z)).1
        rw [e] at y1
        cases y1
        exact y2
theorem end_law (KX : K.In t.heap) (hns : t.heap.Ns mainGlobals mg) (hb : t.heap.Ns builtinsNs mb) (hbb : ∀ y : Str, y ≠ "__name__" → mb y = bootBuiltins y) (hlim : t.heap.NoLimit) (hg : t.gens = #[])
    (hp : t.heap.get? p = some { cls := .type "list", data := .seq us.toArray }) (hi : IntsAre us ns) (hl : ns.length ≤ sizeLine) (hr : Room k callerA) (G : ∀ base : Heap, K.In base → base.Ns mainGlobals mg → FnG P w K mg base k fa fd [x] sp)
    (hbind : ∀ (s : Shared) (u : Value), BindsTo s fd ⟨[u], []⟩ [(x, u)]) (hsp : ∀ H : Hp, Only H → SqL K H p (ns.map V.int) → sp [.ref p] H (fun v _ => v = .bl true) fun _ _ _ => False) :
    codeAny (model P w) callerA (.call (.ref fa) ⟨[.ref p], []⟩) (fun r t' => r = .ok (.ret (.bool true)) ∧ OldK t.heap t'.heap ∧ t'.os = t.os ∧ AllBare t'.gens) t := by
  have rv := vals_ints hi
  have ln := hi.length
  cases hk : K.lookup p with
  | some o =>
    have e := KX p o hk
    rw [hp] at e
    cases e
    let H : Hp := fun _ => none
    have nH : ∀ c, H c = none := fun _ => rfl
    have hS : SqL K H p (ns.map V.int) := .inr ⟨_, us.toArray, _, hk, rfl, rfl, rfl, by rw [List.size_toArray, ln]; exact hl, by simpa using rv⟩
    have hk0 : HOk P w H t.heap := fun c u z => by
      rw [nH c] at z
      cases z
    exact end_at KX hns hb hbb hlim hg hp hr G hbind (H := H) (fun c => .inl rfl) (hsp H (fun c => .inl rfl) hS) hk0 (fun c z => absurd (nH c) z) fun z => absurd (nH p) z
  | none =>
    let o : Obj := { cls := .type "list", data := .seq us.toArray }
    let H : Hp := fun c => if c = p then some (.frz o (.lst (ns.map V.int))) else none
    have atP : H p = some (.frz o (.lst (ns.map V.int))) := if_pos rfl
    have offP : ∀ c, c ≠ p → H c = none := fun c h => if_neg h
    have only : Only H := fun c => by
      by_cases h : c = p
      · exact .inr ⟨o, ns.map V.int, by rw [h]; exact atP⟩
      · exact .inl (offP c h)
    refine end_at KX hns hb hbb hlim hg hp hr G hbind (H := H) only (hsp H only (.inl (.inr ⟨o, atP⟩))) (fun c u z => ?_) (fun c z => ?_) fun _ => hk
    · by_cases h : c = p
      · subst h
        rw [atP] at z
        cases z
        exact ⟨hp, by rw [List.length_map]; exact hl, us, _, rv, hp⟩
      · rw [offP c h] at z
        cases z
    · by_cases h : c = p
      · exact h
      · exact absurd (offP c h) z
end
theorem reps_ints {K : PySem.W.Frag} {F : Hp} {ι : List Addr} : ∀ ns : List Int, Reps K F ι (ns.map D.int) (ns.map V.int)
  | [] => Reps.nil
  | n :: ns => Reps.cons (by simp only [Rep]) (reps_ints ns)
theorem sp_start {K : PySem.W.Frag} {spec : List D → M D} {H : Hp} {a : Addr} {ns : List Int} {st' : Sto} (e : spec [.scr (ns.map D.int)] [] = .ok (.bl true) st') (hO : Only H) (hS : SqL K H a (ns.map V.int)) :
    spD K 1 spec [.ref a] H (fun v _ => v = .bl true) fun _ _ _ => False := by
  refine ⟨rfl, H, [], [], [.scr (ns.map D.int)], ?_, ?_, ?_⟩
  · refine ⟨fun _ _ h => h, fun b o h => ?_, rfl, List.nodup_nil, (fun l b h _ => nomatch h), (fun b h => nomatch h), (fun l m b h => nomatch h)⟩
    rcases hO b with q | ⟨o2, xs, q⟩
    · rw [q] at h; cases h
    · rw [q] at h; cases h; trivial
  · refine Reps.cons ?_ Reps.nil
    simp only [Rep]
    exact ⟨a, _, rfl, hS, reps_ints ns⟩
  · rw [e]
    intro F' ι' H' v x S r
    have r' : Rep K F' ι' (.bl true) v := r
    simpa only [Rep] using r'
end Dn
namespace Dn
open PySem PySem.Spec PyProof.Rows L2
variable [HzC]
def mStar (m : Rho → M D) (r : Rho → M (List D)) : Rho → M (List D) := fun ρ st => (m ρ st).bind fun d st1 => match seqOf st1 d with
  | some xs => (r ρ st1).bind fun ds st2 => .ok (xs ++ ds) st2
  | none => .bad
section
variable {X : Cx} {W : WX} {p : Pos} {e : Expr} {es : List Expr} {m : Rho → M D} {r : Rho → M (List D)}
theorem da_star (he : DE X W e m) (hr : DA X W es r) (hs : starEach (.Starred e p :: es) X.env = (true, eval e X.env) :: starEach es X.env := by rfl) : DA X W (.Starred e p :: es) (mStar m r) := by
  refine PA.weak (StX.pa_star he hr hs) fun σ H Q ⟨F, ι, ρ, st, S, R, q⟩ => ?_
  refine tG_seq back_A S R q fun d st1 F1 ι1 H1 v x1 S1 R1 r1 q1 => ?_
  cases e1 : seqOf st1 d with
  | none => rw [e1] at q1; exact (q1 : False).elim
  | some xs =>
    rw [e1] at q1
    obtain ⟨a, vs, ev, hq, rr⟩ := S1.seq r1 e1
    refine ⟨a, vs, ev, hq.symm, ?_⟩
    exact tG_seq back_A S1 R1 q1 fun ds st2 F2 ι2 H2 ws x2 S2 R2 r2 q2 => q2 F2 ι2 H2 _ Ext.refl S2 ((rr.ext x2).append r2)
end
def D.isTy (st : Sto) (T : String) : D → Prop
  | .str _ => T = "str"
  | .int _ => T = "int"
  | .lst _ => T = "list"
  | .scr _ => T = "list"
  | .ref l => T = "list" ∧ ∃ xs, st[l]? = some (.lst xs)
  | _ => False
open Classical in
noncomputable def mMeth (T : String) (p : D → List D → M D) (mo : Rho → M D) (am : Rho → M (List D)) : Rho → M D := fun ρ st =>
  (mo ρ st).bind fun o st1 => if o.isTy st1 T then (am ρ st1).bind fun ds st2 => nox (p o ds st2) else .bad
def rM (K : PySem.W.Frag) (p : D → List D → M D) : V → List V → Hp → VK → Prop := fun x xs H Q => ∃ F ι st d ds d' st', Sim K F ι st H ∧ Rep K F ι d x ∧ Reps K F ι ds xs ∧ p d ds st = .ok d' st' ∧
  ∀ F' ι' H' v, Ext F ι H F' ι' H' → Sim K F' ι' st' H' → Rep K F' ι' d' v → Q v H'
theorem Sim.tyV {K : PySem.W.Frag} {F : Hp} {ι : List Addr} {st : Sto} {H : Hp} {d : D} {v : V} {T : String} (S : Sim K F ι st H) (r : Rep K F ι d v) (h : d.isTy st T) : L2.tyV K T v H := by
  cases d with
  | str z => simp only [Rep] at r; subst r; exact h
  | int i => simp only [Rep] at r; subst r; exact h
  | lst xs =>
    simp only [Rep] at r
    obtain ⟨a, vs, rfl, q, rr⟩ := r
    exact .inl ⟨h, vs, .inl (.inl (S.sub _ _ q))⟩
  | scr xs =>
    simp only [Rep] at r
    obtain ⟨a, vs, rfl, q, rr⟩ := r
    exact .inl ⟨h, vs, S.sqL q⟩
  | ref l =>
    simp only [Rep] at r
    obtain ⟨a, rfl, q⟩ := r
    obtain ⟨hT, xs, e⟩ := h
    obtain ⟨vs, e2, _⟩ := S.obj l _ a e q
    exact .inl ⟨hT, vs, .inl (.inl e2)⟩
  | non => exact h.elim
  | bl _ => exact h.elim
  | tup _ => exact h.elim
  | adr _ => exact h.elim
  | fd _ _ => exact h.elim
  | exo _ _ _ _ => exact h.elim
  | obj _ _ _ => exact h.elim
  | sd _ => exact h.elim
  | fnv _ => exact h.elim
section
variable {X : Cx} {W : WX} {apos cpos : Pos} {o e : Expr} {es : List Expr} {mo : Rho → M D} {am : Rho → M (List D)} {T id : String} {name : Str} {p : D → List D → M D}
theorem de_m (pa : PlainAttrs T) (slot : Slot T name id) (hty : typeOf (.builtin id) = pure (.type "method_descriptor")) (hm : MtR X id (rM X.K p)) (ho : DE X W o mo) (ha : DA X W (e :: es) am)
    (hbase : attributeBase o name X.env (eval o X.env) = eval o X.env := by rfl)
    (hfew : ((backTo cpos (starEach (e :: es) X.env)).all (fun x => !x.1) && (backToKw cpos (keywordEach [] X.env)).all (fun x => x.1.isSome)
      && decide ((e :: es).length + ([] : List Keyword).length + (if ([] : List Keyword).isEmpty then 0 else 1) < 30)) = true := by rfl)
    (hline : (apos.endLine == cpos.line) = true := by rfl) (hs : starEach (e :: es) X.env = (false, eval e X.env) :: starEach es X.env := by rfl) (hpl : (backTo cpos (starEach es X.env)).any (·.1) = false := by rfl) :
    DE X W (.Call (.Attribute o name apos) (e :: es) [] cpos) (mMeth T p mo am) := by
  refine PE.weak (pe_bm pa slot hty hm ho ha hbase hfew hline hs hpl) fun σ H Q ⟨F, ι, ρ, st, S, R, q⟩ => ?_
  refine tG_seq back_V S R q fun d st1 F1 ι1 H1 v x1 S1 R1 r1 q1 => ?_
  split at q1
  rotate_left
  · exact (q1 : False).elim
  rename_i hT
  refine ⟨S1.tyV r1 hT, ?_⟩
  refine tG_seq back_V S1 R1 q1 fun ds st2 F2 ι2 H2 vs x2 S2 R2 r2 q2 => ?_
  cases e1 : p d ds st2 with
  | ok d' st' =>
    rw [e1] at q2
    exact ⟨F2, ι2, st2, d, ds, d', st', S2, r1.ext x2, r2, e1, q2⟩
  | exc _ _ => rw [e1] at q2; exact (q2 : False).elim
  | bad => rw [e1] at q2; exact (q2 : False).elim
theorem de_m0 (pa : PlainAttrs T) (slot : Slot T name id) (hty : typeOf (.builtin id) = pure (.type "method_descriptor")) (hm : MtR X id (rM X.K p)) (ho : DE X W o mo)
    (hbase : attributeBase o name X.env (eval o X.env) = eval o X.env := by rfl) (hline : (apos.endLine == cpos.line) = true := by rfl) : DE X W (.Call (.Attribute o name apos) [] [] cpos) (mMeth T p mo mNil) := by
  refine PE.weak (pe_bm0 pa slot hty hm ho hbase hline) fun σ H Q ⟨F, ι, ρ, st, S, R, q⟩ => ?_
  refine tG_seq back_V S R q fun d st1 F1 ι1 H1 v x1 S1 R1 r1 q1 => ?_
  split at q1
  rotate_left
  · exact (q1 : False).elim
  rename_i hT
  refine ⟨S1.tyV r1 hT, ?_⟩
  change post _ _ _ _ _ _ _ (nox (p d [] st1)) Q at q1
  cases e1 : p d [] st1 with
  | ok d' st' =>
    rw [e1] at q1
    exact ⟨F1, ι1, st1, d, [], d', st', S1, r1, Reps.nil, e1, q1⟩
  | exc _ _ => rw [e1] at q1; exact (q1 : False).elim
  | bad => rw [e1] at q1; exact (q1 : False).elim
end
theorem Sim.mut {K : PySem.W.Frag} {F : Hp} {ι : List Addr} {st : Sto} {H : Hp} {l : Nat} {v : V} {xs : List D} (S : Sim K F ι st H) (r : Rep K F ι (.ref l) v) (h : st[l]? = some (.lst xs)) : ∃ a vs, v = .ref a ∧ ι[l]? = some a ∧ H a = some (.lst vs) ∧ Reps K F ι xs vs := by
  simp only [Rep] at r
  obtain ⟨a, rfl, q⟩ := r
  obtain ⟨vs, e2, rr⟩ := S.obj l _ a h q
  exact ⟨a, vs, rfl, q, e2, rr⟩
theorem write_lst {K : PySem.W.Frag} {F : Hp} {ι : List Addr} {st : Sto} {H : Hp} {l : Nat} {a : Addr} {vs ws : List V} {ys : List D} {xs : List D} (S : Sim K F ι st H) (hg : st[l]? = some (.lst xs)) (q : ι[l]? = some a) (h : H a = some (.lst vs)) (r : Reps K F ι ys ws) :
    Ext F ι H F ι (upd H a (.lst ws)) ∧ Sim K F ι (st.set l (.lst ys)) (upd H a (.lst ws)) :=
  ⟨Ext.write q (by rw [h]; simp), S.write q (by rw [hg]; simp) ⟨ws, upd_same, r⟩⟩
def onL (st : Sto) (d : D) (f : Nat → List D → Out D) : Out D := match d with
  | .ref l => match st[l]? with
    | some (.lst xs) => f l xs
    | _ => .bad
  | _ => .bad
theorem onL_ok {st st' : Sto} {d d' : D} {f : Nat → List D → Out D} (h : onL st d f = .ok d' st') : ∃ l xs, d = .ref l ∧ st[l]? = some (.lst xs) ∧ f l xs = .ok d' st' := by
  unfold onL at h
  split at h
  · split at h
    · rename_i l _ xs e
      exact ⟨l, xs, rfl, e, h⟩
    · cases h
  · cases h
theorem rep_non {K : PySem.W.Frag} {F : Hp} {ι : List Addr} : Rep K F ι .non .non := by simp only [Rep]
def pAppend : D → List D → M D := fun d ds st => onL st d fun l xs => match ds with
  | [y] => if xs.length < SZ then .ok .non (st.set l (.lst (xs ++ [y]))) else .bad
  | _ => .bad
def pExtend : D → List D → M D := fun d ds st => onL st d fun l xs => match ds with
  | [y] => match lstOf st y with
    | some ys => if xs.length + ys.length ≤ SZ then .ok .non (st.set l (.lst (xs ++ ys))) else .bad
    | none => .bad
  | _ => .bad
def pPop : D → List D → M D := fun d ds st => onL st d fun l xs => match ds with
  | [] => match xs[xs.length - 1]? with
    | some y => .ok y (st.set l (.lst xs.dropLast))
    | none => .bad
  | _ => .bad
noncomputable def pPopAt : D → List D → M D := fun d ds st => onL st d fun l xs => match ds with
  | [.int i] => @ite _ (-(2 ^ 63) ≤ i ∧ i < 2 ^ 63) (Classical.propDecidable _) (match seqIndex? i xs.length with
    | some k => match xs[k]? with
      | some y => .ok y (st.set l (.lst (xs.eraseIdx k)))
      | none => .bad
    | none => .bad) .bad
  | _ => .bad
theorem Reps.take' {K : PySem.W.Frag} {F : Hp} {ι : List Addr} : ∀ {ds : List D} {vs : List V} (n : Nat), Reps K F ι ds vs → Reps K F ι (ds.take n) (vs.take n)
  | [], _, n, h => by simp only [Reps] at h; subst h; simp only [List.take_nil]; exact Reps.nil
  | d :: ds, _, 0, h => by simp only [List.take_zero]; exact Reps.nil
  | d :: ds, _, n + 1, h => by
    simp only [Reps] at h
    obtain ⟨v, r, rfl, h1, h2⟩ := h
    exact Reps.cons h1 (Reps.take' n h2)
theorem Reps.erase {K : PySem.W.Frag} {F : Hp} {ι : List Addr} : ∀ {ds : List D} {vs : List V} (n : Nat), Reps K F ι ds vs → Reps K F ι (ds.eraseIdx n) (vs.eraseIdx n)
  | [], _, n, h => by simp only [Reps] at h; subst h; exact Reps.nil
  | d :: ds, _, 0, h => by
    simp only [Reps] at h
    obtain ⟨v, r, rfl, h1, h2⟩ := h
    exact h2
  | d :: ds, _, n + 1, h => by
    simp only [Reps] at h
    obtain ⟨v, r, rfl, h1, h2⟩ := h
    exact Reps.cons h1 (Reps.erase n h2)
theorem Reps.setAt {K : PySem.W.Frag} {F : Hp} {ι : List Addr} {d : D} {v : V} (hd : Rep K F ι d v) : ∀ {ds : List D} {vs : List V} (n : Nat), Reps K F ι ds vs → Reps K F ι (ds.set n d) (vs.set n v)
  | [], _, n, h => by simp only [Reps] at h; subst h; exact Reps.nil
  | e :: ds, _, 0, h => by
    simp only [Reps] at h
    obtain ⟨v, r, rfl, h1, h2⟩ := h
    exact Reps.cons hd h2
  | e :: ds, _, n + 1, h => by
    simp only [Reps] at h
    obtain ⟨v, r, rfl, h1, h2⟩ := h
    exact Reps.cons h1 (Reps.setAt hd n h2)
theorem Reps.dropL {K : PySem.W.Frag} {F : Hp} {ι : List Addr} {ds : List D} {vs : List V} (h : Reps K F ι ds vs) : Reps K F ι ds.dropLast vs.dropLast := by
  rw [List.dropLast_eq_take, List.dropLast_eq_take, h.length]
  exact Reps.take' _ h
theorem Reps.one' {K : PySem.W.Frag} {F : Hp} {ι : List Addr} {d : D} {vs : List V} (h : Reps K F ι [d] vs) : ∃ v, vs = [v] ∧ Rep K F ι d v := by
  simp only [Reps] at h
  obtain ⟨v, r, rfl, h1, rfl⟩ := h
  exact ⟨v, rfl, h1⟩
theorem mtM {X : Cx} {id : String} {r : V → List V → Hp → VK → Prop} {p : D → List D → M D} (h : MtR X id r) (w : ∀ x xs H Q, rM X.K p x xs H Q → r x xs H Q) : MtR X id (rM X.K p) := fun pins s σ H x xs v us Q I rx rxs q => h pins s σ H x xs v us Q I rx rxs (w _ _ _ _ q)
section
variable {X : Cx}
theorem mt_pAppend : MtR X "list.append" (rM X.K pAppend) := mtM mt_append fun x xs H Q ⟨F, ι, st, d, ds, d', st', S, rd, rds, e, q⟩ => by
  obtain ⟨l, ys, rfl, hl, e⟩ := onL_ok e
  split at e
  · split at e
    · rename_i y hz
      cases e
      obtain ⟨a, vs, rfl, q1, q2, q3⟩ := S.mut rd hl
      obtain ⟨v, rfl, rv⟩ := rds.one'
      obtain ⟨x1, S1⟩ := write_lst S hl q1 q2 (q3.snoc rv)
      exact ⟨a, vs, v, rfl, rfl, q2, by rw [← q3.length]; exact sz_lt (Nat.le_of_lt hz), q _ _ _ _ x1 S1 rep_non⟩
    · cases e
  · cases e
theorem mt_pExtend : MtR X "list.extend" (rM X.K pExtend) := mtM mt_extend fun x xs H Q ⟨F, ι, st, d, ds, d', st', S, rd, rds, e, q⟩ => by
  obtain ⟨l, ys, rfl, hl, e⟩ := onL_ok e
  split at e
  · split at e
    · split at e
      · rename_i y zs hy hz
        cases e
        obtain ⟨a, vs, rfl, q1, q2, q3⟩ := S.mut rd hl
        obtain ⟨v, rfl, rv⟩ := rds.one'
        obtain ⟨b, ws, rfl, hb, rb⟩ := S.lst rv hy
        obtain ⟨x1, S1⟩ := write_lst S hl q1 q2 (q3.append rb)
        exact ⟨a, b, vs, ws, rfl, rfl, q2, hb, by rw [← q3.length, ← rb.length]; exact sz_le hz, q _ _ _ _ x1 S1 rep_non⟩
      · cases e
    · cases e
  · cases e
theorem mt_pPop : MtR X "list.pop" (rM X.K pPop) := mtM mt_pop fun x xs H Q ⟨F, ι, st, d, ds, d', st', S, rd, rds, e, q⟩ => by
  obtain ⟨l, ys, rfl, hl, e⟩ := onL_ok e
  split at e
  · split at e
    · rename_i y hy
      cases e
      obtain ⟨a, vs, rfl, q1, q2, q3⟩ := S.mut rd hl
      obtain ⟨v, hv, rv⟩ := q3.get hy
      obtain ⟨x1, S1⟩ := write_lst S hl q1 q2 q3.dropL
      simp only [Reps] at rds
      exact ⟨a, vs, v, rfl, rds, q2, by rw [← q3.length]; exact hv, q _ _ _ _ x1 S1 rv⟩
    · cases e
  · cases e
theorem mt_pPopAt : MtR X "list.pop" (rM X.K pPopAt) := mtM mt_popAt fun x xs H Q ⟨F, ι, st, d, ds, d', st', S, rd, rds, e, q⟩ => by
  obtain ⟨l, ys, rfl, hl, e⟩ := onL_ok e
  split at e
  · split at e
    · split at e
      · split at e
        · rename_i hi _ k hk _ y hy
          cases e
          obtain ⟨a, vs, rfl, q1, q2, q3⟩ := S.mut rd hl
          obtain ⟨v, hv, rv⟩ := q3.get hy
          obtain ⟨x1, S1⟩ := write_lst S hl q1 q2 (q3.erase k)
          obtain ⟨u, rfl, ru⟩ := rds.one'
          simp only [Rep] at ru
          subst ru
          exact ⟨a, vs, _, k, v, rfl, rfl, q2, hi.1, hi.2, by rw [← q3.length]; exact hk, hv, q _ _ _ _ x1 S1 rv⟩
        · cases e
      · cases e
    · cases e
  · cases e
end
def gSubD (mo mi : Rho → M D) : D → Rho → M Rho := fun d ρ st => (mo ρ st).bind fun o st1 => (mi ρ st1).bind fun i st2 => match o, i with
  | .ref l, .int k => match st2[l]? with
    | some (.lst xs) => match ixN xs.length k with
      | some j => .ok ρ (st2.set l (.lst (xs.set j d)))
      | none => .bad
    | _ => .bad
  | _, _ => .bad
section
variable {X : Cx} {pos : Pos} {o i : Expr} {mo mi : Rho → M D}
theorem dg_sub (ho : DE X wN o mo) (hi : DE X wN i mi)
    (ha : ∀ v, assign (.Subscript o i pos) X.env v = (do
      let ov ← holding [v] (eval o X.env)
      let iv ← holding [v, ov] (eval i X.env)
      standAt pos
      holding [v, ov, iv] (setItem ov iv v)
      release [v, ov, iv] []) := by intro _; rfl) : DG X [] (.Subscript o i pos) (gSubD mo mi) := by
  refine PG.weak (pg_sub ho hi set_list ha) fun v σ H Q ⟨F, ι, ρ, st, d, S, R, r, q⟩ => ?_
  have bk : Back (pR X.K [] σ) := fun _ _ _ _ _ _ _ _ h => h
  refine tG_seq bk S R q fun od st1 F1 ι1 H1 ov x1 S1 R1 r1 q1 => ?_
  refine tG_seq bk S1 R1 q1 fun id st2 F2 ι2 H2 iv x2 S2 R2 r2 q2 => ?_
  split at q2
  · split at q2
    · split at q2
      · rename_i l k _ xs hl _ j hj
        obtain ⟨a, vs, rfl, e1, e2, e3⟩ := S2.mut (r1.ext x2) hl
        have r2 : iv = V.int k := by simpa only [pV, Rep] using r2
        subst r2
        obtain ⟨x3, S3⟩ := write_lst S2 hl e1 e2 (e3.setAt ((r.ext x1).ext x2) j)
        exact ⟨a, vs, k, j, rfl, rfl, e2, by rw [← e3.length]; exact hj, q2 _ _ _ _ x3 S3 ⟨R2.ext x3, fun vs _ => rfl⟩⟩
      · exact (q2 : False).elim
    · exact (q2 : False).elim
  · exact (q2 : False).elim
end
end Dn
namespace Dn
open PySem PySem.Spec PyProof.Rows L2
variable [HzC]
mutual
theorem reads_lt {h : Heap} : ∀ (d : PyData) (v : Value) (as : List Addr), PySem.W.alike d d = true → Reads h v d as → ∀ a ∈ as, a < h.objs.size
  | .none, _, _, _, r, a, ha => by cases r; cases ha
  | .bool _, _, _, _, r, a, ha => by cases r; cases ha
  | .int _, _, _, _, r, a, ha => by cases r; cases ha
  | .str _, _, _, _, r, a, ha => by cases r; cases ha
  | .list xs, _, _, hal, r, a, ha => by
    cases r with
    | list h1 h2 h3 h4 =>
      rcases List.mem_cons.mp ha with e | e
      · rw [e]; exact Heap.lt_size h1
      · exact readsAll_lt xs _ _ (by simpa [PySem.W.alike] using hal) h4 a e
  | .tuple xs, _, _, hal, r, a, ha => by
    cases r with
    | tuple h1 h2 h3 h4 => exact readsAll_lt xs _ _ (by simpa [PySem.W.alike] using hal) h4 a ha
  | .dict _, _, _, hal, _, _, _ => absurd hal (by simp [PySem.W.alike])
theorem readsAll_lt {h : Heap} : ∀ (ds : List PyData) (vs : List Value) (as : List Addr), PySem.W.alikeAll ds ds = true → ReadsAll h vs ds as → ∀ a ∈ as, a < h.objs.size
  | [], _, _, _, r, a, ha => by cases r; cases ha
  | d :: ds, _, _, hal, r, a, ha => by
    cases r with
    | cons h1 h2 =>
      rcases List.mem_append.mp ha with e | e
      · exact reads_lt d _ _ (PySem.W.alike_all_cons hal).1 h1 a e
      · exact readsAll_lt ds _ _ (PySem.W.alike_all_cons hal).2 h2 a e
end
theorem each_pairs {K : PySem.W.Frag} {F : Hp} {ι : List Addr} : ∀ {ds : List D} {vs : List V} {us : List Value}, Reps K F ι ds vs → Vals vs us → PySem.W.EachIs (fun u (p : D × V) => RelV p.2 u ∧ Rep K F ι p.1 p.2) us (ds.zip vs)
  | [], _, _, h, r => by
    simp only [Reps] at h
    subst h
    cases r
    exact .nil
  | d :: ds, _, _, h, r => by
    simp only [Reps] at h
    obtain ⟨v, ws, rfl, h1, h2⟩ := h
    cases r with
    | cons r1 r2 => exact .cons ⟨r1, h1⟩ (each_pairs h2 r2)
theorem pairs_each {K : PySem.W.Frag} {F : Hp} {ι : List Addr} : ∀ {bs : List (D × V)} {us : List Value}, PySem.W.EachIs (fun u (p : D × V) => RelV p.2 u ∧ Rep K F ι p.1 p.2) us bs → Reps K F ι (bs.map (·.1)) (bs.map (·.2)) ∧ Vals (bs.map (·.2)) us
  | [], _, h => by cases h; exact ⟨Reps.nil, .nil⟩
  | b :: bs, _, h => by
    cases h with
    | cons h1 h2 =>
      obtain ⟨a, c⟩ := pairs_each h2
      exact ⟨Reps.cons h1.2 a, .cons h1.1 c⟩
theorem zip_fst {K : PySem.W.Frag} {F : Hp} {ι : List Addr} {ds : List D} {vs : List V} (h : Reps K F ι ds vs) : (ds.zip vs).map (·.1) = ds := List.map_fst_zip (Nat.le_of_eq h.length)
theorem each_mem2 {α β : Type} {R : α → β → Prop} : ∀ {as : List α} {bs : List β}, PySem.W.EachIs R as bs → PySem.W.EachIs (fun a b => R a b ∧ b ∈ bs) as bs
  | _, _, .nil => .nil
  | _, _, .cons h t => .cons ⟨h, List.mem_cons_self⟩ ((each_mem2 t).mono fun _ _ q => ⟨q.1, List.mem_cons_of_mem _ q.2⟩)
section
open PySem.W PySem.Calls
variable {prog : Program} {w : World} {A : Around} {E : Value → Shared → Prop} {s : Shared}
theorem call_tuple_lt {Q : Value → Shared → Prop} {l b : Addr} {items items2 : Array Value} {e r : Nat → Bool} (hl : s.heap.IsTuple l items) (hb : s.heap.IsTuple b items2)
    (he : ∀ j (h1 : j < items.size) (h2 : j < items2.size), SeqAt.EqAt A.in1 s items[j] items2[j] (e j)) (hr : ∀ j (h1 : j < items.size) (h2 : j < items2.size), e j = false → SeqAt.RcLt A.in1 s items[j] items2[j] (r j))
    (h : Q (.bool (SeqAt.firstLt e r (decide (items.size < items2.size)) (List.range (min items.size items2.size)))) s) : wpAny (model prog w) A (call (.builtin "tuple.__lt__") [.ref l, .ref b]) Q E s := by
  obtain ⟨⟨cls, dd, data, sl⟩, ho, hc, n, hd⟩ := id hl
  obtain ⟨⟨cls2, dd2, data2, sl2⟩, ho2, hc2, n2, hd2⟩ := id hb
  simp only at hc hd hc2 hd2
  subst hc hd hc2 hd2
  exact call_meets F.slot_tuple_lt ⟨_, ho, rfl⟩ F.entry_tuple_lt (F.args_tuple_lt_2 _ _) (SeqAt.tuple_ltAt l b items items2 n n2 dd dd2 sl sl2 e r) ⟨ho, ho2, he, hr, h⟩
theorem oneLt_tuples {f : Bool} {xs ys : List PyData} {a b : Value} {as bs : List Addr} {Q : Bool → Shared → Prop} (ra : Reads s.heap a (.tuple xs) as) (rb : Reads s.heap b (.tuple ys) bs) (h : alike (.tuple xs) (.tuple ys) = true)
    (hu : A.units + min (PyData.depth (.tuple xs)) (PyData.depth (.tuple ys)) < cLine) (hq : Q (dataLt (.tuple xs) (.tuple ys)) s) : wpAny (model prog w) A (oneLt' f a b) Q E s := by
  cases f with
  | false => exact oneLt_alike (fun q => nomatch q) ra rb h (by simp) hu hq
  | true =>
    have hal : alikeAll xs ys = true := by simpa [alike] using h
    cases ra with
    | @tuple l o vs n _ as₁ h1 h2 h3 h4 =>
      cases rb with
      | @tuple l' o' vs' n' _ bs₁ k1 k2 k3 k4 =>
        have n1 : vs.size = xs.length := by simpa using SeqAt.ReadsAll.length _ _ _ h4
        have n2 : vs'.size = ys.length := by simpa using SeqAt.ReadsAll.length _ _ _ k4
        rw [dataLt_tuple, ← firstLt_toks xs ys hal, ← n1, ← n2] at hq
        rw [oneLt'_eq]
        simp only [if_true]
        refine wpAny_bind (wpAny_cRoomFor (SeqAt.room_here hu) ?_)
        refine wpAny_bind (wpAny_callSpecialIfBound?_slot (T := "tuple") ⟨_, h1, h2⟩ F.slot_tuple_lt (call_tuple_lt (e := SeqAt.pairEq xs ys) (r := fun j => dataLt (xs.getD j .none) (ys.getD j .none)) ⟨_, h1, h2, _, h3⟩ ⟨_, k1, k2, _, k3⟩ (fun j j1 j2 => ?_) (fun j j1 j2 hj => ?_) ?_))
        · have := eqAt_alikeAll xs ys A.in1 s vs.toList vs'.toList _ _ h4 k4 hal (SeqAt.room_in hu) j (by simpa using j1) (by simpa using j2)
          simpa using this
        · have := rcLt_alikeAll xs ys A.in1 s vs.toList vs'.toList _ _ h4 k4 hal (SeqAt.room_in hu) j (by simpa using j1) (by simpa using j2) hj
          simpa using this
        · exact wpAny_truthy_bool hq
def firstV (h : Heap) (v : Value) : Option Value := match v with
  | .ref a => match h.get? a with
    | some o => match o.data with
      | .seq xs _ => xs[0]?
      | _ => none
    | none => none
  | _ => none
theorem firsts_tuples : ∀ (vs : List Value) {Q : List (Option Value) → Shared → Prop}, (∀ v ∈ vs, ∃ a o xs n, v = .ref a ∧ s.heap.get? a = some o ∧ o.cls = .type "tuple" ∧ o.data = .seq xs n) → Q (vs.map (firstV s.heap)) s → wpAny (model prog w) A (vs.mapM firstOfTuple') Q E s
  | [], _, _, h => by rw [List.mapM_nil]; exact wpAny_pure h
  | v :: vs, Q, t, h => by
    obtain ⟨a, o, xs, n, rfl, ho, hc, hd⟩ := t v (by simp)
    have e : firstV s.heap (.ref a) = xs[0]? := by
      unfold firstV
      simp only [ho, hd]
    rw [List.mapM_cons]
    refine wpAny_bind ?_
    rw [kas_first_eq]
    refine wpAny_bind (Looks.here (show Looks (model prog w) s.heap (typeOf (.ref a)) o.cls from (Looks.ld ho).andThen .now) ?_)
    rw [hc, if_neg (by first | decide | simp)]
    refine wpAny_bind (listItems_at ho hd (wpAny_pure ?_))
    rw [← e]
    exact wpAny_bind (firsts_tuples vs (Q := fun bs s' => wpAny (model prog w) A (pure (firstV s.heap (.ref a) :: bs)) Q E s') (fun v hv => t v (by simp [hv])) (wpAny_pure h))
theorem kind_tuples {vs : List Value} {Q : SortKind → Shared → Prop} (h2 : 2 ≤ vs.length) (t : ∀ v ∈ vs, ∃ a o xs n, v = .ref a ∧ s.heap.get? a = some o ∧ o.cls = .type "tuple" ∧ o.data = .seq xs n) (hne : ((vs.map (firstV s.heap)).toArray.all (·.isSome)) = false)
    (h : Q (if ((vs.map (firstV s.heap))[0]?.bind id).isSome = true then general' else oneType') s) : wpAny (model prog w) A (keyKind' vs.toArray) Q E s := by
  obtain ⟨v₁, v₂, rest, rfl⟩ : ∃ v₁ v₂ rest, vs = v₁ :: v₂ :: rest := by
    match vs, h2 with
    | [], h2 => simp at h2
    | [_], h2 => simp at h2
    | v₁ :: v₂ :: rest, _ => exact ⟨v₁, v₂, rest, rfl⟩
  rw [keyKind'_eq, List.mapM_toArray, map_eq_pure_bind]
  refine wpAny_bind (wpAny_bind (firsts_tuples _ t (wpAny_pure ?_)))
  rw [if_neg (by rw [hne]; simp)]
  have hg : (((v₁ :: v₂ :: rest).map (firstV s.heap)).toArray[0]?.bind id) = (((v₁ :: v₂ :: rest).map (firstV s.heap))[0]?.bind id) := by simp
  rw [hg]
  by_cases hf : ((((v₁ :: v₂ :: rest).map (firstV s.heap))[0]?.bind id).isSome) = true
  · rw [if_pos hf] at h ⊢
    exact wpAny_pure h
  · rw [if_neg hf] at h ⊢
    rw [oneTypeOnly'_eq, List.mapM_toArray, map_eq_pure_bind]
    refine wpAny_bind (wpAny_bind (wpAny_bind (kas_mapM (r := Value.type "tuple") _ (fun v hv Q' hq => ?_) (wpAny_pure ?_))))
    · obtain ⟨a, o, xs, n, rfl, ho, hc, hd⟩ := t v hv
      exact Looks.here (show Looks (model prog w) s.heap (typeOf (.ref a)) (Value.type "tuple") from hc ▸ (Looks.ld ho).andThen .now) hq
    · have hall : ((List.map (fun _ => Value.type "tuple") (v₁ :: v₂ :: rest)).toArray.all fun x => x == Value.type "tuple") = true := by
        simp only [List.all_toArray, List.all_map, List.all_eq_true]
        intro _ _
        rfl
      have h0 : (List.map (fun _ => Value.type "tuple") (v₁ :: v₂ :: rest)).toArray[0]? = some (Value.type "tuple") := by simp
      rw [h0]
      simp only [hall, if_true]
      exact wpAny_pure (wpAny_pure h)
def SortableX (ds : List PyData) : Prop := (∀ d, d ∈ ds → ∃ xs, d = .tuple xs) ∨ ∀ d, d ∈ ds → d ≠ .none ∧ ∀ xs, d ≠ .tuple xs
theorem first_each {h : Heap} : ∀ {vs : List Value} {ds : List PyData}, EachIs (fun v d => ∃ as, Reads h v d as) vs ds → (∀ d, d ∈ ds → ∃ xs, d = .tuple xs) → ((vs.map (firstV h)).toArray.all (·.isSome)) = true → ∀ d, d ∈ ds → ∃ x r, d = .tuple (x :: r)
  | _, _, .nil, _, _, d, hd => nomatch hd
  | _, _, .cons (b := d0) ⟨as, r⟩ t, ht, ha, d, hd => by
    obtain ⟨xs, rfl⟩ := ht d0 (List.mem_cons_self ..)
    rw [List.map_cons] at ha
    simp only [List.all_toArray, List.all_cons, Bool.and_eq_true] at ha
    have ha' := ha
    rcases List.mem_cons.mp hd with rfl | hd
    · cases r with
      | @tuple a o ys n _ _ ho hc hdt hr =>
        have e : firstV h (.ref a) = ys[0]? := by
          unfold firstV
          simp only [ho, hdt]
        cases xs with
        | nil =>
          have hl : ys.toList.length = 0 := by simpa using SeqAt.ReadsAll.length _ _ _ hr
          have h1 := ha'.1
          rw [e] at h1
          have : ys[0]? = none := by
            rw [Array.getElem?_eq_none]
            simp at hl
            simp [hl]
          rw [this] at h1
          cases h1
        | cons x r => exact ⟨x, r, rfl⟩
    · exact first_each t (fun d hd => ht d (List.mem_cons_of_mem _ hd)) (by simp only [List.all_toArray]; exact ha'.2) d hd
theorem sortsAtX {vs : List Value} {ds : List PyData} (e : EachIs (fun v d => ∃ as, Reads s.heap v d as) vs ds) (hal : AllAlike ds) (hk : SortableX ds) (hu : ∀ d, d ∈ ds → A.units + d.depth < cLine) : SortsAt prog w A s (dataKind s.heap ds) vs := by
  rcases hk with ht | hn
  · by_cases ha : ((vs.map (firstV s.heap)).toArray.all (·.isSome)) = true
    · exact SortsAt.data e hal (.inl (first_each e ht ha)) hu
    · have room : ∀ {d d' : PyData}, d ∈ ds → A.units + min d.depth d'.depth < cLine := fun {d d'} hd => Nat.lt_of_le_of_lt (Nat.add_le_add_left (Nat.min_le_left _ _) _) (hu d hd)
      refine ⟨fun v hv => ?_, if ((vs.map (firstV s.heap))[0]?.bind id).isSome = true then general' else oneType', ?_, fun h2 E Q hq => ?_⟩
      · obtain ⟨d, hd, as, r⟩ := e.left v hv
        exact ⟨_, dataKind_some hal hd r⟩
      · intro E x y a b Q ha hb hq
        obtain ⟨d, as, hd, ra, rfl⟩ := dataKind_inv ha
        obtain ⟨d', as', hd', rb, rfl⟩ := dataKind_inv hb
        have hdd := hal d hd d' hd'
        have hroom := room (d' := d') hd
        obtain ⟨xs, rfl⟩ := ht d hd
        obtain ⟨ys, rfl⟩ := ht d' hd'
        have hq' : Q (dataLt (.tuple xs) (.tuple ys)) s := hq
        split
        · exact oneLt_tuples (f := false) ra rb hdd hroom hq'
        · rw [keyLt'_oneType]
          exact oneLt_tuples (f := true) ra rb hdd hroom hq'
      · refine kind_tuples (by simpa using h2) (fun v hv => ?_) (by simpa using ha) hq
        obtain ⟨d, hd, as, r⟩ := e.left v hv
        obtain ⟨xs, rfl⟩ := ht d hd
        cases r with
        | @tuple a o ys n _ _ ho hc hdt hr => exact ⟨a, o, ys, n, rfl, ho, hc, hdt⟩
  · exact SortsAt.data e hal (.inr hn) hu
theorem list_sort_dataX {β : Type} {R : Value → β → Prop} {enc : β → PyData} {vs : List Value} {bs : List β} {a : Addr} {n : Nat} {Q : Value → Shared → Prop} (ho : s.heap.get? a = some (seqObj "list" vs.toArray n)) (e : EachIs R vs bs) (er : EachIs (fun v b => ∃ as, Reads s.heap v (enc b) as ∧ a ∉ as) vs bs) (hal : AllAlike (bs.map enc)) (hk : SortableX (bs.map enc)) (hL : bs.length ≤ sizeLine)
    (hu : ∀ b, b ∈ bs → A.units + 1 + (enc b).depth < cLine) (h : ∀ out, out.length = bs.length → EachIs R out (bs.mergeSort (dataLe false enc)) → Q .none { s with heap := sortedHeap s.heap a vs (List.toArray out) }) :
    wpAny (model prog w) A (call (.builtin "list.sort") [.ref a]) Q E s := by
  have er' : EachIs (fun v b => ∃ as, Reads (sortingHeap s.heap a vs) v (enc b) as) vs bs := each_keepBut (h' := sortingHeap s.heap a vs) (fun _ _ hb q => sortingHeap_old hb q) (fun o q => by rw [ho] at q; rw [← Option.some.inj q]) hal er
  refine wpAny_call_entry slot_list_sort ⟨_, ho, rfl⟩ entry_list_sort (list_sort_vals (κ := dataKind (sortingHeap s.heap a vs) (bs.map enc)) ho (sortsAtX (s := { s with heap := sortingHeap s.heap a vs }) (each_map (R := fun v d => ∃ as, Reads (sortingHeap s.heap a vs) v d as) enc er') hal hk (bound_map hu)) (by rw [e.length]; exact hL) ⟨.none, rfl, ?_⟩) (args_list_sort _)
  exact h _ (by rw [sortVals_length false rfl]; exact e.length) (sortVals_data false e er' hal)
end
def sortD (ds : List D) : List D := ds.mergeSort (PySem.W.dataLe false toP)
open Classical in
noncomputable def pSorted : Sto → List D → Option (List D) := fun st ds => match ds with
  | [d] => match seqOf st d with
    | some xs => if xs.length ≤ SZ ∧ (∀ x ∈ xs, isP x = true ∧ (toP x).depth ≤ 50) ∧ PySem.W.AllAlike (xs.map toP) ∧ SortableX (xs.map toP) then some (sortD xs) else none
    | none => none
  | _ => none
section
variable {X : Cx} {K : PySem.W.Frag} {F : Hp} {ι : List Addr} {st : Sto} {H : Hp}
theorem rep_dp (S : Sim K F ι st H) {d : D} {v : V} (r : Rep K F ι d v) (h : isP d = true) : Dp K H v (toP d) := by
  refine S.dp r ?_
  unfold dat
  split
  · simp [isP] at h
  · rw [if_pos h]
end
end Dn
namespace Dn
open PySem PySem.Spec PyProof.Rows L2
variable [HzC]
section
variable {X : Cx} {W : WX} {k : Nat}
theorem takes_wN : Takes X wN := fun _ _ ⟨_, _, _, _, _, _, _, _, _, _, _, _, _, _, _, _, w⟩ => w.elim
theorem Bd.blk (b : Bd X W k) {s : Shared} {H : Hp} {scope : Scope} {cenv : Env} {fp : List Addr} : Bd (X.blk s H scope cenv fp) wN k := ⟨b.room, b.gd, b.calm, b.nd, .of takes_wN⟩
theorem Bd.u64 (b : Bd X W k) : X.A.units + 64 < cLine := by have := b.room.un; omega
theorem Bd.u65 (b : Bd X W k) : X.A.units + 65 < cLine := by have := b.room.un; omega
theorem Bd.u70 (b : Bd X W k) : X.A.units + 70 < cLine := by have := b.room.un; omega
theorem vr (i : Nat) {x : Str} {pos : Pos} (hN : X.N[i]? = some x := by rfl) (hv : Vis X.env.scope x := by first | exact Or.inl rfl | exact Or.inr (Or.inl rfl) | exact Or.inr (Or.inr rfl)) (hd : (x == ("__debug__" : Str)) = false := by decide)
    (hcd : (x == ("__classdict__" : Str)) = false := by decide) : DE X W (.Name x pos) (mVar i) := de_var hN hv hd hcd
theorem gn (i : Nat) {x : Str} {pos : Pos} (b : Bd X W k) (hi : X.N[i]? = some x := by rfl) (hx : Loc X.env.scope x := by first | exact Or.inl rfl | exact Or.inr rfl) (hf : X.fn x = true ∨ X.env.scope.names.lookup x = some .local := by first | exact .inl rfl | exact .inr rfl) : DG X [i] (.Name x pos) (gN i) :=
  dg_name b.nd hi hx hf
theorem st (i : Nat) {x : Str} {pos' pos : Pos} {e : Expr} {m : Rho → M D} (b : Bd X W k) (he : DE X W e m) (hi : X.N[i]? = some x := by rfl) (hx : Loc X.env.scope x := by first | exact Or.inl rfl | exact Or.inr rfl)
    (hs : swapsWith e (some (.Name x pos')) pos.line X.env = pure false := by rfl) (hf : X.fn x = true ∨ X.env.scope.names.lookup x = some .local := by first | exact .inl rfl | exact .inr rfl) : DS X W (.Assign [.Name x pos'] e pos) (sAsg (gN i) m) :=
  ds_set b.nd hi hx he hs hf
theorem dts1 {c : Expr} {m : Rho → M Bool} (h : DT X W c m) : DTs X W [c] m := dts_one h
def sPar3 (i j l : Nat) (a : Rho → M (List D)) : Rho → Sto → Fl := fun ρ st => (a ρ st).fl ρ fun ds st1 => match ds with
  | [x, y, z] => .next (((ρ.set i (some x)).set j (some y)).set l (some z)) st1
  | _ => .bad
end
end Dn
namespace Dn
open PySem PySem.Spec PyProof.Rows L2
variable [HzC]
def rgOk (lo hi : Int) : Prop := -(2 ^ 62) ≤ lo ∧ lo < 2 ^ 62 ∧ -(2 ^ 62) ≤ hi ∧ hi < 2 ^ 62 ∧ (hi - lo).toNat ≤ SZ
theorem rgOk.ok {lo hi : Int} (h : rgOk lo hi) : RgOk lo hi := ⟨h.1, h.2.1, h.2.2.1, h.2.2.2.1, Nat.le_trans h.2.2.2.2 (by decide)⟩
section
variable {X : Cx} {W : WX} {p p2 pos pos2 : Pos} {a b : Expr} {m1 m2 : Rho → M D}
end
def intsOf : List D → Option (List Int)
  | [] => some []
  | .int i :: ds => (intsOf ds).map (i :: ·)
  | _ => none
theorem intsOf_some : ∀ {ds : List D} {ns : List Int}, intsOf ds = some ns → ds = ns.map D.int
  | [], _, h => by cases h; rfl
  | .int i :: ds, ns, h => by
    unfold intsOf at h
    cases e : intsOf ds with
    | none => rw [e] at h; cases h
    | some ms =>
      rw [e] at h
      cases h
      rw [intsOf_some e] <;> rfl
  | .non :: _, _, h => by cases h
  | .bl _ :: _, _, h => by cases h
  | .str _ :: _, _, h => by cases h
  | .tup _ :: _, _, h => by cases h
  | .lst _ :: _, _, h => by cases h
  | .scr _ :: _, _, h => by cases h
  | .ref _ :: _, _, h => by cases h
  | .adr _ :: _, _, h => by cases h
  | .fd _ _ :: _, _, h => by cases h
  | .exo _ _ _ _ :: _, _, h => by cases h
  | .obj _ _ _ :: _, _, h => by cases h
  | .sd _ :: _, _, h => by cases h
  | .fnv _ :: _, _, h => by cases h
theorem reps_ints_vs {K : PySem.W.Frag} {F : Hp} {ι : List Addr} : ∀ {ns : List Int} {vs : List V}, Reps K F ι (ns.map D.int) vs → vs = ns.map V.int
  | [], _, h => by simpa only [List.map_nil, Reps] using h
  | n :: ns, _, h => by
    simp only [List.map_cons, Reps] at h
    obtain ⟨v, r, rfl, h1, h2⟩ := h
    simp only [Rep] at h1
    rw [h1, reps_ints_vs h2] <;> rfl
def pRemove : D → List D → M D := fun d ds st => onL st d fun l xs => match ds with
  | [.int i] => match intsOf xs with
    | some ns => if i ∈ ns then .ok .non (st.set l (.lst ((ns.eraseIdx (ns.idxOf i)).map .int))) else .bad
    | none => .bad
  | _ => .bad
theorem idxOf_first {i : Int} : ∀ (ns : List Int) (m : Nat), m < ns.idxOf i → ns[m]? ≠ some i
  | [], m, h => by simp
  | n :: ns, m, h => by
    rw [List.idxOf_cons] at h
    by_cases e : n = i
    · subst e
      simp at h
    · have hb : (n == i) = false := by simpa using e
      rw [hb] at h
      cases m with
      | zero => simpa using e
      | succ m =>
        have h' : m < ns.idxOf i := by simpa using h
        simpa using idxOf_first ns m h'
theorem mt_pRemove {X : Cx} : MtR X "list.remove" (rM X.K pRemove) := mtM mt_remove fun x xs H Q ⟨F, ι, st, d, ds, d', st', S, rd, rds, e, q⟩ => by
  obtain ⟨l, ys, rfl, hl, e⟩ := onL_ok e
  split at e
  · split at e
    · split at e
      · rename_i ns hns hi
        cases e
        obtain ⟨a, vs, rfl, q1, q2, q3⟩ := S.mut rd hl
        obtain ⟨u, rfl, ru⟩ := rds.one'
        simp only [Rep] at ru
        subst ru
        obtain rfl := intsOf_some hns
        obtain rfl := reps_ints_vs q3
        obtain ⟨x1, S1⟩ := write_lst S hl q1 q2 (reps_ints (ns.eraseIdx (ns.idxOf _)))
        refine ⟨a, ns, _, _, rfl, rfl, q2, ?_, idxOf_first ns, q _ _ _ _ x1 S1 rep_non⟩
        have hlt := List.idxOf_lt_length_of_mem hi
        rw [List.getElem?_eq_getElem hlt, List.getElem_idxOf hlt]
      · cases e
    · cases e
  · cases e
end Dn
namespace Dn
open PySem PySem.Spec PyProof.Rows L2
section
variable (ρ : Rho) (s : Sto)
@[simp] theorem mLit_ap (d : D) : mLit d ρ s = .ok d s := rfl
theorem mVar_ap (i : Nat) : mVar i ρ s = match ρ[i]? with | some (some d) => .ok d s | _ => .bad := rfl
@[simp] theorem mNil_ap : mNil ρ s = .ok [] s := rfl
@[simp] theorem mCons_ap (m : Rho → M D) (r : Rho → M (List D)) : mCons m r ρ s = (m ρ s).bind fun d s1 => (r ρ s1).bind fun ds s2 => .ok (d :: ds) s2 := rfl
@[simp] theorem mTup_ap (a : Rho → M (List D)) : mTup a ρ s = (a ρ s).bind fun xs s1 => if xs.length ≤ 100000 then .ok (.tup xs) s1 else .bad := rfl
@[simp] theorem lDisp_ap (a : Rho → M (List D)) : lDisp a ρ s = (a ρ s).bind fun xs s1 => if xs.length ≤ 100000 then .ok xs s1 else .bad := rfl
@[simp] theorem mFrz_ap (a : Rho → M (List D)) : mFrz a ρ s = (a ρ s).bind fun xs s1 => .ok (.lst xs) s1 := rfl
@[simp] theorem mNew_ap (a : Rho → M (List D)) : mNew a ρ s = (a ρ s).bind fun xs s1 => .ok (.ref s1.length) (s1 ++ [.lst xs]) := rfl
@[simp] theorem mOp_ap (p : Sto → D → D → Option D) (a b : Rho → M D) : mOp p a b ρ s = (a ρ s).bind fun x s1 => (b ρ s1).bind fun y s2 => lift (p s2 x y) s2 := rfl
@[simp] theorem lOp_ap (p : Sto → D → D → Option (List D)) (a b : Rho → M D) : lOp p a b ρ s = (a ρ s).bind fun x s1 => (b ρ s1).bind fun y s2 => lift (p s2 x y) s2 := rfl
@[simp] theorem mB_ap (p : Sto → List D → Option D) (a : Rho → M (List D)) : mB p a ρ s = (a ρ s).bind fun ds s1 => lift (p s1 ds) s1 := rfl
@[simp] theorem lB_ap (p : Sto → List D → Option (List D)) (a : Rho → M (List D)) : lB p a ρ s = (a ρ s).bind fun ds s1 => lift (p s1 ds) s1 := rfl
@[simp] theorem mCall_ap (f : List D → M D) (a : Rho → M (List D)) : mCall f a ρ s = (a ρ s).bind fun ds s1 => f ds s1 := rfl
@[simp] theorem mUn_ap (p : Sto → D → Option D) (a : Rho → M D) : mUn p a ρ s = (a ρ s).bind fun d s1 => lift (p s1 d) s1 := rfl
@[simp] theorem mStar_ap (m : Rho → M D) (r : Rho → M (List D)) : mStar m r ρ s = (m ρ s).bind fun d s1 => match seqOf s1 d with | some xs => (r ρ s1).bind fun ds s2 => .ok (xs ++ ds) s2 | none => .bad := rfl
@[simp] theorem isB_ap (m : Rho → M D) : isB m ρ s = (m ρ s).bind fun d s1 => match d with | .bl k => .ok k s1 | _ => .bad := rfl
@[simp] theorem mTru_ap (m : Rho → M D) : mTru m ρ s = (m ρ s).bind fun d s1 => lift (d.truth s1) s1 := rfl
@[simp] theorem bAnd_ap (a b : Rho → M Bool) : bAnd a b ρ s = (a ρ s).bind fun k s1 => if k = true then b ρ s1 else .ok false s1 := rfl
@[simp] theorem bOr_ap (a b : Rho → M Bool) : bOr a b ρ s = (a ρ s).bind fun k s1 => if k = true then .ok true s1 else b ρ s1 := rfl
@[simp] theorem bNot_ap (a : Rho → M Bool) : bNot a ρ s = (a ρ s).bind fun k s1 => .ok (!k) s1 := rfl
@[simp] theorem bYes_ap : bYes ρ s = .ok true s := rfl
@[simp] theorem mIf_ap (t : Rho → M Bool) (a b : Rho → M D) : mIf t a b ρ s = (t ρ s).bind fun k s1 => if k = true then a ρ s1 else b ρ s1 := rfl
@[simp] theorem oNone_ap : oNone ρ s = .ok none s := rfl
@[simp] theorem sSeq_ap (a b : Rho → Sto → Fl) : sSeq a b ρ s = (a ρ s).seq b := rfl
@[simp] theorem sAsg_ap (g : D → Rho → M Rho) (m : Rho → M D) : sAsg g m ρ s = (m ρ s).fl ρ fun d s1 => (nox (g d ρ s1)).fl ρ fun r s2 => .next r s2 := rfl
@[simp] theorem sRet_ap (m : Rho → M D) : sRet m ρ s = (m ρ s).fl ρ fun d s1 => .ret d s1 := rfl
@[simp] theorem sDrop_ap (m : Rho → M D) : sDrop m ρ s = (m ρ s).fl ρ fun _ s1 => .next ρ s1 := rfl
@[simp] theorem sIf_ap (t : Rho → M Bool) (a b : Rho → Sto → Fl) : sIf t a b ρ s = (t ρ s).fl ρ fun k s1 => if k = true then a ρ s1 else b ρ s1 := rfl
@[simp] theorem sNext_ap : sNext ρ s = .next ρ s := rfl
@[simp] theorem sBrk_ap : sBrk ρ s = .brk ρ s := rfl
@[simp] theorem sCnt_ap : sCnt ρ s = .cnt ρ s := rfl
@[simp] theorem gN_ap (i : Nat) (d : D) : gN i d ρ s = .ok (ρ.set i (some d)) s := rfl
@[simp] theorem gT_ap (n : Nat) (gs : List D → Rho → M Rho) (xs : List D) (h : xs.length = n) : gT n gs (.tup xs) ρ s = gs xs ρ s := by
  unfold gT
  simp [h]
@[simp] theorem gsCons_ap (g : D → Rho → M Rho) (gs : List D → Rho → M Rho) (d : D) (ds : List D) : gsCons g gs (d :: ds) ρ s = (g d ρ s).bind fun r s1 => gs ds r s1 := rfl
@[simp] theorem gsNil_ap : gsNil [] ρ s = .ok ρ s := rfl
@[simp] theorem seq_next (k : Rho → Sto → Fl) : (Fl.next ρ s).seq k = k ρ s := rfl
@[simp] theorem seq_ret (d : D) (k : Rho → Sto → Fl) : (Fl.ret d s).seq k = .ret d s := rfl
@[simp] theorem seq_brk (k : Rho → Sto → Fl) : (Fl.brk ρ s).seq k = .brk ρ s := rfl
@[simp] theorem seq_cnt (k : Rho → Sto → Fl) : (Fl.cnt ρ s).seq k = .cnt ρ s := rfl
@[simp] theorem flOut_ret (d : D) : flOut (.ret d s) = .ok d s := rfl
@[simp] theorem flOut_next : flOut (.next ρ s) = .ok .non s := rfl
@[simp] theorem sFor_ap (ms : Rho → M Src) (g : D → Rho → M Rho) (mb : Rho → Sto → Fl) : sFor ms g mb ρ s = (ms ρ s).fl ρ fun src s1 => forL src.held (forB g mb) src.items ρ s1 := rfl
@[simp] theorem sPar_ap (i j : Nat) (a : Rho → M (List D)) : sPar i j a ρ s = (a ρ s).fl ρ fun ds s1 => match ds with | [x, y] => .next ((ρ.set i (some x)).set j (some y)) s1 | _ => .bad := rfl
@[simp] theorem sPar3_ap (i j l : Nat) (a : Rho → M (List D)) : sPar3 i j l a ρ s = (a ρ s).fl ρ fun ds s1 => match ds with | [x, y, z] => .next (((ρ.set i (some x)).set j (some y)).set l (some z)) s1 | _ => .bad := rfl
@[simp] theorem iRng1D_ap (m : Rho → M D) : iRng1D m ρ s = (m ρ s).bind fun d s1 => lift (rng1 d) s1 := rfl
@[simp] theorem iSeq_ap (m : Rho → M D) : iSeq m ρ s = (m ρ s).bind fun d s1 => lift (srcOf s1 d) s1 := rfl
@[simp] theorem lLc_ap (ms : Rho → M Src) (gf : D → Rho → M Rho) (mt : Rho → M Bool) (me : Rho → M D) (vs : List Nat) : lLc ms gf mt me vs ρ s = (ms ρ s).bind fun src s1 => if src.items.length ≤ 100000 then nox (lcL src.held (lcF gf mt me (wipeD ρ vs)) src.items s1) else .bad := rfl
@[simp] theorem forB_ap (g : D → Rho → M Rho) (mb : Rho → Sto → Fl) (d : D) : forB g mb d ρ s = (nox (g d ρ s)).fl ρ fun r s1 => mb r s1 := rfl
end
theorem clean_same {s s' : Sto} {d : D} (h : s'.length = s.length) : clean s (.ok d s') = .ok d s' := by
  unfold clean
  dsimp only
  split
  · rw [← h, List.take_length]
  · rfl
mutual
theorem low_of_isP (n : Nat) : ∀ d : D, isP d = true → d.low n = true
  | .non, _ => by simp only [D.low]
  | .bl _, _ => by simp only [D.low]
  | .int _, _ => by simp only [D.low]
  | .str _, _ => by simp only [D.low]
  | .tup xs, h => by
    simp only [D.low]
    exact lows_of_isPs n xs (by simpa only [isP] using h)
  | .lst xs, h => by
    simp only [D.low]
    exact lows_of_isPs n xs (by simpa only [isP] using h)
  | .scr _, h => by simp [isP] at h
  | .ref _, h => by simp [isP] at h
  | .adr _, h => by simp [isP] at h
  | .fd _ _, h => by simp [isP] at h
  | .exo _ _ _ _, h => by simp [isP] at h
  | .obj _ _ _, h => by simp [isP] at h
  | .sd _, h => by simp [isP] at h
  | .fnv _, h => by simp [isP] at h
theorem lows_of_isPs (n : Nat) : ∀ ds : List D, isPs ds = true → D.lows n ds = true
  | [], _ => by simp only [D.lows]
  | d :: ds, h => by
    simp only [isPs, Bool.and_eq_true] at h
    simp only [D.lows, Bool.and_eq_true]
    exact ⟨low_of_isP n d h.1, lows_of_isPs n ds h.2⟩
end
theorem lcL_pure {held : List (Nat × List D)} {f : D → Sto → Out (Option D)} {g : D → Option D} {s : Sto} (hh : heldOk held s) : ∀ items : List D, (∀ d ∈ items, f d s = .ok (g d) s) → lcL held f items s = .ok (items.filterMap g) s
  | [], _ => by unfold lcL; rw [if_pos hh] <;> rfl
  | d :: ds, h => by
    unfold lcL
    rw [if_pos hh, h d (by simp)]
    simp only [Out.bind_ok]
    rw [lcL_pure hh ds fun d hd => h d (by simp [hd])]
    simp only [Out.bind_ok]
    congr 1
    rw [List.filterMap_cons]
    cases g d <;> rfl
def nI (n : Nat) : D := .int (n : Int)
def nT (r : List Nat) : D := .tup (r.map nI)
def nP (p : List (List Nat)) : D := .tup (p.map nT)
theorem atI_cast {α : Type} (xs : List α) (n : Nat) : atI xs (n : Int) = xs[n]? := by
  unfold atI ixN
  rw [if_pos (Int.natCast_nonneg n)]
  by_cases h : n < xs.length
  · rw [if_pos (by omega), Option.bind_some, Int.toNat_natCast]
  · rw [if_neg (by omega), List.getElem?_eq_none (by omega)]
    rfl
@[simp] theorem pIdx_tup (s : Sto) (xs : List D) (n : Nat) : pIdx s (.tup xs) (nI n) = xs[n]? := by
  show (seqOf s (.tup xs)).bind (fun xs => atI xs (n : Int)) = _
  rw [seqOf_tup, Option.bind_some, atI_cast]
@[simp] theorem pIdx_lst (s : Sto) (xs : List D) (n : Nat) : pIdx s (.lst xs) (nI n) = xs[n]? := by
  show (seqOf s (.lst xs)).bind (fun xs => atI xs (n : Int)) = _
  rw [seqOf_lst, Option.bind_some, atI_cast]
theorem dat_P {s : Sto} {d : D} (h : isP d = true) : dat s d = some (toP d) := by
  unfold dat
  split
  · simp [isP] at h
  · rw [if_pos h]
@[simp] theorem isP_nI (n : Nat) : isP (nI n) = true := rfl
theorem isPs_map {α : Type} (f : α → D) (h : ∀ a, isP (f a) = true) : ∀ l : List α, isPs (l.map f) = true
  | [] => rfl
  | a :: l => by rw [List.map_cons, isPs, h a, isPs_map f h l] <;> rfl
@[simp] theorem isP_nT (r : List Nat) : isP (nT r) = true := by unfold nT; rw [isP]; exact isPs_map _ isP_nI r
@[simp] theorem isP_nP (p : List (List Nat)) : isP (nP p) = true := by unfold nP; rw [isP]; exact isPs_map _ isP_nT p
@[simp] theorem pEq_int (s : Sto) (i j : Int) : pEq s (.int i) (.int j) = some (.bl (decide (i = j))) := by
  show (if min (PyData.depth (.int i)) (PyData.depth (.int j)) ≤ 64 then some (D.bl (PyData.eqv (.int i) (.int j))) else none) = _
  rw [if_pos (by simp [PyData.depth])]
  congr 2
@[simp] theorem pNe_int (s : Sto) (i j : Int) : pNe s (.int i) (.int j) = some (.bl (!decide (i = j))) := by
  show (if min (PyData.depth (.int i)) (PyData.depth (.int j)) ≤ 64 then some (D.bl (!PyData.eqv (.int i) (.int j))) else none) = _
  rw [if_pos (by simp [PyData.depth])]
  congr 3
@[simp] theorem pEq_nI (s : Sto) (i j : Nat) : pEq s (nI i) (nI j) = some (.bl (decide (i = j))) := by
  unfold nI
  rw [pEq_int]
  congr 2
  rw [Bool.eq_iff_iff]; simp; omega
@[simp] theorem pNe_nI (s : Sto) (i j : Nat) : pNe s (nI i) (nI j) = some (.bl (!decide (i = j))) := by
  unfold nI
  rw [pNe_int]
  congr 3
  rw [Bool.eq_iff_iff]; simp; omega
@[simp] theorem pEq_str (s : Sto) (x y : Str) : pEq s (.str x) (.str y) = some (.bl (x == y)) := rfl
@[simp] theorem pNe_str (s : Sto) (x y : Str) : pNe s (.str x) (.str y) = some (.bl (!(x == y))) := rfl
theorem shaped_of {d : PyData} (h1 : d.canLay0 = true) (h2 : d.depth ≤ 64) : SeqAt.shaped d = true := by
  unfold SeqAt.shaped
  rw [h1, decide_eq_true h2] <;> rfl
theorem toP_nT (r : List Nat) : toP (nT r) = .tuple ((r.map nI).map toP) := by unfold nT; rw [toP, toPs_map]
theorem any_ints (a : Nat) : ∀ r : List Nat, (((r.map nI).map toP).any fun z => PyData.eqv z (.int (a : Int))) = decide (a ∈ r)
  | [] => by simp
  | n :: r => by
    rw [List.map_cons, List.map_cons, List.any_cons, any_ints a r]
    show (PyData.eqv (.int (n : Int)) (.int (a : Int)) || decide (a ∈ r)) = _
    have e : PyData.eqv (.int (n : Int)) (.int (a : Int)) = decide (a = n) := by
      show ((n : Int) == (a : Int)) = _
      rw [Bool.eq_iff_iff]
      simp
      omega
    rw [e, Bool.eq_iff_iff]
    simp
theorem inD_nT (s : Sto) (a : Nat) (r : List Nat) : inD s (nI a) (nT r) = some (decide (a ∈ r)) := by
  unfold inD
  show (match dat s (nI a), dat s (nT r) with
    | some p, some (.list ds) => if p.depth ≤ 64 then some (ds.any fun z => PyData.eqv z p) else none
    | some p, some (.tuple ds) => if p.depth ≤ 64 then some (ds.any fun z => PyData.eqv z p) else none
    | _, _ => none) = _
  rw [dat_P (isP_nI a), dat_P (isP_nT r)]
  rw [toP_nT]
  have h2 : (toP (nI a)).depth ≤ 64 := by show PyData.depth (.int _) ≤ 64; simp [PyData.depth]
  simp only [h2, if_true]
  congr 1
  exact any_ints a r
@[simp] theorem pIn_nT (s : Sto) (a : Nat) (r : List Nat) : pIn s (nI a) (nT r) = some (.bl (decide (a ∈ r))) := by unfold pIn; rw [inD_nT] <;> rfl
@[simp] theorem pNotIn_nT (s : Sto) (a : Nat) (r : List Nat) : pNotIn s (nI a) (nT r) = some (.bl (!decide (a ∈ r))) := by unfold pNotIn; rw [inD_nT] <;> rfl
@[simp] theorem srcOf_tup (s : Sto) (xs : List D) : srcOf s (.tup xs) = some ⟨xs, []⟩ := rfl
@[simp] theorem srcOf_lst (s : Sto) (xs : List D) : srcOf s (.lst xs) = some ⟨xs, []⟩ := rfl
@[simp] theorem pLen_tup (s : Sto) (xs : List D) : pLen s [.tup xs] = some (nI xs.length) := rfl
@[simp] theorem pTuple_lst (s : Sto) (xs : List D) : pTuple s [.lst xs] = some (.tup xs) := rfl
@[simp] theorem truth_bl (s : Sto) (b : Bool) : (D.bl b).truth s = some b := rfl
section
variable (s : Sto) (i j : Int)
@[simp] theorem pAdd_int : pAdd s (.int i) (.int j) = some (.int (i + j)) := rfl
@[simp] theorem pSub_int : pSub s (.int i) (.int j) = some (.int (i - j)) := rfl
@[simp] theorem pNeg_int : pNeg s (.int i) = some (.int (-i)) := rfl
theorem pMod_int (h : 0 < j) : pMod s (.int i) (.int j) = some (.int (i % j)) := by unfold pMod; dsimp only; rw [if_pos h]
theorem pDiv_int (h : 0 < j ∧ j < 1073741824) : pDiv s (.int i) (.int j) = some (.int (i / j)) := by unfold pDiv; dsimp only; rw [if_pos h]
theorem pPow_int (h : 0 ≤ j ∧ j ≤ 1000000 ∧ i.natAbs < 2 ^ 64) : pPow s (.int i) (.int j) = some (.int (i ^ j.toNat)) := by unfold pPow; dsimp only; rw [if_pos h]
theorem pMul_int (h : i.natAbs < 2 ^ 64 ∨ j.natAbs < 2 ^ 64) : pMul s (.int i) (.int j) = some (.int (i * j)) := by unfold pMul; dsimp only; rw [if_pos h]
@[simp] theorem pLt_int : pLt s (.int i) (.int j) = some (.bl (decide (i < j))) := rfl
@[simp] theorem pLe_int : pLe s (.int i) (.int j) = some (.bl (decide (i ≤ j))) := rfl
@[simp] theorem pGt_int : pGt s (.int i) (.int j) = some (.bl (decide (j < i))) := rfl
@[simp] theorem pGe_int : pGe s (.int i) (.int j) = some (.bl (decide (j ≤ i))) := rfl
@[simp] theorem pAdd_nI (a b : Nat) : pAdd s (nI a) (nI b) = some (nI (a + b)) := by unfold nI; rw [pAdd_int]; congr 2
end
theorem pIdx_ref {s : Sto} {l : Nat} {xs : List D} (h : s[l]? = some (.lst xs)) (i : Int) : pIdx s (.ref l) (.int i) = atI xs i := by
  show (seqOf s (.ref l)).bind _ = _
  have e : seqOf s (.ref l) = some xs := by
    show lstOf s (.ref l) = _
    unfold lstOf
    dsimp only
    rw [h]
  rw [e] <;> rfl
theorem gSubD_ref {mo mi : Rho → M D} {d : D} {ρ : Rho} {s s1 s2 : Sto} {l j : Nat} {k : Int} {xs : List D} (ho : mo ρ s = .ok (.ref l) s1) (hi : mi ρ s1 = .ok (.int k) s2) (h : s2[l]? = some (.lst xs)) (hj : ixN xs.length k = some j) : gSubD mo mi d ρ s = .ok ρ (s2.set l (.lst (xs.set j d))) := by
  unfold gSubD
  rw [ho, Out.bind_ok, hi, Out.bind_ok]
  simp only [h, hj]
structure ROk (dp bk : Nat) (d : D) : Prop where
  p : isP d = true
  lay : (toP d).canLay0 = true
  dep : (toP d).depth ≤ dp
  show_ : (toP d).showable = true
  leaf : (toP d).leavesShort 60 = true
  blk : (toP d).bulk ≤ bk
theorem ROk.mono {dp bk dp' bk' : Nat} {d : D} (h : ROk dp bk d) (h1 : dp ≤ dp') (h2 : bk ≤ bk') : ROk dp' bk' d := ⟨h.p, h.lay, Nat.le_trans h.dep h1, h.show_, h.leaf, Nat.le_trans h.blk h2⟩
end Dn
namespace Dn
open PySem PySem.Spec PyProof.Rows L2
theorem clean_some (s : Sto) (d : D) (s' : Sto) : ∃ st', clean s (.ok d s') = .ok d st' := by
  unfold clean
  dsimp only
  split
  · exact ⟨_, rfl⟩
  · exact ⟨_, rfl⟩
theorem cutD_take {α : Type} (xs : List α) (n : Nat) : Dn.cutD xs none (some (n : Int)) = xs.take n := by
  unfold Dn.cutD
  rw [HT.sIx_none, HT.sIx_nat, Nat.sub_zero, List.drop_zero]
  by_cases h : n ≤ xs.length
  · rw [Nat.min_eq_left h]
  · rw [Nat.min_eq_right (by omega), List.take_length, List.take_of_length_le (by omega)]
theorem cutD_drop {α : Type} (xs : List α) (n : Nat) : Dn.cutD xs (some (n : Int)) none = xs.drop n := by
  unfold Dn.cutD
  rw [HT.sIx_none, HT.sIx_nat]
  by_cases h : n ≤ xs.length
  · rw [Nat.min_eq_left h, List.take_of_length_le (by rw [List.length_drop]; omega)]
  · rw [Nat.min_eq_right (by omega), Nat.sub_self, List.take_zero, List.drop_of_length_le (by omega)]
theorem lst_of_ref {s : Sto} {l : Nat} {xs : List D} (h : s[l]? = some (.lst xs)) : lstOf s (.ref l) = some xs := by
  unfold lstOf
  simp only [h]
end Dn
namespace Dn
open PySem PySem.Spec PyProof.Rows L2
variable [HzC]
def mMethT (p : D → List D → M D) (mo : Rho → M D) (am : Rho → M (List D)) : Rho → M D := fun ρ st =>
  (mo ρ st).bind fun o st1 => match o with
    | .tup xs => (am ρ st1).bind fun ds st2 => nox (p (.tup xs) ds st2)
    | _ => .bad
section
variable {X : Cx} {W : WX} {apos cpos : Pos} {o e : Expr} {es : List Expr} {mo : Rho → M D} {am : Rho → M (List D)} {id : String} {name : Str} {p : D → List D → M D} {pins : List (Addr × Obj)} {σ : L2.St} {H : Hp} {s : Shared}
theorem _root_.L2.Inv.plainT {K : PySem.W.Frag} {a : Addr} {xs : List V} (hK : K = X.K) (I : Inv X pins σ H s) (h : SqP K H a xs) : s.TypeIs (.ref a) "tuple" ∧ ∀ b, Value.ref a = .ref b → ∃ ob, s.heap.get? b = some ob ∧ ob.dict = none := by
  subst hK
  rcases h with ⟨ob, hd, hF⟩ | ⟨ob, its, n, hk, hc, hd, _⟩
  · obtain ⟨hg, hz, us, r, ob2, hg2, hc2, _⟩ := I.hok a _ hF
    rw [hg] at hg2
    cases hg2
    exact ⟨⟨ob, hg, hc2⟩, fun b e => by cases e; exact ⟨ob, hg, hd⟩⟩
  · exact ⟨⟨ob, I.kIn a ob hk, hc⟩, fun b e => by cases e; exact ⟨ob, I.kIn a ob hk, hd⟩⟩
theorem de_mT (slot : Slot "tuple" name id) (hty : typeOf (.builtin id) = pure (.type "method_descriptor")) (hm : MtR X id (rM X.K p)) (ho : DE X W o mo) (ha : DA X W (e :: es) am)
    (hbase : attributeBase o name X.env (eval o X.env) = eval o X.env := by rfl)
    (hfew : ((backTo cpos (starEach (e :: es) X.env)).all (fun x => !x.1) && (backToKw cpos (keywordEach [] X.env)).all (fun x => x.1.isSome)
      && decide ((e :: es).length + ([] : List Keyword).length + (if ([] : List Keyword).isEmpty then 0 else 1) < 30)) = true := by rfl)
    (hline : (apos.endLine == cpos.line) = true := by rfl) (hs : starEach (e :: es) X.env = (false, eval e X.env) :: starEach es X.env := by rfl) (hpl : (backTo cpos (starEach es X.env)).any (·.1) = false := by rfl) :
    DE X W (.Call (.Attribute o name apos) (e :: es) [] cpos) (mMethT p mo am) := by
  refine ⟨fun pins s σ H Q I ⟨F, ι, ρ, st, S, R, q⟩ => ?_⟩
  refine wpAny_Call_method_late hbase hfew hline rfl (thn (ho.run pins s σ H (fun x H1 => ∃ F1 ι1 st1 xs, Sim X.K F1 ι1 st1 H1 ∧ REnv X.K F1 ι1 ρ σ ∧ Rep X.K F1 ι1 (.tup xs) x ∧ post X.K W σ F1 ι1 H1 (pV X.K) ((am ρ st1).bind fun ds st2 => nox (p (.tup xs) ds st2)) Q) I ?_) fun v s1 ⟨x, H1, I1, r1, F1, ι1, st1, xs, S1, R1, rx, q1⟩ => ?_)
  · refine tG_seq back_V S R q fun d st1 F1 ι1 H1 x x1 S1 R1 r1 q1 => ?_
    split at q1
    · exact ⟨F1, ι1, st1, _, S1, R1, r1, q1⟩
    · exact (q1 : False).elim
  have rx' := rx
  simp only [Rep] at rx
  obtain ⟨a, vs, rfl, hq, rr⟩ := rx
  obtain rfl : v = Value.ref a := r1
  obtain ⟨ht, hd⟩ := I1.plainT rfl (hq.mono S1.sub)
  refine ⟨"tuple", id, PySem.F.plainAttrs_tuple, slot, hty, ht, hd, ?_⟩
  have hA := ha.run cpos pins s1 σ H1 (fun ws H2 => rM X.K p (.ref a) ws H2 Q) I1 (by
    refine tG_seq back_V S1 R1 q1 fun ds st2 F2 ι2 H2 ws x2 S2 R2 r2 q2 => ?_
    cases e1 : p (.tup xs) ds st2 with
    | ok d' st' =>
      rw [e1] at q2
      exact ⟨F2, ι2, st2, .tup xs, ds, d', st', S2, rx'.ext x2, r2, e1, q2⟩
    | exc _ _ => rw [e1] at q2; exact (q2 : False).elim
    | bad => rw [e1] at q2; exact (q2 : False).elim)
  rw [hs] at hA ⊢
  refine Calls.callWith_builtin (by show (false || (backTo cpos (starEach es X.env)).any (·.1)) = false; rw [hpl] <;> rfl) (Calls.evalArgs_plain ?_)
  exact thn hA fun us s2 ⟨ws, H2, I2, r2, q2⟩ => hm pins s2 σ H2 (.ref a) ws (.ref a) us Q I2 rfl r2 q2
open Classical in
noncomputable def countD (xs : List D) (y : D) : Option D := if isPs xs = true ∧ isP y = true ∧ SeqAt.shaped (.list (toPs xs)) = true ∧ SeqAt.shaped (toP y) = true then some (.int ((toPs xs).countP fun z => PyData.eqv z (toP y) : Nat)) else none
noncomputable def pCountT : D → List D → M D := fun d ds st => match d, ds with
  | .tup xs, [y] => lift (countD xs y) st
  | _, _ => .bad
theorem lift_ok {α : Type} {o : Option α} {st st' : Sto} {d : α} (h : lift o st = .ok d st') : o = some d ∧ st' = st := by
  cases o with
  | none => cases h
  | some a => cases h; exact ⟨rfl, rfl⟩
theorem reads_all {K : PySem.W.Frag} (hK : K = X.K) (I : Inv X pins σ H s) {F : Hp} {ι : List Addr} {st : Sto} (S : Sim K F ι st H) {xs : List D} {vs : List V} {its : List Value} (h : isPs xs = true) (r : Reps K F ι xs vs) (rv : Vals vs its) : ∃ as, ReadsAll s.heap its (toPs xs) as := by
  subst hK
  exact Dp.readsAll I _ _ _ (dps_of S.sub xs vs h r) rv
theorem shaped_parts {xs : List PyData} (h : SeqAt.shaped (.list xs) = true) : PyData.plainAll xs = true ∧ PyData.depthAll xs ≤ 63 := by
  have h1 := SeqAt.canLay_of_shaped h
  have h2 := SeqAt.depth_of_shaped h
  rw [PyData.depth] at h2
  have h3 := PyData.plain_of_canLay0 (.list xs) h1
  rw [PyData.plain] at h3
  exact ⟨h3, by omega⟩
theorem room_data {xs : List PyData} {d : PyData} (hu : X.A.units + 70 < cLine) (h : PyData.depthAll xs ≤ 63) : X.A.units + 1 + min (PyData.depthAll xs) d.depth < cLine := by
  have := Nat.min_le_left (PyData.depthAll xs) d.depth
  omega
theorem countD_some {xs : List D} {y d : D} (h : countD xs y = some d) : isPs xs = true ∧ isP y = true ∧ SeqAt.shaped (.list (toPs xs)) = true ∧ SeqAt.shaped (toP y) = true ∧ d = .int ((toPs xs).countP fun z => PyData.eqv z (toP y) : Nat) := by
  unfold countD at h
  split at h
  · rename_i c
    cases h
    exact ⟨c.1, c.2.1, c.2.2.1, c.2.2.2, rfl⟩
  · cases h
theorem rep_int {K : PySem.W.Frag} {F : Hp} {ι : List Addr} {i : Int} : Rep K F ι (.int i) (.int i) := by simp only [Rep]
theorem mt_pCountT (hu : X.A.units + 70 < cLine) : MtR X "tuple.count" (rM X.K pCountT) := by
  intro pins s σ H x xs v us Q I rx rxs ⟨F, ι, st, d, ds, d', st', S, rd, rds, e, q⟩
  unfold pCountT at e
  split at e
  rotate_left
  · cases e
  rename_i ys y
  obtain ⟨e2, rfl⟩ := lift_ok e
  obtain ⟨p1, p2, p3, p4, rfl⟩ := countD_some e2
  obtain ⟨w, rfl, ry⟩ := rds.one'
  obtain ⟨u, rfl, ru⟩ := rxs.one
  simp only [Rep] at rd
  obtain ⟨a, vs, rfl, hq, rr⟩ := rd
  cases rx
  obtain ⟨its, rv, ht, hz⟩ := I.tuple (S.sqT hq)
  obtain ⟨as, ra⟩ := reads_all rfl I S p1 rr rv
  obtain ⟨bs, rb⟩ := Dp.reads I _ _ _ (rep_dp S ry p2) ru
  obtain ⟨h1, h2⟩ := shaped_parts p3
  exact SeqAt.count_tuple_data (vs := its.toArray) ht (by simpa using ra) rb h1 (PyData.plain_of_canLay0 _ (SeqAt.canLay_of_shaped p4)) (room_data hu h2) ⟨.int _, H, I.tok _, ⟨_, rfl⟩, q F ι H _ Ext.refl S rep_int⟩
end
@[simp] theorem mMethT_ap (p : D → List D → M D) (mo : Rho → M D) (am : Rho → M (List D)) (ρ : Rho) (s : Sto) : mMethT p mo am ρ s = (mo ρ s).bind fun o s1 => match o with | .tup xs => (am ρ s1).bind fun ds s2 => nox (p (.tup xs) ds s2) | _ => .bad := rfl
end Dn
namespace Dn
open PySem PySem.Spec PyProof.Rows L2
variable [HzC]
def gL (n : Nat) (gs : List D → Rho → M Rho) : D → Rho → M Rho := fun d ρ st => match lstOf st d with
  | some xs => if xs.length = n then gs xs ρ st else .bad
  | none => .bad
theorem dg_lst {X : Cx} {pos : Pos} {es : List Expr} {k n : Nat} {js : List Nat} {gs : List D → Rho → M Rho} (hc : X.calm = true) (h : DGs X js es gs)
    (hn : (assignEach es X.env).length = n := by rfl) (hst : (assignEach es X.env).findIdx? (·.1) = none := by rfl) : DG X js (.Tuple es k pos) (gL n gs) := by
  refine PG.weak (pg_lst hc h hn hst) fun v σ H Q ⟨F, ι, ρ, st, d, S, R, r, q⟩ => ?_
  unfold gL at q
  split at q
  · split at q
    · rename_i xs e hl
      obtain ⟨a, vs, rfl, h, rr⟩ := S.lst r e
      exact ⟨a, vs, rfl, SqL.of h, by rw [← rr.length]; exact hl, F, ι, ρ, st, xs, S, R, rr, q⟩
    · exact q.elim
  · exact q.elim
section
variable {X : Cx} {W : WX} {pos : Pos}
theorem de_gi {x : Str} {i : Int} (hg : Gl X x) (hm : ∃ t, X.mg x = some (.int i t)) (hd : (x == ("__debug__" : Str)) = false := by decide) : DE X W (.Name x pos) (mLit (.int i)) := by
  obtain ⟨t, hm⟩ := hm
  exact de_gint hg hm hd
theorem de_gs {x : Str} {i : Str} (hg : Gl X x) (hm : ∃ t, X.mg x = some (.str i t)) (hd : (x == ("__debug__" : Str)) = false := by decide) : DE X W (.Name x pos) (mLit (.str i)) := by
  obtain ⟨t, hm⟩ := hm
  exact de_gstr hg hm hd
end
@[simp] theorem gL_ref {n : Nat} {gs : List D → Rho → M Rho} {ρ : Rho} {s : Sto} {l : Nat} {xs : List D} (h : s[l]? = some (.lst xs)) (hl : xs.length = n) : gL n gs (.ref l) ρ s = gs xs ρ s := by
  unfold gL
  rw [lst_of_ref h]
  simp [hl]
end Dn
namespace Dn
open PySem PySem.Spec PyProof.Rows L2
variable [HzC]
def bareSet (w : World) : Obj := { cls := .type "set", dict := none, data := .set #[] 0 (.fresh 0 0 (!w.params.followText "set-order")) }
section
variable {P : Program} {w : World} {A : Around} {E : Value → Shared → Prop} {s : Shared}
theorem set_list {l : Addr} {items : Array Value} (ns : List Int) {Q : Value → Shared → Prop} (hh : A.handled = none) (hl : s.heap.IsList l items) (hit : IntsAre items.toList ns) (hb : ns.length + 1 < scanBound)
    (h : ∀ (h' : Heap) (tk c : Nat), SetR w h' s.heap.objs.size (fun j => decide (j ∈ ns)) c → c ≤ ns.length → (∀ b o, s.heap.get? b = some o → h'.get? b = some o) → Q (.ref s.heap.objs.size) { s with heap := h', toks := tk }) :
    wpAny (model P w) A (call (.type "set") [.ref l]) Q E s := by
  have sz : items.size = ns.length := by rw [← Array.length_toList]; exact hit.length
  obtain ⟨c, tl, mro⟩ := F.called_set.mro
  have made := F.called_set.made
  have sub := F.called_set.sub
  refine wpAny_call (codeAny_of_tree ?_)
  show wpAny _ _ (callAny (.type "set") _) _ _ _
  refine wpAny_pure ⟨Code.quiet_builtin _ (by decide +kernel), codeAny_builtin F.entry_type_call ?_⟩
  rw [Around.under_plain (weight_type_call_type "set" [.ref l] []) rfl]
  have n1 := F.called_set.notType
  have n2 := F.called_set.canCreate
  have n3 := F.typeCall_set_1 (.ref l)
  repeat (any_goals (first | assumption | wp_step))
  -- the empty set is laid
  refine codeAny_mono (code_set_led1 (.ref l) (E := E) (Q₁ := fun u t => u = .ref s.heap.objs.size ∧ t = { s with heap := s.heap.push (bareSet w) }) ⟨rfl, rfl⟩) fun r t hr => ?_
  cases r with
  | error e => exact hr
  | ok fl =>
    cases fl with
    | next => exact hr.elim
    | brk => exact hr.elim
    | cont => exact hr.elim
    | ret u =>
      obtain ⟨rfl, rfl⟩ := hr
      have gS : (s.heap.push (bareSet w)).get? s.heap.objs.size = some (bareSet w) := Heap.get?_push_size _ rfl
      have tS : Shared.TypeIs { s with heap := s.heap.push (bareSet w) } (.ref s.heap.objs.size) "set" := ⟨_, gS, rfl⟩
      have i1 := F.called_set.init.lookup
      have i2 := F.called_set.init.bind (.ref s.heap.objs.size)
      repeat (any_goals (first | assumption | wp_step))
      -- its items are put in
      refine codeAny_mono (codeAny_call_builtin (R := wants (fun r t => r = .none ∧ ∃ h' tk c, t = { s with heap := h', toks := tk } ∧ SetR w h' s.heap.objs.size (fun j => decide (j ∈ ns)) c ∧ c ≤ ns.length ∧
          (∀ b o, s.heap.get? b = some o → h'.get? b = some o)) E) F.called_set.init.plain F.entry_set_init (check_set_init_1 tS ?_)) fun r t hr => ?_
      · obtain ⟨⟨oc, od, odt, osl⟩, go, hc, n, hd⟩ := hl
        simp only at hc hd
        subst hc hd
        have gl : (s.heap.push (bareSet w)).get? l = some { cls := .type "list", dict := od, data := .seq items n, slots := osl } := Heap.get?_push_of_some _ go
        have j1 := F.sub_list_set
        have j2 := F.sub_list_frozenset
        have j3 : (Value.type "list" == Value.type "dict") = false := by decide
        have il : (s.heap.push (bareSet w)).IsList l items := ⟨_, gl, rfl, n, rfl⟩
        unfold Builtin.«set.__init__» noKeywords Builtin.Frozenset.updateFrom
        generalize hPI : pyIter = PI
        wp_walk
        subst hPI
        refine wpAny_pyIter_list il (wpAny_bind (wpAny_runValue ?_))
        have lS : l < s.heap.objs.size := Heap.lt_size go
        have z1 : (s.heap.push (bareSet w)).objs.size = s.heap.objs.size + 1 := Heap.size_push ..
        have nI : l ≠ (s.heap.push (bareSet w)).objs.size := fun q => Nat.ne_of_lt (Nat.lt_succ_of_lt lS) (q.trans z1)
        have nS : s.heap.objs.size ∉ [(s.heap.push (bareSet w)).objs.size, l] := by
          intro q
          rcases List.mem_cons.mp q with q | q
          · exact Nat.ne_of_lt (Nat.lt_succ_self _) (q.trans z1)
          · exact Nat.ne_of_gt lS (List.mem_singleton.mp q)
        refine set_update_ints ((Walks.list (by simp [hh]) _ l nI items).toS) s.heap.objs.size nS ns sz hb (fun i v hv => ?_) (items.size - 0) 0 _ (by omega) (Nat.zero_le _) ⟨⟨_, Heap.get?_push_size _ rfl, rfl, rfl⟩, il.push _⟩ ⟨0, Nat.le_refl 0, setR_new_at (Heap.get?_push_of_some _ gS)⟩ fun t c2 mv hc2 R2 => ?_
        · have hi : i < ns.length := by rw [← sz]; exact (Array.getElem?_eq_some_iff.mp hv).1
          obtain ⟨tt, e⟩ := IntsAre.int_at hit i v (by rw [Array.getElem?_toList]; exact hv)
          refine ⟨ns[i], tt, List.getElem?_eq_getElem hi, ?_⟩
          rw [e, List.getD_eq_getElem?_getD, List.getElem?_eq_getElem hi] <;> rfl
        · obtain ⟨h', g2, d', tk', os'⟩ := t
          obtain rfl : g2 = s.gens := mv.gens
          obtain rfl : d' = s.drawn := mv.drawn
          obtain rfl : os' = s.os := mv.os
          show wpAny _ _ _ _ _ _
          refine wpAny_pure ?_
          show wpAny _ _ (ret Value.none) _ _ _
          refine wpAny_pure ⟨rfl, h', tk', c2, rfl, R2, by rw [← sz]; exact hc2, fun b o e => ?_⟩
          have b0 : b < s.heap.objs.size := Heap.lt_size e
          refine mv.heap b o (fun q => ?_) (Heap.get?_push_of_some _ (Heap.get?_push_of_some _ e))
          rcases List.mem_cons.mp q with q | q
          · exact Nat.ne_of_lt b0 q
          · exact Nat.ne_of_lt (Nat.lt_succ_of_lt b0) ((List.mem_singleton.mp q).trans z1)
      · cases r with
        | error e => exact hr
        | ok fl =>
          cases fl with
          | ret r =>
            obtain ⟨rfl, h', tk, c2, rfl, R2, hc2, k⟩ := hr
            repeat (any_goals (first | assumption | wp_step))
            exact h _ _ _ R2 hc2 k
          | next => exact hr.elim
          | brk => exact hr.elim
          | cont => exact hr.elim
end
section
variable {X : Cx} {W : WX} {a : Expr} {m : Rho → M D} {p p2 q pos : Pos}
end
end Dn
namespace Dn
open PySem PySem.Spec PyProof.Rows L2
variable [HzC]
def tyD (st : Sto) : D → Option String
  | .non => some "NoneType"
  | .bl _ => some "bool"
  | .int _ => some "int"
  | .str _ => some "str"
  | .tup _ => some "tuple"
  | .lst _ => some "list"
  | .scr _ => some "list"
  | .ref l => match st[l]? with
    | some (.lst _) => some "list"
    | _ => none
  | .adr _ => none
  | .fd _ _ => none
  | .exo _ _ _ _ => none
  | .obj _ _ _ => none
  | .sd _ => some "dict"
  | .fnv _ => none
def mIsi (T : String) (m : Rho → M D) : Rho → M D := fun ρ st => (m ρ st).bind fun d st1 => lift ((tyD st1 d).bind fun t => (kitB t T).map D.bl) st1
section
variable {K : PySem.W.Frag} {F H : Hp} {ι : List Addr} {st : Sto}
theorem ty_tup {a : Addr} {vs : List V} (h : SqT K H a vs) : TyX K H (.ref a) (.type "tuple") := by
  rcases h with h | ⟨o, its, n, e, hc, _⟩
  · rcases h with h | ⟨o, h⟩
    · exact .base (.tup h)
    · exact .fTuple h
  · exact .kTuple e hc
theorem ty_lst {a : Addr} {vs : List V} (h : SqL K H a vs) : TyX K H (.ref a) (.type "list") := by
  rcases h with h | ⟨o, its, n, e, hc, _⟩
  · rcases h with h | ⟨o, h⟩
    · exact .base (.lst h)
    · exact .base (.frz h)
  · exact .kList e hc
theorem Sim.ty (S : Sim K F ι st H) {d : D} {v : V} {t : String} (r : Rep K F ι d v) (h : tyD st d = some t) : TyX K H v (.type t) := by
  cases d with
  | non => simp only [Rep] at r; subst r; cases h; exact .base .non
  | bl b => simp only [Rep] at r; subst r; cases h; exact .base (.bl b)
  | int i => simp only [Rep] at r; subst r; cases h; exact .base (.int i)
  | str s => simp only [Rep] at r; subst r; cases h; exact .base (.str s)
  | tup xs =>
    cases h
    simp only [Rep] at r
    obtain ⟨a, vs, e, q, _⟩ := r
    subst e
    exact ty_tup (S.sqT q)
  | lst xs =>
    cases h
    obtain ⟨a, vs, e, q, _⟩ := S.seq r (xs := xs) rfl
    subst e
    rcases q with q | q
    · exact ty_lst q
    · simp only [Rep] at r
      obtain ⟨a', vs', e', q', _⟩ := r
      cases e'
      exact ty_lst (S.sqL (SqL.of q'))
  | scr xs =>
    cases h
    simp only [Rep] at r
    obtain ⟨a, vs, e, q, _⟩ := r
    subst e
    exact ty_lst (S.sqL q)
  | ref l =>
    unfold tyD at h
    dsimp only at h
    split at h
    · rename_i xs e
      cases h
      simp only [Rep] at r
      obtain ⟨a, e2, q⟩ := r
      subst e2
      obtain ⟨vs, h1, h2⟩ := S.obj l _ a e q
      exact .base (.lst h1)
    · cases h
  | adr a => cases h
  | fd _ _ => cases h
  | exo _ _ _ _ => cases h
  | obj _ _ _ => cases h
  | fnv _ => cases h
  | sd kvs =>
    cases h
    simp only [Rep] at r
    obtain ⟨a, e, q⟩ := r
    subst e
    exact .base (.dK (S.sub _ _ q))
end
section
variable {X : Cx} {W : WX} {pos p p2 : Pos} {e : Expr} {m : Rho → M D}
theorem de_isi {x : Str} {T : String} (hg : Gl X "isinstance") (hm : X.mg "isinstance" = none) (hgT : Gl X x) (hmT : X.mg x = none) (hvT : bootBuiltins x = some (.type T)) (h : DE X W e m) (hnT : x ≠ "__name__" := by decide) (hdT : (x == ("__debug__" : Str)) = false := by decide)
    (hs : starEach [e, .Name x p2] X.env = (false, eval e X.env) :: starEach [.Name x p2] X.env := by rfl) (hs2 : starEach [.Name x p2] X.env = (false, eval (.Name x p2) X.env) :: starEach [] X.env := by rfl) (hpl : (backTo pos (starEach [.Name x p2] X.env)).any (·.1) = false := by rfl) :
    DE X W (.Call (.Name "isinstance" p) [e, .Name x p2] [] pos) (mIsi T m) := by
  refine PE.weak (pe_callB call_isi hg hm rfl (pa_cons h (pa_cons (pe_bltn hgT hmT hvT (v := .ty T) rfl hnT hdT) pa_nil hs2) hs) (by decide) (by decide) hs hpl) fun σ H Q ⟨F, ι, ρ, st, S, R, q⟩ => ?_
  refine tG_seq back_V S R q fun d st1 F1 ι1 H1 v x1 S1 R1 r1 q1 => ?_
  cases ht : tyD st1 d with
  | none => rw [ht] at q1; exact q1.elim
  | some t =>
    cases hk : kitB t T with
    | none => rw [ht] at q1; dsimp only [Option.bind] at q1; rw [hk] at q1; exact q1.elim
    | some b =>
      rw [ht] at q1
      dsimp only [Option.bind] at q1
      rw [hk] at q1
      exact ⟨v, .ty T, .type t, .type T, b, rfl, .ty T, S1.ty r1 ht, kit_ty hk, q1 F1 ι1 H1 _ Ext.refl S1 (by show Rep _ _ _ _ _; simp only [Rep])⟩
end
section
variable {X : Cx}
end
end Dn
namespace Dn
open PySem PySem.Spec PyProof.Rows L2
variable [HzC]
def strsOf : List D → Option (List Str)
  | [] => some []
  | .str y :: r => (strsOf r).map (y :: ·)
  | _ => none
section
variable {X : Cx} {W : WX} {pos apos : Pos} {e o : Expr} {m mo : Rho → M D}
inductive DJ (X : Cx) (W : WX) : List Expr → List (Rho → M D) → Prop where
  | nil : DJ X W [] []
  | cons {e : Expr} {m : Rho → M D} {es : List Expr} {ms : List (Rho → M D)} (h : DE X W e m) (r : DJ X W es ms) : DJ X W (e :: es) (m :: ms)
end
end Dn
namespace Dn
open PySem PySem.Spec PyProof.Rows L2
variable [HzC]
def dctOf (st : Sto) : D → Option (List (List Int) × List D)
  | .fd ks xs => some (ks, xs)
  | .ref l => match st[l]? with
    | some (.dct ks xs) => some (ks, xs)
    | _ => none
  | _ => none
section
variable {K : PySem.W.Frag} {F H : Hp} {ι : List Addr} {st : Sto} {a b : Addr} {xs : List (List Int × Addr × Value)}
theorem Sim.dct (S : Sim K F ι st H) {d : D} {v : V} {ks : List (List Int)} {ds : List D} (r : Rep K F ι d v) (h : dctOf st d = some (ks, ds)) : ∃ a xs ws, v = .ref a ∧ (a == sysModules) = false ∧ H a = some (DctO a xs) ∧ KeysT K F ks xs ∧ Vals ws (xs.map (·.2.2)) ∧ Reps K F ι ds ws := by
  unfold dctOf at h
  split at h
  · cases h
    simp only [Rep] at r
    obtain ⟨a, xs, ws, e, z, q, kt, vr, r⟩ := r
    exact ⟨a, xs, ws, e, z, S.sub _ _ q, kt, vr, r⟩
  · rename_i l
    split at h
    · rename_i ks' xs' e
      cases h
      simp only [Rep] at r
      obtain ⟨a, e2, q⟩ := r
      obtain ⟨xs, ws, z, q2, kt, vr, r⟩ := S.obj l _ a e q
      exact ⟨a, xs, ws, e2, z, q2, kt, vr, r⟩
    · cases h
  · cases h
end
abbrev KI (X : Cx) := tupleKind (PySem.intKind X.prog X.w)
section
variable {X : Cx} {pins : List (Addr × Obj)} {σ : L2.St} {H : Hp} {s : Shared} {a b : Addr} {xs : List (List Int × Addr × Value)} {k : List Int} {A : Around} {E : Value → Shared → Prop}
end
section
variable {X : Cx} {W : WX} {o i e f value : Expr} {pos pos' apos cpos : Pos} {mo mi me : Rho → M D} {td ty tv tx : TE}
end
section
variable {X : Cx} {W : WX} {o i e f value : Expr} {pos pos' apos cpos : Pos} {mo mi me mv : Rho → M D} {td ty tv tx : TE}
end
section
variable {X : Cx}
end
end Dn
namespace Dn
open PySem PySem.Spec PyProof.Rows L2
variable [HzC]
section
open PySem.W
variable {prog : Program} {w : World} {A : Around} {E : Value → Shared → Prop} {s : Shared} {K : Frag} {x D : Addr} {ox : Obj} {od : Option Obj}
end
structure ErrN (K : PySem.W.Frag) (mg : Str → Option Value) (x : Str) (C : Addr) : Prop where
  ns : PySem.W.nsIn K mainGlobals x = some (some (.ref C))
  gC : mg x = some (.ref C)
  kC : PySem.W.keepIn K (.ref C) = true
  ty : PySem.W.typeIn K (.ref C) = some (.type "type")
  ex : ExcC K C
def KitB (K : PySem.W.Frag) (n y : Str) (b : Bool) : Prop := ∀ C D, PySem.W.nsIn K mainGlobals n = some (some (.ref C)) → PySem.W.nsIn K mainGlobals y = some (some (.ref D)) → PySem.W.kitOne K (.ref C) (.ref D) = some b
def ExmB (K : PySem.W.Frag) (n y : Str) (b : Bool) : Prop := ∀ C D, PySem.W.nsIn K mainGlobals n = some (some (.ref C)) → PySem.W.nsIn K mainGlobals y = some (some (.ref D)) → PySem.W.exmOne K (.ref C) (.ref D) = some b
section
variable {X : Cx} {W : WX} {C : Addr} {bmB : List Value} {B newId initId : String} {x : Str} {p pos pos' : Pos}
def sNever : Rho → Sto → Fl := fun _ _ => .bad
theorem ds_never {s : Stmt} : DS X W s sNever := ⟨fun pins s σ H D I ⟨F, ι, ρ, st, S, R, q⟩ => (q : False).elim⟩
end
def EV (x : Xc) (a : Addr) (d : Option Addr) (e : D) : Prop := match x.fld with
  | none => d = none ∧ e = .adr a
  | some (f, v) => ∃ dd, d = some dd ∧ e = .exo a dd f v
def tidyF (i : Nat) : Fl → Fl
  | .next ρ st => .next (ρ.set i none) st
  | .brk ρ st => .brk (ρ.set i none) st
  | .cnt ρ st => .cnt (ρ.set i none) st
  | .ret d st => .ret d st
  | _ => .bad
def e0 (x : Xc) : D := match x.fld with
  | none => .adr 0
  | some (f, v) => .exo 0 0 f v
structure HC (X : Cx) (x : Xc) (e : D) (a : Addr) (oe : Obj) : Prop where
  ex : ∃ C d, PySem.W.nsIn X.K mainGlobals x.nm = some (some (.ref C)) ∧ ExcC X.K C ∧ Zc (.ref C) d oe ∧ EV x a d e
  fl : ∃ vs, oe.data = .fields vs
section
variable {X : Cx} {W : WX} {y n : Str} {i : Nat} {body suite : List Stmt} {b₀ : Stmt} {np pos pos' : Pos} {mb : Rho → Sto → Fl} {mh : Xc → D → Rho → Sto → Fl} {yes no : List Str} {Cy : Addr}
end
section
variable {X : Cx} {x : Xc} {e : D} {a : Addr} {oe : Obj} {pn : List (Addr × Obj)} {i : Nat} {p p2 pos : Pos} {yes no : List Str}
end
end Dn
namespace Dn
open PySem PySem.Spec PyProof.Rows L2
variable [HzC]
section
open PySem.W PySem.Calls RZ
variable {prog : Program} {w : World} {A : Around} {E : Value → Shared → Prop} {s : Shared}
structure ZSt (h : Heap) (z TI TO i1 i2 l1 l2 S : Addr) (xs ys : Array Value) (i : Nat) : Prop where
  own : (IsZip h z TI TO .none ∧ ∃ a b, IsPair h TO a b) ∨ ∃ T f oT, IsZipHeld h z TI TO T f ∧ h.get? T = some oT ∧ T ≠ z ∧ T ≠ i1 ∧ T ≠ i2 ∧ T ≠ S
  ti : IsPair h TI (.ref i1) (.ref i2)
  t1 : h.IsTupleIter i1 l1 i
  t2 : h.IsTupleIter i2 l2 i
  l1 : h.IsTuple l1 xs
  l2 : h.IsTuple l2 ys
variable {z TI TO i1 i2 l1 l2 S : Addr} {xs ys : Array Value} {i : Nat}
theorem ZSt.keep {h h' : Heap} (Z : ZSt h z TI TO i1 i2 l1 l2 S xs ys i) (k : ∀ b o, b ≠ S → h.get? b = some o → h'.get? b = some o) (nz : z ≠ S) (nTI : TI ≠ S) (nTO : TO ≠ S) (n1 : i1 ≠ S) (n2 : i2 ≠ S) (m1 : l1 ≠ S) (m2 : l2 ≠ S) : ZSt h' z TI TO i1 i2 l1 l2 S xs ys i where
  own := by
    rcases Z.own with ⟨h1, a, b, h2⟩ | ⟨T, f, oT, h1, h2, h3, h4, h5, h6⟩
    · exact .inl ⟨k _ _ nz h1, a, b, k _ _ nTO h2⟩
    · exact .inr ⟨T, f, oT, k _ _ nz h1, k _ _ h6 h2, h3, h4, h5, h6⟩
  ti := k _ _ nTI Z.ti
  t1 := Z.t1.at fun o e => k _ _ n1 e
  t2 := Z.t2.at fun o e => k _ _ n2 e
  l1 := Z.l1.at fun o e => k _ _ m1 e
  l2 := Z.l2.at fun o e => k _ _ m2 e
structure ZlG (xs ys : Array Value) (lo : Addr) (h : Heap) (as : List Addr) : Prop where
  rise : as.Pairwise (· < ·)
  above : ∀ a ∈ as, lo < a
  pairs : ∀ (j : Nat) (a : Addr), as[j]? = some a → ∃ (hj : j < xs.size) (hk : j < ys.size), h.get? a = some { cls := .type "tuple", data := .seq #[xs[j], ys[j]] }
theorem ZlG.there {lo : Addr} {h : Heap} {as : List Addr} (g : ZlG xs ys lo h as) {a : Addr} (ha : a ∈ as) : a < h.objs.size := by
  obtain ⟨j, hj⟩ := List.mem_iff_getElem?.mp ha
  obtain ⟨_, _, e⟩ := g.pairs j a hj
  exact Heap.lt_size e
end
def pairO (x y : Value) : Obj := { cls := .type "tuple", data := .seq #[x, y] }
abbrev PrT := Addr × (Value × Value) × (V × V)
def PrT.ob (p : PrT) : HO := .frz (pairO p.2.1.1 p.2.1.2) (.tup [p.2.2.1, p.2.2.2])
section
variable {X : Cx} {pins : List (Addr × Obj)} {σ : L2.St} {s : Shared} {h' : Heap} {t : Nat}
end
section
variable {X : Cx} {W : WX} {p p2 pos pos2 : Pos} {a b : Expr} {ta : TA} {m1 m2 : Rho → M D}
end
end Dn
namespace Dn
open PySem PySem.Spec PyProof.Rows L2
variable [HzC]
def putD (f : Str) (d : D) : List (Str × D) → List (Str × D)
  | [] => [(f, d)]
  | (g, x) :: r => if g = f then (g, d) :: r else (g, x) :: putD f d r
section
variable {K : PySem.W.Frag} {F H : Hp} {ι : List Addr} {st : Sto}
theorem RepF.put {fs : List (Str × D)} {gs : List (Str × V)} {f : Str} {d : D} {v : V} (h : RepF K F ι fs gs) (r : Rep K F ι d v) : RepF K F ι (putD f d fs) (putF f v gs) := by
  induction h with
  | nil => exact .cons ⟨rfl, r⟩ .nil
  | @cons p q l1 l2 a b ih =>
    obtain ⟨k, d0⟩ := p
    obtain ⟨k', v0⟩ := q
    obtain rfl : k = k' := a.1
    unfold putD putF
    by_cases e : k = f
    · rw [if_pos e, if_pos e]; exact .cons ⟨rfl, r⟩ b
    · rw [if_neg e, if_neg e]; exact .cons a ih
theorem RepF.len {fs : List (Str × D)} {gs : List (Str × V)} (h : RepF K F ι fs gs) : gs.length = fs.length := by
  induction h with
  | nil => rfl
  | cons a b ih => simp [ih]
end
structure Kls (K : PySem.W.Frag) (mg : Str → Option Value) (nm : Str) (fs : List Str) : Prop where
  ex : ∃ C, PySem.W.nsIn K mainGlobals nm = some (some (.ref C)) ∧ mg nm = some (.ref C) ∧ Cls K C ∧ ∀ f ∈ fs, NoAttr K C f
section
variable {X : Cx} {W : WX} {nm f : Str} {fl : List Str} {e o value : Expr} {m mo mv : Rho → M D} {pos pos' : Pos}
end
structure FnM (P : Program) (w : World) (K : PySem.W.Frag) (mg : Str → Option Value) (base : Heap) (k : Nat) (nm m : Str) (np : Nat) (spec : List D → M D) : Prop where
  ex : ∃ (C f : Addr) (fd : FuncData) (ps : List Str), PySem.W.nsIn K mainGlobals nm = some (some (.ref C)) ∧ Meth K C m f ∧ FnG P w K mg base k f fd ps (spD K np spec) ∧ Binds K fd ps []
section
variable {X : Cx} {W : WX} {k j np : Nat} {nm m : Str} {fl : List Str} {spec : List D → M D} {e o : Expr} {es : List Expr} {mo : Rho → M D} {am : Rho → M (List D)} {pos apos : Pos}
end
structure FnI (P : Program) (w : World) (K : PySem.W.Frag) (mg : Str → Option Value) (base : Heap) (k : Nat) (nm : Str) (np : Nat) (spec : List D → M D) : Prop where
  ex : ∃ (C f : Addr) (fd : FuncData) (ps : List Str), PySem.W.nsIn K mainGlobals nm = some (some (.ref C)) ∧ mg nm = some (.ref C) ∧ Mk K C f ∧ FnG P w K mg base k f fd ps (spD K np spec) ∧ Binds K fd ps []
section
variable {K : PySem.W.Frag} {F H : Hp} {ι : List Addr} {st : Sto}
end
section
variable {X : Cx} {W : WX} {k j np : Nat} {nm : Str} {spec : List D → M D} {e : Expr} {es : List Expr} {am : Rho → M (List D)} {pos p : Pos}
end
end Dn
namespace PySem
namespace FldX
open PySem.W PySem.Calls PyProof.Rows PySem.HandSPX
def iA (f : Str) (p1 p2 : Pos) : Arguments := { posonlyargs := [], args := [{ arg := "self", annotation := none, pos := p1 }, { arg := f, annotation := none, pos := p2 }], vararg := none, kwonlyargs := [], kw_defaults := [], kwarg := none, defaults := [] }
def iB (f : Str) (q1 q2 q3 q4 : Pos) : List Stmt := [.Assign [.Attribute (.Name "self" q1) f q2] (.Name f q3) q4]
def iS (f : Str) : Scope := { kind := .function, names := [(PySem.Str.ofString "self", .local), (f, .local)], isGenerator := false, isCoroutine := false, more := [] }
def BasX (bm : List Value) (nid : String) : Prop := ∃ (B iid : String) (bmB : List Value), excTail bmB bm = true ∧ ExcBaseFacts B nid iid bmB ∧ StoreFacts B bmB "object.__setattr__" "object"
structure FldTxt (K : Frag) (f : Str) (C fI : Addr) : Prop where
  cls : ∃ nid nm q N bs bm sn sub ab col dd k0 k1 k2 k3 k5, K.lookup C = some (excClassObj nm q C N bs bm true sn sub ab col dd k0 k1 k2 k3 k5 nid) ∧ BasX bm nid
  sa : findIn K (.ref C) "__setattr__" = some (some (.builtin "object.__setattr__"))
  ga : findIn K (.ref C) "__getattribute__" = some (some (.builtin "BaseException.__getattribute__"))
  gg : findIn K (.ref C) "__getattr__" = some none
  noN : findIn K (.ref C) f = some none
  iC : findIn K (.ref C) "__init__" = some (some (.ref fI))
  tC : typeIn K (.ref fI) = some (.type "function")
  kC : keepIn K (.ref C) = true
  exC : subIn K (.ref C) (.type "BaseException") = some true
  tyC : typeIn K (.ref C) = some (.type "type")
  hdC : hasDictIn K C = true
  fn : ∃ (qn : Str) (oc : Value) (od : Option Addr) (doc pm : Value) (an : Option Addr) (cdv ct : Value) (osl : Array (Option Value)) (p1 p2 q1 q2 q3 q4 : Pos),
    K.lookup fI = some ⟨oc, od, .func (fnOf "__init__" qn (iA f p1 p2) (iB f q1 q2 q3 q4) (iS f) .none .none doc pm an cdv ct), osl⟩ ∧ codeIn K cdv qn = true
structure FOk (f : Str) : Prop where
  sf : (f == ("self" : Str)) = false
  fs : (("self" : Str) == f) = false
  db : (f == ("__debug__" : Str)) = false
structure InitEnd (f : Str) (h h' : Heap) (x C dx t1 : Addr) (v : Value) : Prop where
  keep : ∀ b o, b ≠ x → h.get? b = some o → h'.get? b = some o
  obj : h'.get? x = some { cls := .ref C, dict := some dx, data := .fields #[.ref t1, .none, .none, .none, .bool false, .none] }
  dbig : h.objs.size ≤ dx
  dne : dx ≠ x
  ns : h'.Ns1 dx (fun y => if y = f then some v else none)
structure OwnMade (f : Str) (h h' : Heap) (e C d : Addr) (v : Value) : Prop where
  keep : ∀ b o, h.get? b = some o → h'.get? b = some o
  new : h.objs.size ≤ e
  obj : ∃ oe vs, h'.get? e = some oe ∧ oe.cls = .ref C ∧ oe.dict = some d ∧ oe.data = .fields vs ∧ vs[1]? = some .none ∧ vs[2]? = some .none ∧ 4 < vs.size
  dbig : h.objs.size ≤ d
  dne : d ≠ e
  ns : h'.Ns1 d (fun y => if y = f then some v else none)
section
variable {prog : Program} {w : World} {A : Around} {E : Value → Shared → Prop} {R : Result → Shared → Prop} {s : Shared} {K : Frag} {f : Str} {C fI : Addr}
end
end FldX
end PySem
namespace Dn
open PySem PySem.Spec PyProof.Rows L2 PySem.FldX
variable [HzC]
section
variable {X : Cx} {W : WX} {nm f : Str} {C fI : Addr}
end
section
variable {X : Cx} {x : Xc} {e : D} {a : Addr} {oe : Obj} {pn : List (Addr × Obj)} {i : Nat} {p2 pos : Pos} {ev f : Str}
end
def FnBody (P : Program) (w : World) (K : PySem.W.Frag) (mg : Str → Option Value) (base : Heap) (k : Nat) (f : Addr) (fd : FuncData) (body : List Stmt) (ps : List Str) (sp : Sp) : Prop :=
  ∀ (B : Around) (fr : List Env) (s : Shared) (H : Hp) (us : List Value) (vs : List V) (Q : VK) (E : XK), Room k B → (5 < k → B.guards = some []) → Env0 P w K mg base B fr s H → Vals vs us → sp vs H Q E →
    wpAny (model P w) B.in1 (newFunctionEnv fd.scope fd.globals fd.closure (ps.zip us) (fd.qualname ++ ".<locals>.") (some f) fd.code none fd.builtins)
      (fun env s₂ => s₂.heap.NoLimit ∧ codeAny (model P w) B (.func body env) (CR (CXk k P w) fr P w H s Q E) s₂) (fun e s' => CR (CXk k P w) fr P w H s Q E (.error e) s') s
section
variable {P : Program} {w : World} {K : PySem.W.Frag} {mg : Str → Option Value} {base : Heap}
structure FnCV (P : Program) (w : World) (K : PySem.W.Frag) (mg : Str → Option Value) (base : Heap) (k : Nat) (x : Str) (spec : List D → M D) : Prop where
  ex : ∃ (f : Addr) (fd : FuncData) (p y qual : Str) (stm : Stmt), FnBody P w K mg base k f fd (defBody stm) [p] (spD K 1 spec) ∧ Fun K y qual stm f fd ∧ (defScope stm).isCoroutine = false ∧ (defScope stm).isGenerator = false ∧ mg x = some (.ref f) ∧ PySem.W.keepIn K (.ref f) = true ∧
    ∀ us : List Value, bindArgs fd ⟨us, []⟩ = (newTuple us >>= fun t => pure [(p, t)])
end
section
variable {X : Cx} {W : WX} {k j : Nat} {x : Str} {spec : List D → M D} {p pos : Pos} {e : Expr} {es : List Expr} {am : Rho → M (List D)}
end
end Dn
namespace Dn
open PySem PySem.Spec PyProof.Rows L2
variable [HzC]
def sFz (i : Nat) (m : Rho → Sto → Fl) : Rho → Sto → Fl := fun ρ st => match ρ[i]? with
  | some (some (.ref l)) => match st[l]? with
    | some (.lst xs) => m (ρ.set i (some (.lst xs))) (st.set l .gone)
    | _ => .bad
  | _ => .bad
theorem REnv.set1 {K : PySem.W.Frag} {F : Hp} {ι : List Addr} {ρ : Rho} {σ : L2.St} (h : REnv K F ι ρ σ) {i : Nat} {d : D} {v : V} (hv : σ[i]? = some (some v)) (r : Rep K F ι d v) : REnv K F ι (ρ.set i (some d)) σ := by
  refine ⟨by simp [h.len], fun j e q => ?_⟩
  by_cases hj : i = j
  · subst hj
    have hl : i < ρ.length := by have := (List.getElem?_eq_some_iff.mp q).1; simpa using this
    rw [List.getElem?_set_self hl] at q
    cases q
    exact ⟨v, hv, r⟩
  · rw [List.getElem?_set_ne hj] at q
    exact h.at_ j e q
theorem fz_of {K : PySem.W.Frag} {W : WX} {i : Nat} {m : Rho → Sto → Fl} {E : Ends} {σ : L2.St} {H : Hp} (h : tS K W (sFz i m) E σ H) : tS K W m E σ H := by
  obtain ⟨F, ι, ρ, st, S, R, q⟩ := h
  unfold sFz at q
  split at q
  · rename_i l e
    split at q
    · rename_i xs e2
      obtain ⟨v, q0, r⟩ := R.at_ i _ e
      obtain ⟨a, vs, rfl, q1, q2, q3⟩ := S.mut r e2
      have x := Ext.retire S q1 q2
      refine ⟨_, ι, _, _, S.retire q1 q2, (R.ext x).set1 (d := .lst xs) q0 ?_, sPost_ext q x⟩
      simp only [Rep]
      exact ⟨a, vs, rfl, upd_same, Reps.ext q3 x⟩
    · exact q.elim
  · exact q.elim
theorem dss_fz {X : Cx} {W : WX} {ss : List Stmt} {i : Nat} {m : Rho → Sto → Fl} (h : DSs X W ss m) : DSs X W ss (sFz i m) := PSs.weak h fun _ _ _ q => fz_of q
end Dn
namespace Dn
open PySem PySem.Spec PyProof.Rows L2
inductive Rs (S α : Type) where
  | ok (a : α) (s : S) | exc (x : Xc) (s : S) | bad | amb (P : Nat → Prop) (f : Nat → Rs S α)
def Mt (S α : Type) := S → Rs S α
section
variable {S α β γ : Type}
def rbind (r : Rs S α) (k : α → Mt S β) : Rs S β := match r with
  | .ok a s => k a s
  | .exc x s => .exc x s
  | .bad => .bad
  | .amb P f => .amb P fun n => rbind (f n) k
def mpure (a : α) : Mt S α := fun s => .ok a s
def mbind (m : Mt S α) (k : α → Mt S β) : Mt S β := fun s => rbind (m s) k
def mbad : Mt S α := fun _ => .bad
def mraise (x : Xc) : Mt S α := fun s => .exc x s
def mopt (o : Option α) : Mt S α := match o with
  | some a => mpure a
  | none => mbad
@[simp] theorem rbind_ok (a : α) (s : S) (k : α → Mt S β) : rbind (.ok a s) k = k a s := rfl
@[simp] theorem rbind_exc (x : Xc) (s : S) (k : α → Mt S β) : rbind (.exc x s) k = .exc x s := rfl
@[simp] theorem rbind_bad (k : α → Mt S β) : rbind .bad k = .bad := rfl
@[simp] theorem rbind_amb (P : Nat → Prop) (f : Nat → Rs S α) (k : α → Mt S β) : rbind (.amb P f) k = .amb P fun n => rbind (f n) k := rfl
theorem rbind_assoc (r : Rs S α) (k : α → Mt S β) (l : β → Mt S γ) : rbind (rbind r k) l = rbind r fun a => mbind (k a) l := by
  induction r with
  | ok a s => rfl
  | exc x s => rfl
  | bad => rfl
  | amb P f ih => exact congrArg (Rs.amb P) (funext ih)
theorem rbind_ret (r : Rs S α) : rbind r mpure = r := by
  induction r with
  | ok a s => rfl
  | exc x s => rfl
  | bad => rfl
  | amb P f ih => exact congrArg (Rs.amb P) (funext ih)
@[simp] theorem mbind_pure (a : α) (k : α → Mt S β) : mbind (mpure a) k = k a := rfl
@[simp] theorem mopt_some (a : α) : (mopt (some a) : Mt S α) = mpure a := rfl
@[simp] theorem mopt_none : (mopt none : Mt S α) = mbad := rfl
@[simp] theorem mbind_bad (k : α → Mt S β) : mbind mbad k = mbad := rfl
@[simp] theorem mbind_raise (x : Xc) (k : α → Mt S β) : mbind (mraise x) k = mraise x := rfl
theorem mbind_assoc (m : Mt S α) (k : α → Mt S β) (l : β → Mt S γ) : mbind (mbind m k) l = mbind m fun a => mbind (k a) l := by
  funext s
  exact rbind_assoc (m s) k l
theorem mbind_ret (m : Mt S α) : mbind m mpure = m := by
  funext s
  exact rbind_ret (m s)
end
structure Wd (S : Type) where
  has : S → Sto → Prop
  own : Sto → Nat → Prop
  inb : ∀ {s : S} {st : Sto} {l : Nat}, has s st → own st l → l < st.length
  grow : ∀ {s : S} {st : Sto} (g : Sto), (∀ m ∈ g, m.isIns = false) → has s st → has s (st ++ g)
  ownG : ∀ {s : S} {st : Sto} (g : Sto) {l : Nat}, (∀ m ∈ g, m.isIns = false) → has s st → own (st ++ g) l → own st l
  set : ∀ {s : S} {st : Sto} {l : Nat} (m : MO), m.isIns = false → has s st → ¬ own st l → has s (st.set l m)
  ownS : ∀ {s : S} {st : Sto} {l : Nat} (m : MO) {k : Nat}, m.isIns = false → has s st → ¬ own st l → own (st.set l m) k → own st k
  take : ∀ {s0 s : S} {b st : Sto}, has s0 b → has s st → Tidy b st → has s (st.take b.length)
  ownT : ∀ {s0 s : S} {b st : Sto} {l : Nat}, has s0 b → has s st → Tidy b st → own (st.take b.length) l → own st l
inductive Sl where
  | any | val (d : D) | mut (m : MO) | bor (m : MO)
def Sl.rd : Sl → Option MO
  | .mut m => some m
  | .bor m => some m
  | _ => none
structure Pre {S : Type} (W : Wd S) (b : Sto) (s : S) (st : Sto) : Prop where
  has : W.has s st
  long : b.length ≤ st.length
  keep : ∀ l : Nat, l < b.length → ¬ W.own b l → ¬ W.own st l ∧ st[l]? = b[l]?
structure Has {S : Type} (W : Wd S) (fr : Sto) (s : S) (Γ : List Sl) (ρ : Rho) (st : Sto) : Prop where
  len : ρ.length = Γ.length
  pre : Pre W fr s st
  val : ∀ (i : Nat) d, Γ[i]? = some (.val d) → ρ[i]? = some (some d)
  mt : ∀ (i : Nat) m, Γ[i]? = some (.mut m) → ∃ l, ρ[i]? = some (some (.ref l)) ∧ (fr.length ≤ l ∧ ¬ W.own st l) ∧ st[l]? = some m
  nal : ∀ (i j : Nat) m1 m2, Γ[i]? = some (.mut m1) → Γ[j]? = some (.mut m2) → ρ[i]? = ρ[j]? → i = j
  bo : ∀ (i : Nat) m, Γ[i]? = some (.bor m) → ∃ l, ρ[i]? = some (some (.ref l)) ∧ ¬ W.own fr l ∧ fr[l]? = some m
section
variable {S : Type} {W : Wd S} {fr : Sto} {s s' : S} {Γ Γ' : List Sl} {ρ ρ' : Rho} {st st' st2 : Sto}
theorem Pre.refl (h : W.has s st) : Pre W st s st := ⟨h, Nat.le_refl _, fun l _ n => ⟨n, rfl⟩⟩
theorem Pre.trans (h1 : Pre W fr s st) (h2 : Pre W st s' st') : Pre W fr s' st' := ⟨h2.has, Nat.le_trans h1.long h2.long, fun l hl n => by
  obtain ⟨a, b⟩ := h1.keep l hl n
  obtain ⟨c, d⟩ := h2.keep l (Nat.lt_of_lt_of_le hl h1.long) a
  exact ⟨c, d.trans b⟩⟩
theorem Pre.grow (h : Pre W fr s st) (g : Sto) (hg : ∀ m ∈ g, m.isIns = false) : Pre W fr s (st ++ g) := ⟨W.grow g hg h.has, by rw [List.length_append]; have := h.long; omega, fun l hl n => by
  obtain ⟨a, b⟩ := h.keep l hl n
  exact ⟨fun q => a (W.ownG g hg h.has q), by rw [List.getElem?_append_left (Nat.lt_of_lt_of_le hl h.long)]; exact b⟩⟩
theorem Pre.set (h : Pre W fr s st) {l : Nat} (m : MO) (hm : m.isIns = false) (hl : fr.length ≤ l) (n : ¬ W.own st l) : Pre W fr s (st.set l m) := ⟨W.set m hm h.has n, by rw [List.length_set]; exact h.long, fun k hk n2 => by
  obtain ⟨a, b⟩ := h.keep k hk n2
  exact ⟨fun q => a (W.ownS m hm h.has n q), by rw [List.getElem?_set_ne (by omega)]; exact b⟩⟩
theorem noIns1 {m : MO} (hm : m.isIns = false) : ∀ x ∈ [m], x.isIns = false := fun x hx => by rw [List.mem_singleton.mp hx]; exact hm
theorem Pre.fresh (h : Pre W fr s st) (m : MO) (hm : m.isIns = false) : ¬ W.own (st ++ [m]) st.length := fun q => Nat.lt_irrefl _ (W.inb h.has (W.ownG [m] (noIns1 hm) h.has q))
theorem Has.rd (h : Has W fr s Γ ρ st) (i : Nat) (m : MO) (e : (Γ[i]?).bind Sl.rd = some m) : ∃ l, ρ[i]? = some (some (.ref l)) ∧ ¬ W.own st l ∧ st[l]? = some m := by
  cases e1 : Γ[i]? with
  | none => rw [e1] at e; cases e
  | some a =>
    rw [e1, Option.bind_some] at e
    cases a with
    | any => cases e
    | val d => cases e
    | «mut» m' =>
      cases e
      obtain ⟨l, q1, q2, q3⟩ := h.mt i m e1
      exact ⟨l, q1, q2.2, q3⟩
    | bor m' =>
      cases e
      obtain ⟨l, q1, q2, q3⟩ := h.bo i m e1
      obtain ⟨a, b⟩ := h.pre.keep l (List.getElem?_eq_some_iff.mp q3).1 q2
      exact ⟨l, q1, a, b.trans q3⟩
theorem bor_set {Γ : List Sl} {ρ : Rho} {fr : Sto} {P : Nat → Prop} (h : ∀ (i : Nat) m, Γ[i]? = some (.bor m) → ∃ l, ρ[i]? = some (some (.ref l)) ∧ P l ∧ fr[l]? = some m) (i : Nat) (a : Sl) (o : Option D) (ha : ∀ m, a ≠ .bor m) : ∀ (j : Nat) m, (Γ.set i a)[j]? = some (.bor m) → ∃ l, (ρ.set i o)[j]? = some (some (.ref l)) ∧ P l ∧ fr[l]? = some m := fun j m e => by
  by_cases hj : i = j
  · subst hj
    have hl : i < Γ.length := by have := (List.getElem?_eq_some_iff.mp e).1; simpa using this
    rw [List.getElem?_set_self hl] at e
    exact absurd (Option.some.inj e) (ha m)
  · rw [List.getElem?_set_ne hj] at e ⊢
    exact h j m e
theorem Has.bound (h : Has W fr s Γ ρ st) : fr.length ≤ st.length := h.pre.long
theorem Has.setVal (h : Has W fr s Γ ρ st) (i : Nat) (d : D) : Has W fr s (Γ.set i (.val d)) (ρ.set i (some d)) st := by
  refine ⟨by simp [h.len], h.pre, fun j d' e => ?_, fun j m e => ?_, fun j k m1 m2 e1 e2 e3 => ?_, bor_set h.bo i _ _ (fun _ h => nomatch h)⟩
  · by_cases hj : i = j
    · subst hj
      have hl : i < Γ.length := by have := (List.getElem?_eq_some_iff.mp e).1; simpa using this
      rw [List.getElem?_set_self hl] at e
      cases e
      rw [List.getElem?_set_self (by rw [h.len]; exact hl)]
    · rw [List.getElem?_set_ne hj] at e ⊢
      exact h.val j d' e
  · have hj : i ≠ j := fun q => by
      subst q
      have hl : i < Γ.length := by have := (List.getElem?_eq_some_iff.mp e).1; simpa using this
      rw [List.getElem?_set_self hl] at e
      cases e
    rw [List.getElem?_set_ne hj] at e ⊢
    exact h.mt j m e
  · have key : ∀ (j : Nat) m, (Γ.set i (.val d))[j]? = some (.mut m) → i ≠ j := fun j m e q => by
      subst q
      have hl : i < Γ.length := by have := (List.getElem?_eq_some_iff.mp e).1; simpa using this
      rw [List.getElem?_set_self hl] at e
      cases e
    have h1 := key j m1 e1
    have h2 := key k m2 e2
    rw [List.getElem?_set_ne h1] at e1 e3
    rw [List.getElem?_set_ne h2] at e2 e3
    exact h.nal j k m1 m2 e1 e2 e3
theorem Has.setNew (h : Has W fr s Γ ρ st) (i : Nat) (m : MO) (hm : m.isIns = false := by rfl) : Has W fr s (Γ.set i (.mut m)) (ρ.set i (some (.ref st.length))) (st ++ [m]) := by
  have hb := h.bound
  have old : ∀ (j : Nat) m', Γ[j]? = some (.mut m') → ∃ l, ρ[j]? = some (some (.ref l)) ∧ l < st.length ∧ (fr.length ≤ l ∧ ¬ W.own st l) ∧ st[l]? = some m' := fun j m' e => by
    obtain ⟨l, q1, q2, q3⟩ := h.mt j m' e
    exact ⟨l, q1, (List.getElem?_eq_some_iff.mp q3).1, q2, q3⟩
  refine ⟨by simp [h.len], h.pre.grow _ (noIns1 hm), fun j d' e => ?_, fun j m' e => ?_, fun j k m1 m2 e1 e2 e3 => ?_, bor_set h.bo i _ _ (fun _ h => nomatch h)⟩
  · have hj : i ≠ j := fun q => by
      subst q
      have hl : i < Γ.length := by have := (List.getElem?_eq_some_iff.mp e).1; simpa using this
      rw [List.getElem?_set_self hl] at e
      cases e
    rw [List.getElem?_set_ne hj] at e ⊢
    exact h.val j d' e
  · by_cases hj : i = j
    · subst hj
      have hl : i < Γ.length := by have := (List.getElem?_eq_some_iff.mp e).1; simpa using this
      rw [List.getElem?_set_self hl] at e
      cases e
      exact ⟨st.length, by rw [List.getElem?_set_self (by rw [h.len]; exact hl)], ⟨hb, h.pre.fresh m hm⟩, by simp⟩
    · rw [List.getElem?_set_ne hj] at e ⊢
      obtain ⟨l, q1, q2, q3, q4⟩ := old j m' e
      exact ⟨l, q1, ⟨q3.1, fun q => q3.2 (W.ownG _ (noIns1 hm) h.pre.has q)⟩, by rw [List.getElem?_append_left q2]; exact q4⟩
  · by_cases hj : i = j
    · by_cases hk : i = k
      · rw [← hj, ← hk]
      · subst hj
        have hl : i < Γ.length := by have := (List.getElem?_eq_some_iff.mp e1).1; simpa using this
        rw [List.getElem?_set_self (by rw [h.len]; exact hl), List.getElem?_set_ne hk] at e3
        rw [List.getElem?_set_ne hk] at e2
        obtain ⟨l, q1, q2, _⟩ := old k m2 e2
        rw [q1] at e3
        injection e3 with e3
        injection e3 with e3
        injection e3 with e3
        omega
    · by_cases hk : i = k
      · subst hk
        have hl : i < Γ.length := by have := (List.getElem?_eq_some_iff.mp e2).1; simpa using this
        rw [List.getElem?_set_self (by rw [h.len]; exact hl), List.getElem?_set_ne hj] at e3
        rw [List.getElem?_set_ne hj] at e1
        obtain ⟨l, q1, q2, _⟩ := old j m1 e1
        rw [q1] at e3
        injection e3 with e3
        injection e3 with e3
        injection e3 with e3
        omega
      · rw [List.getElem?_set_ne hj] at e1 e3
        rw [List.getElem?_set_ne hk] at e2 e3
        exact h.nal j k m1 m2 e1 e2 e3
theorem Has.write (h : Has W fr s Γ ρ st) {i l : Nat} {m : MO} (m' : MO) (hi : Γ[i]? = some (.mut m)) (hl : ρ[i]? = some (some (.ref l))) (hm' : m'.isIns = false := by rfl) : Has W fr s (Γ.set i (.mut m')) ρ (st.set l m') := by
  obtain ⟨l', q1, q2, q3⟩ := h.mt i m hi
  rw [hl] at q1
  injection q1 with q1
  injection q1 with q1
  injection q1 with q1
  subst q1
  have hlt := (List.getElem?_eq_some_iff.mp q3).1
  have hil := (List.getElem?_eq_some_iff.mp hi).1
  refine ⟨by simp [h.len], h.pre.set m' hm' q2.1 q2.2, fun j d' e => ?_, fun j m2 e => ?_, fun j k m1 m2 e1 e2 e3 => ?_, fun j m2 e => by
    by_cases hj : i = j
    · subst hj
      rw [List.getElem?_set_self hil] at e
      cases e
    · rw [List.getElem?_set_ne hj] at e
      exact h.bo j m2 e⟩
  · by_cases hj : i = j
    · subst hj
      rw [List.getElem?_set_self hil] at e
      cases e
    · rw [List.getElem?_set_ne hj] at e
      exact h.val j d' e
  · have nown : ∀ k : Nat, ¬ W.own st k → ¬ W.own (st.set l m') k := fun k n q => n (W.ownS m' hm' h.pre.has q2.2 q)
    by_cases hj : i = j
    · subst hj
      rw [List.getElem?_set_self hil] at e
      cases e
      exact ⟨l, hl, ⟨q2.1, nown l q2.2⟩, by rw [List.getElem?_set_self hlt]⟩
    · rw [List.getElem?_set_ne hj] at e
      obtain ⟨k, p1, p2, p3⟩ := h.mt j m2 e
      refine ⟨k, p1, ⟨p2.1, nown k p2.2⟩, ?_⟩
      have hk : l ≠ k := fun q => by
        subst q
        exact hj (h.nal i j m m2 hi e (hl.trans p1.symm))
      rw [List.getElem?_set_ne hk]
      exact p3
  · have key : ∀ (j : Nat) m2, (Γ.set i (.mut m'))[j]? = some (.mut m2) → ∃ m3, Γ[j]? = some (.mut m3) := fun j m2 e => by
      by_cases hj : i = j
      · subst hj; exact ⟨m, hi⟩
      · rw [List.getElem?_set_ne hj] at e; exact ⟨m2, e⟩
    obtain ⟨n1, f1⟩ := key j m1 e1
    obtain ⟨n2, f2⟩ := key k m2 e2
    exact h.nal j k n1 n2 f1 f2 e3
theorem Has.grow (h : Has W fr s Γ ρ st) (g : Sto) (hg : ∀ m ∈ g, m.isIns = false) : Has W fr s Γ ρ (st ++ g) := by
  refine ⟨h.len, h.pre.grow g hg, h.val, fun j m e => ?_, h.nal, h.bo⟩
  obtain ⟨l, q1, q2, q3⟩ := h.mt j m e
  exact ⟨l, q1, ⟨q2.1, fun q => q2.2 (W.ownG g hg h.pre.has q)⟩, by rw [List.getElem?_append_left (List.getElem?_eq_some_iff.mp q3).1]; exact q3⟩
theorem Has.call (h : Has W fr s Γ ρ st) (p : Pre W st s' st') : Has W fr s' Γ ρ st' := by
  refine ⟨h.len, h.pre.trans p, h.val, fun j m e => ?_, h.nal, h.bo⟩
  obtain ⟨l, q1, q2, q3⟩ := h.mt j m e
  obtain ⟨a, b⟩ := p.keep l (List.getElem?_eq_some_iff.mp q3).1 q2.2
  exact ⟨l, q1, ⟨q2.1, a⟩, b.trans q3⟩
inductive Wk : List Sl → List Sl → Prop where
  | nil : Wk [] []
  | any {a : Sl} {Γ Γ' : List Sl} (h : Wk Γ Γ') : Wk (a :: Γ) (.any :: Γ')
  | same {a : Sl} {Γ Γ' : List Sl} (h : Wk Γ Γ') : Wk (a :: Γ) (a :: Γ')
theorem Wk.len {Γ Γ' : List Sl} (h : Wk Γ Γ') : Γ.length = Γ'.length := by
  induction h with
  | nil => rfl
  | any _ ih => simp [ih]
  | same _ ih => simp [ih]
theorem Wk.get {Γ Γ' : List Sl} (h : Wk Γ Γ') : ∀ (i : Nat) (a : Sl), Γ'[i]? = some a → a = .any ∨ Γ[i]? = some a := by
  induction h with
  | nil => intro i a e; simp at e
  | any _ ih =>
    intro i a e
    cases i with
    | zero => left; simpa using e.symm
    | succ i => simpa using ih i a (by simpa using e)
  | same _ ih =>
    intro i a e
    cases i with
    | zero => right; simpa using e
    | succ i => simpa using ih i a (by simpa using e)
theorem Wk.refl : ∀ Γ : List Sl, Wk Γ Γ
  | [] => .nil
  | _ :: Γ => .same (Wk.refl Γ)
theorem Has.wk (h : Has W fr s Γ ρ st) (w : Wk Γ Γ') : Has W fr s Γ' ρ st := by
  have g : ∀ (i : Nat) (a : Sl), Γ'[i]? = some a → a ≠ .any → Γ[i]? = some a := fun i a e n => (w.get i a e).resolve_left n
  exact ⟨h.len.trans w.len, h.pre, fun i d e => h.val i d (g i _ e (by simp)), fun i m e => h.mt i m (g i _ e (by simp)), fun i j m1 m2 e1 e2 => h.nal i j m1 m2 (g i _ e1 (by simp)) (g j _ e2 (by simp)), fun i m e => h.bo i m (g i _ e (by simp))⟩
theorem Has.drop (h : Has W fr s Γ ρ st) (i : Nat) : Has W fr s (Γ.set i .any) ρ st := by
  have g : ∀ (j : Nat) (a : Sl), (Γ.set i .any)[j]? = some a → a ≠ .any → Γ[j]? = some a := fun j a e n => by
    by_cases hj : i = j
    · subst hj
      have hl : i < Γ.length := by have := (List.getElem?_eq_some_iff.mp e).1; simpa using this
      rw [List.getElem?_set_self hl] at e
      cases e
      exact absurd rfl n
    · rw [List.getElem?_set_ne hj] at e; exact e
  exact ⟨by simp [h.len], h.pre, fun i d e => h.val i d (g i _ e (by simp)), fun i m e => h.mt i m (g i _ e (by simp)), fun i j m1 m2 e1 e2 => h.nal i j m1 m2 (g i _ e1 (by simp)) (g j _ e2 (by simp)), fun i m e => h.bo i m (g i _ e (by simp))⟩
end
def Xc.pl (_ : Xc) : Prop := True
section
variable {S : Type} (W : Wd S) (fr : Sto)
def OR {A β : Type} (Γ' : β → List Sl) (ρ : Rho) (enc : β → A) (r : Out A) (q : Rs S β) : Prop := match q with
  | .ok b s' => ∃ st', r = .ok (enc b) st' ∧ Has W fr s' (Γ' b) ρ st'
  | .exc x s' => ∃ st', r = .exc x st' ∧ Pre W fr s' st' ∧ x.pl
  | .bad => True
  | .amb P f => ∃ n, P n ∧ OR Γ' ρ enc r (f n)
def HT {A β : Type} (Γ : List Sl) (m : Rho → M A) (q : Mt S β) (enc : β → A) (Γ' : β → List Sl) : Prop := ∀ s ρ st, Has W fr s Γ ρ st → OR W fr Γ' ρ enc (m ρ st) (q s)
def HV {A : Type} (Γ : List Sl) (m : Rho → M A) (d : A) : Prop := ∀ s ρ st, Has W fr s Γ ρ st → m ρ st = .ok d st
def AC {A β : Type} (Γ : List Sl) (a : Rho → M (List D)) (F : List D → M A) (q : Mt S β) (enc : β → A) (Γ' : β → List Sl) : Prop := ∀ s ρ st, Has W fr s Γ ρ st → OR W fr Γ' ρ enc ((a ρ st).bind F) (q s)
def FO {β : Type} (st : Sto) (enc : β → D) (r : Out D) (q : Rs S β) : Prop := match q with
  | .ok b s' => ∃ st', r = .ok (enc b) st' ∧ Pre W st s' st'
  | .exc x s' => ∃ st', r = .exc x st' ∧ Pre W st s' st' ∧ x.pl
  | .bad => True
  | .amb P f => ∃ n, P n ∧ FO st enc r (f n)
def FN {β : Type} (d : List D → M D) (args : List D) (q : Mt S β) (enc : β → D) : Prop := ∀ (st : Sto) (s : S), W.has s st → FO W st enc (d args st) (q s)
end
section
variable {S : Type} {W : Wd S} {fr : Sto} {Γ Γ1 Γ2 : List Sl} {ρ : Rho}
theorem Out.bind_assoc {α β γ : Type} (r : Out α) (f : α → Sto → Out β) (g : β → Sto → Out γ) : (r.bind f).bind g = r.bind fun a st => (f a st).bind g := by cases r <;> rfl
theorem OR.bind {A B β γ : Type} {Γ' : β → List Sl} {Γ'' : γ → List Sl} {e : β → A} {e' : γ → B} {r : Out A} {q : Rs S β} {f : A → Sto → Out B} {k : β → Mt S γ} (h : OR W fr Γ' ρ e r q)
    (hk : ∀ b s st, Has W fr s (Γ' b) ρ st → OR W fr Γ'' ρ e' (f (e b) st) (k b s)) : OR W fr Γ'' ρ e' (r.bind f) (rbind q k) := by
  induction q with
  | ok b s =>
    obtain ⟨st', rfl, h2⟩ := h
    exact hk b s st' h2
  | exc x s =>
    obtain ⟨st', rfl, h2⟩ := h
    exact ⟨st', rfl, h2⟩
  | bad => trivial
  | amb P_ f_ ih_ => obtain ⟨n_, p_, h⟩ := h; exact ⟨n_, p_, ih_ n_ h⟩
theorem ht_ofV {A β : Type} {m : Rho → M A} {x : β} {enc : β → A} (h : HV W fr Γ m (enc x)) : HT W fr Γ m (mpure x) enc fun _ => Γ := fun s ρ st H => ⟨st, h s ρ st H, H⟩
theorem ac_nil {A β : Type} {F : List D → M A} {q : Mt S β} {enc : β → A} {Γ' : β → List Sl} (h : ∀ s ρ st, Has W fr s Γ ρ st → OR W fr Γ' ρ enc (F [] st) (q s)) : AC W fr Γ mNil F q enc Γ' := fun s ρ st H => h s ρ st H
theorem ac_ret {A β : Type} {F : List D → M A} {b : β} {enc : β → A} (h : ∀ st, F [] st = .ok (enc b) st) : AC W fr Γ mNil F (mpure b) enc fun _ => Γ := ac_nil fun s ρ st H => ⟨st, h st, H⟩
theorem ac_opt {A β : Type} {F : List D → M A} {o : Option β} {enc : β → A} (h : ∀ b, o = some b → ∀ st, F [] st = .ok (enc b) st) : AC W fr Γ mNil F (mopt o) enc fun _ => Γ := ac_nil fun s ρ st H => by
  cases o with
  | none => trivial
  | some b => exact ⟨st, h b rfl st, H⟩
theorem ac_if {A β : Type} {F : List D → M A} {c : Prop} [Decidable c] {b : β} {enc : β → A} (h : c → ∀ st, F [] st = .ok (enc b) st) : AC W fr Γ mNil F (if c then mpure b else mbad) enc fun _ => Γ := ac_nil fun s ρ st H => by
  by_cases hc : c
  · rw [if_pos hc]; exact ⟨st, h hc st, H⟩
  · rw [if_neg hc]; trivial
theorem ac_fn {β : Type} {F : List D → M D} {d : List D → M D} {args : List D} {q : Mt S β} {enc : β → D} (h : FN W d args q enc) (hF : F [] = d args := by rfl) : AC W fr Γ mNil F q enc fun _ => Γ := ac_nil fun s ρ st H => by
  have h := h st s H.pre.has
  rw [hF]
  revert h
  show FO W _ enc (d args st) (q s) → OR W fr _ ρ enc (d args st) (q s)
  generalize q s = r
  induction r with
  | ok b s' => rintro ⟨st', e, p⟩; exact ⟨st', e, H.call p⟩
  | exc x s' => rintro ⟨st', e, p, hx⟩; exact ⟨st', e, H.pre.trans p, hx⟩
  | bad => intro _; trivial
  | amb P_ f_ ih_ => rintro ⟨n_, p_, h_⟩; exact ⟨n_, p_, ih_ n_ h_⟩
theorem ac_V {A β : Type} {m : Rho → M D} {r : Rho → M (List D)} {F : List D → M A} {d : D} {q : Mt S β} {enc : β → A} {Γ' : β → List Sl} (h : HV W fr Γ m d) (hr : AC W fr Γ r (fun ds => F (d :: ds)) q enc Γ') : AC W fr Γ (mCons m r) F q enc Γ' := fun s ρ st H => by
  have := hr s ρ st H
  unfold mCons
  rw [h s ρ st H, Out.bind_ok, Out.bind_assoc]
  exact this
theorem ac_T {A β γ : Type} {m : Rho → M D} {r : Rho → M (List D)} {F : List D → M A} {q1 : Mt S γ} {e1 : γ → D} {Γ1 : γ → List Sl} {k : γ → Mt S β} {enc : β → A} {Γ' : β → List Sl} (h : HT W fr Γ m q1 e1 Γ1) (hr : ∀ x, AC W fr (Γ1 x) r (fun ds => F (e1 x :: ds)) (k x) enc Γ') : AC W fr Γ (mCons m r) F (mbind q1 k) enc Γ' := fun s ρ st H => by
  unfold mCons
  rw [Out.bind_assoc]
  refine OR.bind (h s ρ st H) fun b s1 st1 H1 => ?_
  rw [Out.bind_assoc]
  exact hr b s1 ρ st1 H1
theorem ac_star {A β γ : Type} {m : Rho → M D} {r : Rho → M (List D)} {F : List D → M A} {q1 : Mt S γ} {e1 : γ → D} {xs : γ → List D} {Γ1 : γ → List Sl} {k : γ → Mt S β} {enc : β → A} {Γ' : β → List Sl} (h : HT W fr Γ m q1 e1 Γ1) (hs : ∀ x st, seqOf st (e1 x) = some (xs x))
    (hr : ∀ x, AC W fr (Γ1 x) r (fun ds => F (xs x ++ ds)) (k x) enc Γ') : AC W fr Γ (mStar m r) F (mbind q1 k) enc Γ' := fun s ρ st H => by
  unfold mStar
  rw [Out.bind_assoc]
  refine OR.bind (h s ρ st H) fun b s1 st1 H1 => ?_
  rw [hs b st1]
  dsimp only
  rw [Out.bind_assoc]
  exact hr b s1 ρ st1 H1
theorem ac_starV {A β : Type} {m : Rho → M D} {r : Rho → M (List D)} {F : List D → M A} {d : D} {xs : List D} {q : Mt S β} {enc : β → A} {Γ' : β → List Sl} (h : HV W fr Γ m d) (hs : ∀ st, seqOf st d = some xs)
    (hr : AC W fr Γ r (fun ds => F (xs ++ ds)) q enc Γ') : AC W fr Γ (mStar m r) F q enc Γ' := fun s ρ st H => by
  have := hr s ρ st H
  unfold mStar
  rw [h s ρ st H, Out.bind_ok, hs st]
  dsimp only
  rw [Out.bind_assoc]
  exact this
theorem ac_M {A β : Type} {i : Nat} {r : Rho → M (List D)} {F : List D → M A} {xs ds : List D} {q : Mt S β} {enc : β → A} {Γ' : β → List Sl} (h : (Γ[i]?).bind Sl.rd = some (.lst xs)) (hv : HV W fr Γ r ds)
    (hd : ∀ st l, st[l]? = some (.lst xs) → F (.ref l :: ds) st = F (.lst xs :: ds) st) (hr : AC W fr Γ r (fun ds => F (.lst xs :: ds)) q enc Γ') : AC W fr Γ (mCons (mVar i) r) F q enc Γ' := fun s ρ st H => by
  have := hr s ρ st H
  obtain ⟨l, q1, q2, q3⟩ := H.rd i _ h
  rw [hv s ρ st H, Out.bind_ok] at this
  unfold mCons
  have e : mVar i ρ st = .ok (.ref l) st := by unfold mVar; rw [q1]
  rw [e, Out.bind_ok, Out.bind_assoc, hv s ρ st H, Out.bind_ok, Out.bind_ok, hd st l q3]
  exact this
theorem hv_nil : HV W fr Γ mNil [] := fun _ _ _ _ => rfl
theorem hv_cons {m : Rho → M D} {r : Rho → M (List D)} {d : D} {ds : List D} (h : HV W fr Γ m d) (hr : HV W fr Γ r ds) : HV W fr Γ (mCons m r) (d :: ds) := fun s ρ st H => by
  unfold mCons
  rw [h s ρ st H, Out.bind_ok, hr s ρ st H, Out.bind_ok]
def F2 (p : Sto → D → D → Option D) : List D → M D := fun ds st => match ds with
  | [a, b] => lift (p st a b) st
  | _ => .bad
def F1 (p : Sto → D → Option D) : List D → M D := fun ds st => match ds with
  | [a] => lift (p st a) st
  | _ => .bad
def FB {A : Type} (p : Sto → List D → Option A) : List D → M A := fun ds st => lift (p st ds) st
def FTup : List D → M D := fun xs st => if xs.length ≤ 100000 then .ok (.tup xs) st else .bad
def FDisp : List D → M (List D) := fun xs st => if xs.length ≤ 100000 then .ok xs st else .bad
section
variable {β : Type} {m1 m2 : Rho → M D} {a : Rho → M (List D)} {q : Mt S β} {Γ' : β → List Sl}
theorem ht_op {p : Sto → D → D → Option D} {enc : β → D} (h : AC W fr Γ (mCons m1 (mCons m2 mNil)) (F2 p) q enc Γ') : HT W fr Γ (mOp p m1 m2) q enc Γ' := fun s ρ st H => by
  have := h s ρ st H
  unfold mCons mNil at this
  simp only [Out.bind_assoc, Out.bind_ok] at this
  exact this
theorem ht_b {p : Sto → List D → Option D} {enc : β → D} (h : AC W fr Γ a (FB p) q enc Γ') : HT W fr Γ (mB p a) q enc Γ' := h
theorem ht_call {d : List D → M D} {enc : β → D} (h : AC W fr Γ a d q enc Γ') : HT W fr Γ (mCall d a) q enc Γ' := h
theorem ht_tup {enc : β → D} (h : AC W fr Γ a FTup q enc Γ') : HT W fr Γ (mTup a) q enc Γ' := h
theorem ht_disp {enc : β → List D} (h : AC W fr Γ a FDisp q enc Γ') : HT W fr Γ (lDisp a) q enc Γ' := h
theorem ht_frz {l : Rho → M (List D)} {enc : β → List D} (h : HT W fr Γ l q enc Γ') : HT W fr Γ (mFrz l) q (fun x => .lst (enc x)) Γ' := fun s ρ st H => by
  have := h s ρ st H
  unfold mFrz
  revert this
  induction (q s) with
  | ok b s' => rintro ⟨st', e, h2⟩; exact ⟨st', by rw [e]; rfl, h2⟩
  | exc x s' => rintro ⟨st', e, h2⟩; exact ⟨st', by rw [e]; rfl, h2⟩
  | bad => intro _; trivial
  | amb P_ f_ ih_ => rintro ⟨n_, p_, h_⟩; exact ⟨n_, p_, ih_ n_ h_⟩
theorem ht_isB {m : Rho → M D} {q : Mt S Bool} {Γ' : Bool → List Sl} (h : HT W fr Γ m q .bl Γ') : HT W fr Γ (isB m) q id Γ' := fun s ρ st H => by
  have := h s ρ st H
  unfold isB
  revert this
  induction (q s) with
  | ok b s' => rintro ⟨st', e, h2⟩; exact ⟨st', by rw [e]; rfl, h2⟩
  | exc x s' => rintro ⟨st', e, h2⟩; exact ⟨st', by rw [e]; rfl, h2⟩
  | bad => intro _; trivial
  | amb P_ f_ ih_ => rintro ⟨n_, p_, h_⟩; exact ⟨n_, p_, ih_ n_ h_⟩
theorem ht_tru {m : Rho → M D} {enc : β → D} {f : β → Bool} (h : HT W fr Γ m q enc fun _ => Γ) (hf : ∀ x st, (enc x).truth st = some (f x)) : HT W fr Γ (mTru m) (mbind q fun x => mpure (f x)) id fun _ => Γ := fun s ρ st H => by
  unfold mTru
  refine OR.bind (h s ρ st H) fun b s1 st1 H1 => ?_
  rw [hf b st1]
  exact ⟨st1, rfl, H1⟩
theorem ht_and {t1 t2 : Rho → M Bool} {q1 q2 : Mt S Bool} (h1 : HT W fr Γ t1 q1 id fun _ => Γ) (h2 : HT W fr Γ t2 q2 id fun _ => Γ) : HT W fr Γ (bAnd t1 t2) (mbind q1 fun b => if b = true then q2 else mpure false) id fun _ => Γ := fun s ρ st H => by
  unfold bAnd
  refine OR.bind (h1 s ρ st H) fun b s1 st1 H1 => ?_
  cases b
  · exact ⟨st1, rfl, H1⟩
  · exact h2 s1 ρ st1 H1
theorem ht_or {t1 t2 : Rho → M Bool} {q1 q2 : Mt S Bool} (h1 : HT W fr Γ t1 q1 id fun _ => Γ) (h2 : HT W fr Γ t2 q2 id fun _ => Γ) : HT W fr Γ (bOr t1 t2) (mbind q1 fun b => if b = true then mpure true else q2) id fun _ => Γ := fun s ρ st H => by
  unfold bOr
  refine OR.bind (h1 s ρ st H) fun b s1 st1 H1 => ?_
  cases b
  · exact h2 s1 ρ st1 H1
  · exact ⟨st1, rfl, H1⟩
theorem ht_not {t1 : Rho → M Bool} {q1 : Mt S Bool} (h1 : HT W fr Γ t1 q1 id fun _ => Γ) : HT W fr Γ (bNot t1) (mbind q1 fun b => mpure (!b)) id fun _ => Γ := fun s ρ st H => by
  unfold bNot
  refine OR.bind (h1 s ρ st H) fun b s1 st1 H1 => ⟨st1, rfl, H1⟩
theorem ht_if {t : Rho → M Bool} {qt : Mt S Bool} {qa qb : Mt S β} {enc : β → D} (ht : HT W fr Γ t qt id fun _ => Γ) (h1 : HT W fr Γ m1 qa enc fun _ => Γ) (h2 : HT W fr Γ m2 qb enc fun _ => Γ) : HT W fr Γ (mIf t m1 m2) (mbind qt fun c => if c = true then qa else qb) enc fun _ => Γ := fun s ρ st H => by
  unfold mIf
  refine OR.bind (ht s ρ st H) fun b s1 st1 H1 => ?_
  cases b
  · exact h2 s1 ρ st1 H1
  · exact h1 s1 ρ st1 H1
theorem ht_andV {q1 q2 : Mt S Bool} (h1 : HT W fr Γ m1 q1 .bl fun _ => Γ) (h2 : HT W fr Γ m2 q2 .bl fun _ => Γ) : HT W fr Γ (mAndV m1 m2) (mbind q1 fun b => if b = true then q2 else mpure false) .bl fun _ => Γ := fun s ρ st H => by
  unfold mAndV
  refine OR.bind (h1 s ρ st H) fun b s1 st1 H1 => ?_
  cases b
  · exact ⟨st1, rfl, H1⟩
  · exact h2 s1 ρ st1 H1
end
theorem hv_lit {d : D} : HV W fr Γ (mLit d) d := fun _ _ _ _ => rfl
theorem hv_var {i : Nat} {d : D} (h : Γ[i]? = some (.val d)) : HV W fr Γ (mVar i) d := fun s ρ st H => by
  unfold mVar
  rw [H.val i d h]
theorem hv_op {p : Sto → D → D → Option D} {m1 m2 : Rho → M D} {d1 d2 d : D} (h1 : HV W fr Γ m1 d1) (h2 : HV W fr Γ m2 d2) (h : ∀ st, p st d1 d2 = some d) : HV W fr Γ (mOp p m1 m2) d := fun s ρ st H => by
  unfold mOp
  rw [h1 s ρ st H, Out.bind_ok, h2 s ρ st H, Out.bind_ok, h st, lift_some]
theorem hv_opM1 {p : Sto → D → D → Option D} {i : Nat} {xs : List D} {m2 : Rho → M D} {d2 d : D} (h1 : (Γ[i]?).bind Sl.rd = some (.lst xs)) (h2 : HV W fr Γ m2 d2) (hd : ∀ st l, st[l]? = some (.lst xs) → p st (.ref l) d2 = p st (.lst xs) d2) (h : ∀ st, p st (.lst xs) d2 = some d) : HV W fr Γ (mOp p (mVar i) m2) d := fun s ρ st H => by
  obtain ⟨l, q1, q2, q3⟩ := H.rd i _ h1
  have e : mVar i ρ st = .ok (.ref l) st := by unfold mVar; rw [q1]
  unfold mOp
  rw [e, Out.bind_ok, h2 s ρ st H, Out.bind_ok, hd st l q3, h st, lift_some]
theorem hv_opM2 {p : Sto → D → D → Option D} {i : Nat} {xs : List D} {m1 : Rho → M D} {d1 d : D} (h1 : HV W fr Γ m1 d1) (h2 : (Γ[i]?).bind Sl.rd = some (.lst xs)) (hd : ∀ st l, st[l]? = some (.lst xs) → p st d1 (.ref l) = p st d1 (.lst xs)) (h : ∀ st, p st d1 (.lst xs) = some d) : HV W fr Γ (mOp p m1 (mVar i)) d := fun s ρ st H => by
  obtain ⟨l, q1, q2, q3⟩ := H.rd i _ h2
  have e : mVar i ρ st = .ok (.ref l) st := by unfold mVar; rw [q1]
  unfold mOp
  rw [h1 s ρ st H, Out.bind_ok, e, Out.bind_ok, hd st l q3, h st, lift_some]
theorem hv_un {p : Sto → D → Option D} {m1 : Rho → M D} {d1 d : D} (h1 : HV W fr Γ m1 d1) (h : ∀ st, p st d1 = some d) : HV W fr Γ (mUn p m1) d := fun s ρ st H => by
  unfold mUn
  rw [h1 s ρ st H, Out.bind_ok, h st, lift_some]
theorem hv_b {A : Type} {p : Sto → List D → Option D} {a : Rho → M (List D)} {ds : List D} {d : D} (h1 : HV W fr Γ a ds) (h : ∀ st, p st ds = some d) : HV W fr Γ (mB p a) d := fun s ρ st H => by
  unfold mB
  rw [h1 s ρ st H, Out.bind_ok, h st, lift_some]
theorem hv_bL {p : Sto → List D → Option (List D)} {a : Rho → M (List D)} {ds d : List D} (h1 : HV W fr Γ a ds) (h : ∀ st, p st ds = some d) : HV W fr Γ (lB p a) d := fun s ρ st H => by
  unfold lB
  rw [h1 s ρ st H, Out.bind_ok, h st, lift_some]
theorem hv_bM {p : Sto → List D → Option D} {i : Nat} {xs : List D} {d : D} (h1 : (Γ[i]?).bind Sl.rd = some (.lst xs)) (hd : ∀ st l, st[l]? = some (.lst xs) → p st [.ref l] = p st [.lst xs]) (h : ∀ st, p st [.lst xs] = some d) : HV W fr Γ (mB p (mCons (mVar i) mNil)) d := fun s ρ st H => by
  obtain ⟨l, q1, q2, q3⟩ := H.rd i _ h1
  have e : mVar i ρ st = .ok (.ref l) st := by unfold mVar; rw [q1]
  unfold mB mCons mNil
  simp only [e, Out.bind_ok, hd st l q3, h st, lift_some]
theorem hv_frz {l : Rho → M (List D)} {ds : List D} (h : HV W fr Γ l ds) : HV W fr Γ (mFrz l) (.lst ds) := fun s ρ st H => by
  unfold mFrz
  rw [h s ρ st H, Out.bind_ok]
theorem hv_tup {a : Rho → M (List D)} {ds : List D} (h : HV W fr Γ a ds) (hl : ds.length ≤ 100000) : HV W fr Γ (mTup a) (.tup ds) := fun s ρ st H => by
  unfold mTup
  rw [h s ρ st H, Out.bind_ok, if_pos hl]
theorem hv_disp {a : Rho → M (List D)} {ds : List D} (h : HV W fr Γ a ds) (hl : ds.length ≤ 100000) : HV W fr Γ (lDisp a) ds := fun s ρ st H => by
  unfold lDisp
  rw [h s ρ st H, Out.bind_ok, if_pos hl]
theorem hv_isB {m : Rho → M D} {b : Bool} (h : HV W fr Γ m (.bl b)) : HV W fr Γ (isB m) b := fun s ρ st H => by
  unfold isB
  rw [h s ρ st H, Out.bind_ok]
theorem hv_and {t1 t2 : Rho → M Bool} {b1 b2 : Bool} (h1 : HV W fr Γ t1 b1) (h2 : HV W fr Γ t2 b2) : HV W fr Γ (bAnd t1 t2) (b1 && b2) := fun s ρ st H => by
  unfold bAnd
  rw [h1 s ρ st H, Out.bind_ok]
  cases b1
  · rfl
  · exact h2 s ρ st H
theorem hv_oNone : HV W fr Γ oNone none := fun _ _ _ _ => rfl
theorem hv_oSome {m : Rho → M D} {i : Int} (h : HV W fr Γ m (.int i)) : HV W fr Γ (oSome m) (some i) := fun s ρ st H => by
  unfold oSome
  rw [h s ρ st H, Out.bind_ok]
end
end Dn
namespace Dn
open PySem PySem.Spec PyProof.Rows L2
inductive Lp (σ β : Type) where
  | nx (z : σ) | bk (z : σ) | rt (b : β)
section
variable {S α β σ τ : Type}
def forU (body : α → σ → Mt S σ) : List α → σ → Mt S σ
  | [], z => mpure z
  | x :: xs, z => mbind (body x z) fun z' => forU body xs z'
def forX (body : α → σ → Mt S (Lp σ β)) : List α → σ → Mt S (σ ⊕ β)
  | [], z => mpure (.inl z)
  | x :: xs, z => mbind (body x z) fun r => match r with
    | .nx z' => forX body xs z'
    | .bk z' => mpure (.inl z')
    | .rt b => mpure (.inr b)
def whileU (c : σ → Mt S Bool) (body : σ → Mt S σ) : Nat → σ → Mt S σ
  | 0, _ => mbad
  | n + 1, z => mbind (c z) fun b => if b = true then mbind (body z) fun z' => whileU c body n z' else mpure z
def whileX (c : σ → Mt S Bool) (body : σ → Mt S (Lp σ β)) : Nat → σ → Mt S (σ ⊕ β)
  | 0, _ => mbad
  | n + 1, z => mbind (c z) fun b => if b = true then (mbind (body z) fun r => match r with
    | .nx z' => whileX c body n z'
    | .bk z' => mpure (.inl z')
    | .rt b => mpure (.inr b)) else mpure (.inl z)
def mfin (q : Mt S (σ ⊕ β)) (k : σ → Mt S β) : Mt S β := mbind q fun r => match r with
  | .inl z => k z
  | .inr b => mpure b
def mfinL (q : Mt S (σ ⊕ β)) (k : σ → Mt S (Lp τ β)) : Mt S (Lp τ β) := mbind q fun r => match r with
  | .inl z => k z
  | .inr b => mpure (.rt b)
end
section
variable {S : Type} (W : Wd S) (fr : Sto)
def NR {σ : Type} (J : σ → List Sl) (r : Fl) (q : Rs S σ) : Prop := match q with
  | .ok z s' => ∃ ρ' st', r = .next ρ' st' ∧ Has W fr s' (J z) ρ' st'
  | .exc x s' => ∃ ρ' st', r = .exc x ρ' st' ∧ Pre W fr s' st' ∧ x.pl
  | .bad => True
  | .amb P f => ∃ n, P n ∧ NR J r (f n)
def TN {σ : Type} (Γ : List Sl) (m : Rho → Sto → Fl) (q : Mt S σ) (J : σ → List Sl) : Prop := ∀ s ρ st, Has W fr s Γ ρ st → NR W fr J (m ρ st) (q s)
def RR {β : Type} (enc : β → D) (r : Fl) (q : Rs S β) : Prop := match q with
  | .ok b s' => ∃ st', r = .ret (enc b) st' ∧ Pre W fr s' st'
  | .exc x s' => ∃ ρ' st', r = .exc x ρ' st' ∧ Pre W fr s' st' ∧ x.pl
  | .bad => True
  | .amb P f => ∃ n, P n ∧ RR enc r (f n)
def TR {β : Type} (Γ : List Sl) (m : Rho → Sto → Fl) (q : Mt S β) (enc : β → D) : Prop := ∀ s ρ st, Has W fr s Γ ρ st → RR W fr enc (m ρ st) (q s)
def LR {σ β : Type} (J : σ → List Sl) (enc : β → D) (r : Fl) (q : Rs S (Lp σ β)) : Prop := match q with
  | .ok (.nx z) s' => ∃ ρ' st', (r = .next ρ' st' ∨ r = .cnt ρ' st') ∧ Has W fr s' (J z) ρ' st'
  | .ok (.bk z) s' => ∃ ρ' st', r = .brk ρ' st' ∧ Has W fr s' (J z) ρ' st'
  | .ok (.rt b) s' => ∃ st', r = .ret (enc b) st' ∧ Pre W fr s' st'
  | .exc x s' => ∃ ρ' st', r = .exc x ρ' st' ∧ Pre W fr s' st' ∧ x.pl
  | .bad => True
  | .amb P f => ∃ n, P n ∧ LR J enc r (f n)
def TL {σ β : Type} (Γ : List Sl) (m : Rho → Sto → Fl) (q : Mt S (Lp σ β)) (J : σ → List Sl) (enc : β → D) : Prop := ∀ s ρ st, Has W fr s Γ ρ st → LR W fr J enc (m ρ st) (q s)
def XR {σ β : Type} (J : σ → List Sl) (enc : β → D) (r : Fl) (q : Rs S (Lp σ β)) : Prop := match q with
  | .ok (.nx z) s' => ∃ ρ' st', r = .cnt ρ' st' ∧ Has W fr s' (J z) ρ' st'
  | .ok (.bk z) s' => ∃ ρ' st', r = .brk ρ' st' ∧ Has W fr s' (J z) ρ' st'
  | .ok (.rt b) s' => ∃ st', r = .ret (enc b) st' ∧ Pre W fr s' st'
  | .exc x s' => ∃ ρ' st', r = .exc x ρ' st' ∧ Pre W fr s' st' ∧ x.pl
  | .bad => True
  | .amb P f => ∃ n, P n ∧ XR J enc r (f n)
def TX {σ β : Type} (Γ : List Sl) (m : Rho → Sto → Fl) (q : Mt S (Lp σ β)) (J : σ → List Sl) (enc : β → D) : Prop := ∀ s ρ st, Has W fr s Γ ρ st → XR W fr J enc (m ρ st) (q s)
def FR {σ β : Type} (J : σ → List Sl) (enc : β → D) (r : Fl) (q : Rs S (σ ⊕ β)) : Prop := match q with
  | .ok (.inl z) s' => ∃ ρ' st', r = .next ρ' st' ∧ Has W fr s' (J z) ρ' st'
  | .ok (.inr b) s' => ∃ st', r = .ret (enc b) st' ∧ Pre W fr s' st'
  | .exc x s' => ∃ ρ' st', r = .exc x ρ' st' ∧ Pre W fr s' st' ∧ x.pl
  | .bad => True
  | .amb P f => ∃ n, P n ∧ FR J enc r (f n)
def TF {σ β : Type} (Γ : List Sl) (m : Rho → Sto → Fl) (q : Mt S (σ ⊕ β)) (J : σ → List Sl) (enc : β → D) : Prop := ∀ s ρ st, Has W fr s Γ ρ st → FR W fr J enc (m ρ st) (q s)
def GT1 (Γ : List Sl) (gf : D → Rho → M Rho) (d : D) (Γ' : List Sl) (js : List Nat) : Prop := ∀ s ρ st, Has W fr s Γ ρ st → ∃ ρ', gf d ρ st = .ok ρ' st ∧ Has W fr s Γ' ρ' st ∧ ∀ j, j ∉ js → ρ'[j]? = ρ[j]?
def GTs (Γ : List Sl) (gs : List D → Rho → M Rho) (ds : List D) (Γ' : List Sl) (js : List Nat) : Prop := ∀ s ρ st, Has W fr s Γ ρ st → ∃ ρ', gs ds ρ st = .ok ρ' st ∧ Has W fr s Γ' ρ' st ∧ ∀ j, j ∉ js → ρ'[j]? = ρ[j]?
end
section
variable {S : Type} {W : Wd S} {fr : Sto} {Γ Γ1 Γ2 : List Sl}
theorem gt1_N (i : Nat) (d : D) : GT1 W fr Γ (gN i) d (Γ.set i (.val d)) [i] := fun s ρ st H => ⟨_, rfl, H.setVal i d, fun j hj => by
  rw [List.getElem?_set_ne (fun q => hj (by simp [q]))]⟩
theorem gts_nil : GTs W fr Γ gsNil [] Γ [] := fun s ρ st H => ⟨ρ, rfl, H, fun _ _ => rfl⟩
theorem gts_cons {g : D → Rho → M Rho} {gs : List D → Rho → M Rho} {d : D} {ds : List D} {j1 j2 : List Nat} (h1 : GT1 W fr Γ g d Γ1 j1) (h2 : GTs W fr Γ1 gs ds Γ2 j2) : GTs W fr Γ (gsCons g gs) (d :: ds) Γ2 (j1 ++ j2) := fun s ρ st H => by
  obtain ⟨ρ1, e1, H1, k1⟩ := h1 s ρ st H
  obtain ⟨ρ2, e2, H2, k2⟩ := h2 s ρ1 st H1
  refine ⟨ρ2, ?_, H2, fun j hj => ?_⟩
  · show (g d ρ st).bind (fun r s1 => gs ds r s1) = _
    rw [e1]
    exact e2
  · rw [k2 j fun q => hj (List.mem_append_right _ q), k1 j fun q => hj (List.mem_append_left _ q)]
theorem gt1_T {n : Nat} {gs : List D → Rho → M Rho} {ds : List D} {js : List Nat} (h : GTs W fr Γ gs ds Γ1 js) (hn : ds.length = n) : GT1 W fr Γ (gT n gs) (.tup ds) Γ1 js := fun s ρ st H => by
  have e : gT n gs (.tup ds) ρ st = gs ds ρ st := by
    show (if ds.length = n then gs ds ρ st else .bad) = _
    rw [if_pos hn]
  rw [e]
  exact h s ρ st H
theorem OR.fl {A β σ : Type} {Γ' : β → List Sl} {J : σ → List Sl} {ρ : Rho} {e : β → A} {r : Out A} {q : Rs S β} {f : A → Sto → Fl} {k : β → Mt S σ} (h : OR W fr Γ' ρ e r q)
    (hk : ∀ b s st, Has W fr s (Γ' b) ρ st → NR W fr J (f (e b) st) (k b s)) : NR W fr J (r.fl ρ f) (rbind q k) := by
  induction q with
  | ok b s =>
    obtain ⟨st', rfl, h2⟩ := h
    exact hk b s st' h2
  | exc x s =>
    obtain ⟨st', rfl, h2, h3⟩ := h
    exact ⟨ρ, st', rfl, h2, h3⟩
  | bad => trivial
  | amb P_ f_ ih_ => obtain ⟨n_, p_, h⟩ := h; exact ⟨n_, p_, ih_ n_ h⟩
theorem tn_map {σ τ : Type} {m : Rho → Sto → Fl} {q : Mt S σ} {J : σ → List Sl} {J' : τ → List Sl} {f : σ → τ} (h : TN W fr Γ m q J) (w : ∀ z, Wk (J z) (J' (f z))) : TN W fr Γ m (mbind q fun z => mpure (f z)) J' := fun s ρ st H => by
  have := h s ρ st H
  revert this
  show NR W fr J _ _ → NR W fr J' _ (rbind (q s) _)
  induction (q s) with
  | ok z s' => rintro ⟨ρ', st', e, h2⟩; exact ⟨ρ', st', e, h2.wk (w z)⟩
  | exc x s' => exact id
  | bad => exact id
  | amb P_ f_ ih_ => rintro ⟨n_, p_, h_⟩; exact ⟨n_, p_, ih_ n_ h_⟩
theorem tn_seq {σ τ : Type} {m1 m2 : Rho → Sto → Fl} {q : Mt S σ} {J : σ → List Sl} {k : σ → Mt S τ} {J' : τ → List Sl} (h1 : TN W fr Γ m1 q J) (h2 : ∀ z, TN W fr (J z) m2 (k z) J') : TN W fr Γ (sSeq m1 m2) (mbind q k) J' := fun s ρ st H => by
  have := h1 s ρ st H
  unfold sSeq
  revert this
  show NR W fr J _ _ → NR W fr J' _ (rbind (q s) _)
  induction (q s) with
  | ok z s' => rintro ⟨ρ', st', e, h3⟩; rw [e]; exact h2 z s' ρ' st' h3
  | exc x s' => rintro ⟨ρ', st', e, h3⟩; rw [e]; exact ⟨ρ', st', rfl, h3⟩
  | bad => intro _; trivial
  | amb P_ f_ ih_ => rintro ⟨n_, p_, h_⟩; exact ⟨n_, p_, ih_ n_ h_⟩
theorem tn_asg {β : Type} {i : Nat} {m : Rho → M D} {q : Mt S β} {enc : β → D} {Γ' : β → List Sl} (h : HT W fr Γ m q enc Γ') : TN W fr Γ (sAsg (gN i) m) q fun x => (Γ' x).set i (.val (enc x)) := fun s ρ st H => by
  have := OR.fl (J := fun x => (Γ' x).set i (.val (enc x))) (f := fun d st1 => (nox (gN i d ρ st1)).fl ρ fun ρ2 st2 => .next ρ2 st2) (k := mpure) (h s ρ st H) fun b s1 st1 H1 => ⟨_, st1, rfl, H1.setVal i (enc b)⟩
  have e : rbind (q s) mpure = q s := congrFun (mbind_ret q) s
  rw [e] at this
  exact this
theorem tn_asgG {β : Type} {gf : D → Rho → M Rho} {m : Rho → M D} {q : Mt S β} {enc : β → D} {Γ' J : β → List Sl} {js : List Nat} (h : HT W fr Γ m q enc Γ') (hg : ∀ x, GT1 W fr (Γ' x) gf (enc x) (J x) js) : TN W fr Γ (sAsg gf m) q J := fun s ρ st H => by
  have := OR.fl (J := J) (f := fun d st1 => (nox (gf d ρ st1)).fl ρ fun ρ2 st2 => .next ρ2 st2) (k := mpure) (h s ρ st H) fun b s1 st1 H1 => by
    obtain ⟨ρ', e, H2, _⟩ := hg b s1 ρ st1 H1
    rw [e]
    exact ⟨ρ', st1, rfl, H2⟩
  have e : rbind (q s) mpure = q s := congrFun (mbind_ret q) s
  rw [e] at this
  exact this
theorem tn_new {β : Type} {i : Nat} {l : Rho → M (List D)} {q : Mt S β} {enc : β → List D} {Γ' : β → List Sl} (h : HT W fr Γ l q enc Γ') : TN W fr Γ (sAsg (gN i) (mNew l)) q fun x => (Γ' x).set i (.mut (.lst (enc x))) := fun s ρ st H => by
  have := OR.fl (J := fun x => (Γ' x).set i (.mut (.lst (enc x)))) (f := fun xs st1 => .next (ρ.set i (some (.ref st1.length))) (st1 ++ [.lst xs])) (k := mpure) (h s ρ st H) fun b s1 st1 H1 => ⟨_, _, rfl, H1.setNew i _⟩
  have e : rbind (q s) mpure = q s := congrFun (mbind_ret q) s
  rw [e] at this
  have e2 : sAsg (gN i) (mNew l) ρ st = (l ρ st).fl ρ fun xs st1 => .next (ρ.set i (some (.ref st1.length))) (st1 ++ [.lst xs]) := by
    unfold sAsg mNew
    cases l ρ st <;> rfl
  rw [e2]
  exact this
theorem tn_drop {β : Type} {m : Rho → M D} {q : Mt S β} {enc : β → D} {Γ' : β → List Sl} (h : HT W fr Γ m q enc Γ') : TN W fr Γ (sDrop m) q Γ' := fun s ρ st H => by
  have := OR.fl (J := Γ') (f := fun _ st1 => .next ρ st1) (k := mpure) (h s ρ st H) fun b s1 st1 H1 => ⟨_, st1, rfl, H1⟩
  have e : rbind (q s) mpure = q s := congrFun (mbind_ret q) s
  rw [e] at this
  exact this
theorem tn_if {σ : Type} {t : Rho → M Bool} {a b : Rho → Sto → Fl} {qt : Mt S Bool} {qa qb : Mt S σ} {J : σ → List Sl} {Γ' : Bool → List Sl} (ht : HT W fr Γ t qt id Γ') (ha : TN W fr (Γ' true) a qa J) (hb : TN W fr (Γ' false) b qb J) : TN W fr Γ (sIf t a b) (mbind qt fun c => if c = true then qa else qb) J := fun s ρ st H => by
  refine OR.fl (f := fun c st1 => if c = true then a ρ st1 else b ρ st1) (ht s ρ st H) fun c s1 st1 H1 => ?_
  cases c
  · exact hb s1 ρ st1 H1
  · exact ha s1 ρ st1 H1
def AP {σ : Type} (W : Wd S) (fr : Sto) (Γ : List Sl) (pd : List (D × Sl)) (a : Rho → M (List D)) (F : Rho → List D → Sto → Fl) (q : Mt S σ) (J : σ → List Sl) : Prop := ∀ s ρ st, Has W fr s (Γ ++ pd.map (·.2)) (ρ ++ pd.map fun p => some p.1) st → ρ.length = Γ.length → NR W fr J ((a ρ st).fl ρ (F ρ)) (q s)
theorem Has.front {s : S} {Γ Γ' : List Sl} {ρ ρ' : Rho} {st : Sto} (h : Has W fr s (Γ ++ Γ') (ρ ++ ρ') st) (hl : ρ.length = Γ.length) : Has W fr s Γ ρ st := by
  have g : ∀ (i : Nat) a, Γ[i]? = some a → (Γ ++ Γ')[i]? = some a ∧ (ρ ++ ρ')[i]? = ρ[i]? := fun i a e => by
    have hi := (List.getElem?_eq_some_iff.mp e).1
    exact ⟨by rw [List.getElem?_append_left hi]; exact e, by rw [List.getElem?_append_left (by omega)]⟩
  refine ⟨hl, h.pre, fun i d e => ?_, fun i m e => ?_, fun i j m1 m2 e1 e2 e3 => ?_, fun i m e => ?_⟩
  · rw [← (g i _ e).2]; exact h.val i d (g i _ e).1
  · rw [← (g i _ e).2]; exact h.mt i m (g i _ e).1
  · exact h.nal i j m1 m2 (g i _ e1).1 (g j _ e2).1 (by rw [(g i _ e1).2, (g j _ e2).2]; exact e3)
  · rw [← (g i _ e).2]; exact h.bo i m (g i _ e).1
theorem Has.snocVal {s : S} {Γ : List Sl} {ρ : Rho} {st : Sto} (h : Has W fr s Γ ρ st) (d : D) : Has W fr s (Γ ++ [.val d]) (ρ ++ [some d]) st := by
  have h2 : Has W fr s (Γ ++ [Sl.any]) (ρ ++ [some d]) st := by
    have g : ∀ (i : Nat) a, (Γ ++ [Sl.any])[i]? = some a → a ≠ .any → Γ[i]? = some a ∧ (ρ ++ [some d])[i]? = ρ[i]? := fun i a e n => by
      by_cases hi : i < Γ.length
      · rw [List.getElem?_append_left hi] at e
        exact ⟨e, by rw [List.getElem?_append_left (by rw [h.len]; exact hi)]⟩
      · rw [List.getElem?_append_right (by omega)] at e
        have := List.mem_of_getElem? e
        exact absurd (by simpa using this) n
    refine ⟨by simp [h.len], h.pre, fun i d e => ?_, fun i m e => ?_, fun i j m1 m2 e1 e2 e3 => ?_, fun i m e => ?_⟩
    · rw [(g i _ e (by simp)).2]; exact h.val i d (g i _ e (by simp)).1
    · rw [(g i _ e (by simp)).2]; exact h.mt i m (g i _ e (by simp)).1
    · exact h.nal i j m1 m2 (g i _ e1 (by simp)).1 (g j _ e2 (by simp)).1 (by rw [← (g i _ e1 (by simp)).2, ← (g j _ e2 (by simp)).2]; exact e3)
    · rw [(g i _ e (by simp)).2]; exact h.bo i m (g i _ e (by simp)).1
  have := h2.setVal Γ.length d
  rw [List.set_append_right _ _ (Nat.le_refl _), List.set_append_right _ _ (by rw [h.len]; exact Nat.le_refl _), h.len, Nat.sub_self] at this
  exact this
theorem Has.snocNew {s : S} {Γ : List Sl} {ρ : Rho} {st : Sto} (h : Has W fr s Γ ρ st) (m : MO) (hm : m.isIns = false := by rfl) : Has W fr s (Γ ++ [.mut m]) (ρ ++ [some (.ref st.length)]) (st ++ [m]) := by
  have := (h.snocVal .non).setNew Γ.length m hm
  rw [List.set_append_right _ _ (Nat.le_refl _), List.set_append_right _ _ (by rw [h.len]; exact Nat.le_refl _), h.len, Nat.sub_self] at this
  exact this
theorem ap_T {σ γ : Type} {m : Rho → M D} {r : Rho → M (List D)} {F : Rho → List D → Sto → Fl} {q1 : Mt S γ} {e1 : γ → D} {Γ1 : γ → List Sl} {k : γ → Mt S σ} {J : σ → List Sl} (h : HT W fr Γ m q1 e1 Γ1)
    (hl : ∀ x, (Γ1 x).length = Γ.length) (hr : ∀ x, AP W fr (Γ1 x) [(e1 x, .val (e1 x))] r (fun ρ ds => F ρ (e1 x :: ds)) (k x) J) : AP W fr Γ [] (mCons m r) F (mbind q1 k) J := fun s ρ st H hρ => by
  rw [List.map_nil, List.map_nil, List.append_nil, List.append_nil] at H
  have e : (mCons m r ρ st).fl ρ (F ρ) = (m ρ st).fl ρ fun d st1 => (r ρ st1).fl ρ fun ds st2 => F ρ (d :: ds) st2 := by
    unfold mCons
    cases m ρ st with
    | ok d st1 => simp only [Out.bind_ok, Out.fl_ok]; cases r ρ st1 <;> rfl
    | exc _ _ => rfl
    | bad => rfl
  rw [e]
  exact OR.fl (h s ρ st H) fun b s1 st1 H1 => hr b s1 ρ st1 (H1.snocVal _) (by rw [hl]; exact hρ)
theorem ap_New {σ : Type} {pd : List (D × Sl)} {l : Rho → M (List D)} {r : Rho → M (List D)} {F : Rho → List D → Sto → Fl} {xs : List D} {q : Mt S σ} {J : σ → List Sl} (h : HV W fr Γ l xs)
    (hr : ∀ a, AP W fr Γ (pd ++ [(.ref a, .mut (.lst xs))]) r (fun ρ ds => F ρ (.ref a :: ds)) q J) : AP W fr Γ pd (mCons (mNew l) r) F q J := fun s ρ st H hρ => by
  have e : (mCons (mNew l) r ρ st).fl ρ (F ρ) = (r ρ (st ++ [.lst xs])).fl ρ fun ds st2 => F ρ (.ref st.length :: ds) st2 := by
    unfold mCons mNew
    rw [h s ρ st (H.front hρ), Out.bind_ok, Out.bind_ok]
    cases r ρ (st ++ [.lst xs]) <;> rfl
  rw [e]
  refine hr st.length s ρ _ ?_ hρ
  have := H.snocNew (.lst xs)
  rw [List.append_assoc, List.append_assoc] at this
  rw [List.map_append, List.map_append]
  exact this
theorem Has.put {s : S} {Γ : List Sl} {ρ : Rho} {st : Sto} {d : D} {a : Sl} {Γ' : List Sl} {ρ' : Rho} (h : Has W fr s (Γ ++ a :: Γ') (ρ ++ some d :: ρ') st) (hl : ρ.length = Γ.length) (i : Nat) (hi : i < Γ.length) : Has W fr s (Γ.set i a ++ Γ') (ρ.set i (some d) ++ ρ') st := by
  have hll : ρ'.length = Γ'.length := by have := h.len; simp at this; omega
  -- where slot j of the new slots stood
  let f : Nat → Nat := fun j => if j = i then Γ.length else if j < Γ.length then j else j + 1
  have key : ∀ (j : Nat) b, (Γ.set i a ++ Γ')[j]? = some b → (Γ ++ a :: Γ')[f j]? = some b ∧ (ρ.set i (some d) ++ ρ')[j]? = (ρ ++ some d :: ρ')[f j]? := fun j b e => by
    by_cases h1 : j = i
    · subst h1
      have ef : f j = Γ.length := if_pos rfl
      rw [ef]
      rw [List.getElem?_append_left (by simpa using hi), List.getElem?_set_self hi] at e
      rw [List.getElem?_append_right (Nat.le_refl _), Nat.sub_self, List.getElem?_append_left (by simpa [hl] using hi), List.getElem?_set_self (by omega), List.getElem?_append_right (by omega), hl, Nat.sub_self]
      exact ⟨by simpa using e, rfl⟩
    · by_cases h2 : j < Γ.length
      · have ef : f j = j := by simp only [f]; rw [if_neg h1, if_pos h2]
        rw [ef]
        rw [List.getElem?_append_left (by simpa using h2), List.getElem?_set_ne (Ne.symm h1)] at e
        rw [List.getElem?_append_left h2, List.getElem?_append_left (by simpa [hl] using h2), List.getElem?_set_ne (Ne.symm h1), List.getElem?_append_left (by omega)]
        exact ⟨e, rfl⟩
      · have ef : f j = j + 1 := by simp only [f]; rw [if_neg h1, if_neg h2]
        rw [ef]
        have e' := e
        rw [List.getElem?_append_right (by simp; omega), List.length_set] at e
        rw [List.getElem?_append_right (by omega), List.getElem?_append_right (by simp [hl]; omega), List.getElem?_append_right (by omega), List.length_set, hl]
        have e1 : j + 1 - Γ.length = (j - Γ.length) + 1 := by omega
        rw [e1, List.getElem?_cons_succ, List.getElem?_cons_succ]
        exact ⟨e, rfl⟩
  have fi : ∀ j k, f j = f k → j = k := fun j k e => by
    simp only [f] at e
    split at e <;> split at e <;> (try split at e) <;> (try split at e) <;> omega
  refine ⟨by simp [hl, hll], h.pre, fun j d' e => ?_, fun j m e => ?_, fun j k m1 m2 e1 e2 e3 => ?_, fun j m e => ?_⟩
  · obtain ⟨q1, q2⟩ := key j _ e
    rw [q2]; exact h.val _ _ q1
  · obtain ⟨q1, q2⟩ := key j _ e
    rw [q2]; exact h.mt _ _ q1
  · obtain ⟨q1, q2⟩ := key j _ e1
    obtain ⟨q3, q4⟩ := key k _ e2
    exact fi j k (h.nal _ _ m1 m2 q1 q3 (by rw [← q2, ← q4]; exact e3))
  · obtain ⟨q1, q2⟩ := key j _ e
    rw [q2]; exact h.bo _ _ q1
theorem ap_fin {σ : Type} {pd : List (D × Sl)} {F : Rho → List D → Sto → Fl} {z : σ} {J : σ → List Sl} (h : ∀ s ρ st, Has W fr s (Γ ++ pd.map (·.2)) (ρ ++ pd.map fun p => some p.1) st → ρ.length = Γ.length → ∃ ρ', F ρ [] st = .next ρ' st ∧ Has W fr s (J z) ρ' st) : AP W fr Γ pd mNil F (mpure z) J := fun s ρ st H hρ => by
  obtain ⟨ρ', e, h2⟩ := h s ρ st H hρ
  exact ⟨ρ', st, e, h2⟩
def FPar (i j : Nat) : Rho → List D → Sto → Fl := fun ρ ds st1 => match ds with
  | [x, y] => .next ((ρ.set i (some x)).set j (some y)) st1
  | _ => .bad
theorem tn_par {σ : Type} {i j : Nat} {a : Rho → M (List D)} {q : Mt S σ} {J : σ → List Sl} (h : AP W fr Γ [] a (FPar i j) q J) : TN W fr Γ (sPar i j a) q J := fun s ρ st H => h s ρ st (by simpa using H) H.len
theorem tn_tup2 {σ : Type} {i j : Nat} {a : Rho → M (List D)} {q : Mt S σ} {J : σ → List Sl} (h : AP W fr Γ [] a (FPar i j) q J) : TN W fr Γ (sAsg (gT 2 (gsCons (gN i) (gsCons (gN j) gsNil))) (mTup a)) q J := fun s ρ st H => by
  have e : sAsg (gT 2 (gsCons (gN i) (gsCons (gN j) gsNil))) (mTup a) ρ st = (a ρ st).fl ρ (FPar i j ρ) := by
    unfold sAsg mTup
    cases a ρ st with
    | exc _ _ => rfl
    | bad => rfl
    | ok ds st1 =>
      match ds with
      | [] => rfl
      | [_] => rfl
      | [_, _] => rfl
      | _ :: _ :: _ :: r =>
        simp only [Out.bind_ok, Out.fl_ok]
        split
        · rfl
        · rfl
  rw [e]
  exact h s ρ st (by simpa using H) H.len
theorem ap_two {i j : Nat} {d1 d2 : D} {a1 a2 : Sl} (hi : i < Γ.length) (hj : j < Γ.length) {σ : Type} {z : σ} {J : σ → List Sl} (hJ : J z = (Γ.set i a1).set j a2 := by rfl) : AP W fr Γ [(d1, a1), (d2, a2)] mNil (fun ρ ds => FPar i j ρ (d1 :: d2 :: ds)) (mpure z) J := ap_fin fun s ρ st H hρ => by
  have h1 : Has W fr s (Γ.set i a1 ++ [a2]) (ρ.set i (some d1) ++ [some d2]) st := Has.put (Γ' := [a2]) (ρ' := [some d2]) H hρ i hi
  have h2 := Has.put (Γ' := []) (ρ' := []) h1 (by simp [hρ]) j (by simpa using hj)
  rw [List.append_nil, List.append_nil] at h2
  exact ⟨_, rfl, by rw [hJ]; exact h2⟩
end
end Dn
namespace Dn
open PySem PySem.Spec PyProof.Rows L2
section
variable {S : Type} {W : Wd S} {fr : Sto} {Γ Γ1 Γ2 : List Sl}
section
variable {β : Type} {enc : β → D}
theorem tr_ret {m : Rho → M D} {q : Mt S β} {Γ' : β → List Sl} (h : HT W fr Γ m q enc Γ') : TR W fr Γ (sRet m) q enc := fun s ρ st H => by
  have := h s ρ st H
  unfold sRet
  revert this
  show OR W fr Γ' ρ enc _ _ → RR W fr enc _ _
  induction (q s) with
  | ok b s' => rintro ⟨st', e, h2⟩; exact ⟨st', by rw [e]; rfl, h2.pre⟩
  | exc x s' => rintro ⟨st', e, h2⟩; exact ⟨ρ, st', by rw [e]; rfl, h2⟩
  | bad => intro _; trivial
  | amb P_ f_ ih_ => rintro ⟨n_, p_, h_⟩; exact ⟨n_, p_, ih_ n_ h_⟩
theorem tr_seqN {σ : Type} {m1 m2 : Rho → Sto → Fl} {q : Mt S σ} {J : σ → List Sl} {k : σ → Mt S β} (h1 : TN W fr Γ m1 q J) (h2 : ∀ z, TR W fr (J z) m2 (k z) enc) : TR W fr Γ (sSeq m1 m2) (mbind q k) enc := fun s ρ st H => by
  have := h1 s ρ st H
  unfold sSeq
  revert this
  show NR W fr J _ _ → RR W fr enc _ (rbind (q s) _)
  induction (q s) with
  | ok z s' => rintro ⟨ρ', st', e, h3⟩; rw [e]; exact h2 z s' ρ' st' h3
  | exc x s' => rintro ⟨ρ', st', e, h3⟩; rw [e]; exact ⟨ρ', st', rfl, h3⟩
  | bad => intro _; trivial
  | amb P_ f_ ih_ => rintro ⟨n_, p_, h_⟩; exact ⟨n_, p_, ih_ n_ h_⟩
theorem OR.flR {A γ : Type} {Γ' : γ → List Sl} {ρ : Rho} {e : γ → A} {r : Out A} {q : Rs S γ} {f : A → Sto → Fl} {k : γ → Mt S β} (h : OR W fr Γ' ρ e r q)
    (hk : ∀ b s st, Has W fr s (Γ' b) ρ st → RR W fr enc (f (e b) st) (k b s)) : RR W fr enc (r.fl ρ f) (rbind q k) := by
  induction q with
  | ok b s =>
    obtain ⟨st', rfl, h2⟩ := h
    exact hk b s st' h2
  | exc x s =>
    obtain ⟨st', rfl, h2, h3⟩ := h
    exact ⟨ρ, st', rfl, h2, h3⟩
  | bad => trivial
  | amb P_ f_ ih_ => obtain ⟨n_, p_, h⟩ := h; exact ⟨n_, p_, ih_ n_ h⟩
theorem tr_if {t : Rho → M Bool} {a b : Rho → Sto → Fl} {qt : Mt S Bool} {qa qb : Mt S β} {Γ' : Bool → List Sl} (ht : HT W fr Γ t qt id Γ') (ha : TR W fr (Γ' true) a qa enc) (hb : TR W fr (Γ' false) b qb enc) : TR W fr Γ (sIf t a b) (mbind qt fun c => if c = true then qa else qb) enc := fun s ρ st H => by
  refine OR.flR (f := fun c st1 => if c = true then a ρ st1 else b ρ st1) (ht s ρ st H) fun c s1 st1 H1 => ?_
  cases c
  · exact hb s1 ρ st1 H1
  · exact ha s1 ρ st1 H1
theorem seq_if (t : Rho → M Bool) (a b c : Rho → Sto → Fl) : sSeq (sIf t a b) c = sIf t (sSeq a c) (sSeq b c) := by
  funext ρ st
  unfold sSeq sIf
  cases t ρ st with
  | ok k st1 => cases k <;> rfl
  | exc _ _ => rfl
  | bad => rfl
theorem tr_ifseq {t : Rho → M Bool} {a b c : Rho → Sto → Fl} {qt : Mt S Bool} {qa qb : Mt S β} {Γ' : Bool → List Sl} (ht : HT W fr Γ t qt id Γ') (ha : TR W fr (Γ' true) (sSeq a c) qa enc) (hb : TR W fr (Γ' false) (sSeq b c) qb enc) : TR W fr Γ (sSeq (sIf t a b) c) (mbind qt fun c => if c = true then qa else qb) enc := by
  rw [seq_if]
  exact tr_if ht ha hb
theorem tr_seqR {a c : Rho → Sto → Fl} {q : Mt S β} (h : TR W fr Γ a q enc) : TR W fr Γ (sSeq a c) q enc := fun s ρ st H => by
  have := h s ρ st H
  unfold sSeq
  revert this
  induction (q s) with
  | ok b s' => rintro ⟨st', e, h2⟩; exact ⟨st', by rw [e]; rfl, h2⟩
  | exc x s' => rintro ⟨ρ', st', e, h2⟩; exact ⟨ρ', st', by rw [e]; rfl, h2⟩
  | bad => intro _; trivial
  | amb P_ f_ ih_ => rintro ⟨n_, p_, h_⟩; exact ⟨n_, p_, ih_ n_ h_⟩
theorem tr_seqF {σ : Type} {m1 m2 : Rho → Sto → Fl} {q : Mt S (σ ⊕ β)} {J : σ → List Sl} {k : σ → Mt S β} (h1 : TF W fr Γ m1 q J enc) (h2 : ∀ z, TR W fr (J z) m2 (k z) enc) : TR W fr Γ (sSeq m1 m2) (mfin q k) enc := fun s ρ st H => by
  have := h1 s ρ st H
  unfold sSeq mfin
  revert this
  show FR W fr J enc _ _ → RR W fr enc _ (rbind (q s) _)
  induction (q s) with
  | ok z s' =>
    cases z with
    | inl z => rintro ⟨ρ', st', e, h3⟩; rw [e]; exact h2 z s' ρ' st' h3
    | inr b => rintro ⟨st', e, h3⟩; rw [e]; exact ⟨st', rfl, h3⟩
  | exc x s' => rintro ⟨ρ', st', e, h3⟩; rw [e]; exact ⟨ρ', st', rfl, h3⟩
  | bad => intro _; trivial
  | amb P_ f_ ih_ => rintro ⟨n_, p_, h_⟩; exact ⟨n_, p_, ih_ n_ h_⟩
end
section
variable {σ β : Type} {enc : β → D} {J : σ → List Sl}
theorem tl_ofX {m : Rho → Sto → Fl} {q : Mt S (Lp σ β)} (h : TX W fr Γ m q J enc) : TL W fr Γ m q J enc := fun s ρ st H => by
  have := h s ρ st H
  revert this
  induction (q s) with
  | ok r s' =>
    cases r with
    | nx z => rintro ⟨ρ', st', e, h2⟩; exact ⟨ρ', st', .inr e, h2⟩
    | bk z => exact id
    | rt b => exact id
  | exc x s' => exact id
  | bad => exact id
  | amb P_ f_ ih_ => rintro ⟨n_, p_, h_⟩; exact ⟨n_, p_, ih_ n_ h_⟩
theorem tl_next {z : σ} (w : Wk Γ (J z)) : TL W fr Γ sNext (mpure (.nx z)) J enc := fun s ρ st H => ⟨ρ, st, .inl rfl, H.wk w⟩
theorem tx_ofR {m : Rho → Sto → Fl} {q : Mt S β} (h : TR W fr Γ m q enc) : TX W fr Γ m (mbind q fun b => mpure (.rt b)) J enc := fun s ρ st H => by
  have := h s ρ st H
  revert this
  show RR W fr enc _ _ → XR W fr J enc _ (rbind (q s) _)
  induction (q s) with
  | ok z s' => exact id
  | exc x s' => exact id
  | bad => exact id
  | amb P_ f_ ih_ => rintro ⟨n_, p_, h_⟩; exact ⟨n_, p_, ih_ n_ h_⟩
theorem OR.flG {A γ : Type} {Γ' : γ → List Sl} {ρ : Rho} {e : γ → A} {r : Out A} {q : Rs S γ} {f : A → Sto → Fl} {δ : Type} {k : γ → Mt S δ} {P : Fl → Rs S δ → Prop} (h : OR W fr Γ' ρ e r q)
    (he : ∀ x s st, Pre W fr s st → x.pl → P (.exc x ρ st) (.exc x s)) (hb : ∀ r, P r .bad) (hk : ∀ b s st, Has W fr s (Γ' b) ρ st → P (f (e b) st) (k b s)) (ha : ∀ r (Pn : Nat → Prop) g n, Pn n → P r (g n) → P r (.amb Pn g) := by exact fun _ _ _ n p h => ⟨n, p, h⟩) : P (r.fl ρ f) (rbind q k) := by
  induction q with
  | ok b s =>
    obtain ⟨st', rfl, h2⟩ := h
    exact hk b s st' h2
  | exc x s =>
    obtain ⟨st', rfl, h2, h3⟩ := h
    exact he x s st' h2 h3
  | bad => exact hb _
  | amb P_ f_ ih_ => obtain ⟨n_, p_, h⟩ := h; exact ha _ _ _ n_ p_ (ih_ n_ h)
theorem tx_seqX {a c : Rho → Sto → Fl} {q : Mt S (Lp σ β)} (h : TX W fr Γ a q J enc) : TX W fr Γ (sSeq a c) q J enc := fun s ρ st H => by
  have := h s ρ st H
  unfold sSeq
  revert this
  induction (q s) with
  | ok r s' =>
    cases r with
    | nx z => rintro ⟨ρ', st', e, h2⟩; exact ⟨ρ', st', by rw [e]; rfl, h2⟩
    | bk z => rintro ⟨ρ', st', e, h2⟩; exact ⟨ρ', st', by rw [e]; rfl, h2⟩
    | rt b => rintro ⟨st', e, h2⟩; exact ⟨st', by rw [e]; rfl, h2⟩
  | exc x s' => rintro ⟨ρ', st', e, h2⟩; exact ⟨ρ', st', by rw [e]; rfl, h2⟩
  | bad => intro _; trivial
  | amb P_ f_ ih_ => rintro ⟨n_, p_, h_⟩; exact ⟨n_, p_, ih_ n_ h_⟩
theorem tl_seqN {τ : Type} {m1 m2 : Rho → Sto → Fl} {q : Mt S τ} {J1 : τ → List Sl} {k : τ → Mt S (Lp σ β)} (h1 : TN W fr Γ m1 q J1) (h2 : ∀ z, TL W fr (J1 z) m2 (k z) J enc) : TL W fr Γ (sSeq m1 m2) (mbind q k) J enc := fun s ρ st H => by
  have := h1 s ρ st H
  unfold sSeq
  revert this
  show NR W fr J1 _ _ → LR W fr J enc _ (rbind (q s) _)
  induction (q s) with
  | ok z s' => rintro ⟨ρ', st', e, h3⟩; rw [e]; exact h2 z s' ρ' st' h3
  | exc x s' => rintro ⟨ρ', st', e, h3⟩; rw [e]; exact ⟨ρ', st', rfl, h3⟩
  | bad => intro _; trivial
  | amb P_ f_ ih_ => rintro ⟨n_, p_, h_⟩; exact ⟨n_, p_, ih_ n_ h_⟩
theorem tl_if {t : Rho → M Bool} {a b : Rho → Sto → Fl} {qt : Mt S Bool} {qa qb : Mt S (Lp σ β)} {Γ' : Bool → List Sl} (ht : HT W fr Γ t qt id Γ') (ha : TL W fr (Γ' true) a qa J enc) (hb : TL W fr (Γ' false) b qb J enc) : TL W fr Γ (sIf t a b) (mbind qt fun c => if c = true then qa else qb) J enc := fun s ρ st H => by
  refine OR.flG (P := LR W fr J enc) (f := fun c st1 => if c = true then a ρ st1 else b ρ st1) (ht s ρ st H) (fun x s st h1 h2 => ⟨ρ, st, rfl, h1, h2⟩) (fun _ => trivial) fun c s1 st1 H1 => ?_
  cases c
  · exact hb s1 ρ st1 H1
  · exact ha s1 ρ st1 H1
theorem tl_ifseq {t : Rho → M Bool} {a b c : Rho → Sto → Fl} {qt : Mt S Bool} {qa qb : Mt S (Lp σ β)} {Γ' : Bool → List Sl} (ht : HT W fr Γ t qt id Γ') (ha : TL W fr (Γ' true) (sSeq a c) qa J enc) (hb : TL W fr (Γ' false) (sSeq b c) qb J enc) : TL W fr Γ (sSeq (sIf t a b) c) (mbind qt fun c => if c = true then qa else qb) J enc := by
  rw [seq_if]
  exact tl_if ht ha hb
theorem tl_seqX {a c : Rho → Sto → Fl} {q : Mt S (Lp σ β)} (h : TX W fr Γ a q J enc) : TL W fr Γ (sSeq a c) q J enc := tl_ofX (tx_seqX h)
theorem tl_seqF {τ : Type} {m1 m2 : Rho → Sto → Fl} {q : Mt S (τ ⊕ β)} {J1 : τ → List Sl} {k : τ → Mt S (Lp σ β)} (h1 : TF W fr Γ m1 q J1 enc) (h2 : ∀ z, TL W fr (J1 z) m2 (k z) J enc) : TL W fr Γ (sSeq m1 m2) (mfinL q k) J enc := fun s ρ st H => by
  have := h1 s ρ st H
  unfold sSeq mfinL
  revert this
  show FR W fr J1 enc _ _ → LR W fr J enc _ (rbind (q s) _)
  induction (q s) with
  | ok z s' =>
    cases z with
    | inl z => rintro ⟨ρ', st', e, h3⟩; rw [e]; exact h2 z s' ρ' st' h3
    | inr b => rintro ⟨st', e, h3⟩; rw [e]; exact ⟨st', rfl, h3⟩
  | exc x s' => rintro ⟨ρ', st', e, h3⟩; rw [e]; exact ⟨ρ', st', rfl, h3⟩
  | bad => intro _; trivial
  | amb P_ f_ ih_ => rintro ⟨n_, p_, h_⟩; exact ⟨n_, p_, ih_ n_ h_⟩
end
def eSrc {α : Type} (e : α → D) (xs : List α) : Src := ⟨xs.map e, []⟩
section
variable {α σ β : Type} {enc : β → D} {e : α → D} {J : σ → List Sl} {gf : D → Rho → M Rho} {mb : Rho → Sto → Fl} {G : α → σ → List Sl} {js : List Nat}
theorem forL_U {held : List (Nat × List D)} {body : α → σ → Mt S σ} (hh : ∀ z s ρ st, Has W fr s (J z) ρ st → heldOk held st) (hg : ∀ x z, GT1 W fr (J z) gf (e x) (G x z) js) (hb : ∀ x z, TN W fr (G x z) mb (body x z) J) :
    ∀ (xs : List α) (z : σ) s ρ st, Has W fr s (J z) ρ st → NR W fr J (forL held (forB gf mb) (xs.map e) ρ st) (forU body xs z s)
  | [], z, s, ρ, st, H => by
    rw [List.map_nil]
    unfold forL
    rw [if_pos (hh z s ρ st H)]
    exact ⟨ρ, st, rfl, H⟩
  | x :: xs, z, s, ρ, st, H => by
    rw [List.map_cons]
    unfold forL
    rw [if_pos (hh z s ρ st H)]
    obtain ⟨ρ1, e1, H1, _⟩ := hg x z s ρ st H
    have h1 := hb x z s ρ1 st H1
    have eb : forB gf mb (e x) ρ st = mb ρ1 st := by unfold forB; rw [e1]; rfl
    rw [eb]
    show NR W fr J _ (rbind (body x z s) _)
    revert h1
    induction (body x z s) with
    | ok z' s' => rintro ⟨ρ', st', e2, h2⟩; rw [e2]; exact forL_U hh hg hb xs z' s' ρ' st' h2
    | exc y s' => rintro ⟨ρ', st', e2, h2⟩; rw [e2]; exact ⟨ρ', st', rfl, h2⟩
    | bad => intro _; trivial
    | amb P_ f_ ih_ => rintro ⟨n_, p_, h_⟩; exact ⟨n_, p_, ih_ n_ h_⟩
theorem forL_X {held : List (Nat × List D)} {body : α → σ → Mt S (Lp σ β)} (hh : ∀ z s ρ st, Has W fr s (J z) ρ st → heldOk held st) (hg : ∀ x z, GT1 W fr (J z) gf (e x) (G x z) js) (hb : ∀ x z, TL W fr (G x z) mb (body x z) J enc) :
    ∀ (xs : List α) (z : σ) s ρ st, Has W fr s (J z) ρ st → FR W fr J enc (forL held (forB gf mb) (xs.map e) ρ st) (forX body xs z s)
  | [], z, s, ρ, st, H => by
    rw [List.map_nil]
    unfold forL
    rw [if_pos (hh z s ρ st H)]
    exact ⟨ρ, st, rfl, H⟩
  | x :: xs, z, s, ρ, st, H => by
    rw [List.map_cons]
    unfold forL
    rw [if_pos (hh z s ρ st H)]
    obtain ⟨ρ1, e1, H1, _⟩ := hg x z s ρ st H
    have h1 := hb x z s ρ1 st H1
    have eb : forB gf mb (e x) ρ st = mb ρ1 st := by unfold forB; rw [e1]; rfl
    rw [eb]
    show FR W fr J enc _ (rbind (body x z s) _)
    revert h1
    induction (body x z s) with
    | ok r s' =>
      cases r with
      | nx z' =>
        rintro ⟨ρ', st', e2, h2⟩
        rcases e2 with e2 | e2
        · rw [e2]; exact forL_X hh hg hb xs z' s' ρ' st' h2
        · rw [e2]; exact forL_X hh hg hb xs z' s' ρ' st' h2
      | bk z' => rintro ⟨ρ', st', e2, h2⟩; rw [e2]; exact ⟨ρ', st', rfl, h2⟩
      | rt b => rintro ⟨st', e2, h2⟩; rw [e2]; exact ⟨st', rfl, h2⟩
    | exc y s' => rintro ⟨ρ', st', e2, h2⟩; rw [e2]; exact ⟨ρ', st', rfl, h2⟩
    | bad => intro _; trivial
    | amb P_ f_ ih_ => rintro ⟨n_, p_, h_⟩; exact ⟨n_, p_, ih_ n_ h_⟩
theorem tn_for {ms : Rho → M Src} {q : Mt S (List α)} {body : α → σ → Mt S σ} {Γ' : List α → List Sl} {z0 : σ} (hs : HT W fr Γ ms q (eSrc e) Γ') (w : ∀ xs, Wk (Γ' xs) (J z0)) (hg : ∀ x z, GT1 W fr (J z) gf (e x) (G x z) js) (hb : ∀ x z, TN W fr (G x z) mb (body x z) J) :
    TN W fr Γ (sFor ms gf mb) (mbind q fun xs => forU body xs z0) J := fun s ρ st H => by
  refine OR.fl (f := fun src st1 => forL src.held (forB gf mb) src.items ρ st1) (hs s ρ st H) fun xs s1 st1 H1 => ?_
  exact forL_U (fun _ _ _ _ _ => (heldOk_nil _).mpr trivial) hg hb xs z0 s1 ρ st1 (H1.wk (w xs))
theorem tf_for {ms : Rho → M Src} {q : Mt S (List α)} {body : α → σ → Mt S (Lp σ β)} {Γ' : List α → List Sl} {z0 : σ} (hs : HT W fr Γ ms q (eSrc e) Γ') (w : ∀ xs, Wk (Γ' xs) (J z0)) (hg : ∀ x z, GT1 W fr (J z) gf (e x) (G x z) js) (hb : ∀ x z, TL W fr (G x z) mb (body x z) J enc) :
    TF W fr Γ (sFor ms gf mb) (mbind q fun xs => forX body xs z0) J enc := fun s ρ st H => by
  refine OR.flG (P := FR W fr J enc) (f := fun src st1 => forL src.held (forB gf mb) src.items ρ st1) (hs s ρ st H) (fun x s st h1 h2 => ⟨ρ, st, rfl, h1, h2⟩) (fun _ => trivial) fun xs s1 st1 H1 => ?_
  exact forL_X (fun _ _ _ _ _ => (heldOk_nil _).mpr trivial) hg hb xs z0 s1 ρ st1 (H1.wk (w xs))
theorem whileL_U {n : Nat} {t : Rho → M Bool} {c : σ → Mt S Bool} {body : σ → Mt S σ} (hc : ∀ z, HT W fr (J z) t (c z) id fun _ => J z) (hb : ∀ z, TN W fr (J z) mb (body z) J) :
    ∀ (n : Nat) (z : σ) s ρ st, Has W fr s (J z) ρ st → NR W fr J (whileL t mb n ρ st) (whileU c body n z s)
  | 0, z, s, ρ, st, H => trivial
  | n + 1, z, s, ρ, st, H => by
    refine OR.fl (f := fun b st1 => if b = true then (match mb ρ st1 with
      | .next ρ' st' => whileL t mb n ρ' st'
      | .cnt ρ' st' => whileL t mb n ρ' st'
      | .brk ρ' st' => .next ρ' st'
      | r => r) else .next ρ st1) (hc z s ρ st H) fun b s1 st1 H1 => ?_
    cases b
    · exact ⟨ρ, st1, rfl, H1⟩
    · have h1 := hb z s1 ρ st1 H1
      show NR W fr J (match mb ρ st1 with
        | .next ρ' st' => whileL t mb n ρ' st'
        | .cnt ρ' st' => whileL t mb n ρ' st'
        | .brk ρ' st' => .next ρ' st'
        | r => r) (rbind (body z s1) _)
      revert h1
      induction (body z s1) with
      | ok z' s' => rintro ⟨ρ', st', e2, h2⟩; rw [e2]; exact whileL_U (n := n) hc hb n z' s' ρ' st' h2
      | exc y s' => rintro ⟨ρ', st', e2, h2⟩; rw [e2]; exact ⟨ρ', st', rfl, h2⟩
      | bad => intro _; trivial
      | amb P_ f_ ih_ => rintro ⟨n_, p_, h_⟩; exact ⟨n_, p_, ih_ n_ h_⟩
theorem tn_while {n : Nat} {t : Rho → M Bool} {c : σ → Mt S Bool} {body : σ → Mt S σ} {z0 : σ} (w : Wk Γ (J z0)) (hc : ∀ z, HT W fr (J z) t (c z) id fun _ => J z) (hb : ∀ z, TN W fr (J z) mb (body z) J) :
    TN W fr Γ (sWhile n t mb) (whileU c body n z0) J := fun s ρ st H => whileL_U (n := n) hc hb n z0 s ρ st (H.wk w)
theorem whileL_X {t : Rho → M Bool} {c : σ → Mt S Bool} {body : σ → Mt S (Lp σ β)} (hc : ∀ z, HT W fr (J z) t (c z) id fun _ => J z) (hb : ∀ z, TL W fr (J z) mb (body z) J enc) :
    ∀ (n : Nat) (z : σ) s ρ st, Has W fr s (J z) ρ st → FR W fr J enc (whileL t mb n ρ st) (whileX c body n z s)
  | 0, z, s, ρ, st, H => trivial
  | n + 1, z, s, ρ, st, H => by
    refine OR.flG (P := FR W fr J enc) (f := fun b st1 => if b = true then (match mb ρ st1 with
      | .next ρ' st' => whileL t mb n ρ' st'
      | .cnt ρ' st' => whileL t mb n ρ' st'
      | .brk ρ' st' => .next ρ' st'
      | r => r) else .next ρ st1) (hc z s ρ st H) (fun x s st h1 h2 => ⟨ρ, st, rfl, h1, h2⟩) (fun _ => trivial) fun b s1 st1 H1 => ?_
    cases b
    · exact ⟨ρ, st1, rfl, H1⟩
    · have h1 := hb z s1 ρ st1 H1
      show FR W fr J enc (match mb ρ st1 with
        | .next ρ' st' => whileL t mb n ρ' st'
        | .cnt ρ' st' => whileL t mb n ρ' st'
        | .brk ρ' st' => .next ρ' st'
        | r => r) (rbind (body z s1) _)
      revert h1
      induction (body z s1) with
      | ok r s' =>
        cases r with
        | nx z' =>
          rintro ⟨ρ', st', e2, h2⟩
          rcases e2 with e2 | e2
          · rw [e2]; exact whileL_X hc hb n z' s' ρ' st' h2
          · rw [e2]; exact whileL_X hc hb n z' s' ρ' st' h2
        | bk z' => rintro ⟨ρ', st', e2, h2⟩; rw [e2]; exact ⟨ρ', st', rfl, h2⟩
        | rt b => rintro ⟨st', e2, h2⟩; rw [e2]; exact ⟨st', rfl, h2⟩
      | exc y s' => rintro ⟨ρ', st', e2, h2⟩; rw [e2]; exact ⟨ρ', st', rfl, h2⟩
      | bad => intro _; trivial
      | amb P_ f_ ih_ => rintro ⟨n_, p_, h_⟩; exact ⟨n_, p_, ih_ n_ h_⟩
theorem tf_while {n : Nat} {t : Rho → M Bool} {c : σ → Mt S Bool} {body : σ → Mt S (Lp σ β)} {z0 : σ} (w : Wk Γ (J z0)) (hc : ∀ z, HT W fr (J z) t (c z) id fun _ => J z) (hb : ∀ z, TL W fr (J z) mb (body z) J enc) :
    TF W fr Γ (sWhile n t mb) (whileX c body n z0) J enc := fun s ρ st H => whileL_X hc hb n z0 s ρ st (H.wk w)
end
theorem Has.fz {s : S} {ρ : Rho} {st : Sto} {i : Nat} {xs : List D} (H : Has W fr s Γ ρ st) (h : Γ[i]? = some (.mut (.lst xs))) : ∃ l, ρ[i]? = some (some (.ref l)) ∧ st[l]? = some (.lst xs) ∧ Has W fr s (Γ.set i (.val (.lst xs))) (ρ.set i (some (.lst xs))) (st.set l .gone) := by
  obtain ⟨l, q1, q2, q3⟩ := H.mt i _ h
  refine ⟨l, q1, q3, ?_⟩
  have := (H.write .gone h q1).setVal i (.lst xs)
  rwa [List.set_set] at this
theorem sFz_eq {ρ : Rho} {st : Sto} {i l : Nat} {xs : List D} {m : Rho → Sto → Fl} (q1 : ρ[i]? = some (some (.ref l))) (q3 : st[l]? = some (.lst xs)) : sFz i m ρ st = m (ρ.set i (some (.lst xs))) (st.set l .gone) := by
  unfold sFz
  rw [q1]
  dsimp only
  rw [q3]
section
variable {σ β : Type} {enc : β → D} {J : σ → List Sl} {i : Nat} {xs : List D} {m : Rho → Sto → Fl}
theorem tn_fz {q : Mt S σ} (h : Γ[i]? = some (.mut (.lst xs))) (hm : TN W fr (Γ.set i (.val (.lst xs))) m q J) : TN W fr Γ (sFz i m) q J := fun s ρ st H => by
  obtain ⟨l, q1, q2, H1⟩ := H.fz h
  rw [sFz_eq q1 q2]
  exact hm s _ _ H1
theorem tr_fz {q : Mt S β} (h : Γ[i]? = some (.mut (.lst xs))) (hm : TR W fr (Γ.set i (.val (.lst xs))) m q enc) : TR W fr Γ (sFz i m) q enc := fun s ρ st H => by
  obtain ⟨l, q1, q2, H1⟩ := H.fz h
  rw [sFz_eq q1 q2]
  exact hm s _ _ H1
theorem tl_fz {q : Mt S (Lp σ β)} (h : Γ[i]? = some (.mut (.lst xs))) (hm : TL W fr (Γ.set i (.val (.lst xs))) m q J enc) : TL W fr Γ (sFz i m) q J enc := fun s ρ st H => by
  obtain ⟨l, q1, q2, H1⟩ := H.fz h
  rw [sFz_eq q1 q2]
  exact hm s _ _ H1
end
def wipeG (Γ : List Sl) : List Nat → List Sl
  | [] => Γ
  | v :: vs => (wipeG Γ vs).set v .any
theorem Has.unset {s : S} {Γ : List Sl} {ρ : Rho} {st : Sto} (h : Has W fr s Γ ρ st) (i : Nat) : Has W fr s (Γ.set i .any) (ρ.set i none) st := by
  have g : ∀ (j : Nat) (a : Sl), (Γ.set i .any)[j]? = some a → a ≠ .any → Γ[j]? = some a ∧ (ρ.set i none)[j]? = ρ[j]? := fun j a e n => by
    by_cases hj : i = j
    · subst hj
      have hl : i < Γ.length := by have := (List.getElem?_eq_some_iff.mp e).1; simpa using this
      rw [List.getElem?_set_self hl] at e
      cases e
      exact absurd rfl n
    · rw [List.getElem?_set_ne hj] at e ⊢; exact ⟨e, rfl⟩
  refine ⟨by simp [h.len], h.pre, fun i d e => ?_, fun i m e => ?_, fun i j m1 m2 e1 e2 e3 => ?_, fun i m e => ?_⟩
  · rw [(g i _ e (by simp)).2]; exact h.val i d (g i _ e (by simp)).1
  · rw [(g i _ e (by simp)).2]; exact h.mt i m (g i _ e (by simp)).1
  · exact h.nal i j m1 m2 (g i _ e1 (by simp)).1 (g j _ e2 (by simp)).1 (by rw [← (g i _ e1 (by simp)).2, ← (g j _ e2 (by simp)).2]; exact e3)
  · rw [(g i _ e (by simp)).2]; exact h.bo i m (g i _ e (by simp)).1
theorem Has.wipe {s : S} {Γ : List Sl} {ρ : Rho} {st : Sto} (h : Has W fr s Γ ρ st) : ∀ vs : List Nat, Has W fr s (wipeG Γ vs) (wipeD ρ vs) st
  | [] => h
  | v :: vs => (h.wipe vs).unset v
theorem wipeD_get (ρ : Rho) : ∀ (vs : List Nat) (j : Nat), j ∉ vs → (wipeD ρ vs)[j]? = ρ[j]?
  | [], _, _ => rfl
  | v :: vs, j, h => by
    show ((wipeD ρ vs).set v none)[j]? = _
    rw [List.getElem?_set_ne (fun q => h (by simp [q])), wipeD_get ρ vs j fun q => h (List.mem_cons_of_mem _ q)]
def Kp (js : List Nat) (Γ Γ' : List Sl) : Prop := ∀ (i : Nat) m, Γ[i]? = some (.mut m) → i ∉ js ∧ Γ'[i]? = some (.mut m)
def kpB : List Sl → List Sl → Nat → List Nat → Prop
  | [], _, _, _ => True
  | .mut m :: Γ, Γ', n, js => n ∉ js ∧ Γ'[n]? = some (.mut m) ∧ kpB Γ Γ' (n + 1) js
  | _ :: Γ, Γ', n, js => kpB Γ Γ' (n + 1) js
theorem kpB_get {js : List Nat} {Γ' : List Sl} : ∀ {Γ : List Sl} {n : Nat}, kpB Γ Γ' n js → ∀ (i : Nat) m, Γ[i]? = some (.mut m) → i + n ∉ js ∧ Γ'[i + n]? = some (.mut m)
  | [], _, _, i, m, e => by simp at e
  | .mut m' :: Γ, n, h, 0, m, e => by
    have : m' = m := by simpa using e
    subst this
    rw [Nat.zero_add]
    exact ⟨h.1, h.2.1⟩
  | .any :: Γ, n, h, 0, m, e => by simp at e
  | .val _ :: Γ, n, h, 0, m, e => by simp at e
  | .bor _ :: Γ, n, h, 0, m, e => by simp at e
  | .mut m' :: Γ, n, h, i + 1, m, e => by
    have := kpB_get (Γ := Γ) h.2.2 i m (by simpa using e)
    rwa [show i + (n + 1) = i + 1 + n by omega] at this
  | .any :: Γ, n, h, i + 1, m, e => by
    have := kpB_get (Γ := Γ) h i m (by simpa using e)
    rwa [show i + (n + 1) = i + 1 + n by omega] at this
  | .val _ :: Γ, n, h, i + 1, m, e => by
    have := kpB_get (Γ := Γ) h i m (by simpa using e)
    rwa [show i + (n + 1) = i + 1 + n by omega] at this
  | .bor _ :: Γ, n, h, i + 1, m, e => by
    have := kpB_get (Γ := Γ) h i m (by simpa using e)
    rwa [show i + (n + 1) = i + 1 + n by omega] at this
theorem kp_of {js : List Nat} {Γ Γ' : List Sl} (h : kpB Γ Γ' 0 js) : Kp js Γ Γ' := fun i m e => kpB_get h i m e
theorem Has.back {s s' : S} {Γ Γ' : List Sl} {ρ ρ' : Rho} {st st' : Sto} {js : List Nat} (h : Has W fr s Γ ρ st) (h' : Has W fr s' Γ' ρ' st') (k : Kp js Γ Γ') (hr : ∀ j, j ∉ js → ρ'[j]? = ρ[j]?) : Has W fr s' Γ ρ st' := by
  refine ⟨h.len, h'.pre, h.val, fun i m e => ?_, h.nal, h.bo⟩
  obtain ⟨q1, q2⟩ := k i m e
  obtain ⟨l, p1, p2, p3⟩ := h'.mt i m q2
  exact ⟨l, by rw [← hr i q1]; exact p1, p2, p3⟩
section
variable {α β : Type}
def compT (f : α → Mt S (Option β)) : List α → Mt S (List β)
  | [] => mpure []
  | x :: xs => mbind (f x) fun o => mbind (compT f xs) fun ys => mpure (o.toList ++ ys)
def compG (c : α → Mt S Bool) (f : α → Mt S β) (xs : List α) : Mt S (List β) := if xs.length ≤ 100000 then compT (fun x => mbind (c x) fun b => if b = true then mbind (f x) fun y => mpure (some y) else mpure none) xs else mbad
def compV (c : α → Bool) (f : α → β) (xs : List α) : Mt S (List β) := if xs.length ≤ 100000 then mpure ((xs.filter c).map f) else mbad
def mapT (f : α → Mt S β) : List α → Mt S (List β)
  | [] => mpure []
  | x :: xs => mbind (f x) fun y => mbind (mapT f xs) fun ys => mpure (y :: ys)
def compM (c : α → Bool) (f : α → Mt S β) (xs : List α) : Mt S (List β) := if xs.length ≤ 100000 then mapT f (xs.filter c) else mbad
variable {e : α → D} {enc : β → D} {gf : D → Rho → M Rho} {mt : Rho → M Bool} {me : Rho → M D} {vs js : List Nat} {G : α → List Sl}
theorem lcL_T {f : α → Mt S (Option β)} {ρ : Rho} (hf : ∀ x s st, Has W fr s Γ ρ st → OR W fr (fun _ => Γ) ρ (fun o : Option β => o.map enc) (lcF gf mt me (wipeD ρ vs) (e x) st) (f x s)) :
    ∀ (xs : List α) s st, Has W fr s Γ ρ st → OR W fr (fun _ => Γ) ρ (fun ys : List β => ys.map enc) (lcL [] (lcF gf mt me (wipeD ρ vs)) (xs.map e) st) (compT f xs s)
  | [], s, st, H => by
    rw [List.map_nil]
    unfold lcL
    rw [if_pos ((heldOk_nil _).mpr trivial)]
    exact ⟨st, rfl, H⟩
  | x :: xs, s, st, H => by
    rw [List.map_cons]
    unfold lcL
    rw [if_pos ((heldOk_nil _).mpr trivial)]
    refine OR.bind (hf x s st H) fun o s1 st1 H1 => ?_
    refine OR.bind (lcL_T hf xs s1 st1 H1) fun ys s2 st2 H2 => ?_
    refine ⟨st2, ?_, H2⟩
    cases o <;> simp
def rcalm {γ : Type} (r : Rs S γ) : Rs S γ := match r with
  | .ok a s' => .ok a s'
  | .amb P f => .amb P fun n => rcalm (f n)
  | _ => .bad
def calmly {γ : Type} (q : Mt S γ) : Mt S γ := fun s => rcalm (q s)
theorem calm_OR {A : Type} {r : Out A} {γ : Type} {Γ' : γ → List Sl} {ρ : Rho} {en : γ → A} {q : Rs S γ} (h : OR W fr Γ' ρ en r q) : OR W fr Γ' ρ en (nox r) (rcalm q) := by
  induction q with
  | ok b s => obtain ⟨st', rfl, h2⟩ := h; exact ⟨st', rfl, h2⟩
  | exc x s => trivial
  | bad => trivial
  | amb P_ f_ ih_ => obtain ⟨n_, p_, h⟩ := h; exact ⟨n_, p_, ih_ n_ h⟩
theorem lcF_T {c : Mt S Bool} {f : Mt S β} {x : α} {Γw : List Sl} {Γx : List Sl} (hw : wipeG Γ vs = Γw) (hg : GT1 W fr Γw gf (e x) Γx js) (hjs : ∀ j, j ∈ js → j ∈ vs) (hk : Kp vs Γ Γx) (hc : HT W fr Γx mt c id fun _ => Γx) (hf : HT W fr Γx me f enc fun _ => Γx) (s : S) (ρ : Rho) (st : Sto) (H : Has W fr s Γ ρ st) :
    OR W fr (fun _ => Γ) ρ (fun o : Option β => o.map enc) (lcF gf mt me (wipeD ρ vs) (e x) st) (mbind c (fun b => if b = true then mbind f fun y => mpure (some y) else mpure none) s) := by
  have H0 := H.wipe vs
  rw [hw] at H0
  obtain ⟨ρ1, e1, H1, k1⟩ := hg s (wipeD ρ vs) st H0
  have kr : ∀ j, j ∉ vs → ρ1[j]? = ρ[j]? := fun j hj => by rw [k1 j fun q => hj (hjs j q), wipeD_get ρ vs j hj]
  unfold lcF
  rw [e1, Out.bind_ok]
  show OR W fr _ ρ _ _ (rbind (c s) _)
  have h1 := hc s ρ1 st H1
  revert h1
  induction (c s) with
  | ok b s1 =>
    rintro ⟨st1, e2, H2⟩
    rw [e2, Out.bind_ok]
    cases b
    · exact ⟨st1, rfl, H.back H2 hk kr⟩
    · have h2 := hf s1 ρ1 st1 H2
      show OR W fr _ ρ _ _ (rbind (f s1) _)
      revert h2
      induction (f s1) with
      | ok y s2 =>
        rintro ⟨st2, e3, H3⟩
        refine ⟨st2, ?_, H.back H3 hk kr⟩
        simp only [id, if_true, e3]
        rfl
      | exc y s2 =>
        rintro ⟨st2, e3, H3⟩
        refine ⟨st2, ?_, H3⟩
        simp only [id, if_true, e3]
        rfl
      | bad => intro _; trivial
      | amb P_ f_ ih_ => rintro ⟨n_, p_, h_⟩; exact ⟨n_, p_, ih_ n_ h_⟩
  | exc y s1 =>
    rintro ⟨st1, e2, H2⟩
    exact ⟨st1, by rw [e2]; rfl, H2⟩
  | bad => intro _; trivial
  | amb P_ f_ ih_ => rintro ⟨n_, p_, h_⟩; exact ⟨n_, p_, ih_ n_ h_⟩
theorem ht_compG {ms : Rho → M Src} {q : Mt S (List α)} {c : α → Mt S Bool} {f : α → Mt S β} {Γw : List Sl} (hs : HT W fr Γ ms q (eSrc e) fun _ => Γ) (hw : wipeG Γ vs = Γw) (hg : ∀ x, GT1 W fr Γw gf (e x) (G x) js) (hjs : ∀ j, j ∈ js → j ∈ vs) (hk : ∀ x, Kp vs Γ (G x))
    (hc : ∀ x, HT W fr (G x) mt (c x) id fun _ => G x) (hf : ∀ x, HT W fr (G x) me (f x) enc fun _ => G x) : HT W fr Γ (lLc ms gf mt me vs) (mbind q fun xs => calmly (compG c f xs)) (fun ys : List β => ys.map enc) fun _ => Γ := fun s ρ st H => by
  unfold lLc
  refine OR.bind (hs s ρ st H) fun xs s1 st1 H1 => ?_
  show OR W fr _ ρ _ (if (xs.map e).length ≤ SZ then nox (lcL [] (lcF gf mt me (wipeD ρ vs)) (xs.map e) st1) else .bad) (rcalm (compG c f xs s1))
  unfold compG
  rw [List.length_map]
  by_cases hl : xs.length ≤ 100000
  · rw [if_pos hl, if_pos (show xs.length ≤ SZ from hl)]
    exact calm_OR (lcL_T (fun x s st H => lcF_T hw (hg x) hjs (hk x) (hc x) (hf x) s ρ st H) xs s1 st1 H1)
  · rw [if_neg hl, if_neg (show ¬ xs.length ≤ SZ from hl)]
    trivial
theorem compT_V (c : α → Bool) (f : α → β) : ∀ xs : List α, compT (S := S) (fun x => mbind (mpure (c x)) fun b => if b = true then mbind (mpure (f x)) fun y => mpure (some y) else mpure none) xs = mpure ((xs.filter c).map f)
  | [] => rfl
  | x :: xs => by
    unfold compT
    rw [compT_V c f xs]
    simp only [mbind_pure]
    cases h : c x <;> simp [h]
theorem compT_M (c : α → Bool) (f : α → Mt S β) : ∀ xs : List α, compT (fun x => mbind (mpure (c x)) fun b => if b = true then mbind (f x) fun y => mpure (some y) else mpure none) xs = mapT f (xs.filter c)
  | [] => rfl
  | x :: xs => by
    unfold compT
    rw [compT_M c f xs]
    simp only [mbind_pure]
    cases h : c x
    · simp [h, mbind_ret]
    · simp only [h, if_true, List.filter_cons_of_pos]
      rw [mapT, mbind_assoc]
      rfl
theorem ht_compV {ms : Rho → M Src} {q : Mt S (List α)} {c : α → Bool} {f : α → β} {Γw : List Sl} (hs : HT W fr Γ ms q (eSrc e) fun _ => Γ) (hw : wipeG Γ vs = Γw) (hg : ∀ x, GT1 W fr Γw gf (e x) (G x) js) (hjs : ∀ j, j ∈ js → j ∈ vs) (hk : ∀ x, Kp vs Γ (G x))
    (hc : ∀ x, HV W fr (G x) mt (c x)) (hf : ∀ x, HV W fr (G x) me (enc (f x))) : HT W fr Γ (lLc ms gf mt me vs) (mbind q fun xs => compV c f xs) (fun ys : List β => ys.map enc) fun _ => Γ := by
  have h := ht_compG (c := fun x => mpure (c x)) (f := fun x => mpure (f x)) hs hw hg hjs hk (fun x => ht_ofV (enc := id) (hc x)) fun x => ht_ofV (hf x)
  have e : (fun xs : List α => calmly (compG (S := S) (fun x => mpure (c x)) (fun x => mpure (f x)) xs)) = fun xs => compV c f xs := by
    funext xs
    unfold compG compV
    rw [compT_V]
    split <;> rfl
  rw [e] at h
  exact h
theorem ht_compM {ms : Rho → M Src} {q : Mt S (List α)} {c : α → Bool} {f : α → Mt S β} {Γw : List Sl} (hs : HT W fr Γ ms q (eSrc e) fun _ => Γ) (hw : wipeG Γ vs = Γw) (hg : ∀ x, GT1 W fr Γw gf (e x) (G x) js) (hjs : ∀ j, j ∈ js → j ∈ vs) (hk : ∀ x, Kp vs Γ (G x))
    (hc : ∀ x, HV W fr (G x) mt (c x)) (hf : ∀ x, HT W fr (G x) me (f x) enc fun _ => G x) : HT W fr Γ (lLc ms gf mt me vs) (mbind q fun xs => calmly (compM c f xs)) (fun ys : List β => ys.map enc) fun _ => Γ := by
  have h := ht_compG (c := fun x => mpure (c x)) (f := f) hs hw hg hjs hk (fun x => ht_ofV (enc := id) (hc x)) hf
  have e : (fun xs : List α => calmly (compG (S := S) (fun x => mpure (c x)) f xs)) = fun xs => calmly (compM c f xs) := by
    funext xs
    unfold compG compM
    rw [compT_M]
  rw [e] at h
  exact h
end
theorem has_start {s : S} {np nN : Nat} {ds : List D} {fr : Sto} (hs : W.has s fr) (hl : ds.length ≤ nN) : Has W fr s (ds.map .val ++ List.replicate (nN - ds.length) .any) (rho0 nN ds) fr := by
  unfold rho0
  have g : ∀ (i : Nat) a, (ds.map Sl.val ++ List.replicate (nN - ds.length) Sl.any)[i]? = some a → a = .any ∨ ∃ d, a = .val d ∧ ds[i]? = some d := fun i a e => by
    by_cases hi : i < ds.length
    · rw [List.getElem?_append_left (by simpa using hi), List.getElem?_map] at e
      cases e1 : ds[i]? with
      | none => rw [e1] at e; cases e
      | some d => rw [e1] at e; cases e; exact .inr ⟨d, rfl, rfl⟩
    · rw [List.getElem?_append_right (by simpa using hi), List.getElem?_replicate] at e
      split at e
      · cases e; exact .inl rfl
      · cases e
  refine ⟨by simp, Pre.refl hs, fun i d e => ?_, fun i m e => ?_, fun i j m1 m2 e1 e2 e3 => ?_, fun i m e => ?_⟩
  · rcases g i _ e with q | ⟨d', q, h⟩
    · cases q
    · cases q
      have hi := (List.getElem?_eq_some_iff.mp h).1
      rw [List.getElem?_append_left (by simpa using hi), List.getElem?_map, h]
      rfl
  · rcases g i _ e with q | ⟨d', q, h⟩
    · cases q
    · cases q
  · rcases g i _ e1 with q | ⟨d', q, h⟩
    · cases q
    · cases q
  · rcases g i _ e with q | ⟨d', q, h⟩
    · cases q
    · cases q
theorem Pre.take {s0 s' : S} {b st' : Sto} (h0 : W.has s0 b) (h : Pre W b s' st') (t : Tidy b st') : Pre W b s' (st'.take b.length) := by
  refine ⟨W.take h0 h.has t, ?_, fun l hl n => ?_⟩
  · rw [List.length_take]
    have := h.long
    omega
  · obtain ⟨p, q⟩ := h.keep l hl n
    exact ⟨fun z => p (W.ownT h0 h.has t z), by rw [List.getElem?_take_of_lt hl]; exact q⟩
theorem clean_pre {s s' : S} {b st' : Sto} {d : D} (h0 : W.has s b) (h : Pre W b s' st') : ∃ st2, clean b (.ok d st') = .ok d st2 ∧ Pre W b s' st2 := by
  unfold clean
  dsimp only
  split
  · rename_i t
    exact ⟨_, rfl, h.take h0 t.2⟩
  · exact ⟨_, rfl, h⟩
theorem clean_preX {s s' : S} {b st' : Sto} {x : Xc} (h0 : W.has s b) (h : Pre W b s' st') : ∃ st2, clean b (.exc x st') = .exc x st2 ∧ Pre W b s' st2 := by
  unfold clean
  dsimp only
  split
  · rename_i t
    exact ⟨_, rfl, h.take h0 t.2⟩
  · exact ⟨_, rfl, h⟩
theorem fo_of {β : Type} {enc : β → D} {np nN : Nat} {m : Rho → Sto → Fl} {ds : List D} {q : Mt S β} (hn : ds.length = np) (hl : ds.length ≤ nN) (h : ∀ fr, TR W fr (ds.map .val ++ List.replicate (nN - ds.length) .any) m q enc) : FN W (fnD np nN m) ds q enc := fun fr s hs => by
  have := h fr s _ _ (has_start (W := W) (np := np) (s := s) (fr := fr) hs hl)
  unfold fnD
  rw [if_pos hn]
  revert this
  show RR W fr enc _ (q s) → FO W fr enc _ (q s)
  generalize q s = r
  induction r with
  | ok b s' =>
    rintro ⟨st', e, h2⟩
    rw [e]
    exact clean_pre hs h2
  | exc x s' =>
    rintro ⟨ρ', st', e, h2, h3⟩
    rw [e]
    obtain ⟨st2, e2, h4⟩ := clean_preX (x := x) hs h2
    exact ⟨st2, e2, h4, h3⟩
  | bad => intro _; trivial
  | amb P_ f_ ih_ => rintro ⟨n_, p_, h_⟩; exact ⟨n_, p_, ih_ n_ h_⟩
theorem fnT_of {β : Type} {enc : β → D} {np nN : Nat} {m : Rho → Sto → Fl} {ds : List D} {q : Mt S β} (hp : ∀ b, isP (enc b) = true) (hn : ds.length = np) (hl : ds.length ≤ nN) (h : ∀ fr, TR W fr (ds.map .val ++ List.replicate (nN - ds.length) .any) m q enc) : FN W (fnD np nN m) ds q enc := fo_of hn hl h
end
end Dn
namespace Dn
open PySem PySem.Spec PyProof.Rows L2
def eI : Int → D := .int
def eB : Bool → D := .bl
def eS : Str → D := .str
def eD : D → D := fun d => d
def eU : Unit → D := fun _ => .non
def eT {α : Type} (e : α → D) (xs : List α) : D := .tup (xs.map e)
def eL {α : Type} (e : α → D) (xs : List α) : D := .lst (xs.map e)
def eP {α β : Type} (e : α → D) (f : β → D) (z : α × β) : D := .tup [e z.1, f z.2]
def eP3 {α β γ : Type} (e : α → D) (f : β → D) (g : γ → D) (z : α × β × γ) : D := .tup [e z.1, f z.2.1, g z.2.2]
def eO {α : Type} (e : α → D) (o : Option α) : D := match o with
  | none => .non
  | some x => e x
class Ev {α : Type} [DecidableEq α] (e : α → D) (dp : outParam Nat) : Prop where
  p : ∀ x, isP (e x) = true
  dep : ∀ x, (toP (e x)).depth ≤ dp
  eq : ∀ x y, PyData.eqv (toP (e x)) (toP (e y)) = decide (x = y)
class Pl {α : Type} (e : α → D) : Prop where
  p : ∀ x, isP (e x) = true
instance : Pl eI := ⟨fun _ => rfl⟩
instance : Pl eB := ⟨fun _ => rfl⟩
instance : Pl eS := ⟨fun _ => rfl⟩
instance : Pl eU := ⟨fun _ => rfl⟩
theorem isPs_of {α : Type} {e : α → D} (h : ∀ x, isP (e x) = true) : ∀ xs : List α, isPs (xs.map e) = true
  | [] => rfl
  | x :: xs => by rw [List.map_cons, isPs, h x, isPs_of h xs] <;> rfl
instance {α : Type} {e : α → D} [Pl e] : Pl (eT e) := ⟨fun xs => by unfold eT; rw [isP]; exact isPs_of Pl.p xs⟩
instance {α : Type} {e : α → D} [Pl e] : Pl (eL e) := ⟨fun xs => by unfold eL; rw [isP]; exact isPs_of Pl.p xs⟩
instance {α β : Type} {e : α → D} {f : β → D} [Pl e] [Pl f] : Pl (eP e f) := ⟨fun z => by unfold eP; simp only [isP, isPs, Pl.p, Bool.and_self]⟩
instance {α β γ : Type} {e : α → D} {f : β → D} {g : γ → D} [Pl e] [Pl f] [Pl g] : Pl (eP3 e f g) := ⟨fun z => by unfold eP3; simp only [isP, isPs, Pl.p, Bool.and_self]⟩
instance {α : Type} {e : α → D} [Pl e] : Pl (eO e) := ⟨fun o => by cases o with
  | none => rfl
  | some x => exact Pl.p x⟩
instance : Ev eI 0 := ⟨fun _ => rfl, fun _ => Nat.le_refl _, fun x y => by
  show (x == y) = _
  rw [Bool.eq_iff_iff]; simp⟩
instance : Ev eB 0 := ⟨fun _ => rfl, fun _ => Nat.le_refl _, fun x y => by
  show (x == y) = _
  rw [Bool.eq_iff_iff]; simp⟩
instance : Ev eS 0 := ⟨fun _ => rfl, fun _ => Nat.le_refl _, fun x y => by
  show (x == y) = _
  rw [Bool.eq_iff_iff]; simp⟩
instance : Ev eU 0 := ⟨fun _ => rfl, fun _ => Nat.le_refl _, fun x y => rfl⟩
theorem depAll_of {α : Type} {e : α → D} {n : Nat} (h : ∀ x, (toP (e x)).depth ≤ n) : ∀ xs : List α, PyData.depthAll (toPs (xs.map e)) ≤ n
  | [] => Nat.zero_le _
  | x :: xs => by
    rw [List.map_cons, toPs, PyData.depthAll]
    exact Nat.max_le.mpr ⟨h x, depAll_of h xs⟩
theorem eqvAll_of {α : Type} [DecidableEq α] {e : α → D} (h : ∀ x y, PyData.eqv (toP (e x)) (toP (e y)) = decide (x = y)) : ∀ xs ys : List α, PyData.eqvAll (toPs (xs.map e)) (toPs (ys.map e)) = decide (xs = ys)
  | [], [] => rfl
  | [], y :: ys => by simp only [List.map_nil, List.map_cons, toPs, PyData.eqvAll]; rfl
  | x :: xs, [] => by simp only [List.map_nil, List.map_cons, toPs, PyData.eqvAll]; rfl
  | x :: xs, y :: ys => by
    simp only [List.map_cons, toPs, PyData.eqvAll]
    rw [h x y, eqvAll_of h xs ys, Bool.eq_iff_iff]
    simp
instance {α : Type} [DecidableEq α] {e : α → D} {n : Nat} [Ev e n] : Ev (eT e) (n + 1) := ⟨fun xs => by unfold eT; rw [isP]; exact isPs_of Ev.p xs, fun xs => by
  unfold eT
  rw [toP, PyData.depth]
  have := depAll_of (n := n) (e := e) Ev.dep xs
  omega, fun xs ys => by
  unfold eT
  rw [toP, toP, PyData.eqv]
  exact eqvAll_of Ev.eq xs ys⟩
instance {α : Type} [DecidableEq α] {e : α → D} {n : Nat} [Ev e n] : Ev (eL e) (n + 1) := ⟨fun xs => by unfold eL; rw [isP]; exact isPs_of Ev.p xs, fun xs => by
  unfold eL
  rw [toP, PyData.depth]
  have := depAll_of (n := n) (e := e) Ev.dep xs
  omega, fun xs ys => by
  unfold eL
  rw [toP, toP, PyData.eqv]
  exact eqvAll_of Ev.eq xs ys⟩
instance {α β : Type} [DecidableEq α] [DecidableEq β] {e : α → D} {f : β → D} {n m : Nat} [Ev e n] [Ev f m] : Ev (eP e f) (max n m + 1) := ⟨fun z => by unfold eP; simp only [isP, isPs, Ev.p, Bool.and_self], fun z => by
  unfold eP
  have h1 := Ev.dep (e := e) z.1
  have h2 := Ev.dep (e := f) z.2
  simp only [toP, toPs, PyData.depth, PyData.depthAll]
  omega, fun x y => by
  unfold eP
  simp only [toP, toPs, PyData.eqv, PyData.eqvAll, Ev.eq]
  rw [Bool.eq_iff_iff]
  simp [Prod.ext_iff]⟩
class Nn {α : Type} (e : α → D) : Prop where
  nn : ∀ x, toP (e x) ≠ .none
instance : Nn eI := ⟨fun _ h => nomatch h⟩
instance : Nn eB := ⟨fun _ h => nomatch h⟩
instance : Nn eS := ⟨fun _ h => nomatch h⟩
instance {α : Type} {e : α → D} : Nn (eT e) := ⟨fun _ h => by unfold eT at h; rw [toP] at h; cases h⟩
instance {α : Type} {e : α → D} : Nn (eL e) := ⟨fun _ h => by unfold eL at h; rw [toP] at h; cases h⟩
instance {α β : Type} {e : α → D} {f : β → D} : Nn (eP e f) := ⟨fun _ h => by unfold eP at h; rw [toP] at h; cases h⟩
theorem eqv_none_l {d : PyData} (h : d ≠ .none) : PyData.eqv .none d = false := by cases d <;> first | rfl | exact absurd rfl h
theorem eqv_none_r {d : PyData} (h : d ≠ .none) : PyData.eqv d .none = false := by cases d <;> first | rfl | exact absurd rfl h
instance {α : Type} [DecidableEq α] {e : α → D} {n : Nat} [Ev e n] [Nn e] : Ev (eO e) n := ⟨fun o => by cases o with
  | none => rfl
  | some x => exact Ev.p x, fun o => by cases o with
  | none => exact Nat.zero_le _
  | some x => exact Ev.dep x, fun o p => by
  cases o with
  | none =>
    cases p with
    | none => rfl
    | some y =>
      show PyData.eqv .none (toP (e y)) = _
      rw [eqv_none_l (Nn.nn (e := e) y)] <;> rfl
  | some x =>
    cases p with
    | none =>
      show PyData.eqv (toP (e x)) .none = _
      rw [eqv_none_r (Nn.nn (e := e) x)] <;> rfl
    | some y =>
      show PyData.eqv (toP (e x)) (toP (e y)) = _
      rw [Ev.eq (e := e)]
      simp⟩
section
variable {α : Type} [DecidableEq α] {e : α → D} {n : Nat}
theorem pEq_dat {st : Sto} {a b : D} {p q : PyData} (ha : dat st a = some p) (hb : dat st b = some q) (hd : min p.depth q.depth ≤ 64) : pEq st a b = some (.bl (PyData.eqv p q)) := by
  have gen : (match dat st a, dat st b with
    | some p, some q => if min p.depth q.depth ≤ 64 then some (D.bl (PyData.eqv p q)) else none
    | _, _ => none) = some (D.bl (PyData.eqv p q)) := by
    rw [ha, hb]
    exact if_pos hd
  unfold pEq
  split
  · rename_i x y
    cases ha
    cases hb
    rfl
  · exact gen
theorem pNe_dat {st : Sto} {a b : D} {p q : PyData} (ha : dat st a = some p) (hb : dat st b = some q) (hd : min p.depth q.depth ≤ 64) : pNe st a b = some (.bl (!PyData.eqv p q)) := by
  have gen : (match dat st a, dat st b with
    | some p, some q => if min p.depth q.depth ≤ 64 then some (D.bl (!PyData.eqv p q)) else none
    | _, _ => none) = some (D.bl (!PyData.eqv p q)) := by
    rw [ha, hb]
    exact if_pos hd
  unfold pNe
  split
  · rename_i x y
    cases ha
    cases hb
    rfl
  · exact gen
theorem t_eq [Ev e n] (x y : α) (h : n ≤ 64) (st : Sto) : pEq st (e x) (e y) = some (.bl (decide (x = y))) := by
  have hd := Ev.dep (e := e) x
  rw [pEq_dat (dat_P (Ev.p x)) (dat_P (Ev.p y)) (by omega), Ev.eq]
theorem t_ne [Ev e n] (x y : α) (h : n ≤ 64) (st : Sto) : pNe st (e x) (e y) = some (.bl (!decide (x = y))) := by
  have hd := Ev.dep (e := e) x
  rw [pNe_dat (dat_P (Ev.p x)) (dat_P (Ev.p y)) (by omega), Ev.eq]
theorem any_of [Ev e n] (x : α) : ∀ xs : List α, ((toPs (xs.map e)).any fun z => PyData.eqv z (toP (e x))) = decide (x ∈ xs)
  | [] => by simp [toPs]
  | y :: ys => by
    rw [List.map_cons, toPs, List.any_cons, any_of x ys, Ev.eq]
    by_cases h : y = x
    · subst h; simp
    · have h' : ¬ x = y := fun q => h q.symm
      simp [h, h']
theorem inD_seq {st : Sto} {a b : D} {p : PyData} {ds : List PyData} (ha : dat st a = some p) (hb : dat st b = some (.list ds) ∨ dat st b = some (.tuple ds)) (hd : p.depth ≤ 64) : inD st a b = some (ds.any fun z => PyData.eqv z p) := by
  unfold inD
  split
  · rcases hb with hb | hb <;> cases hb
  · rw [ha]
    rcases hb with hb | hb
    · rw [hb]
      exact if_pos hd
    · rw [hb]
      exact if_pos hd
theorem dat_eT [Ev e n] (xs : List α) (st : Sto) : dat st (eT e xs) = some (.tuple (toPs (xs.map e))) := by
  rw [dat_P (Ev.p xs)]
  unfold eT
  rw [toP]
theorem dat_eL [Ev e n] (xs : List α) (st : Sto) : dat st (eL e xs) = some (.list (toPs (xs.map e))) := by
  rw [dat_P (Ev.p xs)]
  unfold eL
  rw [toP]
theorem t_inT [Ev e n] (x : α) (xs : List α) (h : n ≤ 64) (st : Sto) : pIn st (e x) (eT e xs) = some (.bl (decide (x ∈ xs))) := by
  unfold pIn
  rw [inD_seq (dat_P (Ev.p x)) (.inr (dat_eT xs st)) (Nat.le_trans (Ev.dep (e := e) x) h), any_of] <;> rfl
theorem t_inL [Ev e n] (x : α) (xs : List α) (h : n ≤ 64) (st : Sto) : pIn st (e x) (eL e xs) = some (.bl (decide (x ∈ xs))) := by
  unfold pIn
  rw [inD_seq (dat_P (Ev.p x)) (.inl (dat_eL xs st)) (Nat.le_trans (Ev.dep (e := e) x) h), any_of] <;> rfl
theorem t_ninL [Ev e n] (x : α) (xs : List α) (h : n ≤ 64) (st : Sto) : pNotIn st (e x) (eL e xs) = some (.bl (!decide (x ∈ xs))) := by
  unfold pNotIn
  rw [inD_seq (dat_P (Ev.p x)) (.inl (dat_eL xs st)) (Nat.le_trans (Ev.dep (e := e) x) h), any_of] <;> rfl
end
theorem dr_dat {st : Sto} {l : Nat} {xs : List D} (h : st[l]? = some (.lst xs)) : dat st (.ref l) = dat st (.lst xs) := by
  unfold dat
  dsimp only
  rw [h]
  simp only [isP, toP]
  rfl
theorem dr_ne1 {st : Sto} {l : Nat} {xs : List D} {b : D} (h : st[l]? = some (.lst xs)) : pNe st (.ref l) b = pNe st (.lst xs) b := by
  unfold pNe
  simp only [dr_dat h]
theorem dr_nin2 {st : Sto} {l : Nat} {xs : List D} {a : D} (h : st[l]? = some (.lst xs)) : pNotIn st a (.ref l) = pNotIn st a (.lst xs) := by
  unfold pNotIn inD
  simp only [dr_dat h]
theorem dr_seq {st : Sto} {l : Nat} {xs : List D} (h : st[l]? = some (.lst xs)) : seqOf st (.ref l) = seqOf st (.lst xs) := by rw [seqOf_ref h, seqOf_lst]
theorem dr_idx1 {st : Sto} {l : Nat} {xs : List D} {b : D} (h : st[l]? = some (.lst xs)) : pIdx st (.ref l) b = pIdx st (.lst xs) b := by
  unfold pIdx
  cases b <;> simp only [dr_seq h]
theorem dr_len {st : Sto} {l : Nat} {xs : List D} (h : st[l]? = some (.lst xs)) : pLen st [.ref l] = pLen st [.lst xs] := by
  show (seqOf st (.ref l)).map (fun xs => D.int xs.length) = (seqOf st (.lst xs)).map (fun xs => D.int xs.length)
  rw [dr_seq h]
theorem t_add (a b : Int) (st : Sto) : pAdd st (eI a) (eI b) = some (eI (a + b)) := rfl
theorem t_neg (a : Int) (st : Sto) : pNeg st (eI a) = some (eI (-a)) := rfl
theorem t_lt (a b : Int) (st : Sto) : pLt st (eI a) (eI b) = some (.bl (decide (a < b))) := rfl
theorem t_gt (a b : Int) (st : Sto) : pGt st (eI a) (eI b) = some (.bl (decide (b < a))) := rfl
def b2z (b : Bool) : Int := if b = true then 1 else 0
theorem t_intB (b : Bool) (st : Sto) : pInt st [eB b] = some (eI (b2z b)) := by cases b <;> rfl
section
variable {α : Type} {e : α → D}
theorem t_lenT (xs : List α) (st : Sto) : pLen st [eT e xs] = some (eI (xs.length : Int)) := by
  show some (D.int ((xs.map e).length : Int)) = _
  rw [List.length_map] <;> rfl
theorem t_lenL (xs : List α) (st : Sto) : pLen st [eL e xs] = some (eI (xs.length : Int)) := by
  show some (D.int ((xs.map e).length : Int)) = _
  rw [List.length_map] <;> rfl
theorem atI_map (xs : List α) (i : Int) : atI (xs.map e) i = (atI xs i).map e := by
  unfold atI
  rw [List.length_map]
  cases ixN xs.length i with
  | none => rfl
  | some j => simp
theorem t_idxT (xs : List α) (i : Int) (x : α) (h : atI xs i = some x) (st : Sto) : pIdx st (eT e xs) (eI i) = some (e x) := by
  show (seqOf st (eT e xs)).bind (fun xs => atI xs i) = _
  show atI (xs.map e) i = _
  rw [atI_map, h] <;> rfl
theorem t_idxL (xs : List α) (i : Int) (x : α) (h : atI xs i = some x) (st : Sto) : pIdx st (eL e xs) (eI i) = some (e x) := by
  show (seqOf st (eL e xs)).bind (fun xs => atI xs i) = _
  show atI (xs.map e) i = _
  rw [atI_map, h] <;> rfl
theorem t_catT (xs ys : List α) (h : xs.length + ys.length ≤ 100000) (st : Sto) : pAdd st (eT e xs) (eT e ys) = some (eT e (xs ++ ys)) := by
  show (if (xs.map e).length + (ys.map e).length ≤ 100000 then some (D.tup (xs.map e ++ ys.map e)) else none) = _
  rw [List.length_map, List.length_map, if_pos h, ← List.map_append] <;> rfl
theorem map_rep (xs : List α) (k : Nat) : (List.replicate k (xs.map e)).flatten = ((List.replicate k xs).flatten).map e := by
  induction k with
  | zero => rfl
  | succ k ih => rw [List.replicate_succ, List.flatten_cons, ih, List.replicate_succ, List.flatten_cons, List.map_append]
theorem t_repT (xs : List α) (k : Int) (h : xs.length ≤ 1000 ∧ -1000 ≤ k ∧ k ≤ 1000) (st : Sto) : pMul st (eT e xs) (eI k) = some (eT e (List.replicate k.toNat xs).flatten) := by
  show (if (xs.map e).length ≤ 1000 ∧ -1000 ≤ k ∧ k ≤ 1000 then some (D.tup (List.replicate k.toNat (xs.map e)).flatten) else none) = _
  rw [List.length_map, if_pos h, map_rep] <;> rfl
theorem t_tupL (xs : List α) (st : Sto) : pTuple st [eL e xs] = some (eT e xs) := rfl
theorem t_listL (xs : List α) (st : Sto) : pList st [eL e xs] = some (xs.map e) := rfl
theorem t_all (bs : List Bool) (st : Sto) : pAll st [eL eB bs] = some (eB (bs.all id)) := by
  show ((some (bs.map eB)).bind blOf).map _ = _
  show (blOf (bs.map D.bl)).map _ = _
  rw [blOf_map] <;> rfl
theorem t_any (bs : List Bool) (st : Sto) : pAny st [eL eB bs] = some (eB (bs.any id)) := by
  show ((some (bs.map eB)).bind blOf).map _ = _
  show (blOf (bs.map D.bl)).map _ = _
  rw [blOf_map] <;> rfl
theorem t_isO (o : Option α) [Nn e] (st : Sto) : pIs st (eO e o) .non = some (.bl o.isNone) := by
  cases o with
  | none => rfl
  | some x =>
    show some (D.bl (e x).isNon) = some (D.bl false)
    have := Nn.nn (e := e) x
    cases h : e x <;> first | rfl | (rw [h] at this; exact absurd rfl this)
theorem t_isNotO (o : Option α) [Nn e] (st : Sto) : pIsNot st (eO e o) .non = some (.bl o.isSome) := by
  cases o with
  | none => rfl
  | some x =>
    show some (D.bl (!(e x).isNon)) = some (D.bl true)
    have := Nn.nn (e := e) x
    cases h : e x <;> first | rfl | (rw [h] at this; exact absurd rfl this)
theorem cutD_map (xs : List α) (lo hi : Option Int) : cutD (xs.map e) lo hi = (cutD xs lo hi).map e := by
  unfold cutD
  rw [List.length_map, ← List.map_drop, ← List.map_take]
theorem tr_B (b : Bool) (st : Sto) : (eB b).truth st = some b := rfl
end
section
variable {S : Type}
def midx {α : Type} (xs : List α) (i : Int) : Mt S α := mopt (atI xs i)
def mcat {α : Type} (xs ys : List α) : Mt S (List α) := if xs.length + ys.length ≤ 100000 then mpure (xs ++ ys) else mbad
def mrepT {α : Type} (xs : List α) (k : Int) : Mt S (List α) := if xs.length ≤ 1000 ∧ -1000 ≤ k ∧ k ≤ 1000 then mpure (List.replicate k.toNat xs).flatten else mbad
def mdisp {α : Type} (xs : List α) : Mt S (List α) := if xs.length ≤ 100000 then mpure xs else mbad
def mapp {α : Type} (xs : List α) (x : α) : Mt S (List α) := if xs.length < 100000 then mpure (xs ++ [x]) else mbad
def rngI (lo hi : Int) : List Int := (List.range (hi - lo).toNat).map fun i : Nat => lo + (i : Int)
noncomputable def mrng (lo hi : Int) : Mt S (List Int) := @ite _ (-(2 ^ 62) ≤ lo ∧ lo < 2 ^ 62 ∧ -(2 ^ 62) ≤ hi ∧ hi < 2 ^ 62) (Classical.propDecidable _) (mpure (rngI lo hi)) mbad
end
theorem rngD_rngI (lo hi : Int) : rngD lo (hi - lo).toNat = (rngI lo hi).map eI := by
  unfold rngD rngI
  rw [List.map_map] <;> rfl
section
variable {S : Type} {W : Wd S} {fr : Sto} {Γ : List Sl}
theorem af_op {p : Sto → D → D → Option D} {d1 d2 : D} {β : Type} {enc : β → D} {b : β} (h : ∀ st, p st d1 d2 = some (enc b)) : AC W fr Γ mNil (fun ds => F2 p (d1 :: d2 :: ds)) (mpure b) enc fun _ => Γ := ac_ret fun st => by
  show lift (p st d1 d2) st = _
  rw [h st] <;> rfl
theorem af_b1 {A β : Type} {p : Sto → List D → Option A} {d1 : D} {enc : β → A} {b : β} (h : ∀ st, p st [d1] = some (enc b)) : AC W fr Γ mNil (fun ds => FB p (d1 :: ds)) (mpure b) enc fun _ => Γ := ac_ret fun st => by
  show lift (p st [d1]) st = _
  rw [h st] <;> rfl
section
variable {α : Type} {e : α → D}
theorem af_idxT (xs : List α) (i : Int) : AC W fr Γ mNil (fun ds => F2 pIdx (eT e xs :: eI i :: ds)) (midx xs i) e fun _ => Γ := ac_opt fun b h st => by
  show lift (pIdx st (eT e xs) (eI i)) st = _
  rw [t_idxT xs i b h] <;> rfl
theorem af_idxL (xs : List α) (i : Int) : AC W fr Γ mNil (fun ds => F2 pIdx (eL e xs :: eI i :: ds)) (midx xs i) e fun _ => Γ := ac_opt fun b h st => by
  show lift (pIdx st (eL e xs) (eI i)) st = _
  rw [t_idxL xs i b h] <;> rfl
theorem af_catT (xs ys : List α) : AC W fr Γ mNil (fun ds => F2 pAdd (eT e xs :: eT e ys :: ds)) (mcat xs ys) (eT e) fun _ => Γ := ac_if fun h st => by
  show lift (pAdd st (eT e xs) (eT e ys)) st = _
  rw [t_catT xs ys h] <;> rfl
theorem af_repT (xs : List α) (k : Int) : AC W fr Γ mNil (fun ds => F2 pMul (eT e xs :: eI k :: ds)) (mrepT xs k) (eT e) fun _ => Γ := ac_if fun h st => by
  show lift (pMul st (eT e xs) (eI k)) st = _
  rw [t_repT xs k h] <;> rfl
end
section
variable {α : Type} {e : α → D} {m : Rho → M D} {l h : Rho → M (Option Int)}
theorem hv_slT {xs : List α} {lo hi : Option Int} (hm : HV W fr Γ m (eT e xs)) (hl : HV W fr Γ l lo) (hh : HV W fr Γ h hi) : HV W fr Γ (mSlT m l h) (eT e (cutD xs lo hi)) := fun s ρ st H => by
  unfold mSlT
  rw [hm s ρ st H, Out.bind_ok, hl s ρ st H, Out.bind_ok, hh s ρ st H, Out.bind_ok]
  show Out.ok (D.tup (cutD (xs.map e) lo hi)) st = _
  rw [cutD_map] <;> rfl
theorem hv_revL {xs : List α} (hm : HV W fr Γ m (eL e xs)) : HV W fr Γ (lRevL m) (xs.reverse.map e) := fun s ρ st H => by
  unfold lRevL
  rw [hm s ρ st H, Out.bind_ok]
  show Out.ok (xs.map e).reverse st = _
  rw [← List.map_reverse]
end
end
end Dn
namespace Dn
open PySem PySem.Spec PyProof.Rows L2
def lexB {α : Type} [DecidableEq α] (lt : α → α → Bool) : List α → List α → Bool
  | _, [] => false
  | [], _ :: _ => true
  | x :: xs, y :: ys => if x = y then lexB lt xs ys else lt x y
class Or {α : Type} [DecidableEq α] (e : α → D) (lt : outParam (α → α → Bool)) : Prop where
  al : ∀ x y, PySem.W.alike (toP (e x)) (toP (e y)) = true
  lt : ∀ x y, PySem.W.dataLt (toP (e x)) (toP (e y)) = lt x y
def ltI (a b : Int) : Bool := decide (a < b)
def ltS (a b : Str) : Bool := decide (a.cps.toList < b.cps.toList)
instance : Or eI ltI := ⟨fun _ _ => rfl, fun x y => PySem.W.dataLt_int x y⟩
instance : Or eS ltS := ⟨fun _ _ => rfl, fun x y => PySem.W.dataLt_str x y⟩
theorem alikeAll_of {α : Type} {e : α → D} (h : ∀ x y, PySem.W.alike (toP (e x)) (toP (e y)) = true) : ∀ xs ys : List α, PySem.W.alikeAll (toPs (xs.map e)) (toPs (ys.map e)) = true
  | [], ys => by rw [List.map_nil, toPs, PySem.W.alikeAll]
  | x :: xs, [] => by rw [List.map_nil, List.map_cons, toPs, toPs, PySem.W.alikeAll]
  | x :: xs, y :: ys => by rw [List.map_cons, List.map_cons, toPs, toPs, PySem.W.alikeAll, h x y, alikeAll_of h xs ys] <;> rfl
theorem ltAll_of {α : Type} [DecidableEq α] {e : α → D} {n : Nat} [Ev e n] {lt : α → α → Bool} (ha : ∀ x y, PySem.W.alike (toP (e x)) (toP (e y)) = true) (hl : ∀ x y, PySem.W.dataLt (toP (e x)) (toP (e y)) = lt x y) :
    ∀ xs ys : List α, PyProof.Rows.lexLt itemOrd (PySem.W.keyToksAll (toPs (xs.map e))) (PySem.W.keyToksAll (toPs (ys.map e))) = lexB lt xs ys
  | [], [] => rfl
  | [], y :: ys => rfl
  | x :: xs, [] => rfl
  | x :: xs, y :: ys => by
    rw [List.map_cons, List.map_cons, toPs, toPs]
    unfold lexB
    by_cases h : x = y
    · rw [if_pos h, PySem.W.dataLt_all_yes (ha x y) (by rw [Ev.eq, decide_eq_true h]), ltAll_of ha hl xs ys]
    · rw [if_neg h, PySem.W.dataLt_all_no (ha x y) (by rw [Ev.eq, decide_eq_false h]), hl]
instance {α : Type} [DecidableEq α] {e : α → D} {n : Nat} {lt : α → α → Bool} [Ev e n] [Or e lt] : Or (eT e) (lexB lt) := ⟨fun xs ys => by
  unfold eT
  rw [toP, toP, PySem.W.alike]
  exact alikeAll_of (Or.al (e := e)) xs ys, fun xs ys => by
  unfold eT
  rw [toP, toP, PySem.W.dataLt_tuple]
  exact ltAll_of (Or.al (e := e)) (Or.lt (e := e)) xs ys⟩
class Sb {α : Type} (e : α → D) : Prop where
  sb : (∀ x, ∃ xs, toP (e x) = .tuple xs) ∨ ∀ x, toP (e x) ≠ .none ∧ ∀ xs, toP (e x) ≠ .tuple xs
instance : Sb eI := ⟨.inr fun _ => ⟨(fun h => nomatch h), fun _ h => nomatch h⟩⟩
instance : Sb eS := ⟨.inr fun _ => ⟨(fun h => nomatch h), fun _ h => nomatch h⟩⟩
instance {α : Type} {e : α → D} : Sb (eT e) := ⟨.inl fun xs => ⟨_, by unfold eT; rw [toP]⟩⟩
section
variable {S : Type}
def leOf {α : Type} (lt : α → α → Bool) (a b : α) : Bool := !lt b a
def msort {α : Type} (lt : α → α → Bool) (xs : List α) : Mt S (List α) := if xs.length ≤ 100000 then mpure (xs.mergeSort (leOf lt)) else mbad
theorem t_sorted {α : Type} [DecidableEq α] {e : α → D} {n : Nat} {lt : α → α → Bool} [Ev e n] [Or e lt] [Sb e] (hn : n ≤ 50) (xs : List α) (h : xs.length ≤ 100000) {d : D} {st : Sto} (hd : seqOf st d = some (xs.map e)) : pSorted st [d] = some ((xs.mergeSort (leOf lt)).map e) := by
  unfold pSorted
  simp only [hd]
  rw [if_pos]
  · congr 1
    unfold sortD
    rw [← List.map_mergeSort (r := leOf lt)]
    intro a _ b _
    show (!lt b a) = !PySem.W.dataLt (toP (e b)) (toP (e a))
    rw [Or.lt]
  · refine ⟨by rw [List.length_map]; exact h, fun x hx => ?_, fun x hx y hy => ?_, ?_⟩
    · obtain ⟨a, _, rfl⟩ := List.mem_map.mp hx
      exact ⟨Ev.p a, Nat.le_trans (Ev.dep (e := e) a) hn⟩
    · rw [List.map_map] at hx hy
      obtain ⟨a, _, rfl⟩ := List.mem_map.mp hx
      obtain ⟨b, _, rfl⟩ := List.mem_map.mp hy
      exact Or.al a b
    · rcases Sb.sb (e := e) with q | q
      · refine .inl fun d hd => ?_
        rw [List.map_map] at hd
        obtain ⟨a, _, rfl⟩ := List.mem_map.mp hd
        exact q a
      · refine .inr fun d hd => ?_
        rw [List.map_map] at hd
        obtain ⟨a, _, rfl⟩ := List.mem_map.mp hd
        exact q a
end
def enumZ {α : Type} (n : Nat) : List α → List (Int × α)
  | [] => []
  | x :: r => ((n : Int), x) :: enumZ (n + 1) r
theorem enumD_map {α : Type} (e : α → D) : ∀ (xs : List α) (n : Nat), enumD n (xs.map e) = (enumZ n xs).map (eP eI e)
  | [], _ => rfl
  | x :: r, n => by rw [List.map_cons, enumD, enumZ, List.map_cons, enumD_map e r] <;> rfl
section
variable {S : Type} {W : Wd S} {fr : Sto} {Γ : List Sl}
section
variable {α β : Type} {e : α → D} {f : β → D} {m m2 : Rho → M D} {q : Mt S (List α)} {q2 : Mt S (List β)} {Γ' : List α → List Sl}
theorem sT (xs : List α) (st : Sto) : srcOf st (eT e xs) = some (eSrc e xs) := rfl
theorem sL (xs : List α) (st : Sto) : srcOf st (eL e xs) = some (eSrc e xs) := rfl
theorem src_seq {en : List α → D} (hs : ∀ xs st, srcOf st (en xs) = some (eSrc e xs)) (h : HT W fr Γ m q en Γ') : HT W fr Γ (iSeq m) q (eSrc e) Γ' := fun s ρ st H => by
  unfold iSeq
  have := OR.bind (f := fun d st1 => lift (srcOf st1 d) st1) (k := mpure) (e' := eSrc e) (Γ'' := Γ') (h s ρ st H) fun xs s1 st1 H1 => by
    refine ⟨st1, ?_, H1⟩
    rw [hs xs st1] <;> rfl
  have e1 : rbind (q s) mpure = q s := congrFun (mbind_ret q) s
  rw [e1] at this
  exact this
theorem src_enum {en : List α → D} (hs : ∀ xs st, srcOf st (en xs) = some (eSrc e xs)) (h : HT W fr Γ m q en fun _ => Γ) : HT W fr Γ (iEnumD m) (mbind q fun xs => mpure (enumZ 0 xs)) (eSrc (eP eI e)) fun _ => Γ := fun s ρ st H => by
  unfold iEnumD
  refine OR.bind (h s ρ st H) fun xs s1 st1 H1 => ?_
  refine ⟨st1, ?_, H1⟩
  rw [hs xs st1, lift_some, Out.bind_ok]
  show Out.ok (⟨enumD 0 (xs.map e), []⟩ : Src) st1 = _
  rw [enumD_map] <;> rfl
end
theorem src_rng1 {m : Rho → M D} {q : Mt S Int} (h : HT W fr Γ m q eI fun _ => Γ) : HT W fr Γ (iRng1D m) (mbind q fun n => mrng 0 n) (eSrc eI) fun _ => Γ := fun s ρ st H => by
  unfold iRng1D
  refine OR.bind (h s ρ st H) fun n s1 st1 H1 => ?_
  unfold mrng
  by_cases hc : -(2 ^ 62) ≤ (0 : Int) ∧ (0 : Int) < 2 ^ 62 ∧ -(2 ^ 62) ≤ n ∧ n < 2 ^ 62
  · rw [if_pos hc]
    refine ⟨st1, ?_, H1⟩
    show lift (rng1 (.int n)) st1 = _
    unfold rng1
    dsimp only
    rw [if_pos hc.2.2, lift_some]
    have := rngD_rngI 0 n
    rw [Int.sub_zero] at this
    rw [this] <;> rfl
  · rw [if_neg hc]; trivial
theorem intsOf_eI : ∀ xs : List Int, intsOf (xs.map eI) = some xs
  | [] => rfl
  | x :: xs => by
    show (intsOf (xs.map eI)).map (x :: ·) = _
    rw [intsOf_eI xs] <;> rfl
section
variable {α : Type} {e : α → D} {i : Nat} {xs : List α}
theorem onL_ref {st : Sto} {l : Nat} {ys : List D} {f : Nat → List D → Out D} (h : st[l]? = some (.lst ys)) : onL st (.ref l) f = f l ys := by
  unfold onL
  dsimp only
  rw [h]
theorem isTy_ref {st : Sto} {l : Nat} {ys : List D} (h : st[l]? = some (.lst ys)) : (D.ref l).isTy st "list" := ⟨rfl, ys, h⟩
theorem mMeth_one {p : D → List D → M D} {m : Rho → M D} {ρ : Rho} {st st1 : Sto} {l : Nat} {d : D} {ys : List D} (h1 : ρ[i]? = some (some (.ref l))) (h2 : st[l]? = some (.lst ys)) (h3 : m ρ st = .ok d st1) : mMeth "list" p (mVar i) (mCons m mNil) ρ st = nox (p (.ref l) [d] st1) := by
  have e1 : mVar i ρ st = .ok (.ref l) st := by unfold mVar; rw [h1]
  unfold mMeth
  rw [e1, Out.bind_ok, if_pos (isTy_ref h2)]
  unfold mCons mNil
  rw [h3] <;> rfl
theorem ht_append {m : Rho → M D} {q : Mt S α} (hi : Γ[i]? = some (.mut (.lst (xs.map e)))) (h : HT W fr Γ m q e fun _ => Γ) :
    HT W fr Γ (mMeth "list" pAppend (mVar i) (mCons m mNil)) (mbind q fun x => mapp xs x) (fun _ => .non) fun ys => Γ.set i (.mut (.lst (ys.map e))) := fun s ρ st H => by
  obtain ⟨l, q1, q2, q3⟩ := H.mt i _ hi
  have h1 := h s ρ st H
  show OR W fr _ ρ _ _ (rbind (q s) _)
  revert h1
  induction (q s) with
  | ok x s1 =>
    rintro ⟨st1, e1, H1⟩
    rw [mMeth_one q1 q3 e1]
    obtain ⟨l', p1, p2, p3⟩ := H1.mt i _ hi
    rw [q1] at p1
    injection p1 with p1
    injection p1 with p1
    injection p1 with p1
    subst p1
    show OR W fr _ ρ _ _ (mapp xs x s1)
    unfold mapp
    by_cases hl : xs.length < 100000
    · rw [if_pos hl]
      refine ⟨st1.set l (.lst ((xs ++ [x]).map e)), ?_, H1.write _ hi q1⟩
      unfold pAppend
      rw [onL_ref p3]
      dsimp only
      rw [List.length_map, if_pos (show xs.length < SZ from hl)]
      simp
    · rw [if_neg hl]; trivial
  | exc x s1 =>
    rintro ⟨st1, e1, H1⟩
    refine ⟨st1, ?_, H1⟩
    have e1' : mVar i ρ st = .ok (.ref l) st := by unfold mVar; rw [q1]
    unfold mMeth
    rw [e1', Out.bind_ok, if_pos (isTy_ref q3)]
    unfold mCons
    rw [e1] <;> rfl
  | bad => intro _; trivial
  | amb P_ f_ ih_ => rintro ⟨n_, p_, h_⟩; exact ⟨n_, p_, ih_ n_ h_⟩
theorem ht_extend {m : Rho → M D} {q : Mt S (List α)} (hi : Γ[i]? = some (.mut (.lst (xs.map e)))) (h : HT W fr Γ m q (eL e) fun _ => Γ) :
    HT W fr Γ (mMeth "list" pExtend (mVar i) (mCons m mNil)) (mbind q fun ys => mcat xs ys) (fun _ => .non) fun ys => Γ.set i (.mut (.lst (ys.map e))) := fun s ρ st H => by
  obtain ⟨l, q1, q2, q3⟩ := H.mt i _ hi
  have h1 := h s ρ st H
  show OR W fr _ ρ _ _ (rbind (q s) _)
  revert h1
  induction (q s) with
  | ok ys s1 =>
    rintro ⟨st1, e1, H1⟩
    rw [mMeth_one q1 q3 e1]
    obtain ⟨l', p1, p2, p3⟩ := H1.mt i _ hi
    rw [q1] at p1
    injection p1 with p1
    injection p1 with p1
    injection p1 with p1
    subst p1
    show OR W fr _ ρ _ _ (mcat xs ys s1)
    unfold mcat
    by_cases hl : xs.length + ys.length ≤ 100000
    · rw [if_pos hl]
      refine ⟨st1.set l (.lst ((xs ++ ys).map e)), ?_, H1.write _ hi q1⟩
      unfold pExtend
      rw [onL_ref p3]
      show nox (if (xs.map e).length + (ys.map e).length ≤ SZ then _ else _) = _
      rw [List.length_map, List.length_map, if_pos (show xs.length + ys.length ≤ SZ from hl), ← List.map_append] <;> rfl
    · rw [if_neg hl]; trivial
  | exc x s1 =>
    rintro ⟨st1, e1, H1⟩
    refine ⟨st1, ?_, H1⟩
    have e1' : mVar i ρ st = .ok (.ref l) st := by unfold mVar; rw [q1]
    unfold mMeth
    rw [e1', Out.bind_ok, if_pos (isTy_ref q3)]
    unfold mCons
    rw [e1] <;> rfl
  | bad => intro _; trivial
  | amb P_ f_ ih_ => rintro ⟨n_, p_, h_⟩; exact ⟨n_, p_, ih_ n_ h_⟩
def mpop (xs : List α) : Mt S (α × List α) := match xs[xs.length - 1]? with
  | some y => mpure (y, xs.dropLast)
  | none => mbad
theorem ht_pop (hi : Γ[i]? = some (.mut (.lst (xs.map e)))) :
    HT W fr Γ (mMeth "list" pPop (mVar i) mNil) (mpop xs) (fun z => e z.1) fun z => Γ.set i (.mut (.lst (z.2.map e))) := fun s ρ st H => by
  obtain ⟨l, q1, q2, q3⟩ := H.mt i _ hi
  have e1 : mVar i ρ st = .ok (.ref l) st := by unfold mVar; rw [q1]
  have e2 : mMeth "list" pPop (mVar i) mNil ρ st = nox (pPop (.ref l) [] st) := by
    unfold mMeth
    rw [e1, Out.bind_ok, if_pos (isTy_ref q3)] <;> rfl
  rw [e2]
  unfold mpop
  cases h : xs[xs.length - 1]? with
  | none => trivial
  | some y =>
    refine ⟨st.set l (.lst (xs.dropLast.map e)), ?_, H.write _ hi q1⟩
    unfold pPop
    rw [onL_ref q3]
    dsimp only
    have : (xs.map e)[(xs.map e).length - 1]? = some (e y) := by rw [List.length_map, List.getElem?_map, h]; rfl
    rw [this]
    dsimp only
    rw [List.map_dropLast] <;> rfl
def mpopAt (xs : List α) (k : Int) : Mt S (α × List α) := if k = 0 then (match xs with
  | y :: r => mpure (y, r)
  | [] => mbad) else mbad
theorem ht_popAt {m : Rho → M D} (hi : Γ[i]? = some (.mut (.lst (xs.map e)))) (h : HV W fr Γ m (.int 0)) :
    HT W fr Γ (mMeth "list" pPopAt (mVar i) (mCons m mNil)) (mpopAt xs 0) (fun z => e z.1) fun z => Γ.set i (.mut (.lst (z.2.map e))) := fun s ρ st H => by
  obtain ⟨l, q1, q2, q3⟩ := H.mt i _ hi
  rw [mMeth_one q1 q3 (h s ρ st H)]
  unfold mpopAt
  rw [if_pos rfl]
  cases xs with
  | nil => trivial
  | cons y r =>
    refine ⟨st.set l (.lst (r.map e)), ?_, H.write _ hi q1⟩
    unfold pPopAt
    rw [onL_ref q3]
    dsimp only
    rw [if_pos (by constructor <;> decide)]
    have : seqIndex? 0 ((y :: r).map e).length = some 0 := by
      unfold seqIndex?
      simp
    rw [this]
    rfl
end
theorem ints_map (xs : List Int) : intsOf (xs.map eI) = some xs := intsOf_eI xs
theorem ht_remove {xs : List Int} {i : Nat} {m : Rho → M D} {q : Mt S Int} (hi : Γ[i]? = some (.mut (.lst (xs.map eI)))) (h : HT W fr Γ m q eI fun _ => Γ) :
    HT W fr Γ (mMeth "list" pRemove (mVar i) (mCons m mNil)) (mbind q fun x => if x ∈ xs then mpure (xs.eraseIdx (xs.idxOf x)) else mbad) (fun _ => .non) fun ys => Γ.set i (.mut (.lst (ys.map eI))) := fun s ρ st H => by
  obtain ⟨l, q1, q2, q3⟩ := H.mt i _ hi
  have h1 := h s ρ st H
  show OR W fr _ ρ _ _ (rbind (q s) _)
  revert h1
  induction (q s) with
  | ok x s1 =>
    rintro ⟨st1, e1, H1⟩
    rw [mMeth_one q1 q3 e1]
    obtain ⟨l', p1, p2, p3⟩ := H1.mt i _ hi
    rw [q1] at p1
    injection p1 with p1
    injection p1 with p1
    injection p1 with p1
    subst p1
    show OR W fr _ ρ _ _ ((if x ∈ xs then mpure (xs.eraseIdx (xs.idxOf x)) else mbad) s1)
    by_cases hl : x ∈ xs
    · rw [if_pos hl]
      refine ⟨st1.set l (.lst ((xs.eraseIdx (xs.idxOf x)).map eI)), ?_, H1.write _ hi q1⟩
      unfold pRemove
      rw [onL_ref p3]
      have hx : intsOf (xs.map eI) = some xs := ints_map xs
      show nox (match intsOf (xs.map eI) with
        | some ns => if x ∈ ns then Out.ok D.non (st1.set l (.lst ((ns.eraseIdx (ns.idxOf x)).map .int))) else .bad
        | none => .bad) = _
      rw [hx]
      dsimp only
      rw [if_pos hl] <;> rfl
    · rw [if_neg hl]; trivial
  | exc x s1 =>
    rintro ⟨st1, e1, H1⟩
    refine ⟨st1, ?_, H1⟩
    have e1' : mVar i ρ st = .ok (.ref l) st := by unfold mVar; rw [q1]
    unfold mMeth
    rw [e1', Out.bind_ok, if_pos (isTy_ref q3)]
    unfold mCons
    rw [e1] <;> rfl
  | bad => intro _; trivial
  | amb P_ f_ ih_ => rintro ⟨n_, p_, h_⟩; exact ⟨n_, p_, ih_ n_ h_⟩
end
end Dn
namespace Dn
open PySem PySem.Spec PyProof.Rows L2
section
variable {S : Type} {W : Wd S} {fr : Sto} {Γ Γ1 Γ2 : List Sl}
theorem ht_conv {β γ : Type} {m : Rho → M D} {q : Mt S β} {e : β → D} {e2 : γ → D} {f : β → γ} (h : HT W fr Γ m q e fun _ => Γ) (he : ∀ x, e x = e2 (f x)) : HT W fr Γ m (mbind q fun x => mpure (f x)) e2 fun _ => Γ := fun s ρ st H => by
  have := h s ρ st H
  show OR W fr _ ρ _ _ (rbind (q s) _)
  revert this
  induction (q s) with
  | ok b s' => rintro ⟨st', e1, h2⟩; exact ⟨st', by rw [e1, he], h2⟩
  | exc x s' => exact id
  | bad => exact id
  | amb P_ f_ ih_ => rintro ⟨n_, p_, h_⟩; exact ⟨n_, p_, ih_ n_ h_⟩
theorem af_tupE {α : Type} {e : α → D} {F : List D → M D} (xs : List α) (h : F [] = FTup (xs.map e)) : AC W fr Γ mNil F (mdisp xs) (eT e) fun _ => Γ := ac_if fun hl st => by
  rw [h]
  unfold FTup
  rw [List.length_map, if_pos hl] <;> rfl
theorem le_c {a b : Nat} (h : Nat.ble a b = true) : a ≤ b := Nat.le_of_ble_eq_true h
theorem lt_c {a b : Nat} (h : Nat.ble (a + 1) b = true) : a < b := Nat.le_of_ble_eq_true h
theorem hv_yes : HV W fr Γ bYes true := fun _ _ _ _ => rfl
theorem tn_skip {σ : Type} {z : σ} {J : σ → List Sl} (w : Wk Γ (J z)) : TN W fr Γ sNext (mpure z) J := fun s ρ st H => ⟨ρ, st, rfl, H.wk w⟩
theorem tl_endN {σ τ β : Type} {m : Rho → Sto → Fl} {q : Mt S τ} {J1 : τ → List Sl} {J : σ → List Sl} {enc : β → D} {f : τ → σ} (h : TN W fr Γ m q J1) (w : ∀ z, Wk (J1 z) (J (f z))) : TL W fr Γ m (mbind q fun z => mpure (.nx (f z))) J enc := fun s ρ st H => by
  have := h s ρ st H
  revert this
  show NR W fr J1 _ _ → LR W fr J enc _ (rbind (q s) _)
  induction (q s) with
  | ok z s' => rintro ⟨ρ', st', e, h2⟩; exact ⟨ρ', st', .inl e, h2.wk (w z)⟩
  | exc x s' => exact id
  | bad => exact id
  | amb P_ f_ ih_ => rintro ⟨n_, p_, h_⟩; exact ⟨n_, p_, ih_ n_ h_⟩
theorem tl_endF {σ τ β : Type} {m : Rho → Sto → Fl} {q : Mt S (τ ⊕ β)} {J1 : τ → List Sl} {J : σ → List Sl} {enc : β → D} {f : τ → σ} (h : TF W fr Γ m q J1 enc) (w : ∀ z, Wk (J1 z) (J (f z))) : TL W fr Γ m (mfinL q fun z => mpure (.nx (f z))) J enc := fun s ρ st H => by
  have := h s ρ st H
  revert this
  show FR W fr J1 enc _ _ → LR W fr J enc _ (rbind (q s) _)
  induction (q s) with
  | ok z s' =>
    cases z with
    | inl z => rintro ⟨ρ', st', e, h2⟩; exact ⟨ρ', st', .inl e, h2.wk (w z)⟩
    | inr b => exact id
  | exc x s' => exact id
  | bad => exact id
  | amb P_ f_ ih_ => rintro ⟨n_, p_, h_⟩; exact ⟨n_, p_, ih_ n_ h_⟩
theorem mNew_fl {l : Rho → M (List D)} {r : Rho → M (List D)} {F : Rho → List D → Sto → Fl} (ρ : Rho) (st : Sto) : (mCons (mNew l) r ρ st).fl ρ (F ρ) = (l ρ st).fl ρ fun xs st1 => (r ρ (st1 ++ [.lst xs])).fl ρ fun ds st2 => F ρ (.ref st1.length :: ds) st2 := by
  unfold mCons mNew
  cases l ρ st with
  | ok xs st1 => simp only [Out.bind_ok, Out.fl_ok]; cases r ρ (st1 ++ [.lst xs]) <;> rfl
  | exc _ _ => rfl
  | bad => rfl
end
end Dn
namespace Dn
open PySem PySem.Spec PyProof.Rows L2
variable [HzC]
section
variable {S α β γ σ : Type}
@[simp] theorem calmly_pure' (a : α) : calmly (mpure a : Mt S α) = mpure a := rfl
@[simp] theorem calmly_bad' : calmly (mbad : Mt S α) = mbad := rfl
@[simp] theorem mfin_inl (z : σ) (k : σ → Mt S β) : mfin (mpure (.inl z)) k = k z := rfl
@[simp] theorem mfin_inr (b : β) (k : σ → Mt S β) : mfin (mpure (.inr b)) k = mpure b := rfl
@[simp] theorem mfinL_inl (z : σ) (k : σ → Mt S (Lp γ β)) : mfinL (mpure (.inl z)) k = k z := rfl
@[simp] theorem mfinL_inr (b : β) (k : σ → Mt S (Lp γ β)) : mfinL (mpure (.inr b)) k = mpure (.rt b) := rfl
theorem forU_inv {body : α → σ → Mt S σ} (xs : List α) (z0 : σ) (f : List α → σ) (h0 : f [] = z0) (hb : ∀ pre x post, xs = pre ++ x :: post → body x (f pre) = mpure (f (pre ++ [x]))) : forU body xs z0 = mpure (f xs) := by
  suffices h : ∀ (post pre : List α), xs = pre ++ post → forU body post (f pre) = mpure (f xs) by
    rw [← h0]
    exact h xs [] rfl
  intro post
  induction post with
  | nil =>
    intro pre e
    rw [List.append_nil] at e
    rw [e] <;> rfl
  | cons x post ih =>
    intro pre e
    unfold forU
    rw [hb pre x post e, mbind_pure]
    exact ih (pre ++ [x]) (by rw [e]; simp)
theorem forX_find {body : α → Unit → Mt S (Lp Unit β)} (p : α → Bool) (b : α → β) : ∀ (xs : List α), (∀ x ∈ xs, body x () = mpure (if p x = true then .rt (b x) else .nx ())) → forX body xs () = mpure (match xs.find? p with
    | some x => .inr (b x)
    | none => .inl ())
  | [], _ => rfl
  | x :: xs, hb => by
    unfold forX
    rw [hb x (by simp), mbind_pure]
    cases h : p x
    · simp only [Bool.false_eq_true, if_false, List.find?_cons, h]
      exact forX_find p b xs fun y hy => hb y (by simp [hy])
    · simp only [if_true, List.find?_cons, h]
theorem compV_ok {c : α → Bool} {f : α → β} {xs : List α} (h : xs.length ≤ 100000) : compV (S := S) c f xs = mpure ((xs.filter c).map f) := if_pos h
theorem mapT_pure {f : α → Mt S β} (g : α → β) : ∀ xs : List α, (∀ x ∈ xs, f x = mpure (g x)) → mapT f xs = mpure (xs.map g)
  | [], _ => rfl
  | x :: xs, h => by
    unfold mapT
    rw [h x (by simp), mbind_pure, mapT_pure g xs fun y hy => h y (by simp [hy]), mbind_pure] <;> rfl
theorem compM_pure {c : α → Bool} {f : α → Mt S β} (g : α → β) {xs : List α} (hl : xs.length ≤ 100000) (h : ∀ x ∈ xs, c x = true → f x = mpure (g x)) : compM c f xs = mpure ((xs.filter c).map g) := by
  unfold compM
  rw [if_pos hl]
  exact mapT_pure g _ fun x hx => h x (List.mem_filter.mp hx).1 (List.mem_filter.mp hx).2
theorem compT_pure {f : α → Mt S (Option β)} (g : α → Option β) : ∀ xs : List α, (∀ x ∈ xs, f x = mpure (g x)) → compT f xs = mpure (xs.filterMap g)
  | [], _ => rfl
  | x :: xs, h => by
    unfold compT
    rw [h x (by simp), mbind_pure, compT_pure g xs fun y hy => h y (by simp [hy]), mbind_pure]
    cases e : g x <;> simp [List.filterMap_cons, e]
theorem compG_pure {c : α → Mt S Bool} {f : α → Mt S β} (p : α → Bool) (g : α → β) {xs : List α} (hl : xs.length ≤ 100000) (hc : ∀ x ∈ xs, c x = mpure (p x)) (hf : ∀ x ∈ xs, p x = true → f x = mpure (g x)) : compG c f xs = mpure ((xs.filter p).map g) := by
  unfold compG
  rw [if_pos hl, compT_pure (fun x => if p x = true then some (g x) else none)]
  · congr 1
    clear hl hc hf
    induction xs with
    | nil => rfl
    | cons x xs ih => cases e : p x <;> simp [List.filterMap_cons, e, ih]
  · intro x hx
    rw [hc x hx, mbind_pure]
    cases e : p x
    · rfl
    · rw [if_pos rfl, if_pos rfl, hf x hx e] <;> rfl
theorem filter_true {α : Type} (xs : List α) : xs.filter (fun _ => true) = xs := by simp
theorem midx_ok {xs : List α} {i : Int} {x : α} (h0 : 0 ≤ i) (h : xs[i.toNat]? = some x) : midx (S := S) xs i = mpure x := by
  have hl := (List.getElem?_eq_some_iff.mp h).1
  have e : ixN xs.length i = some i.toNat := by
    unfold ixN
    rw [if_pos h0, if_pos (by omega)]
  unfold midx atI
  rw [e]
  show mopt xs[i.toNat]? = _
  rw [h] <;> rfl
theorem midx_cons0 (x : α) (xs : List α) : midx (S := S) (x :: xs) 0 = mpure x := midx_ok (by decide) rfl
theorem midx_last {xs : List α} {x : α} (h : xs.getLast? = some x) : midx (S := S) xs (-1) = mpure x := by
  have hne : xs ≠ [] := fun q => by subst q; cases h
  have hl : 0 < xs.length := List.length_pos_iff.mpr hne
  have e : ixN xs.length (-1) = some (xs.length - 1) := by
    unfold ixN
    rw [if_neg (by decide), if_pos (by omega)]
    congr 1
    omega
  unfold midx atI
  rw [e]
  show mopt xs[xs.length - 1]? = _
  rw [← List.getLast?_eq_getElem?, h] <;> rfl
theorem mcat_ok {xs ys : List α} (h : xs.length + ys.length ≤ 100000) : mcat (S := S) xs ys = mpure (xs ++ ys) := if_pos h
theorem mapp_ok {xs : List α} {x : α} (h : xs.length < 100000) : mapp (S := S) xs x = mpure (xs ++ [x]) := if_pos h
theorem mdisp_ok {xs : List α} (h : xs.length ≤ 100000) : mdisp (S := S) xs = mpure xs := if_pos h
theorem msort_ok {lt : α → α → Bool} {xs : List α} (h : xs.length ≤ 100000) : msort (S := S) lt xs = mpure (xs.mergeSort (leOf lt)) := if_pos h
theorem mrepT_ok {x : α} {k : Int} (h0 : 0 ≤ k) (h : k ≤ 1000) : mrepT (S := S) [x] k = mpure (List.replicate k.toNat x) := by
  unfold mrepT
  rw [if_pos ⟨by simp, by omega, h⟩]
  congr 1
  generalize k.toNat = n
  induction n with
  | zero => rfl
  | succ n ih => rw [List.replicate_succ, List.flatten_cons, ih] <;> rfl
def upto (n : Nat) : List Int := (List.range n).map fun i : Nat => (i : Int)
theorem upto_length (n : Nat) : (upto n).length = n := by simp [upto]
theorem mem_upto {n : Nat} {a : Int} : a ∈ upto n ↔ 0 ≤ a ∧ a < n := by
  unfold upto
  simp only [List.mem_map, List.mem_range]
  constructor
  · rintro ⟨i, h, rfl⟩; omega
  · intro ⟨h1, h2⟩; exact ⟨a.toNat, by omega, by omega⟩
theorem rngI_upto (n : Int) : rngI 0 n = upto n.toNat := by
  unfold rngI upto
  rw [Int.sub_zero]
  congr 1
  funext i
  exact Int.zero_add _
theorem mrng_ok {n : Int} (h : n ≤ 1000000000) (h0 : -1000000000 ≤ n) : mrng (S := S) 0 n = mpure (upto n.toNat) := by
  unfold mrng
  have e1 : (2 : Int) ^ 62 = 4611686018427387904 := by decide
  rw [if_pos (by rw [e1]; omega), rngI_upto]
theorem mrng_nat (n : Nat) (h : n ≤ 1000000000) : mrng (S := S) 0 (n : Int) = mpure (upto n) := by rw [mrng_ok (by omega) (by omega), Int.toNat_natCast]
theorem enumZ_get : ∀ (xs : List α) (n i : Nat), (enumZ n xs)[i]? = xs[i]?.map fun x => (((n + i : Nat) : Int), x)
  | [], _, _ => by simp [enumZ]
  | x :: xs, n, 0 => by simp [enumZ]
  | x :: xs, n, i + 1 => by
    rw [enumZ, List.getElem?_cons_succ, enumZ_get xs (n + 1) i, List.getElem?_cons_succ]
    rw [show n + 1 + i = n + (i + 1) by omega]
theorem enumZ_length : ∀ (xs : List α) (n : Nat), (enumZ n xs).length = xs.length
  | [], _ => rfl
  | x :: xs, n => by rw [enumZ, List.length_cons, enumZ_length xs, List.length_cons]
theorem mem_enumZ {xs : List α} {n : Nat} {p : Int × α} (h : p ∈ enumZ n xs) : ∃ i : Nat, xs[i]? = some p.2 ∧ p.1 = ((n + i : Nat) : Int) := by
  obtain ⟨i, hi⟩ := List.getElem?_of_mem h
  rw [enumZ_get] at hi
  cases e : xs[i]? with
  | none => rw [e] at hi; cases hi
  | some x =>
    rw [e] at hi
    cases hi
    exact ⟨i, e, rfl⟩
theorem upto_get (n i : Nat) : (upto n)[i]? = if i < n then some (i : Int) else none := by
  unfold upto
  rw [List.getElem?_map]
  by_cases h : i < n
  · rw [List.getElem?_range h, if_pos h] <;> rfl
  · rw [List.getElem?_eq_none (by simpa using h), if_neg h] <;> rfl
theorem enumZ_upto (n : Nat) (w : Int → α) : enumZ 0 ((upto n).map w) = (upto n).map fun i => (i, w i) := by
  apply List.ext_getElem?
  intro i
  rw [enumZ_get, List.getElem?_map, List.getElem?_map, upto_get, Nat.zero_add]
  by_cases h : i < n
  · simp [h]
  · simp [h]
end
end Dn
namespace Dn
open PySem PySem.Spec PyProof.Rows L2
theorem kb_int_str : kitB "int" "str" = some false := by decide +kernel
theorem kb_int_tuple : kitB "int" "tuple" = some false := by decide +kernel
theorem kb_bool_str : kitB "bool" "str" = some false := by decide +kernel
theorem kb_bool_tuple : kitB "bool" "tuple" = some false := by decide +kernel
theorem kb_str_str : kitB "str" "str" = some true := by decide +kernel
theorem kb_str_tuple : kitB "str" "tuple" = some false := by decide +kernel
theorem kb_tuple_str : kitB "tuple" "str" = some false := by decide +kernel
theorem kb_tuple_tuple : kitB "tuple" "tuple" = some true := by decide +kernel
theorem kb_list_str : kitB "list" "str" = some false := by decide +kernel
theorem kb_list_tuple : kitB "list" "tuple" = some false := by decide +kernel
section
variable {S : Type} {W : Wd S} {fr : Sto} {Γ : List Sl}
theorem ht_unopt {α : Type} {m : Rho → M D} {o : Option α} {e : α → D} (h : HV W fr Γ m (eO e o)) : HT W fr Γ m (mopt o) e fun _ => Γ := fun s ρ st H => by
  cases o with
  | none => trivial
  | some x => exact ⟨st, h s ρ st H, H⟩
end
section
variable {α β : Type} {dp bk n : Nat}
end
theorem nodup_len_sub {l m : List Int} (hn : l.Nodup) : (∀ a ∈ l, a ∈ m) → l.length ≤ m.length := by
  induction l generalizing m with
  | nil => intro _; exact Nat.zero_le _
  | cons a l ih =>
    intro h
    have h1 := ih (m := m.erase a) (List.nodup_cons.mp hn).2 fun b hb => (List.mem_erase_of_ne (fun q => (List.nodup_cons.mp hn).1 (by rw [← q]; exact hb))).mpr (h b (by simp [hb]))
    have h2 : a ∈ m := h a (by simp)
    rw [List.length_erase_of_mem h2] at h1
    have := List.length_pos_of_mem h2
    rw [List.length_cons]
    omega
theorem nodup_upto (n : Nat) : (upto n).Nodup := by
  unfold upto
  exact List.Pairwise.map _ (fun _ _ h q => h (by omega)) List.nodup_range
theorem sorted_upto (n : Nat) : (upto n).Pairwise (· < ·) := by
  unfold upto
  exact List.Pairwise.map _ (fun _ _ h => by omega) List.pairwise_lt_range
def rowAt (pan : List (List Int)) (b : Int) : List Int := pan.getD b.toNat []
theorem midx_row {S : Type} {pan : List (List Int)} {b : Int} (h0 : 0 ≤ b) (h : b < pan.length) : midx (S := S) pan b = mpure (rowAt pan b) := by
  have hl : b.toNat < pan.length := by omega
  refine midx_ok h0 ?_
  unfold rowAt
  rw [List.getElem?_eq_getElem hl, List.getD_eq_getElem?_getD, List.getElem?_eq_getElem hl] <;> rfl
theorem midx_getD {S α : Type} {xs : List α} {b : Int} (d : α) (h0 : 0 ≤ b) (h : b < xs.length) : midx (S := S) xs b = mpure (xs.getD b.toNat d) := by
  have hl : b.toNat < xs.length := by omega
  refine midx_ok h0 ?_
  rw [List.getElem?_eq_getElem hl, List.getD_eq_getElem?_getD, List.getElem?_eq_getElem hl] <;> rfl
theorem getD_mem {α : Type} {xs : List α} {b : Int} (d : α) (h0 : 0 ≤ b) (h : b < xs.length) : xs.getD b.toNat d ∈ xs := by
  have hl : b.toNat < xs.length := by omega
  rw [List.getD_eq_getElem?_getD, List.getElem?_eq_getElem hl]
  exact List.getElem_mem hl
structure Pan (K : Nat) (pan : List (List Int)) : Prop where
  pos : 1 ≤ pan.length
  le : pan.length ≤ K
  len : ∀ r ∈ pan, r.length ≤ K
  rng : ∀ r ∈ pan, ∀ a ∈ r, 0 ≤ a ∧ a < (pan.length : Int)
theorem Pan.row {K : Nat} {pan : List (List Int)} (h : Pan K pan) {b : Int} (h0 : 0 ≤ b) (h1 : b < pan.length) : rowAt pan b ∈ pan := getD_mem [] h0 h1
def relabelS (scope sc : Scope) : Scope :=
  { scope with names := scope.names.map fun (n, k) => if (k == .free && sc.kind == .function && sc.names.lookup n == some .cell) then (n, .cell) else (n, k) }
theorem blk_in {X : Cx} {s : Shared} {H : Hp} {scope1 scope2 : Scope} {cl : List (Str × Addr)} {C : Addr} {fp : List Addr} {N : List Str} {sc : Scope} {own : List (Str × Nat)} (hN : X.N = N) (hs : X.env.scope = sc) (h : blkC N (relabelS scope1 sc) scope2 own = true) :
    BlkOk (X.blk s H scope1 (compEnvC scope1 cl C X.env) fp).N (X.blk s H scope1 (compEnvC scope1 cl C X.env) fp).env.scope scope2 own := by
  subst hN
  subst hs
  exact blkOk_by h
def Bel (n : Nat) (r : List Int) : Prop := ∀ a ∈ r, 0 ≤ a ∧ a < (n : Int)
end Dn
namespace Dn
open PySem PySem.Spec PyProof.Rows L2
section
variable {S : Type} {W : Wd S} {fr : Sto} {Γ : List Sl} {α β : Type} {e : α → D} {enc : β → D} {gf : D → Rho → M Rho} {mt : Rho → M Bool} {me : Rho → M D} {vs js : List Nat} {G : α → List Sl} {i : Nat}
theorem lcL_TM {f : α → Mt S (Option β)} {ρ : Rho} {l : Nat} {zs : List D} (hi : (Γ[i]?).bind Sl.rd = some (.lst zs)) (hρ : ρ[i]? = some (some (.ref l))) (hf : ∀ x s st, Has W fr s Γ ρ st → OR W fr (fun _ => Γ) ρ (fun o : Option β => o.map enc) (lcF gf mt me (wipeD ρ vs) (e x) st) (f x s)) :
    ∀ (xs : List α) s st, Has W fr s Γ ρ st → OR W fr (fun _ => Γ) ρ (fun ys : List β => ys.map enc) (lcL [(l, zs)] (lcF gf mt me (wipeD ρ vs)) (xs.map e) st) (compT f xs s) := by
  have held : ∀ s st, Has W fr s Γ ρ st → heldOk [(l, zs)] st := fun s st H => by
    obtain ⟨l', q1, _, q3⟩ := H.rd i _ hi
    rw [hρ] at q1
    cases q1
    exact (heldOk_one _ _ _).mpr q3
  intro xs
  induction xs with
  | nil =>
    intro s st H
    rw [List.map_nil]
    unfold lcL
    rw [if_pos (held s st H)]
    exact ⟨st, rfl, H⟩
  | cons x xs ih =>
    intro s st H
    rw [List.map_cons]
    unfold lcL
    rw [if_pos (held s st H)]
    refine OR.bind (hf x s st H) fun o s1 st1 H1 => ?_
    refine OR.bind (ih s1 st1 H1) fun ys s2 st2 H2 => ?_
    refine ⟨st2, ?_, H2⟩
    cases o <;> simp
theorem ht_compGL {xs : List α} {c : α → Mt S Bool} {f : α → Mt S β} {Γw : List Sl} (hi : (Γ[i]?).bind Sl.rd = some (.lst (xs.map e))) (hw : wipeG Γ vs = Γw) (hg : ∀ x, GT1 W fr Γw gf (e x) (G x) js) (hjs : ∀ j, j ∈ js → j ∈ vs) (hk : ∀ x, Kp vs Γ (G x))
    (hc : ∀ x, HT W fr (G x) mt (c x) id fun _ => G x) (hf : ∀ x, HT W fr (G x) me (f x) enc fun _ => G x) : HT W fr Γ (lLc (iSeq (mVar i)) gf mt me vs) (calmly (compG c f xs)) (fun ys : List β => ys.map enc) fun _ => Γ := fun s ρ st H => by
  obtain ⟨l, q1, _, q3⟩ := H.rd i _ hi
  have es : iSeq (mVar i) ρ st = .ok ⟨xs.map e, [(l, xs.map e)]⟩ st := by
    unfold iSeq mVar
    rw [q1]
    show lift (srcOf st (.ref l)) st = _
    unfold srcOf
    dsimp only
    rw [q3] <;> rfl
  unfold lLc
  rw [es, Out.bind_ok]
  dsimp only
  show OR W fr _ ρ _ (if (xs.map e).length ≤ SZ then nox (lcL [(l, xs.map e)] (lcF gf mt me (wipeD ρ vs)) (xs.map e) st) else .bad) (rcalm (compG c f xs s))
  unfold compG
  rw [List.length_map]
  by_cases hl : xs.length ≤ 100000
  · rw [if_pos hl, if_pos (show xs.length ≤ SZ from hl)]
    exact calm_OR (lcL_TM hi q1 (fun x s st H => lcF_T hw (hg x) hjs (hk x) (hc x) (hf x) s ρ st H) xs s st H)
  · rw [if_neg hl, if_neg (show ¬ xs.length ≤ SZ from hl)]
    trivial
end
section
variable {S : Type} {W : Wd S} {fr : Sto} {Γ : List Sl} {α : Type} [DecidableEq α] {e : α → D} {n : Nat}
theorem toPs_map' {α : Type} (e : α → D) : ∀ xs : List α, toPs (xs.map e) = xs.map fun x => toP (e x)
  | [] => rfl
  | x :: xs => by rw [List.map_cons, toPs, toPs_map' e xs] <;> rfl
theorem dep_all [Ev e n] : ∀ xs : List α, PyData.depthAll (toPs (xs.map e)) ≤ n
  | [] => Nat.zero_le _
  | x :: xs => by
    rw [List.map_cons, toPs, PyData.depthAll]
    exact Nat.max_le.mpr ⟨Ev.dep x, dep_all xs⟩
def mcountD (e : α → D) (xs : List α) (y : α) : Mt S Int := if PyData.canLayAll0 (toPs (xs.map e)) = true ∧ (toP (e y)).canLay0 = true then mpure (xs.count y : Nat) else mbad
theorem countD_e [Ev e n] (hn : n < 60) {xs : List α} {y : α} (h1 : PyData.canLayAll0 (toPs (xs.map e)) = true) (h2 : (toP (e y)).canLay0 = true) : countD (xs.map e) (e y) = some (.int (xs.count y : Nat)) := by
  unfold countD
  have hd := dep_all (e := e) xs
  have hy := Ev.dep (e := e) y
  rw [if_pos ⟨isPs_of Ev.p xs, Ev.p y, shaped_of (by rw [PyData.canLay0]; exact h1) (by rw [PyData.depth]; omega), shaped_of h2 (by omega)⟩, toPs_map', List.countP_map]
  have : ((fun z => PyData.eqv z (toP (e y))) ∘ fun x => toP (e x)) = fun b => decide (b = y) := by
    funext b
    exact Ev.eq b y
  rw [this]
  congr 2
theorem ht_countT [Ev e n] {mo m : Rho → M D} {xs : List α} {y : α} (hn : n < 60) (h1 : HV W fr Γ mo (eT e xs)) (h2 : HV W fr Γ m (e y)) : HT W fr Γ (mMethT pCountT mo (mCons m mNil)) (mcountD e xs y) eI fun _ => Γ := fun s ρ st H => by
  unfold mcountD
  split
  · rename_i hl
    refine ⟨st, ?_, H⟩
    unfold mMethT mCons mNil
    rw [h1 s ρ st H, Out.bind_ok]
    show ((m ρ st).bind _).bind _ = _
    rw [h2 s ρ st H]
    show nox (lift (countD (xs.map e) (e y)) st) = _
    rw [countD_e hn hl.1 hl.2] <;> rfl
  · trivial
theorem mcount_ok {xs : List α} {y : α} (h : ∀ x ∈ y :: xs, (toP (e x)).canLay0 = true) : mcountD (S := S) e xs y = mpure ((xs.count y : Nat) : Int) := by
  unfold mcountD
  rw [if_pos]
  refine ⟨?_, h y (by simp)⟩
  have h2 : ∀ x ∈ xs, (toP (e x)).canLay0 = true := fun x hx => h x (by simp [hx])
  clear h
  induction xs with
  | nil => rfl
  | cons x xs ih => rw [List.map_cons, toPs, PyData.canLayAll0, h2 x (by simp), ih fun z hz => h2 z (by simp [hz])] <;> rfl
end
section
variable {S : Type} {W : Wd S} {fr : Sto} {Γ : List Sl} {σ β : Type} {J : σ → List Sl} {enc : β → D} {c : Rho → Sto → Fl}
theorem tl_nextR {q : Mt S (Lp σ β)} (h : TL W fr Γ c q J enc) : TL W fr Γ (sSeq sNext c) q J enc := fun s ρ st H => h s ρ st H
theorem tr_nextR {q : Mt S β} (h : TR W fr Γ c q enc) : TR W fr Γ (sSeq sNext c) q enc := fun s ρ st H => h s ρ st H
end
section
variable {S : Type} {W : Wd S} {fr : Sto} {Γ : List Sl}
end
section
variable {S : Type} {W : Wd S} {fr : Sto} {Γ : List Sl}
theorem strsOf_eS : ∀ ys : List Str, strsOf (ys.map eS) = some ys
  | [] => rfl
  | y :: ys => by
    show (strsOf (ys.map eS)).map (y :: ·) = _
    rw [strsOf_eS ys] <;> rfl
end
section
variable {S : Type} {W : Wd S} {fr : Sto} {Γ : List Sl}
end
end Dn
namespace Dn
open PySem PySem.Spec PyProof.Rows L2
end Dn
namespace Dn
open PySem PySem.Spec PyProof.Rows L2
abbrev Kv (α : Type) := List (List Int × α)
section
variable {α : Type}
def eK (kv : Kv α) : List (List Int) := kv.map Prod.fst
def eW (e : α → D) (kv : Kv α) : List D := kv.map fun p => e p.2
def eDc (e : α → D) (kv : Kv α) : D := .fd (eK kv) (eW e kv)
theorem low_eW {e : α → D} (he : ∀ x n, (e x).low n = true) (n : Nat) : ∀ kv : Kv α, D.lows n (eW e kv) = true
  | [] => by show D.lows n [] = true; simp only [D.lows]
  | p :: ps => by
    show D.lows n (e p.2 :: eW e ps) = true
    simp only [D.lows, Bool.and_eq_true]
    exact ⟨he _ _, low_eW he n ps⟩
end
class Lo {α : Type} (e : α → D) : Prop where
  lo : ∀ x n, (e x).low n = true
instance (priority := low) {α : Type} {e : α → D} [Pl e] : Lo e := ⟨fun x n => low_of_isP n _ (Pl.p x)⟩
instance {α : Type} {e : α → D} [Lo e] : Lo (eDc e) := ⟨fun x n => by
  unfold eDc
  rw [D.low]
  exact low_eW Lo.lo n x⟩
section
variable {S : Type} {W : Wd S} {fr : Sto} {Γ : List Sl} {α : Type} {e : α → D} {i : Nat} {m mi mk mv : Rho → M D}
section
variable {σ β : Type} {enc : β → D} {J : σ → List Sl} {ks : List (List Int)} {xs : List D} {m : Rho → Sto → Fl}
end
end
end Dn
namespace Dn
open PySem PySem.Spec PyProof.Rows L2
variable [HzC]
def ErrX (K : PySem.W.Frag) (mg : Str → Option Value) (x : Str) : Prop := ∃ C, ErrN K mg x C
section
variable {X : Cx} {x : Xc} {e : D} {a : Addr} {oe : Obj} {pn : List (Addr × Obj)} {i : Nat} {p p2 p3 p4 p5 pos : Pos} {yes no : List Str} {y z ev : Str} {kk : Nat}
end
section
variable {S : Type} {W : Wd S} {fr : Sto} {Γ : List Sl} {β : Type} {enc : β → D}
theorem tr_never : TR W fr Γ sNever (mbad : Mt S β) enc := fun s ρ st H => trivial
end
def eQ {α β : Type} (e : α → D) (f : β → D) (z : α × β) : D := .lst [e z.1, f z.2]
instance {α β : Type} {e : α → D} {f : β → D} [Pl e] [Pl f] : Pl (eQ e f) := ⟨fun z => by unfold eQ; simp only [isP, isPs, Pl.p, Bool.and_self]⟩
instance {α β : Type} [DecidableEq α] [DecidableEq β] {e : α → D} {f : β → D} {n m : Nat} [Ev e n] [Ev f m] : Ev (eQ e f) (max n m + 1) := ⟨fun z => by unfold eQ; simp only [isP, isPs, Ev.p, Bool.and_self], fun z => by
  unfold eQ
  have h1 := Ev.dep (e := e) z.1
  have h2 := Ev.dep (e := f) z.2
  simp only [toP, toPs, PyData.depth, PyData.depthAll]
  omega, fun x y => by
  unfold eQ
  simp only [toP, toPs, PyData.eqv, PyData.eqvAll, Ev.eq]
  rw [Bool.eq_iff_iff]
  simp [Prod.ext_iff]⟩
end Dn
namespace Dn
open PySem PySem.Spec PyProof.Rows L2
section
variable {S : Type} {W : Wd S} {fr : Sto} {Γ : List Sl} {α β : Type}
end
inductive CV where
  | two (w : Str) (xs : List Int) | three (w : Str) (b : Int) (ms : List Int)
def eCV : CV → D
  | .two w xs => eP eS (eT eI) (w, xs)
  | .three w b ms => eP3 eS eI (eT eI) (w, b, ms)
def CV.w : CV → Str
  | .two w _ => w
  | .three w _ _ => w
def CV.len : CV → Int
  | .two _ _ => 2
  | .three _ _ _ => 3
instance : Pl eCV := ⟨fun v => by
  cases v with
  | two w xs => exact Pl.p (e := eP eS (eT eI)) (w, xs)
  | three w b ms => exact Pl.p (e := eP3 eS eI (eT eI)) (w, b, ms)⟩
section
variable {S : Type} {W : Wd S} {fr : Sto} {Γ : List Sl}
end
section
variable {S : Type} {W : Wd S} {fr : Sto} {Γ : List Sl} {β γ : Type} {enc : β → D} {enc' : γ → D}
end
section
variable {S : Type} {W : Wd S} {fr : Sto} {Γ : List Sl}
end
end Dn
namespace Dn
open PySem PySem.Spec PyProof.Rows L2
def MaskB (m : Nat) : Prop := m = 7 ∨ m = 31 ∨ m = 127 ∨ m = 511 ∨ m = 2047
theorem inB_way (m : Nat) (h : Int) (k : Nat) : way m h k ≤ m := by
  have hi : SetTable.bits h % (m + 1) < m + 1 := Nat.mod_lt _ (Nat.succ_pos _)
  have r := runEnd_bd (Nat.le_of_lt_succ hi)
  refine Nat.le_trans (Nat.le_add_right _ _) (nth_in k (runAt m (SetTable.bits h % (m + 1)) (SetTable.bits h)) ?_)
  show SetTable.bits h % (m + 1) + (SetTable.runEnd m (SetTable.bits h % (m + 1)) - SetTable.bits h % (m + 1)) ≤ m
  omega
structure TbB (t : SetTable) (hs : List Int) : Prop where
  ris : Ris t.place.toList
  dm : t.dummies = #[]
  len : t.place.toList.length = hs.length
  mask : MaskB t.mask
  bd : ∀ x ∈ t.place.toList, x ≤ t.mask
  met : ∀ q ∈ hs.zip t.place.toList, ∃ k, way t.mask q.1 k = q.2 ∧ ∀ k', k' < k → way t.mask q.1 k' ∈ t.place.toList
theorem zip_cut {α β : Type} {A : List α} {B : List β} (hl : A.length = B.length) {p : Nat} {x : α} {y : β} {q : α × β} (h : q ∈ (A.take p ++ x :: A.drop p).zip (B.take p ++ y :: B.drop p)) : q = (x, y) ∨ q ∈ A.zip B := by
  have e : (A.take p).length = (B.take p).length := by rw [List.length_take, List.length_take, hl]
  have z : A.zip B = (A.take p).zip (B.take p) ++ (A.drop p).zip (B.drop p) := by
    rw [← List.zip_append e, List.take_append_drop, List.take_append_drop]
  rw [List.zip_append e, List.zip_cons_cons, List.mem_append, List.mem_cons] at h
  rw [z, List.mem_append]
  rcases h with h | h | h
  · exact .inr (.inl h)
  · exact .inl h
  · exact .inr (.inr h)
theorem TbB.more {t : SetTable} {hs : List Int} (T : TbB t hs) {h : Int} {K j p : Nat} (ej : way t.mask h K = j) (ep : SetTable.below t.place j = p) (hK : j ∉ t.place.toList) (hb : ∀ k, k < K → way t.mask h k ∈ t.place.toList) :
    (t.put j).2 = p ∧ TbB (t.put j).1 (hs.take p ++ h :: hs.drop p) ∧ (t.put j).1.mask = t.mask ∧ (t.put j).1.led = t.led ∧ (t.put j).1.plain = t.plain := by
  have e1 : (t.put j).1.place.toList = t.place.toList.take p ++ j :: t.place.toList.drop p := by
    rw [put_place, ep]
  have hno : ¬ t.place[SetTable.below t.place j]? = some j := fun z => hK (by rw [← Array.getElem?_toList] at z; exact List.mem_of_getElem? z)
  have old : ∀ x ∈ t.place.toList, x ∈ (t.put j).1.place.toList := fun x hx => by
    rw [e1]
    exact mem_ins.mpr (.inr hx)
  have hpl : p ≤ t.place.toList.length := by
    rw [← ep, Array.length_toList]
    exact (below_cut T.ris j).1
  refine ⟨ep, { ris := ris_insert T.ris hno, dm := put_dm T.dm j, len := ?_, mask := T.mask, bd := fun x hx => ?_, met := fun q hq => ?_ }, rfl, rfl, rfl⟩
  · rw [e1, len_ins _ hpl, len_ins _ (by rw [← T.len]; exact hpl), T.len]
  · rw [e1] at hx
    rcases mem_ins.mp hx with rfl | hx
    · rw [← ej]; exact inB_way _ _ _
    · exact T.bd x hx
  · rw [e1] at hq
    rcases zip_cut T.len.symm hq with rfl | hq
    · exact ⟨K, ej, fun k hk => old _ (hb k hk)⟩
    · obtain ⟨k, a1, a2⟩ := T.met q hq
      exact ⟨k, a1, fun k' hk' => old _ (a2 k' hk')⟩
structure SetB (P : Program) (w : World) (h : Heap) (a : Addr) (L : List (Addr × List Int)) (es : Array (Int × Value)) (ep : Nat) (t : SetTable) : Prop where
  ob : ∃ o, h.get? a = some o ∧ o.ExactSet ∧ o.data = .set es ep t
  rw_ : es.toList = rowsOf P w L
  tb : TbB t (L.map fun p => thash P w p.2)
  once : (L.map (·.2)).Nodup
  tups : ∀ p ∈ L, IsT P w h p.2 p.1
  pv : t.plain = true
  lead : w.params.followText "set-order" = true ∨ t.led = true
  gap : L.length * 5 < t.mask * 3
  lim : L.length < 1200
section
variable {P : Program} {w : World} {A : Around} {E : Value → Shared → Prop} {s : Shared} {a : Addr} {L : List (Addr × List Int)} {es : Array (Int × Value)} {ep : Nat} {t : SetTable}
end
section
variable {P : Program} {w : World} {A : Around} {E : Value → Shared → Prop}
end
section
variable {P : Program} {w : World} {A : Around} {E : Value → Shared → Prop} {s : Shared}
end
end Dn
namespace Dn
open PySem PySem.Spec PyProof.Rows L2
variable [HzC]
section
variable {X : Cx} {W : WX} {a : Expr} {m : Rho → M D} {p p2 q pos : Pos}
end
section
variable {S : Type} {W : Wd S} {fr : Sto} {Γ : List Sl}
end
def inB {α : Type} [DecidableEq α] (x : α) (xs : List α) : Bool := decide (x ∈ xs)
section
variable {α : Type} [DecidableEq α] {e : α → D} {n : Nat}
end
section
variable {S : Type} {W : Wd S} {fr : Sto} {Γ : List Sl}
def noMut : List Sl → Bool
  | [] => true
  | .mut _ :: _ => false
  | .bor _ :: _ => false
  | _ :: r => noMut r
theorem noMut_not : ∀ {Γ : List Sl}, noMut Γ = true → ∀ m, Sl.mut m ∉ Γ
  | [], _, _, h => nomatch h
  | .any :: r, h, m, q => by
    rcases List.mem_cons.mp q with q | q
    · cases q
    · exact noMut_not (Γ := r) h m q
  | .val _ :: r, h, m, q => by
    rcases List.mem_cons.mp q with q | q
    · cases q
    · exact noMut_not (Γ := r) h m q
  | .mut _ :: _, h, _, _ => nomatch h
  | .bor _ :: _, h, _, _ => nomatch h
theorem noBor_not : ∀ {Γ : List Sl}, noMut Γ = true → ∀ m, Sl.bor m ∉ Γ
  | [], _, _, h => nomatch h
  | .any :: r, h, m, q => by
    rcases List.mem_cons.mp q with q | q
    · cases q
    · exact noBor_not (Γ := r) h m q
  | .val _ :: r, h, m, q => by
    rcases List.mem_cons.mp q with q | q
    · cases q
    · exact noBor_not (Γ := r) h m q
  | .mut _ :: _, h, _, _ => nomatch h
  | .bor _ :: _, h, _, _ => nomatch h
end
section
variable {S : Type} {W : Wd S} {fr : Sto} {Γ : List Sl} {α : Type} [DecidableEq α] {e : α → D} {n : Nat}
theorem ht_countX [Ev e n] {mo m : Rho → M D} {q : Mt S (List α)} {y : α} (hn : n < 60) (h1 : HT W fr Γ mo q (eT e) fun _ => Γ) (h2 : HV W fr Γ m (e y)) : HT W fr Γ (mMethT pCountT mo (mCons m mNil)) (mbind q fun xs => mcountD e xs y) eI fun _ => Γ := fun s ρ st H => by
  unfold mMethT
  exact OR.bind (h1 s ρ st H) fun xs s1 st1 H1 => ht_countT (mo := fun _ st => .ok (eT e xs) st) hn (fun _ _ _ _ => rfl) h2 s1 ρ st1 H1
end
section
variable {X : Cx} {W : WX} {k : Nat} {y : Str} {body suite : List Stmt} {b₀ : Stmt} {np pos pos' : Pos} {mb : Rho → Sto → Fl}
end
section
variable {X : Cx}
end
section
variable {S : Type} {W : Wd S} {fr : Sto} {Γ : List Sl}
end
section
variable {S : Type} {W : Wd S} {fr : Sto} {Γ : List Sl} {α : Type} {e : α → D}
end
section
variable {P : Program} {w : World} {A : Around} {E : Value → Shared → Prop} {s : Shared}
end
section
variable {X : Cx} {pos : Pos}
end
def gS (i : Nat) (gs : List D → Rho → M Rho) : D → Rho → M Rho := fun d ρ st => match d with
  | .tup xs => if i ≤ xs.length then gs (xs.take i ++ [.lst (xs.drop i)]) ρ st else .bad
  | _ => .bad
section
variable {X : Cx} {pos : Pos}
end
section
variable {S : Type} {W : Wd S} {fr : Sto} {Γ Γ1 : List Sl}
end
end Dn
namespace Dn
open PySem PySem.Spec PyProof.Rows L2
variable [HzC]
section
variable {P : Program} {w : World} {A : Around} {E : Value → Shared → Prop} {s : Shared} {a : Addr} {L : List (Addr × List Int)} {es : Array (Int × Value)} {ep : Nat} {t : SetTable}
end
section
variable {X : Cx} {W : WX} {a b : Expr} {m1 m2 : Rho → M D} {p p2 q q2 pos : Pos}
end
section
variable {S : Type} {W : Wd S} {fr : Sto} {Γ : List Sl}
end
section
variable {S : Type} {W : Wd S} {fr : Sto} {Γ : List Sl}
theorem or_under {A γ : Type} {pd : List (D × Sl)} {m : Rho → M A} {q1 : Mt S γ} {e1 : γ → A} (hn : noMut Γ = true) (h : ∀ fr', HT W fr' Γ m q1 e1 fun _ => Γ) {s : S} {ρ : Rho} {st : Sto}
    (H : Has W fr s (Γ ++ pd.map (·.2)) (ρ ++ pd.map fun p => some p.1) st) (hρ : ρ.length = Γ.length) : OR W fr (fun _ => Γ ++ pd.map (·.2)) (ρ ++ pd.map fun p => some p.1) e1 (m ρ st) (q1 s) := by
  have hno := noMut_not hn
  have h1 := h st s ρ st ⟨hρ, Pre.refl H.pre.has, (H.front hρ).val, fun i m q => absurd (List.mem_of_getElem? q) (hno m), fun i j m1 m2 q => absurd (List.mem_of_getElem? q) (hno m1), fun i m q => absurd (List.mem_of_getElem? q) (noBor_not hn m)⟩
  revert h1
  induction (q1 s) with
  | ok b s1 =>
    rintro ⟨st1, e2, H1⟩
    exact ⟨st1, e2, H.call H1.pre⟩
  | exc x s1 =>
    rintro ⟨st1, e2, p, hx⟩
    exact ⟨st1, e2, H.pre.trans p, hx⟩
  | bad => exact id
  | amb P_ f_ ih_ => rintro ⟨n_, p_, h_⟩; exact ⟨n_, p_, ih_ n_ h_⟩
theorem ap_NewTF {σ γ : Type} {pd : List (D × Sl)} {l : Rho → M (List D)} {r : Rho → M (List D)} {F : Rho → List D → Sto → Fl} {q1 : Mt S γ} {e1 : γ → List D} {k : γ → Mt S σ} {J : σ → List Sl} (hn : noMut Γ = true) (h : ∀ fr', HT W fr' Γ l q1 e1 fun _ => Γ)
    (hr : ∀ x a, AP W fr Γ (pd ++ [(.ref a, .mut (.lst (e1 x)))]) r (fun ρ ds => F ρ (.ref a :: ds)) (k x) J) : AP W fr Γ pd (mCons (mNew l) r) F (mbind q1 k) J := fun s ρ st H hρ => by
  have h2 := or_under hn h H hρ
  rw [mNew_fl]
  show NR W fr J _ (rbind (q1 s) k)
  revert h2
  induction (q1 s) with
  | ok b s1 =>
    rintro ⟨st1, e2, H1⟩
    rw [e2]
    refine hr b st1.length s1 ρ _ ?_ hρ
    have := H1.snocNew (.lst (e1 b))
    rw [List.append_assoc, List.append_assoc] at this
    rw [List.map_append, List.map_append]
    exact this
  | exc x s1 =>
    rintro ⟨st1, e2, hp, hx⟩
    rw [e2]
    exact ⟨ρ, st1, rfl, hp, hx⟩
  | bad => exact fun _ => trivial
  | amb P_ f_ ih_ => rintro ⟨n_, p_, h_⟩; exact ⟨n_, p_, ih_ n_ h_⟩
end
section
variable {S : Type} {W : Wd S} {fr : Sto} {Γ : List Sl}
def mcastS {S : Type} (d : D) : Mt S Str := match d with
  | .str x => mpure x
  | _ => mbad
def mcastT {S : Type} (d : D) : Mt S (List D) := match d with
  | .tup xs => mpure xs
  | _ => mbad
theorem or_cast {A α β : Type} {e : α → A} {f : α → Mt S β} {e2 : β → A} {ρ : Rho} (h : ∀ a b s, f a s = .ok b s → e a = e2 b) (hd : ∀ a s, (∃ b, f a s = .ok b s) ∨ f a s = .bad) {r : Out A} {q : Rs S α} (H : OR W fr (fun _ => Γ) ρ e r q) : OR W fr (fun _ => Γ) ρ e2 r (rbind q f) := by
  induction q with
  | ok a s' =>
    obtain ⟨st', e1, H1⟩ := H
    show OR W fr _ ρ e2 r (f a s')
    rcases hd a s' with ⟨b, hb⟩ | hb
    · rw [hb]
      exact ⟨st', by rw [e1, h a b s' hb], H1⟩
    · rw [hb]
      trivial
  | exc x s' => exact H
  | bad => trivial
  | amb P_ f_ ih_ => obtain ⟨n_, p_, h3⟩ := H; exact ⟨n_, p_, ih_ n_ h3⟩
theorem ht_castS {m : Rho → M D} {q : Mt S D} (h : HT W fr Γ m q eD fun _ => Γ) : HT W fr Γ m (mbind q mcastS) eS fun _ => Γ := fun s ρ st H => or_cast (fun a b s e => by
  cases a <;> first | (cases e; rfl) | cases e) (fun a s => by cases a <;> first | exact .inl ⟨_, rfl⟩ | exact .inr rfl) (h s ρ st H)
theorem eT_eD (xs : List D) : eT eD xs = .tup xs := by
  show D.tup (xs.map fun d => d) = _
  rw [List.map_id']
theorem ht_castT {m : Rho → M D} {q : Mt S D} (h : HT W fr Γ m q eD fun _ => Γ) : HT W fr Γ m (mbind q mcastT) (eT eD) fun _ => Γ := fun s ρ st H => or_cast (fun a b s e => by
  cases a <;> first | (cases e; exact (eT_eD _).symm) | cases e) (fun a s => by cases a <;> first | exact .inl ⟨_, rfl⟩ | exact .inr rfl) (h s ρ st H)
end
end Dn
namespace Dn
open PySem PySem.Spec PyProof.Rows L2
variable [HzC]
mutual
def isR : D → Bool
  | .non => true | .bl _ => true | .int _ => true | .str _ => true | .sd _ => true
  | .tup xs => isRs xs | .lst xs => isRs xs
  | .scr _ => false | .ref _ => false | .adr _ => false | .fd _ _ => false | .exo _ _ _ _ => false | .obj _ _ _ => false | .fnv _ => false
def isRs : List D → Bool
  | [] => true
  | d :: ds => isR d && isRs ds
end
mutual
theorem isR_of : ∀ d : D, isP d = true → isR d = true
  | .non, _ => by simp only [isR]
  | .bl _, _ => by simp only [isR]
  | .int _, _ => by simp only [isR]
  | .str _, _ => by simp only [isR]
  | .tup xs, h => by simp only [isR]; exact isRs_of xs (by simpa only [isP] using h)
  | .lst xs, h => by simp only [isR]; exact isRs_of xs (by simpa only [isP] using h)
  | .scr _, h => by simp [isP] at h
  | .ref _, h => by simp [isP] at h
  | .adr _, h => by simp [isP] at h
  | .fd _ _, h => by simp [isP] at h
  | .exo _ _ _ _, h => by simp [isP] at h
  | .obj _ _ _, h => by simp [isP] at h
  | .sd _, h => by simp [isP] at h
  | .fnv _, h => by simp [isP] at h
theorem isRs_of : ∀ ds : List D, isPs ds = true → isRs ds = true
  | [], _ => by simp only [isRs]
  | d :: ds, h => by
    simp only [isPs, Bool.and_eq_true] at h
    simp only [isRs, Bool.and_eq_true]
    exact ⟨isR_of d h.1, isRs_of ds h.2⟩
end
section
variable {X : Cx} {pins : List (Addr × Obj)} {σ : L2.St} {s : Shared} {F H : Hp} {ι : List Addr} {st : Sto}
end
section
variable {S : Type} {W : Wd S} {fr : Sto} {Γ : List Sl}
def misiD {S : Type} (T : String) (d : D) : Mt S Bool := match d with
  | .ref _ => mbad
  | d => match (tyD [] d).bind fun t => kitB t T with
    | some b => mpure b
    | none => mbad
theorem ty_static {d : D} (h : ∀ l, d ≠ .ref l) (st : Sto) : tyD st d = tyD [] d := by
  cases d <;> first | rfl | exact absurd rfl (h _)
theorem ht_isiD {T : String} {m : Rho → M D} {q : Mt S D} (h : HT W fr Γ m q eD fun _ => Γ) : HT W fr Γ (mIsi T m) (mbind q fun d => misiD T d) eB fun _ => Γ := fun s ρ st H => by
  unfold mIsi
  refine OR.bind (h s ρ st H) fun d s1 st1 H1 => ?_
  by_cases hr : ∀ l, d ≠ .ref l
  · show OR W fr _ ρ eB (lift ((tyD st1 d).bind fun t => (kitB t T).map D.bl) st1) (misiD T d s1)
    have e1 : misiD (S := S) T d = match (tyD [] d).bind fun t => kitB t T with
      | some b => mpure b
      | none => mbad := by
      cases d <;> first | rfl | exact absurd rfl (hr _)
    rw [ty_static hr st1, e1]
    cases e : tyD [] d with
    | none => trivial
    | some t =>
      show OR W fr _ ρ eB (lift ((kitB t T).map D.bl) st1) ((match kitB t T with
        | some b => mpure b
        | none => mbad : Mt S Bool) s1)
      cases e2 : kitB t T with
      | none => trivial
      | some b => exact ⟨st1, rfl, H1⟩
  · obtain ⟨l, hl⟩ := Classical.not_forall.mp hr
    obtain rfl : d = .ref l := Classical.not_not.mp hl
    trivial
end
structure ROkR (dp bk : Nat) (d : D) : Prop where
  p : isR d = true
  dep : (toP d).depth ≤ dp
  show_ : (toP d).showable = true
  leaf : (toP d).leavesShort 60 = true
  blk : (toP d).bulk ≤ bk
theorem ROkR.mono {dp bk dp' bk' : Nat} {d : D} (h : ROkR dp bk d) (h1 : dp ≤ dp') (h2 : bk ≤ bk') : ROkR dp' bk' d := ⟨h.p, Nat.le_trans h.dep h1, h.show_, h.leaf, Nat.le_trans h.blk h2⟩
section
variable {X : Cx} {W : WX} {pos : Pos}
inductive SdE (X : Cx) : List (Option Expr) → List Expr → List (Str × Option Int) → Prop where
  | nil : SdE X [] [] []
  | cons {k v : Expr} {ks : List (Option Expr)} {vs : List Expr} {x : Str} {o : Option Int} {kvs : List (Str × Option Int)} (hk : PE X k (tC (.str x))) (hv : PE X v (tC (oV o))) (t : SdE X ks vs kvs) : SdE X (some k :: ks) (v :: vs) ((x, o) :: kvs)
end
section
variable {X : Cx} {x : Xc} {e : D} {a : Addr} {oe : Obj} {pn : List (Addr × Obj)} {i : Nat} {p p2 p3 pos : Pos} {yes no : List Str}
def KitT (K : PySem.W.Frag) (n : Str) (T : String) (b : Bool) : Prop := ∀ C, PySem.W.nsIn K mainGlobals n = some (some (.ref C)) → PySem.W.kitOne K (.ref C) (.type T) = some b
end
end Dn
namespace Dn
open PySem PySem.Spec PyProof.Rows L2
variable [HzC]
def spE (K : PySem.W.Frag) (spec : List D → M D) : Sp := fun vs H Q E => ∃ F ι st ds, Sim K F ι st H ∧ Reps K F ι ds vs ∧ post K (wE E) [] F ι H (pV K) (spec ds st) Q
def RunE (P : Program) (w : World) (K : PySem.W.Frag) (mg : Str → Option Value) (base : Heap) (k : Nat) (f : Addr) (spec : List D → M D) : Prop :=
  ∀ (B : Around) (fr : List Env) (s : Shared) (H : Hp) (us : List Value) (vs : List V) (Q : VK) (E : XK), Room k B → (5 < k → B.guards = some []) → Env0 P w K mg base B fr s H → K.In s.heap → Vals vs us → spE K spec vs H Q E →
    codeAny (model P w) B (.call (.ref f) ⟨us, []⟩) (CR (CXk k P w) fr P w H s Q E) s
section
variable {P : Program} {w : World} {K : PySem.W.Frag} {mg : Str → Option Value} {base : Heap} {k k' : Nat} {f : Addr} {spec : List D → M D}
theorem RunE.mono (h : RunE P w K mg base k f spec) (hk : k ≤ k') : RunE P w K mg base k' f spec := fun B fr s H us vs Q E hr hg e0 KI r q => codeAny_mono (h B fr s H us vs Q E (hr.mono hk) (fun h5 => hg (by omega)) e0 KI r q) fun _ _ z => crk_mono hk z
def padN (j : Nat) (spec : List D → M D) : List D → M D := fun ds st => spec (ds ++ List.replicate j D.non) st
theorem reps_non {F : Hp} {ι : List Addr} : ∀ j : Nat, Reps K F ι (List.replicate j D.non) (List.replicate j V.non)
  | 0 => Reps.nil
  | j + 1 => Reps.cons (by simp only [Rep]) (reps_non j)
theorem runE_pad {fd : FuncData} {ps : List Str} {np j : Nat} {us0 : List Value} (F : FnG P w K mg base k f fd ps (spD K np spec)) (nn : NeedN np spec) (hb : Binds K fd ps us0) (hv : Vals (List.replicate j V.non) us0) : RunE P w K mg base k f (padN j spec) := by
  intro B fr s H us vs Q E hr hg e0 KI r h
  obtain ⟨F0, ι, st, ds, S, rs, q⟩ := h
  by_cases hn : (ds ++ List.replicate j D.non).length = np
  · have hsp : spD K np spec (vs ++ List.replicate j V.non) H Q E := ⟨by rw [← hn, ← (rs.append (reps_non j)).length], F0, ι, st, _, S, rs.append (reps_non j), q⟩
    have hl : (us ++ us0).length = ps.length := by rw [← (r.append hv).length]; exact F.len _ _ _ _ hsp
    exact F.run B fr s H ⟨us, []⟩ (us ++ us0) (vs ++ List.replicate j V.non) Q E hr hg e0 (hb s us KI hl) (r.append hv) hsp
  · have q : post K (wE E) [] F0 ι H (pV K) (spec (ds ++ List.replicate j D.non) st) Q := q
    rw [nn _ _ hn] at q
    exact (q : False).elim
theorem runE_of {fd : FuncData} {ps : List Str} {np : Nat} (F : FnG P w K mg base k f fd ps (spD K np spec)) (nn : NeedN np spec) (hb : Binds K fd ps []) : RunE P w K mg base k f spec := by
  have h := runE_pad (j := 0) F nn hb .nil
  have e : padN 0 spec = spec := by
    funext ds st
    unfold padN
    rw [List.replicate_zero, List.append_nil]
  rwa [e] at h
end
structure FnN (P : Program) (w : World) (K : PySem.W.Frag) (mg : Str → Option Value) (base : Heap) (k : Nat) (x : Str) (spec : List D → M D) : Prop where
  ex : ∃ f : Addr, mg x = some (.ref f) ∧ PySem.W.keepIn K (.ref f) = true ∧ RunE P w K mg base k f spec
theorem FnC.n {P : Program} {w : World} {K : PySem.W.Frag} {mg : Str → Option Value} {base : Heap} {k np : Nat} {x : Str} {spec : List D → M D} (C : FnC P w K mg base k x np spec) (nn : NeedN np spec) : FnN P w K mg base k x spec := by
  obtain ⟨f, fd, ps, F, hm, kp, hb⟩ := C.ex
  exact ⟨f, hm, kp, runE_of F nn hb⟩
section
variable {X : Cx} {W : WX} {k j : Nat} {x : Str} {spec : List D → M D} {p pos : Pos} {e : Expr} {es : List Expr} {am : Rho → M (List D)}
end
def KlsF (K : PySem.W.Frag) (nm f : Str) : Prop := ∃ C, PySem.W.nsIn K mainGlobals nm = some (some (.ref C)) ∧ Cls K C ∧ NoAttr K C f
theorem Kls.f {K : PySem.W.Frag} {mg : Str → Option Value} {nm f : Str} {fs : List Str} (h : Kls K mg nm fs) (hf : f ∈ fs) : KlsF K nm f := let ⟨C, h1, _, h2, h3⟩ := h.ex; ⟨C, h1, h2, h3 f hf⟩
section
variable {X : Cx} {W : WX} {f : Str} {nms : List Str} {e o value : Expr} {m mo mv : Rho → M D} {pos pos' : Pos}
end
abbrev Tbl := List (Str × (List D → M D))
def EntM (P : Program) (w : World) (K : PySem.W.Frag) (mg : Str → Option Value) (base : Heap) (k : Nat) (m n : Str) (spec : List D → M D) : Prop :=
  ∃ C f, PySem.W.nsIn K mainGlobals n = some (some (.ref C)) ∧ Cls K C ∧ Meth K C m f ∧ RunE P w K mg base k f spec
section
variable {P : Program} {w : World} {K : PySem.W.Frag} {mg : Str → Option Value} {base : Heap} {k k' : Nat} {m n : Str} {spec : List D → M D} {t : Tbl}
theorem EntM.mono (h : EntM P w K mg base k m n spec) (hk : k ≤ k') : EntM P w K mg base k' m n spec := let ⟨C, f, a, b, c, d⟩ := h; ⟨C, f, a, b, c, d.mono hk⟩
end
section
variable {X : Cx} {W : WX} {k j : Nat} {m : Str} {t : Tbl} {e o : Expr} {es : List Expr} {mo : Rho → M D} {am : Rho → M (List D)} {pos apos : Pos}
end
end Dn
namespace Dn
open PySem PySem.Spec PyProof.Rows L2
variable [HzC]
def EntP (P : Program) (w : World) (K : PySem.W.Frag) (mg : Str → Option Value) (base : Heap) (k : Nat) (f n : Str) (spec : List D → M D) : Prop :=
  ∃ C p g, PySem.W.nsIn K mainGlobals n = some (some (.ref C)) ∧ Cls K C ∧ PropOf K C f p g ∧ RunE P w K mg base k g spec
section
variable {P : Program} {w : World} {K : PySem.W.Frag} {mg : Str → Option Value} {base : Heap} {k k' : Nat} {f n : Str} {spec : List D → M D} {t : Tbl}
theorem EntP.mono (h : EntP P w K mg base k f n spec) (hk : k ≤ k') : EntP P w K mg base k' f n spec := let ⟨C, p, g, a, b, c, d⟩ := h; ⟨C, p, g, a, b, c, d.mono hk⟩
end
section
variable {X : Cx} {W : WX} {k j : Nat} {f : Str} {t : Tbl} {e : Expr} {mo : Rho → M D} {pos : Pos} {spec : List D → M D}
end
section
variable {X : Cx} {W : WX} {k j : Nat} {m : Str} {t : Tbl} {e : Expr} {mo : Rho → M D} {p pos : Pos} {spec : List D → M D} {ok : D → Bool}
end
section
variable {K : PySem.W.Frag} {F H : Hp} {ι : List Addr} {st : Sto}
end
structure FnIE (P : Program) (w : World) (K : PySem.W.Frag) (mg : Str → Option Value) (base : Heap) (k : Nat) (nm : Str) (spec : List D → M D) : Prop where
  ex : ∃ C f : Addr, PySem.W.nsIn K mainGlobals nm = some (some (.ref C)) ∧ mg nm = some (.ref C) ∧ Mk K C f ∧ RunE P w K mg base k f spec
theorem FnI.e {P : Program} {w : World} {K : PySem.W.Frag} {mg : Str → Option Value} {base : Heap} {k np : Nat} {nm : Str} {spec : List D → M D} (C : FnI P w K mg base k nm np spec) (nn : NeedN np spec) : FnIE P w K mg base k nm spec := by
  obtain ⟨C, f, fd, ps, hC, hmg, Mk, F, hb⟩ := C.ex
  exact ⟨C, f, hC, hmg, Mk, runE_of F nn hb⟩
section
variable {X : Cx} {W : WX} {k j : Nat} {nm : Str} {spec : List D → M D} {e : Expr} {es : List Expr} {am : Rho → M (List D)} {pos p : Pos}
end
end Dn
namespace Dn
open PySem PySem.Spec PyProof.Rows L2
variable [HzC]
section
variable {X : Cx} {W : WX}
end
end Dn
namespace Dn
open PySem PySem.Spec PyProof.Rows L2
def eR : Nat → D := .ref
class Dec {α : Type} (e : α → D) where
  dec : D → Option α
  ok : ∀ d a, dec d = some a → d = e a
  full : ∀ a, dec (e a) = some a
instance : Dec eI where
  dec d := match d with | .int i => some i | _ => none
  ok d a h := by
    cases d <;> first | (cases h; rfl) | cases h
  full a := rfl
instance : Dec eB where
  dec d := match d with | .bl i => some i | _ => none
  ok d a h := by
    cases d <;> first | (cases h; rfl) | cases h
  full a := rfl
instance : Dec eS where
  dec d := match d with | .str i => some i | _ => none
  ok d a h := by
    cases d <;> first | (cases h; rfl) | cases h
  full a := rfl
instance : Dec eR where
  dec d := match d with | .ref i => some i | _ => none
  ok d a h := by
    cases d <;> first | (cases h; rfl) | cases h
  full a := rfl
instance : Dec eU where
  dec d := match d with | .non => some () | _ => none
  ok d a h := by
    cases d <;> first | (cases h; rfl) | cases h
  full a := rfl
instance : Dec eD := ⟨some, fun d a h => by cases h; rfl, fun a => rfl⟩
def decs {α : Type} (e : α → D) [Dec e] : List D → Option (List α)
  | [] => some []
  | d :: ds => (Dec.dec e d).bind fun a => (decs e ds).map fun as => a :: as
theorem decs_ok {α : Type} {e : α → D} [Dec e] : ∀ (ds : List D) (as : List α), decs e ds = some as → ds = as.map e
  | [], as, h => by cases h; rfl
  | d :: ds, as, h => by
    unfold decs at h
    cases h1 : Dec.dec e d with
    | none => rw [h1] at h; cases h
    | some a =>
      rw [h1, Option.bind_some] at h
      cases h2 : decs e ds with
      | none => rw [h2] at h; cases h
      | some bs =>
        rw [h2] at h
        cases h
        rw [List.map_cons, ← decs_ok ds bs h2, ← Dec.ok d a h1]
theorem decs_full {α : Type} {e : α → D} [Dec e] : ∀ as : List α, decs e (as.map e) = some as
  | [] => rfl
  | a :: as => by
    rw [List.map_cons]
    unfold decs
    rw [Dec.full, Option.bind_some, decs_full as] <;> rfl
instance {α : Type} {e : α → D} [Dec e] : Dec (eT e) where
  dec d := match d with | .tup ds => decs e ds | _ => none
  ok d a h := by
    cases d <;> first | (have := decs_ok _ _ h; subst this; rfl) | cases h
  full a := decs_full a
instance {α : Type} {e : α → D} [Dec e] : Dec (eL e) where
  dec d := match d with | .lst ds => decs e ds | _ => none
  ok d a h := by
    cases d <;> first | (have := decs_ok _ _ h; subst this; rfl) | cases h
  full a := decs_full a
instance {α β : Type} {e : α → D} {f : β → D} [Dec e] [Dec f] : Dec (eP e f) where
  dec d := match d with | .tup [a, b] => (Dec.dec e a).bind fun x => (Dec.dec f b).map fun y => (x, y) | _ => none
  ok d a h := by
    split at h
    · rename_i x y
      cases h1 : Dec.dec e x with
      | none => rw [h1] at h; cases h
      | some u =>
        rw [h1, Option.bind_some] at h
        cases h2 : Dec.dec f y with
        | none => rw [h2] at h; cases h
        | some v =>
          rw [h2] at h
          cases h
          rw [Dec.ok _ _ h1, Dec.ok _ _ h2]
          rfl
    · cases h
  full a := by
    show (Dec.dec e (e a.1)).bind _ = _
    rw [Dec.full, Option.bind_some, Dec.full]
    rfl
def mdec {S α : Type} (e : α → D) [Dec e] (d : D) : Mt S α := mopt (Dec.dec e d)
def mdecs {S α : Type} (e : α → D) [Dec e] (ds : List D) : Mt S (List α) := mopt (decs e ds)
@[simp] theorem mdec_full {S α : Type} {e : α → D} [Dec e] (a : α) : mdec (S := S) e (e a) = mpure a := by unfold mdec; rw [Dec.full] <;> rfl
@[simp] theorem mdecs_full {S α : Type} {e : α → D} [Dec e] (as : List α) : mdecs (S := S) e (as.map e) = mpure as := by unfold mdecs; rw [decs_full] <;> rfl
section
variable {S : Type} {W : Wd S} {fr : Sto} {Γ : List Sl}
end
structure DkR (A : Type) where
  d0 : A → MO
  d1 : A → MO
  n0 : ∀ a, (d0 a).isIns = false
  n1 : ∀ a, (d1 a).isIns = false
structure OS (A : Type) where
  dk : A
  m : Nat → Option MO
def OS.put {A : Type} (s : OS A) (l : Nat) (o : MO) : OS A := ⟨s.dk, fun k => if k = l then some o else s.m k⟩
def Own (st : Sto) (l : Nat) : Prop := l < 2 ∨ (∃ n fs, st[l]? = some (MO.ins n fs)) ∨ ∃ (k : Nat) (n : Str) (fs : List (Str × D)) (f : Str), st[k]? = some (.ins n fs) ∧ (f, D.ref l) ∈ fs
structure HasO {A : Type} (R : DkR A) (s : OS A) (st : Sto) : Prop where
  a0 : st[0]? = some (R.d0 s.dk)
  a1 : st[1]? = some (R.d1 s.dk)
  at_ : ∀ l o, s.m l = some o → 2 ≤ l ∧ st[l]? = some o ∧ Own st l
  ins : ∀ l n fs, st[l]? = some (.ins n fs) → s.m l ≠ none
  ref : ∀ (k : Nat) n fs f l, st[k]? = some (.ins n fs) → (f, D.ref l) ∈ fs → 2 ≤ l ∧ l < st.length
section
variable {A : Type} {R : DkR A} {s : OS A} {st : Sto}
theorem HasO.len (h : HasO R s st) : 2 ≤ st.length := by have := (List.getElem?_eq_some_iff.mp h.a1).1; omega
theorem HasO.inb (h : HasO R s st) {l : Nat} (o : Own st l) : l < st.length := by
  rcases o with o | ⟨n, fs, o⟩ | ⟨k, n, fs, f, o, i⟩
  · have := h.len; omega
  · exact (List.getElem?_eq_some_iff.mp o).1
  · exact (h.ref k n fs f l o i).2
theorem getApp {g : Sto} {l : Nat} (hg : ∀ m ∈ g, m.isIns = false) {n : Str} {fs : List (Str × D)} (e : (st ++ g)[l]? = some (.ins n fs)) : st[l]? = some (.ins n fs) := by
  by_cases hl : l < st.length
  · rw [List.getElem?_append_left hl] at e; exact e
  · rw [List.getElem?_append_right (by omega)] at e
    have := hg _ (List.mem_of_getElem? e)
    cases this
theorem appGet {g : Sto} {l : Nat} {m : MO} (e : st[l]? = some m) : (st ++ g)[l]? = some m := by
  rw [List.getElem?_append_left (List.getElem?_eq_some_iff.mp e).1]; exact e
theorem Own.app {g : Sto} {l : Nat} (h : Own st l) : Own (st ++ g) l := by
  rcases h with o | ⟨n, fs, o⟩ | ⟨k, n, fs, f, o, i⟩
  · exact .inl o
  · exact .inr (.inl ⟨n, fs, appGet o⟩)
  · exact .inr (.inr ⟨k, n, fs, f, appGet o, i⟩)
theorem Own.unapp {g : Sto} {l : Nat} (hg : ∀ m ∈ g, m.isIns = false) (h : Own (st ++ g) l) : Own st l := by
  rcases h with o | ⟨n, fs, o⟩ | ⟨k, n, fs, f, o, i⟩
  · exact .inl o
  · exact .inr (.inl ⟨n, fs, getApp hg o⟩)
  · exact .inr (.inr ⟨k, n, fs, f, getApp hg o, i⟩)
theorem setNe {l k : Nat} {m : MO} (hm : m.isIns = false) {n : Str} {fs : List (Str × D)} (e : (st.set l m)[k]? = some (.ins n fs)) : st[k]? = some (.ins n fs) := by
  by_cases hk : l = k
  · subst hk
    have hl : l < st.length := by have := (List.getElem?_eq_some_iff.mp e).1; simpa using this
    rw [List.getElem?_set_self hl] at e
    cases e
    cases hm
  · rw [List.getElem?_set_ne hk] at e; exact e
theorem Own.unset {l k : Nat} {m : MO} (hm : m.isIns = false) (h : Own (st.set l m) k) : Own st k := by
  rcases h with o | ⟨n, fs, o⟩ | ⟨k', n, fs, f, o, i⟩
  · exact .inl o
  · exact .inr (.inl ⟨n, fs, setNe hm o⟩)
  · exact .inr (.inr ⟨k', n, fs, f, setNe hm o, i⟩)
theorem nIns {l k : Nat} {m : MO} (no : ∀ n fs, st[l]? ≠ some (.ins n fs)) {n : Str} {fs : List (Str × D)} (e : st[k]? = some (.ins n fs)) : (st.set l m)[k]? = some (.ins n fs) := by
  rw [List.getElem?_set_ne (fun q => no n fs (by rw [q]; exact e))]; exact e
theorem Own.set {l k : Nat} {m : MO} (no : ∀ n fs, st[l]? ≠ some (.ins n fs)) (h : Own st k) : Own (st.set l m) k := by
  rcases h with o | ⟨n, fs, o⟩ | ⟨k', n, fs, f, o, i⟩
  · exact .inl o
  · exact .inr (.inl ⟨n, fs, nIns no o⟩)
  · exact .inr (.inr ⟨k', n, fs, f, nIns no o, i⟩)
theorem HasO.grow (h : HasO R s st) (g : Sto) (hg : ∀ m ∈ g, m.isIns = false) : HasO R s (st ++ g) :=
  ⟨appGet h.a0, appGet h.a1, fun l o e => let ⟨a, b, c⟩ := h.at_ l o e; ⟨a, appGet b, c.app⟩, fun l n fs e => h.ins l n fs (getApp hg e), fun k n fs f l e i => by
    obtain ⟨a, b⟩ := h.ref k n fs f l (getApp hg e) i
    exact ⟨a, by rw [List.length_append]; omega⟩⟩
theorem HasO.set (h : HasO R s st) {l : Nat} (m : MO) (hm : m.isIns = false) (no : ¬ Own st l) : HasO R s (st.set l m) := by
  have ni : ∀ n fs, st[l]? ≠ some (.ins n fs) := fun n fs e => no (.inr (.inl ⟨n, fs, e⟩))
  have l2 : 2 ≤ l := by
    by_cases q : 2 ≤ l
    · exact q
    · exact absurd (Or.inl (by omega)) no
  refine ⟨by rw [List.getElem?_set_ne (by omega)]; exact h.a0, by rw [List.getElem?_set_ne (by omega)]; exact h.a1, fun k o e => ?_, fun k n fs e => h.ins k n fs (setNe hm e), fun k n fs f l' e i => ?_⟩
  · obtain ⟨a, b, c⟩ := h.at_ k o e
    exact ⟨a, by rw [List.getElem?_set_ne (fun q => no (by rw [q]; exact c))]; exact b, c.set ni⟩
  · rw [List.length_set]; exact h.ref k n fs f l' (setNe hm e) i
theorem HasO.take {s0 : OS A} {b : Sto} (h0 : HasO R s0 b) (h : HasO R s st) (t : Tidy b st) : HasO R s (st.take b.length) := by
  have low : ∀ k n fs f l, st[k]? = some (.ins n fs) → (f, D.ref l) ∈ fs → k < b.length ∧ l < b.length := fun k n fs f l e i => by
    have hk : k < b.length := by
      by_cases q : k < b.length
      · exact q
      · have := t.2.2 k _ (by omega) e; cases this
    refine ⟨hk, ?_⟩
    rcases t.2.1 k _ hk e with q | q
    · exact (h0.ref k n fs f l q i).2
    · simp only [MO.low, List.all_eq_true] at q
      have := q _ i
      simp only [D.low, decide_eq_true_eq] at this
      exact this
  have tk : ∀ k (m : MO), k < b.length → st[k]? = some m → (st.take b.length)[k]? = some m := fun k m hk e => by rw [List.getElem?_take_of_lt hk]; exact e
  have un : ∀ k (m : MO), (st.take b.length)[k]? = some m → st[k]? = some m := fun k m e => by
    have hk := (List.getElem?_eq_some_iff.mp e).1
    rw [List.length_take] at hk
    rw [List.getElem?_take_of_lt (by omega)] at e; exact e
  have b2 := h0.len
  refine ⟨tk 0 _ (by omega) h.a0, tk 1 _ (by omega) h.a1, fun l o e => ?_, fun l n fs e => h.ins l n fs (un _ _ e), fun k n fs f l e i => ?_⟩
  · obtain ⟨a, c, d⟩ := h.at_ l o e
    rcases d with d | ⟨n, fs, d⟩ | ⟨k, n, fs, f, d, i⟩
    · omega
    · have hl : l < b.length := by
        by_cases q : l < b.length
        · exact q
        · have := t.2.2 l _ (by omega) d; cases this
      exact ⟨a, tk _ _ hl c, .inr (.inl ⟨n, fs, tk _ _ hl d⟩)⟩
    · obtain ⟨h1, h2⟩ := low k n fs f l d i
      exact ⟨a, tk _ _ h2 c, .inr (.inr ⟨k, n, fs, f, tk _ _ h1 d, i⟩)⟩
  · have z := un _ _ e
    refine ⟨(h.ref k n fs f l z i).1, ?_⟩
    rw [List.length_take]
    have := (low k n fs f l z i).2
    have := (h.ref k n fs f l z i).2
    omega
theorem Own.untake {n l : Nat} (h : Own (st.take n) l) : Own st l := by
  have un : ∀ k (m : MO), (st.take n)[k]? = some m → st[k]? = some m := fun k m e => by
    have hk := (List.getElem?_eq_some_iff.mp e).1
    rw [List.length_take] at hk
    rw [List.getElem?_take_of_lt (by omega)] at e; exact e
  rcases h with o | ⟨n, fs, o⟩ | ⟨k, n, fs, f, o, i⟩
  · exact .inl o
  · exact .inr (.inl ⟨n, fs, un _ _ o⟩)
  · exact .inr (.inr ⟨k, n, fs, f, un _ _ o, i⟩)
end
def WO {A : Type} (R : DkR A) : Wd (OS A) where
  has := HasO R
  own := Own
  inb := fun h o => h.inb o
  grow := fun g hg h => h.grow g hg
  ownG := fun g _ hg _ o => Own.unapp hg o
  set := fun m hm h no => h.set m hm no
  ownS := fun m _ hm _ _ o => Own.unset hm o
  take := fun h0 h t => HasO.take h0 h t
  ownT := fun _ _ _ o => Own.untake o
end Dn
namespace Dn
open PySem PySem.Spec PyProof.Rows L2
section
variable {A : Type} {R : DkR A} {fr : Sto} {Γ : List Sl} {ρ : Rho} {s s' : OS A} {st : Sto}
theorem HasO.put (h : HasO R s st) {l : Nat} {o o' : MO} (e : s.m l = some o) (hi : o.isIns = false) (hi' : o'.isIns = false) : HasO R (s.put l o') (st.set l o') := by
  obtain ⟨l2, b, c⟩ := h.at_ l o e
  have ni : ∀ n fs, st[l]? ≠ some (.ins n fs) := fun n fs q => by rw [b] at q; cases q; cases hi
  have hl := (List.getElem?_eq_some_iff.mp b).1
  refine ⟨by rw [List.getElem?_set_ne (by omega)]; exact h.a0, by rw [List.getElem?_set_ne (by omega)]; exact h.a1, fun k u q => ?_, fun k n fs q => ?_, fun k n fs f l' q i => ?_⟩
  · unfold OS.put at q
    dsimp only at q
    by_cases hk : k = l
    · subst hk
      rw [if_pos rfl] at q
      cases q
      exact ⟨l2, by rw [List.getElem?_set_self hl], c.set ni⟩
    · rw [if_neg hk] at q
      obtain ⟨x, y, z⟩ := h.at_ k u q
      exact ⟨x, by rw [List.getElem?_set_ne (Ne.symm hk)]; exact y, z.set ni⟩
  · unfold OS.put
    dsimp only
    by_cases hk : k = l
    · subst hk; simp
    · rw [if_neg hk]; exact h.ins k n fs (setNe hi' q)
  · rw [List.length_set]; exact h.ref k n fs f l' (setNe hi' q) i
theorem HasO.pre (h : HasO R s st) {l : Nat} {o o' : MO} (e : s.m l = some o) (hi : o.isIns = false) (hi' : o'.isIns = false) : Pre (WO R) st (s.put l o') (st.set l o') :=
  ⟨h.put e hi hi', by rw [List.length_set]; exact Nat.le_refl _, fun k _ no => ⟨fun o => no (o.unset hi'), by
    obtain ⟨_, _, c⟩ := h.at_ l o e
    rw [List.getElem?_set_ne (fun q => no (by rw [← q]; exact c))]⟩⟩
def hcl (n : Str) (l : Nat) : Mt (OS A) Unit := fun s => match s.m l with
  | some (.ins n' fs) => if n' = n then .ok () s else .bad
  | _ => .bad
end
section
variable {A : Type} {R : DkR A} {fr : Sto} {Γ : List Sl} {ρ : Rho} {s s' : OS A} {st : Sto}
theorem HasO.fresh {l : Nat} (h : HasO R s st) (no : ¬ Own st l) : s.m l = none := by
  cases e : s.m l with
  | none => rfl
  | some o => exact absurd (h.at_ l o e).2.2 no
end
end Dn
namespace Dn
open PySem PySem.Spec PyProof.Rows L2
section
variable {S : Type} {W : Wd S} {fr : Sto} {Γ : List Sl}
end
section
variable {A : Type} {R : DkR A} {fr : Sto} {Γ : List Sl}
end
end Dn
namespace Dn
open PySem PySem.Spec PyProof.Rows L2
variable [HzC]
def RunK (P : Program) (w : World) (K : PySem.W.Frag) (mg : Str → Option Value) (base : Heap) (k : Nat) (nm : Str) (f : Addr) (spec : List D → M D) : Prop :=
  ∀ (B : Around) (fr : List Env) (s : Shared) (H : Hp) (us : List Value) (u : Value) (vs : List V) (Q : VK) (E : XK), Room k B → (5 < k → B.guards = some []) → Env0 P w K mg base B fr s H → K.In s.heap → Vals vs (us ++ [u]) → spE K spec vs H Q E →
    codeAny (model P w) B (.call (.ref f) ⟨us, [(nm, u)]⟩) (CR (CXk k P w) fr P w H s Q E) s
section
variable {P : Program} {w : World} {K : PySem.W.Frag} {mg : Str → Option Value} {base : Heap} {k k' : Nat} {f : Addr} {spec : List D → M D} {nm m n : Str} {t : Tbl}
theorem RunK.mono (h : RunK P w K mg base k nm f spec) (hk : k ≤ k') : RunK P w K mg base k' nm f spec := fun B fr s H us u vs Q E hr hg e0 KI r q => codeAny_mono (h B fr s H us u vs Q E (hr.mono hk) (fun h5 => hg (by omega)) e0 KI r q) fun _ _ z => crk_mono hk z
end
section
variable {X : Cx} {W : WX} {k j : Nat} {m nm : Str} {t : Tbl} {e o ke : Expr} {es : List Expr} {mo mk : Rho → M D} {am : Rho → M (List D)} {pos apos kp : Pos} {spec : List D → M D}
end
section
variable {X : Cx} {x : Xc} {e : D} {a : Addr} {oe : Obj} {pn : List (Addr × Obj)} {i : Nat} {p p2 pos : Pos} {yes no : List Str} {y z u ev : Str} {p3 p4 p5 p6 : Pos} {kk : Nat}
end
end Dn
namespace Dn
open PySem PySem.Spec PyProof.Rows L2
variable [HzC]
def envK (ρ : Rho) (i : Nat) (e : D) : Rho := ρ.set i (some e)
section
variable {X : Cx} {W : WX} {y n : Str} {i : Nat} {body suite : List Stmt} {b₀ : Stmt} {np pos pos' : Pos} {mb : Rho → Sto → Fl} {mh : Xc → D → Rho → Sto → Fl} {yes no : List Str} {Cy : Addr}
end
structure AgI (i : Nat) (e e' : D) (ρ ρ' : Rho) : Prop where
  l : ρ'.length = ρ.length
  a : ρ[i]? = some (some e)
  b : ρ'[i]? = some (some e')
  o : ∀ j, j ≠ i → ρ'[j]? = ρ[j]?
def AgF (i : Nat) (e e' : D) (r r' : Fl) : Prop := match r, r' with
  | .next ρ st, .next ρ' st' => AgI i e e' ρ ρ' ∧ st = st'
  | .brk ρ st, .brk ρ' st' => AgI i e e' ρ ρ' ∧ st = st'
  | .cnt ρ st, .cnt ρ' st' => AgI i e e' ρ ρ' ∧ st = st'
  | .ret d st, .ret d' st' => d = d' ∧ st = st'
  | .exc _ _ _, .exc _ _ _ => True
  | .bad, .bad => True
  | _, _ => False
def IndS (i : Nat) (m : D → Rho → Sto → Fl) : Prop := ∀ e e' ρ ρ' st, AgI i e e' ρ ρ' → AgF i e e' (m e ρ st) (m e' ρ' st)
section
variable {i j : Nat} {α β : Type}
end
end Dn
namespace Dn
open PySem PySem.Spec PyProof.Rows L2
variable [HzC]
def KX (mb : Rho → Sto → Fl) : Prop := ∀ ρ st x ρ' st', mb ρ st = .exc x ρ' st' → ρ' = ρ
abbrev keepK : List Sl → List Sl := List.map fun a => match a with | .mut _ => .any | a => a
section
variable {S : Type} {W : Wd S} {fr : Sto} {Γ : List Sl} {σ : Type}
end
section
variable {S : Type} {W : Wd S} {fr : Sto} {α β σ : Type}
end
section
variable {S : Type} {W : Wd S} {fr : Sto} {Γ : List Sl} {β σ : Type}
end
end Dn
namespace Dn
open PySem PySem.Spec PyProof.Rows L2
variable [HzC]
inductive ClA (X : Cx) (n : Str) : List ExceptHandler → List (Value × (Addr → Value → Option Addr → TS)) → Prop
  | nil : ClA X n [] []
  | cons {x : Str} {c : Value} {ts : Addr → Value → Option Addr → TS} {b₀ : Stmt} {suite : List Stmt} {np pos' : Pos} {hds : List ExceptHandler} {l : List (Value × (Addr → Value → Option Addr → TS))} (hc : Names X x c)
      (hsu : ∀ (a : Addr) (oe : Obj) (cls : Value) (d : Option Addr) (pn : List (Addr × Obj)), Zc cls d oe → (∃ vs, oe.data = .fields vs) → PSs (X.suite a ((a, oe) :: pn)) (b₀ :: suite) (ts a cls d)) (r : ClA X n hds l) :
      ClA X n (.ExceptHandler (some (.Name x np)) (some n) (b₀ :: suite) pos' :: hds) ((c, ts) :: l)
section
variable {X : Cx} {n : Str} {i : Nat} {body : List Stmt} {h₀ : ExceptHandler} {hds : List ExceptHandler} {l : List (Value × (Addr → Value → Option Addr → TS))} {pos : Pos} {tb : WX → TS} {Wout : WX}
end
abbrev Clz := List (List Str × List Str × (Xc → D → Rho → Sto → Fl))
def hdC (i : Nat) (x : Xc) (ρ : Rho) (st : Sto) : Clz → Fl
  | [] => .exc x ρ st
  | (yes, no, mh) :: r => if x.nm ∈ yes then tidyF i (mh x (e0 x) (envK ρ i (e0 x)) st) else if x.nm ∈ no then hdC i x ρ st r else .bad
inductive CLs (X : Cx) (n : Str) (i : Nat) : List ExceptHandler → Clz → Prop
  | nil : CLs X n i [] []
  | cons {y : Str} {suite : List Stmt} {b₀ : Stmt} {np pos' : Pos} {mh : Xc → D → Rho → Sto → Fl} {yes no : List Str} {hds : List ExceptHandler} {cl : Clz} (hg : Gl X y) (T : ErrX X.K X.mg y) (hE1 : ∀ z ∈ yes, ErrX X.K X.mg z) (hE2 : ∀ z ∈ no, ErrX X.K X.mg z) (hyes : ∀ z ∈ yes, ExmB X.K z y true) (hno : ∀ z ∈ no, ExmB X.K z y false)
      (hh : ∀ (x : Xc) (e : D) (a : Addr) (oe : Obj) (pn : List (Addr × Obj)), x.nm ∈ yes → HC X x e a oe → DSs (X.suite a ((a, oe) :: pn)) wN (b₀ :: suite) (mh x e)) (hu : ∀ x, IndS i (mh x)) (r : CLs X n i hds cl) (hdb : (y == ("__debug__" : Str)) = false := by decide) :
      CLs X n i (.ExceptHandler (some (.Name y np)) (some n) (b₀ :: suite) pos' :: hds) ((yes, no, mh) :: cl)
section
variable {X : Cx} {W : WX} {n : Str} {i : Nat} {body : List Stmt} {h₀ : ExceptHandler} {hds : List ExceptHandler} {cl : Clz} {pos : Pos} {mb : Rho → Sto → Fl}
end
end Dn
namespace Dn
open PySem PySem.Spec PyProof.Rows L2
variable [HzC]
abbrev Clm (S σ : Type) := List (List Str × List Str × (Xc → Mt S σ))
section
variable {S : Type} {W : Wd S} {fr : Sto} {Γ : List Sl} {σ β : Type} {i : Nat}
inductive ClN (W : Wd S) (fr : Sto) (Γ : List Sl) (i : Nat) (J : σ → List Sl) : Clz → Clm S σ → Prop
  | nil : ClN W fr Γ i J [] []
  | cons {yes no : List Str} {mh : Xc → D → Rho → Sto → Fl} {qh : Xc → Mt S σ} {cl : Clz} {cm : Clm S σ} (hh : ∀ x, TN W fr ((keepK Γ).set i (.val (e0 x))) (mh x (e0 x)) (qh x) J) (r : ClN W fr Γ i J cl cm) : ClN W fr Γ i J ((yes, no, mh) :: cl) ((yes, no, qh) :: cm)
inductive ClR (W : Wd S) (fr : Sto) (Γ : List Sl) (i : Nat) (enc : β → D) : Clz → Clm S β → Prop
  | nil : ClR W fr Γ i enc [] []
  | cons {yes no : List Str} {mh : Xc → D → Rho → Sto → Fl} {qh : Xc → Mt S β} {cl : Clz} {cm : Clm S β} (hh : ∀ x, TR W fr ((keepK Γ).set i (.val (e0 x))) (mh x (e0 x)) (qh x) enc) (r : ClR W fr Γ i enc cl cm) : ClR W fr Γ i enc ((yes, no, mh) :: cl) ((yes, no, qh) :: cm)
end
section
variable {X : Cx} {W : WX} {k j : Nat} {m nm : Str} {t : Tbl} {o ke e1 : Expr} {mo mk m1 : Rho → M D} {pos apos kp : Pos}
end
section
variable {i : Nat}
end
section
variable {S : Type} {W : Wd S} {fr : Sto} {Γ : List Sl} {α : Type} {n : Nat}
end
end Dn
namespace Dn
open PySem PySem.Spec PyProof.Rows L2
variable [HzC]
inductive CK where
  | own (n : Str) | bt (T : String)
inductive KitL (K : PySem.W.Frag) (n : Str) : List CK → Bool → Prop
  | nil : KitL K n [] false
  | own1 {y : Str} {r : List CK} (h : KitB K n y true) : KitL K n (.own y :: r) true
  | own0 {y : Str} {r : List CK} {b : Bool} (h : KitB K n y false) (t : KitL K n r b) : KitL K n (.own y :: r) b
  | bt1 {T : String} {r : List CK} (h : KitT K n T true) : KitL K n (.bt T :: r) true
  | bt0 {T : String} {r : List CK} {b : Bool} (h : KitT K n T false) (t : KitL K n r b) : KitL K n (.bt T :: r) b
inductive CkV (K : PySem.W.Frag) : List CK → List V → List Value → Prop
  | nil : CkV K [] [] []
  | own {y : Str} {C : Addr} {r : List CK} {vs : List V} {us : List Value} (h : PySem.W.nsIn K mainGlobals y = some (some (.ref C))) (t : CkV K r vs us) : CkV K (.own y :: r) (.ref C :: vs) (.ref C :: us)
  | bt {T : String} {r : List CK} {vs : List V} {us : List Value} (t : CkV K r vs us) : CkV K (.bt T :: r) (.ty T :: vs) (.type T :: us)
section
variable {X : Cx} {x : Xc} {e : D} {a : Addr} {oe : Obj} {pn : List (Addr × Obj)} {i : Nat} {p p2 p5 pos : Pos} {yes no : List Str} {kk : Nat}
end
end Dn
namespace Dn
open PySem PySem.Spec PyProof.Rows L2
section
variable {S : Type} {W : Wd S} {fr : Sto} {Γ : List Sl} {α β : Type}
end
section
variable {A : Type} {R : DkR A} {fr : Sto} {Γ : List Sl} {α : Type}
end
end Dn
namespace Dn
open PySem PySem.Spec PyProof.Rows L2
section
variable {S : Type} {W : Wd S} {fr : Sto} {Γ : List Sl} {α σ β : Type} {e : α → D} {gf : D → Rho → M Rho} {mb : Rho → Sto → Fl} {J : σ → List Sl} {G : α → σ → List Sl} {js : List Nat} {i : Nat} {xs : List α} {z0 : σ}
end
section
variable {S : Type} {W : Wd S} {fr : Sto} {Γ : List Sl} {α β : Type} {e : α → D} {enc : β → D} {gf : D → Rho → M Rho} {mt : Rho → M Bool} {me : Rho → M D} {vs js : List Nat} {G : (Int × α) → List Sl} {i : Nat}
end
end Dn
namespace Dn
open PySem PySem.Spec PyProof.Rows L2
variable [HzC]
inductive GEn (P : Params) : List DictEntry → List (Str × Int) → Prop
  | nil : GEn P [] []
  | cons {h : Int} {x : Str} {i : Int} {t u : Tok} {es : List DictEntry} {kvs : List (Str × Int)} (e : h = PyData.keyHash P x) (r : GEn P es kvs) : GEn P (⟨h, .str x t, .int i u⟩ :: es) ((x, i) :: kvs)
def gdGet : List (Str × Int) → Str → Option Int
  | [], _ => none
  | (x, i) :: r, s => if x = s then some i else gdGet r s
structure GDict (K : PySem.W.Frag) (w : World) (mg : Str → Option Value) (x : Str) (kvs : List (Str × Int)) (d : Addr) : Prop where
  ex : ∃ (es : List DictEntry) (n : Nat), K.lookup d = some ⟨.type "dict", none, .dict es.toArray n, #[]⟩ ∧ GEn w.params es kvs
  low : (d == sysModules) = false
  mg_ : mg x = some (.ref d)
theorem GEn.lit {P : Params} {es : List DictEntry} {kvs : List (Str × Int)} (h : GEn P es kvs) : PySem.W.KeysLit P es := by
  induction h with
  | nil => trivial
  | cons e r ih => exact ⟨⟨_, _, rfl, e⟩, ih⟩
theorem GEn.find {P : Params} {es : List DictEntry} {kvs : List (Str × Int)} (h : GEn P es kvs) (s : Str) : match gdGet kvs s with | some i => ∃ u, (es.find? fun e => Value.isStrOf s e.key).map (·.val) = some (.int i u) | none => (es.find? fun e => Value.isStrOf s e.key).map (·.val) = none := by
  induction h with
  | nil => rfl
  | @cons h x i t u es kvs e r ih =>
    unfold gdGet
    have hk : Value.isStrOf s (.str x t) = decide (x = s) := by
      show (x == s) = decide (x = s)
      by_cases q : x = s
      · subst q; simp
      · rw [decide_eq_false q]; exact beq_eq_false_iff_ne.mpr q
    by_cases q : x = s
    · rw [if_pos q]
      refine ⟨u, ?_⟩
      rw [List.find?_cons_of_pos (by rw [hk]; exact decide_eq_true q)]
      rfl
    · rw [if_neg q]
      rw [List.find?_cons_of_neg (by rw [hk, decide_eq_false q]; exact Bool.false_ne_true)]
      exact ih
section
variable {X : Cx} {W : WX} {a : Expr} {x : Str} {p1 p2 : Pos} {kvs : List (Str × Int)} {m : Rho → M D} {d : Addr} {es : List DictEntry} {n : Nat}
theorem GEn.map {h : Heap} (g : GEn X.w.params es kvs) (I : X.K.In h) (hl : X.K.lookup d = some ⟨.type "dict", none, .dict es.toArray n, #[]⟩) : h.MapOf (strKind X.prog X.w) d (fun k => findBy Value.isStrOf es.toArray k) :=
  PySem.W.mapOf_K (prog := X.prog) I hl (by simpa using g.lit)
end
section
variable {X : Cx} {W : WX} {k : Nat} {body : List Stmt} {h₀ : ExceptHandler} {hds : List ExceptHandler} {pos : Pos} {mb : Rho → Sto → Fl}
end
theorem Bd.nx {X : Cx} {W : WX} {k : Nat} (b : Bd X W k) : Bd X.nox wN k := ⟨b.room, b.gd, b.calm, b.nd, .of takes_wN⟩
section
variable {X : Cx} {W : WX} {k : Nat} {body : List Stmt} {f₀ : Stmt} {fs : List Stmt} {pos : Pos} {mb mf : Rho → Sto → Fl}
end
section
variable {X : Cx} {W : WX} {pos : Pos}
end
section
variable {X : Cx} {W : WX} {tg e e2 e3 : Expr} {m1 m2 m3 : Rho → M D} {p pos : Pos}
end
section
variable {S : Type} {W : Wd S} {fr : Sto} {Γ : List Sl} {σ τ β : Type}
end
section
variable {X : Cx} {W : WX} {pos p p5 : Pos} {e : Expr} {es : List Expr} {m : Rho → M D} {ts : List String} {kk : Nat}
end
section
variable {S : Type} {W : Wd S} {fr : Sto} {Γ : List Sl}
end
end Dn
namespace Dn
open PySem PySem.Spec PyProof.Rows L2
variable [HzC]
section
variable {X : Cx} {W : WX} {pos p apos p2 : Pos} {o e tg : Expr} {mo m : Rho → M D}
end
section
variable {S : Type} {W : Wd S} {fr : Sto} {Γ : List Sl}
end
end Dn
namespace Dn
open PySem PySem.Spec PyProof.Rows L2
variable [HzC]
section
variable {X : Cx} {W : WX} {e : Expr} {te : TE} {lo hi : Option Expr} {st : Expr} {tl th tz : TO} {pos p2 : Pos}
end
section
variable {S : Type} {W : Wd S} {fr : Sto} {Γ : List Sl} {α : Type} {e : α → D}
end
end Dn
namespace PySem
open Sem (wp)
section
variable {M : Model} {A : Around} {R : GenEnd} {Y : Protocol} {n : Nat} {s₀ : Shared} {c : Code} {fs : List Frame} {s : Shared} {env : Env}
  {K : Flow → Sem Fin} {H : Value → Sem Fin} {gd : Bool → Bool} {lv : List Value → List Value}
end
section
variable {prog : Program} {w : World} {A : Around} {R : GenEnd} {Y : Protocol} {n : Nat} {s₀ : Shared} {fs : List Frame} {s : Shared} {env : Env}
end
end PySem
namespace L2
open PySem PySem.Spec PyProof.Rows GenW
section
variable {X : Cx} {tg : Expr}
end
end L2
namespace Dn
open PySem PySem.Spec PyProof.Rows L2
variable [HzC]
def Hid (F : Hp) (ι : List Addr) (K : PySem.W.Frag) (ρ : Rho) (σ : L2.St) (ys : List V) : Prop := ∃ yd, ρ.getLast? = some (some (.lst yd)) ∧ REnv K F ι ρ.dropLast σ ∧ Reps K F ι yd ys
theorem GS.weak {X : Cx} {e : Stmt} {t t' : TGn} (h : GS X e t) (w : ∀ D ys σ H, t' D ys σ H → t D ys σ H) : GS X e t' :=
  ⟨fun A S ip R n ys s₀ c fs K J gd lv s σ H D a1 a2 a3 a4 q => h.run A S ip R n ys s₀ c fs K J gd lv s σ H D a1 a2 a3 a4 (w D ys σ H q)⟩
theorem GSs.weak {X : Cx} {e : List Stmt} {t t' : TGn} (h : GSs X e t) (w : ∀ D ys σ H, t' D ys σ H → t D ys σ H) : GSs X e t' :=
  ⟨fun A S ip R n ys s₀ c fs K J gd lv s σ H D a1 a2 a3 a4 q => h.run A S ip R n ys s₀ c fs K J gd lv s σ H D a1 a2 a3 a4 (w D ys σ H q)⟩
theorem Hid.ext {K : PySem.W.Frag} {F F1 H H1 : Hp} {ι ι1 : List Addr} {ρ : Rho} {σ : L2.St} {ys : List V} (h : Hid F ι K ρ σ ys) (x : Ext F ι H F1 ι1 H1) : Hid F1 ι1 K ρ σ ys :=
  let ⟨yd, a, b, c⟩ := h; ⟨yd, a, b.ext x, c.ext x⟩
section
variable {X : Cx} {W : WX} {pos : Pos} {st : Stmt} {rest : List Stmt} {s1 s2 : Rho → Sto → Fl}
def Fl.push (r : Fl) (y : Option D) : Fl := match r with
  | .next ρ st => .next (ρ ++ [y]) st
  | .brk ρ st => .brk (ρ ++ [y]) st
  | .cnt ρ st => .cnt (ρ ++ [y]) st
  | .exc x ρ st => .exc x (ρ ++ [y]) st
  | .ret _ _ => .bad
  | .bad => .bad
end
end Dn
namespace Dn
open PySem PySem.Spec PyProof.Rows L2
section
variable {S : Type} {W : Wd S} {fr : Sto} {s : S} {Γ Γ' : List Sl} {ρ : Rho} {st : Sto} {y : D}
theorem Has.push (h : Has W fr s Γ ρ st) (y : D) : Has W fr s (Γ ++ [.val y]) (ρ ++ [some y]) st := by
  have hl := h.len
  have key : ∀ (i : Nat) (a : Sl), (Γ ++ [.val y])[i]? = some a → (i < Γ.length ∧ Γ[i]? = some a ∧ (ρ ++ [some y])[i]? = ρ[i]?) ∨ (i = Γ.length ∧ a = .val y) := fun i a e => by
    by_cases hi : i < Γ.length
    · rw [List.getElem?_append_left hi] at e
      exact .inl ⟨hi, e, List.getElem?_append_left (by omega)⟩
    · rw [List.getElem?_append_right (by omega)] at e
      have h0 : i - Γ.length = 0 := by
        cases q : i - Γ.length with
        | zero => rfl
        | succ n => rw [q] at e; simp at e
      rw [h0] at e
      exact .inr ⟨by omega, (Option.some.inj e).symm⟩
  refine ⟨by rw [List.length_append, List.length_append, hl]; rfl, h.pre, fun i d e => ?_, fun i m e => ?_, fun i j m1 m2 e1 e2 e3 => ?_, fun i m e => ?_⟩
  · rcases key i _ e with ⟨_, q, r⟩ | ⟨q, r⟩
    · rw [r]; exact h.val i d q
    · cases r
      rw [q, ← hl]
      simp
  · rcases key i _ e with ⟨_, q, r⟩ | ⟨_, r⟩
    · rw [r]; exact h.mt i m q
    · cases r
  · rcases key i _ e1 with ⟨_, q, r⟩ | ⟨_, r⟩
    · rcases key j _ e2 with ⟨_, q2, r2⟩ | ⟨_, r2⟩
      · exact h.nal i j m1 m2 q q2 (by rw [← r, ← r2]; exact e3)
      · cases r2
    · cases r
  · rcases key i _ e with ⟨_, q, r⟩ | ⟨_, r⟩
    · rw [r]; exact h.bo i m q
    · cases r
theorem Has.pop (h : Has W fr s (Γ ++ [.val y]) ρ st) : ∃ ρ0, ρ = ρ0 ++ [some y] ∧ Has W fr s Γ ρ0 st := by
  have hl := h.len
  rw [List.length_append] at hl
  have hlast := h.val Γ.length y (by simp)
  have hne : ρ ≠ [] := fun e => by rw [e] at hl; simp at hl
  have e0 : ρ.dropLast ++ [ρ.getLast hne] = ρ := List.dropLast_concat_getLast hne
  have hdl : ρ.dropLast.length = Γ.length := by rw [List.length_dropLast]; simp at hl; omega
  have ey : ρ.getLast hne = some y := by
    have : (ρ.dropLast ++ [ρ.getLast hne])[Γ.length]? = some (some y) := by rw [e0]; exact hlast
    rw [List.getElem?_append_right (by omega), hdl, Nat.sub_self] at this
    exact Option.some.inj this
  rw [ey] at e0
  refine ⟨ρ.dropLast, e0.symm, ?_⟩
  have low : ∀ (i : Nat) (a : Sl), Γ[i]? = some a → (Γ ++ [.val y])[i]? = some a ∧ ρ[i]? = ρ.dropLast[i]? := fun i a e => by
    have hi := (List.getElem?_eq_some_iff.mp e).1
    refine ⟨by rw [List.getElem?_append_left hi]; exact e, ?_⟩
    have : (ρ.dropLast ++ [some y])[i]? = ρ.dropLast[i]? := List.getElem?_append_left (by omega)
    rw [e0] at this
    exact this
  refine ⟨hdl, h.pre, fun i d e => ?_, fun i m e => ?_, fun i j m1 m2 e1 e2 e3 => ?_, fun i m e => ?_⟩
  · obtain ⟨a, b⟩ := low i _ e; rw [← b]; exact h.val i d a
  · obtain ⟨a, b⟩ := low i _ e; rw [← b]; exact h.mt i m a
  · obtain ⟨a, b⟩ := low i _ e1
    obtain ⟨a2, b2⟩ := low j _ e2
    exact h.nal i j m1 m2 a a2 (by rw [b, b2]; exact e3)
  · obtain ⟨a, b⟩ := low i _ e; rw [← b]; exact h.bo i m a
theorem OR.push {A β : Type} {J : β → List Sl} {enc : β → A} {r : Out A} {q : Rs S β} (h : OR W fr J ρ enc r q) (y : D) : OR W fr (fun b => J b ++ [.val y]) (ρ ++ [some y]) enc r q := by
  induction q with
  | ok b s' => obtain ⟨st', e, H⟩ := h; exact ⟨st', e, H.push y⟩
  | exc x s' => exact h
  | bad => trivial
  | amb P f ih => obtain ⟨n, p, q⟩ := h; exact ⟨n, p, ih n q⟩
theorem NR.push {σ : Type} {J : σ → List Sl} {r : Fl} {q : Rs S σ} (h : NR W fr J r q) (y : D) : NR W fr (fun z => J z ++ [.val y]) (r.push (some y)) q := by
  induction q with
  | ok b s' => obtain ⟨ρ', st', rfl, H⟩ := h; exact ⟨_, st', rfl, H.push y⟩
  | exc x s' => obtain ⟨ρ', st', rfl, H⟩ := h; exact ⟨_, st', rfl, H⟩
  | bad => trivial
  | amb P f ih => obtain ⟨n, p, q⟩ := h; exact ⟨n, p, ih n q⟩
end
end Dn
namespace Dn
open PySem PySem.Spec PyProof.Rows L2
variable [HzC]
structure FnCls (P : Program) (w : World) (K : PySem.W.Frag) (mg : Str → Option Value) (base : Heap) (k : Nat) (nm m : Str) (spec : List D → M D) : Prop where
  ex : ∃ (C f : Addr) (mc : Value), mg nm = some (.ref C) ∧ ClX.CRead K C mc ∧ PySem.W.findCls K (.ref C) mc m = some (.val (.ref f)) ∧ PySem.W.keepIn K (.ref f) = true ∧ RunE P w K mg base k f spec
section
variable {X : Cx} {W : WX} {k j : Nat} {nm m : Str} {spec : List D → M D} {e : Expr} {es : List Expr} {am : Rho → M (List D)} {pos apos p : Pos}
end
structure FunS (K : PySem.W.Frag) (x qual : Str) (st : Stmt) (f : Addr) (fd : FuncData) (cda cc : Addr) : Prop where
  ex : ∃ (oc : Value) (od : Option Addr) (kV doc pm : Value) (an : Option Addr) (ct : Value) (osl : Array (Option Value)),
    fd = PySem.W.ksFn x qual (defArgs st) (defBody st) (defScope st) .none kV doc pm an (.ref cda) ct cc ∧ K.lookup f = some ⟨oc, od, .func fd, osl⟩ ∧ PySem.W.codeIn K (.ref cda) qual = true
structure SupK (P : Program) (K : PySem.W.Frag) (mg : Str → Option Value) (nm : Str) (cda cc Dc fD : Addr) : Prop where
  cell : ∃ cl cld csl, K.lookup cc = some ⟨cl, cld, .cell (some (.ref Dc)), csl⟩
  cls : ∃ cd, PySem.W.clsIn K Dc = some cd
  at_ : PySem.W.nsIn K mainGlobals nm = some (some (.ref Dc))
  own : PySem.W.mroIn K Dc (.ref Dc) = some true
  nsup : mg "super" = none
  code : ∃ ccl cdd vs ccs file tf, K.lookup cda = some ⟨ccl, cdd, .fields vs, ccs⟩ ∧ vs[2]? = some (.str file tf) ∧ ((P.main.file : Str) == file) = true
  top : (P.main.scope.names.lookup ("super" : Str)).isSome = false
  up : PySem.W.ks_superIn K Dc Dc "__init__" = some (some (.ref fD))
  ty : PySem.W.typeIn K (.ref fD) = some (.type "function")
  fi : PySem.W.fnIn K fD = true
  op : PySem.W.nsIn K cStatics "thirdparty.any" = some none
structure ScS (sc : Scope) : Prop where
  kind : sc.kind = .function
  co : sc.isCoroutine = false
  gen : sc.isGenerator = false
  nocell : ∀ y ∈ sc.names, y.2 ≠ .cell
  free : ∀ y, sc.names.lookup y = some .free → y = "__class__"
  cl : sc.names.lookup ("__class__" : Str) = some .free
  p0 : sc.names.lookup ("self" : Str) = some .local
  p1 : sc.names.lookup ("panel" : Str) = some .local
  p2 : sc.names.lookup ("state" : Str) = some .local
  sup : sc.names.lookup ("super" : Str) = some .globalImplicit
section
variable {P : Program} {w : World} {K : PySem.W.Frag} {mg : Str → Option Value} {base : Heap} {qual nm : Str} {scope : Scope} {f cda cc Dc fD : Addr} {A : Around} {outer : List Env} {s0 : Shared} {H0 : Hp} {E : XK}
end
end Dn
namespace Dn
open PySem PySem.Spec PyProof.Rows L2
variable [HzC]
section
variable {P : Program} {w : World} {A : Around} {E : Value → Shared → Prop} {s : Shared}
end
section
variable {X : Cx} {pos : Pos}
end
end Dn
namespace Dn
open PySem PySem.Spec PyProof.Rows L2
section
variable {A : Type} {R : DkR A} {fr : Sto} {Γ : List Sl} {ρ : Rho} {s s' : OS A} {st : Sto}
end
section
variable {S : Type} {W : Wd S} {fr : Sto} {Γ : List Sl}
end
end Dn
namespace Dn
open PySem PySem.Spec PyProof.Rows L2
variable [HzC]
structure IsK (K : PySem.W.Frag) (n : Str) (Dc : Addr) (b : Bool) : Prop where
  ex : ∃ C, PySem.W.nsIn K mainGlobals n = some (some (.ref C)) ∧ Cls K C ∧ PySem.W.findIn K (.ref C) "__class__" = some (some (.builtin "object.__class__")) ∧ PySem.W.specialIn K (.builtin "object.__class__") "__get__" = some (some (.builtin "getset_descriptor.__get__")) ∧
    PySem.W.takesIn K (.builtin "object.__class__") = some true ∧ PySem.W.mroIn K C (.type "object") = some true ∧ PySem.W.kitOne K (.ref C) (.ref Dc) = some b
def IsT (K : PySem.W.Frag) (mg : Str → Option Value) (nm : Str) (t : List (Str × Bool)) : Prop := ∃ Dc, mg nm = some (.ref Dc) ∧ ∀ n b, t.lookup n = some b → IsK K n Dc b
section
variable {X : Cx} {W : WX} {pos p p2 : Pos} {e : Expr} {m : Rho → M D}
end
section
open PySem.W
variable {prog : Program} {w : World} {A : Around} {E : Value → Shared → Prop} {s : Shared} {K : Frag} {x C L f : Addr} {h₀ : Heap} {m : Str → Option Value} {ox : Obj} {od : Option Obj}
end
section
variable {X : Cx} {W : WX} {k j : Nat} {t : Tbl} {rf : List (Str × Str)}
variable {a b : Expr} {m1 m2 : Rho → M D} {pos : Pos}
end
section
variable {A : Type} {R : DkR A} {fr : Sto} {Γ : List Sl} {ρ : Rho} {s s' : OS A} {st : Sto}
end
end Dn
namespace Dn
open PySem PySem.Spec PyProof.Rows L2
section
variable {A : Type} {R : DkR A} {fr : Sto} {Γ : List Sl} {α σ β : Type} {e : α → D} {J : σ → List Sl} {gf : D → Rho → M Rho} {mb : Rho → Sto → Fl} {G : α → σ → List Sl} {js : List Nat}
end
end Dn
namespace Dn
open PySem PySem.Spec PyProof.Rows L2
variable [HzC]
abbrev KF := PySem.W.Frag
def frcK {α : Type} : List (Addr × Obj) → (List (Addr × Obj) → α) → α
  | [], k => k []
  | (a, o) :: r, k => HandSHeadRun.frNat a fun a => frcK r fun r' => k ((a, o) :: r')
theorem frcK_eq {α : Type} : ∀ (l : List (Addr × Obj)) (k : List (Addr × Obj) → α), frcK l k = k l
  | [], _ => rfl
  | (a, o) :: r, k => by
    show HandSHeadRun.frNat a (fun a => frcK r fun r' => k ((a, o) :: r')) = _
    rw [HandSHeadRun.frNat_eq, frcK_eq r]
structure FnQ where
  at_ : KF → Addr
  name : Str
  qual : Str
  params : Arguments
  body : List Stmt
  scope : Scope
  clo : List Str := []
abbrev FvQ : Type := Option (Str × Str × Arguments × FuncBody × Scope × Addr × List Str × Value × Addr)
def fvQ (K : KF) (a : Addr) : FvQ := match K.lookup a with
  | some ⟨_, _, .func fd, _⟩ => some (fd.name, fd.qualname, fd.params, fd.body, fd.scope, fd.globals, fd.closure.map (·.1), fd.defaults, fd.builtins)
  | _ => none
def FnQ.val (d : FnQ) : FvQ := some (d.name, d.qual, d.params, .stmts d.body, d.scope, mainGlobals, d.clo, .none, builtinsNs)
def fnB (K : KF) (a : Addr) (q : Str) : Bool := PySem.W.keepIn K (.ref a) && (PySem.W.isFn K (.ref a) && (match K.lookup a with
  | some ⟨_, _, .func fd, _⟩ => PySem.W.codeIn K fd.code q
  | _ => false))
theorem fnq_of {K : KF} {a : Addr} {name qual : Str} {params : Arguments} {body : List Stmt} {scope : Scope} (e : fvQ K a = some (name, qual, params, .stmts body, scope, mainGlobals, [], .none, builtinsNs)) (c : fnB K a qual = true) :
    ∃ oc od sl kV dc pm an cd ct, K.lookup a = some ⟨oc, od, .func (PySem.W.fnOf name qual params body scope .none kV dc pm an cd ct), sl⟩ ∧ PySem.W.codeIn K cd qual = true ∧ PySem.W.keepIn K (.ref a) = true ∧ PySem.W.isFn K (.ref a) = true := by
  obtain ⟨c1, c0⟩ := Bool.and_eq_true_iff.mp c
  obtain ⟨c2, c3⟩ := Bool.and_eq_true_iff.mp c0
  unfold fvQ at e
  cases q : K.lookup a with
  | none =>
    rw [q] at e
    cases e
  | some o =>
    obtain ⟨oc, od, dt, sl⟩ := o
    rw [q] at e c3
    cases dt with
    | func fd =>
      obtain ⟨n1, n2, n3, n4, n5, n6, n7, n8, n9, n10, n11, n12, n13, n14, n15⟩ := fd
      have e2 : (some (n1, n2, n3, n4, n5, n6, n7.map (·.1), n8, n15) : FvQ) = some (name, qual, params, .stmts body, scope, mainGlobals, [], .none, builtinsNs) := e
      simp only [Option.some.injEq, Prod.mk.injEq] at e2
      obtain ⟨h1, h2, h3, h4, h5, h6, h7, h8, h9⟩ := e2
      have h7 : n7 = [] := List.map_eq_nil_iff.mp h7
      subst h1 h2 h3 h4 h5 h6 h7 h8 h9
      exact ⟨oc, od, sl, n9, n10, n11, n12, n13, n14, rfl, c3, c1, c2⟩
    | _ => cases e
def intB (K : KF) (x : Str) (i : Int) : Bool := match PySem.W.nsIn K mainGlobals x with
  | some (some (.int j _)) => decide (j = i)
  | _ => false
theorem int_of {K : KF} {x : Str} {i : Int} (c : intB K x i = true) : ∃ t, PySem.W.nsIn K mainGlobals x = some (some (.int i t)) := by
  unfold intB at c
  cases q : PySem.W.nsIn K mainGlobals x with
  | none => rw [q] at c; cases c
  | some o =>
    rw [q] at c
    cases o with
    | none => cases c
    | some v =>
      cases v with
      | int j t => exact ⟨t, by rw [show j = i from of_decide_eq_true c]⟩
      | _ => cases c
def strB (K : KF) (x z : Str) : Bool := match PySem.W.nsIn K mainGlobals x with
  | some (some (.str j _)) => decide (j = z)
  | _ => false
theorem str_of {K : KF} {x z : Str} (c : strB K x z = true) : ∃ t, PySem.W.nsIn K mainGlobals x = some (some (.str z t)) := by
  unfold strB at c
  cases q : PySem.W.nsIn K mainGlobals x with
  | none => rw [q] at c; cases c
  | some o =>
    rw [q] at c
    cases o with
    | none => cases c
    | some v =>
      cases v with
      | str j t => exact ⟨t, by rw [show j = z from of_decide_eq_true c]⟩
      | _ => cases c
def gdH (K : KF) (a : Addr) : List Int := match K.lookup a with
  | some ⟨_, _, .dict es _, _⟩ => es.toList.map (·.hash)
  | _ => []
abbrev AlQ : Type := Bool × List FvQ × List (List Int)
abbrev HdQ : Type := List ((KF → Addr) × List Str)
def obsQ (fa : List (KF → Bool)) (fn : List FnQ) (hd : HdQ) (K : KF) : AlQ := (fa.all fun f => f K, fn.map fun d => fvQ K (d.at_ K), hd.map fun p => gdH K (p.1 K))
def valQ (fn : List FnQ) (hd : HdQ) (P : Params) : AlQ := (true, fn.map FnQ.val, hd.map fun p => p.2.map (PyData.keyHash P))
def SaysQ (fa : List (KF → Bool)) (fn : List FnQ) (hd : HdQ) (P : Params) (K : KF) : Prop := obsQ fa fn hd K = valQ fn hd P
def obsQG (fa : List (KF → Bool)) (fn : List FnQ) (hd : HdQ) (g : Addr → Option Obj) (n : Nat) : AlQ := frcK (He.frG g (List.range n)) fun K => obsQ fa fn hd K
def hookQ (fa : List (KF → Bool)) (fn : List FnQ) (hd : HdQ) : PySem.W.Hook where
  α := AlQ
  obs := fun s => obsQG fa fn hd s.heap.get? s.heap.objs.size
  val := fun w => valQ fn hd w.params
  says := fun w h => ∃ K : KF, K.In h ∧ SaysQ fa fn hd w.params K
  of := fun w s e => by
    have e : frcK (He.frG s.heap.get? (List.range s.heap.objs.size)) (fun K => obsQ fa fn hd K) = valQ fn hd w.params := e
    rw [frcK_eq] at e
    exact ⟨_, He.frG_in, e⟩
  keeps := fun _ _ _ ⟨K, hK, c⟩ k => ⟨K, PySem.W.Frag.In.keeps hK k, c⟩
def obQ (fa : List (KF → Bool)) (fn : List FnQ) (hd : HdQ) (s : PySem.W.SharedT) : AlQ := obsQG fa fn hd (HandSHeadRun.getT s) s.n
theorem obQ_eq {fa : List (KF → Bool)} {fn : List FnQ} {hd : HdQ} (s : PySem.W.SharedT) : obQ fa fn hd s = (hookQ fa fn hd).obs s.abs := by
  have e : HandSHeadRun.getT s = s.abs.heap.get? := funext (HandSHeadRun.getT_eq s)
  have n : s.n = s.abs.heap.objs.size := (PySem.W.absHeap_size s.tree s.n s.life).symm
  unfold obQ
  rw [e, n] <;> rfl
section
variable {fa : List (KF → Bool)} {fn : List FnQ} {hd : HdQ} {P : Params} {K : KF}
theorem SaysQ.fact (c : SaysQ fa fn hd P K) (i : Nat) {f : KF → Bool} (h : fa[i]? = some f := by rfl) : f K = true := by
  have c1 : (fa.all fun f => f K) = true := congrArg (fun z : AlQ => z.1) c
  exact List.all_eq_true.mp c1 f (List.mem_of_getElem? h)
theorem SaysQ.def_ (c : SaysQ fa fn hd P K) (i : Nat) {d : FnQ} (h : fn[i]? = some d := by rfl) : fvQ K (d.at_ K) = d.val := by
  have e : (fn.map fun d => fvQ K (d.at_ K)) = fn.map FnQ.val := congrArg (fun z : AlQ => z.2.1) c
  have e2 : (fn.map fun d => fvQ K (d.at_ K))[i]? = (fn.map FnQ.val)[i]? := by rw [e]
  rw [List.getElem?_map, List.getElem?_map, h] at e2
  exact Option.some.inj e2
theorem SaysQ.hash (c : SaysQ fa fn hd P K) (i : Nat) {p : (KF → Addr) × List Str} (h : hd[i]? = some p := by rfl) : gdH K (p.1 K) = p.2.map (PyData.keyHash P) := by
  have e : (hd.map fun p => gdH K (p.1 K)) = hd.map fun p => p.2.map (PyData.keyHash P) := congrArg (fun z : AlQ => z.2.2) c
  have e2 : (hd.map fun p => gdH K (p.1 K))[i]? = (hd.map fun p => p.2.map (PyData.keyHash P))[i]? := by rw [e]
  rw [List.getElem?_map, List.getElem?_map, h] at e2
  exact Option.some.inj e2
end
omit [HzC] in
theorem walkQ {l : PySem.W.OpenLaw} {k : Nat} {q : Program} {loose : List Str} {XP : (Str → Option Value) → Heap → Prop} {YP : World → Heap → Prop} {d : DefRec} {spec : List D → M D} {x : Str}
    (hn : l.most = some 63) (hdf : d.params.defaults = []) (hr : Room k callerA)
    (hspec : ∀ ns : List Int, ns.length ≤ 63 → (∀ z ∈ ns, Builtin.Int.intBits z ≤ 1048576) → ∃ st', spec [.scr (ns.map D.int)] [] = .ok (.bl true) st')
    (G : ∀ (w : World) (mg : Str → Option Value) (fa : Addr) (h : Heap), YP w h → h.Ns mainGlobals mg → mg d.name = some (.ref fa) →
      ∃ i : HzC, letI := i; ∃ (K : PySem.W.Frag) (fd : FuncData), K.In h ∧ (∀ (s : Shared) (u : Value), BindsTo s fd ⟨[u], []⟩ [(x, u)]) ∧ ∀ base : Heap, K.In base → base.Ns mainGlobals mg → FnG l.prog w K mg base k fa fd [x] (spD K 1 spec)) :
    PySem.W.WalkO q loose XP YP l.row.toRowW d [] (fun f vs => PySem.call f vs) := by
  refine Att.attach_callB hn hdf fun w s0 t mg mb fa o pm cd doc a vs ns Gr Y ho hd hcd hmg hobj hints hlen hbits hg => ?_
  obtain ⟨i, K, fd, KX, hb, hF⟩ := G w mg fa _ Y Gr.T.g hmg
  letI := i
  obtain ⟨st', e⟩ := hspec ns hlen hbits
  exact end_law KX Gr.T.g Gr.T.b Gr.T.builtins Gr.T.nolimit hg hobj hints (Nat.le_trans hlen (by decide)) hr hF hb fun H hO hS => sp_start e hO hS
end Dn
namespace Dn
open PySem PySem.Spec PyProof.Rows L2
variable [HzC]
section
variable {X : Cx} {W : WX} {k j : Nat} {te tx : Tbl} {ctx : Expr} {body : List Stmt} {m : Rho → M D} {mb : Rho → Sto → Fl} {pos : Pos}
end
end Dn
namespace Dn
open PySem PySem.Spec PyProof.Rows L2
variable [HzC]
def spG (K : PySem.W.Frag) (np : Nat) (spec : List D → M (List D)) : SpG := fun vs H cont E => vs.length = np ∧ ∃ F ι st ds, Sim K F ι st H ∧ Reps K F ι ds vs ∧ post K (wE E) [] F ι H (pA K) (spec ds st) cont
section
variable {K : PySem.W.Frag} {W : WX} {σ : L2.St} {F F' : Hp} {ι ι' : List Addr} {H H' : Hp} {st st' : Sto}
end
section
variable {P : Program} {w : World} {K : PySem.W.Frag} {mg : Str → Option Value} {base : Heap}
end
structure GnC (P : Program) (w : World) (K : PySem.W.Frag) (mg : Str → Option Value) (base : Heap) (k : Nat) (x : Str) (np : Nat) (spec : List D → M (List D)) : Prop where
  ex : ∃ (f : Addr) (fd : FuncData) (ps : List Str), GFn P w K mg base k f fd ps (spG K np spec) ∧ mg x = some (.ref f) ∧ PySem.W.keepIn K (.ref f) = true ∧ Binds K fd ps []
structure GnM (P : Program) (w : World) (K : PySem.W.Frag) (mg : Str → Option Value) (base : Heap) (k : Nat) (m n : Str) (np : Nat) (spec : List D → M (List D)) : Prop where
  ex : ∃ (C f : Addr) (fd : FuncData) (ps : List Str), PySem.W.nsIn K mainGlobals n = some (some (.ref C)) ∧ Cls K C ∧ Meth K C m f ∧ GFn P w K mg base k f fd ps (spG K np spec) ∧ Binds K fd ps []
section
variable {X : Cx} {W : WX} {k j np : Nat} {x : Str} {spec : List D → M (List D)} {p p2 pos pos2 : Pos} {e : Expr} {es : List Expr} {am : Rho → M (List D)}
end
end Dn
namespace Dn
open PySem PySem.Spec PyProof.Rows L2
section
variable {S : Type} {W : Wd S} {fr : Sto} {Γ : List Sl} {β : Type}
end
end Dn
namespace Dn
open PySem PySem.Spec PyProof.Rows L2
variable [HzC]
abbrev TblG := List (Str × (List D → M (List D)))
section
variable {P : Program} {w : World} {K : PySem.W.Frag} {mg : Str → Option Value} {base : Heap} {k k' np : Nat} {m n : Str} {spec : List D → M (List D)} {t : TblG}
end
section
variable {X : Cx} {W : WX} {k j np : Nat} {m : Str} {t : TblG} {e o : Expr} {es : List Expr} {mo : Rho → M D} {am : Rho → M (List D)} {p pos pos2 apos : Pos}
end
section
variable {A : Type} {R : DkR A} {fr : Sto} {Γ : List Sl} {β : Type}
end
end Dn
namespace Dn
open PySem PySem.Spec PyProof.Rows L2
inductive ClT (X : Cx) : Expr → List Value → Prop
  | one {x : Str} {c : Value} {np : Pos} (hc : Names X x c) : ClT X (.Name x np) [c]
  | two {x y : Str} {c d : Value} {np nq tp : Pos} {kk : Nat} (hc : Names X x c) (hd : Names X y d) : ClT X (.Tuple [.Name x np, .Name y nq] kk tp) [c, d]
inductive ClB (X : Cx) (n : Str) : List ExceptHandler → List (List Value × (Addr → Value → Option Addr → TS)) → Prop
  | nil : ClB X n [] []
  | cons {t : Expr} {cs : List Value} {ts : Addr → Value → Option Addr → TS} {b₀ : Stmt} {suite : List Stmt} {pos' : Pos} {hds : List ExceptHandler} {l : List (List Value × (Addr → Value → Option Addr → TS))} (hc : ClT X t cs)
      (hsu : ∀ (a : Addr) (oe : Obj) (cls : Value) (d : Option Addr) (pn : List (Addr × Obj)), Zc cls d oe → (∃ vs, oe.data = .fields vs) → PSs (X.suite a ((a, oe) :: pn)) (b₀ :: suite) (ts a cls d)) (r : ClB X n hds l) :
      ClB X n (.ExceptHandler (some t) (some n) (b₀ :: suite) pos' :: hds) ((cs, ts) :: l)
section
variable {X : Cx} {n : Str} {i : Nat} {body : List Stmt} {h₀ : ExceptHandler} {hds : List ExceptHandler} {l : List (List Value × (Addr → Value → Option Addr → TS))} {pos : Pos} {tb : WX → TS} {Wout : WX}
end
end Dn
namespace Dn
open PySem PySem.Spec PyProof.Rows L2
variable [HzC]
def ExmP (K : PySem.W.Frag) (n y1 y2 : Str) (b : Bool) : Prop := ∀ C D1 D2, PySem.W.nsIn K mainGlobals n = some (some (.ref C)) → PySem.W.nsIn K mainGlobals y1 = some (some (.ref D1)) → PySem.W.nsIn K mainGlobals y2 = some (some (.ref D2)) →
  PySem.W.exmAny K (.ref C) [.ref D1, .ref D2] = some b
inductive CLb (X : Cx) (n : Str) (i : Nat) : List ExceptHandler → Clz → Prop
  | nil : CLb X n i [] []
  | cons {y : Str} {suite : List Stmt} {b₀ : Stmt} {np pos' : Pos} {mh : Xc → D → Rho → Sto → Fl} {yes no : List Str} {hds : List ExceptHandler} {cl : Clz} (hg : Gl X y) (T : ErrX X.K X.mg y) (hE1 : ∀ z ∈ yes, ErrX X.K X.mg z) (hE2 : ∀ z ∈ no, ErrX X.K X.mg z) (hyes : ∀ z ∈ yes, ExmB X.K z y true) (hno : ∀ z ∈ no, ExmB X.K z y false)
      (hh : ∀ (x : Xc) (e : D) (a : Addr) (oe : Obj) (pn : List (Addr × Obj)), x.nm ∈ yes → HC X x e a oe → DSs (X.suite a ((a, oe) :: pn)) wN (b₀ :: suite) (mh x e)) (hu : ∀ x, IndS i (mh x)) (r : CLb X n i hds cl) (hdb : (y == ("__debug__" : Str)) = false := by decide) :
      CLb X n i (.ExceptHandler (some (.Name y np)) (some n) (b₀ :: suite) pos' :: hds) ((yes, no, mh) :: cl)
  | two {y y2 : Str} {suite : List Stmt} {b₀ : Stmt} {np nq tp pos' : Pos} {kk : Nat} {mh : Xc → D → Rho → Sto → Fl} {yes no : List Str} {hds : List ExceptHandler} {cl : Clz} (hg : Gl X y) (T : ErrX X.K X.mg y) (hg2 : Gl X y2) (T2 : ErrX X.K X.mg y2) (hE1 : ∀ z ∈ yes, ErrX X.K X.mg z) (hE2 : ∀ z ∈ no, ErrX X.K X.mg z) (hyes : ∀ z ∈ yes, ExmP X.K z y y2 true) (hno : ∀ z ∈ no, ExmP X.K z y y2 false)
      (hh : ∀ (x : Xc) (e : D) (a : Addr) (oe : Obj) (pn : List (Addr × Obj)), x.nm ∈ yes → HC X x e a oe → DSs (X.suite a ((a, oe) :: pn)) wN (b₀ :: suite) (mh x e)) (hu : ∀ x, IndS i (mh x)) (r : CLb X n i hds cl) (hdb : (y == ("__debug__" : Str)) = false := by decide) (hdb2 : (y2 == ("__debug__" : Str)) = false := by decide) :
      CLb X n i (.ExceptHandler (some (.Tuple [.Name y np, .Name y2 nq] kk tp)) (some n) (b₀ :: suite) pos' :: hds) ((yes, no, mh) :: cl)
section
variable {X : Cx} {W : WX} {n : Str} {i : Nat} {body : List Stmt} {h₀ : ExceptHandler} {hds : List ExceptHandler} {cl : Clz} {pos : Pos} {mb : Rho → Sto → Fl}
end
end Dn
namespace HotX
open PySem PySem.Spec PyProof.Rows
end HotX
namespace L2H
open PySem PySem.Spec PyProof.Rows L2 HotX
end L2H
namespace Dn
open PySem PySem.Spec PyProof.Rows L2
abbrev suiteE (X : Cx) (a : Addr) (pn : List (Addr × Obj)) (xe : Value → Shared → Prop) : Cx := { X with A := X.A.mark (some (.ref a)), calm := false, pn := pn, xe := xe }
section
variable {X : Cx} {pins : List (Addr × Obj)} {σ : L2.St} {H : Hp} {s : Shared}
end
def sxe (X : Cx) (Wr : WX) (i : Nat) : Value → Shared → Prop := fun u s' => L2.XE X (fun cls d σ H => Wr cls d (σ.set i none) H) u s'
abbrev ZL := List (List Value × Bool × (Addr → Value → Option Addr → TS))
inductive ClZ (X : Cx) (Wr : WX) (i : Nat) (n : Str) : List ExceptHandler → ZL → Prop
  | nil : ClZ X Wr i n [] []
  | named {t : Expr} {cs : List Value} {ts : Addr → Value → Option Addr → TS} {b₀ : Stmt} {suite : List Stmt} {pos' : Pos} {hds : List ExceptHandler} {l : ZL} (hc : ClT X t cs) (hi : X.N[i]? = some n) (hln : X.env.kindOf n = some .local)
      (hsu : ∀ (a : Addr) (oe : Obj) (cls : Value) (d : Option Addr) (pn : List (Addr × Obj)), L2N.Zn cls d oe → (∃ vs, oe.data = .fields vs) → (∀ W' : WX, (∀ c d σ H, W' c d σ H → Wr c d (σ.set i none) H) → L2.Takes (suiteE X a ((a, oe) :: pn) (sxe X Wr i)) W') → PSs (suiteE X a ((a, oe) :: pn) (sxe X Wr i)) (b₀ :: suite) (ts a cls d)) (r : ClZ X Wr i n hds l) :
      ClZ X Wr i n (.ExceptHandler (some t) (some n) (b₀ :: suite) pos' :: hds) ((cs, true, ts) :: l)
  | bare {t : Expr} {cs : List Value} {ts : Addr → Value → Option Addr → TS} {b₀ : Stmt} {suite : List Stmt} {pos' : Pos} {hds : List ExceptHandler} {l : ZL} (hc : ClT X t cs)
      (hsu : ∀ (a : Addr) (oe : Obj) (cls : Value) (d : Option Addr) (pn : List (Addr × Obj)), L2N.Zn cls d oe → (∃ vs, oe.data = .fields vs) → PSs (X.suite a ((a, oe) :: pn)) (b₀ :: suite) (ts a cls d)) (r : ClZ X Wr i n hds l) :
      ClZ X Wr i n (.ExceptHandler (some t) none (b₀ :: suite) pos' :: hds) ((cs, false, ts) :: l)
section
variable {X : Cx} {n : Str} {i : Nat} {body : List Stmt} {h₀ : ExceptHandler} {hds : List ExceptHandler} {l : ZL} {pos : Pos} {tb : WX → TS} {Wout Wr : WX}
end
end Dn
namespace HotX
open PySem PySem.Spec PyProof.Rows
section
variable {prog : Program} {w : World} {A : Around} {E : Value → Shared → Prop} {s : Shared}
theorem HotAt.keep {x1 : Addr} {h h' : Heap} (q : HotAt A x1 h) (k : ∀ o, h.get? x1 = some o → h'.get? x1 = some o) : HotAt A x1 h' := by
  obtain ⟨q1, o, vs, q2, q3, q4⟩ := q
  exact ⟨q1, o, vs, k o q2, q3, q4⟩
end
end HotX
namespace Dn
open PySem PySem.Spec PyProof.Rows L2 HotX L2H
variable [HzC]
section
variable {X : Cx} {W : WX} {m1 m2 : Rho → M D}
end
end Dn
namespace Dn
open PySem PySem.Spec PyProof.Rows L2 HotX L2H
variable [HzC]
def FnX (P : Program) (w : World) (K : PySem.W.Frag) (mg : Str → Option Value) (base : Heap) (k : Nat) (f : Addr) (fd : FuncData) (p1 : Str) (nms : List Str) : Prop :=
  ∀ (A : Around) (outer : List Env) (s : Shared) (H : Hp) (ar : Args) (a : Addr) (oe : Obj) (x : Xc) (e : D) (F : Hp) (ι : List Addr) (st : Sto) (Q : VK) (E : XK), RoomH k A → A.handled = some (.ref a) → PinOk outer H s (a, oe) →
    (∃ C d, PySem.W.nsIn K mainGlobals x.nm = some (some (.ref C)) ∧ ExcC K C ∧ Zc (.ref C) d oe ∧ EV x a d e) → (∃ vs, oe.data = .fields vs) → PXN.CtxN oe → x.nm ∈ nms → Env0 P w K mg base A outer s H → BindsTo s fd ar [(p1, .ref a)] →
    Sim K F ι st H → Rep K F ι e (.ref a) → (∀ F' ι' H' v, Ext F ι H F' ι' H' → Sim K F' ι' st H' → Rep K F' ι' (.str x.nm) v → Q v H') → codeAny (model P w) A (.call (.ref f) ar) (CR (L2.CX P w) outer P w H s Q E) s
section
variable {P : Program} {w : World} {K : PySem.W.Frag} {mg : Str → Option Value} {base : Heap}
structure FnXC (P : Program) (w : World) (K : PySem.W.Frag) (mg : Str → Option Value) (base : Heap) (k : Nat) (x : Str) (nms : List Str) : Prop where
  ex : ∃ (f : Addr) (fd : FuncData) (p1 : Str), FnX P w K mg base k f fd p1 nms ∧ mg x = some (.ref f) ∧ PySem.W.keepIn K (.ref f) = true ∧ Binds K fd [p1] []
end
section
variable {X : Cx} {W : WX} {x : Xc} {e : D} {a : Addr} {oe : Obj} {pn : List (Addr × Obj)} {i k j : Nat} {p p2 pos : Pos} {ev fn : Str} {nms : List Str}
end
end Dn
namespace Dn
open PySem PySem.Spec PyProof.Rows L2 HotX L2H PySem.FldX
variable [HzC]
structure ClTX (X : Cx) (t : Expr) (yes no : List Str) : Prop where
  ex : ∃ cs, ClT X t cs ∧ (∀ z ∈ yes, ∀ C, PySem.W.nsIn X.K mainGlobals z = some (some (.ref C)) → PySem.W.exmAny X.K (.ref C) cs = some true) ∧ (∀ z ∈ no, ∀ C, PySem.W.nsIn X.K mainGlobals z = some (some (.ref C)) → PySem.W.exmAny X.K (.ref C) cs = some false)
section
variable {X : Cx} {y y2 : Str} {np nq tp : Pos} {kk : Nat} {yes no : List Str}
end
inductive CLz (X : Cx) (n : Str) (i : Nat) : List ExceptHandler → Clz → Prop
  | nil : CLz X n i [] []
  | cons {t : Expr} {suite : List Stmt} {b₀ : Stmt} {pos' : Pos} {mh : Xc → D → Rho → Sto → Fl} {yes no : List Str} {hds : List ExceptHandler} {cl : Clz} (hct : ClTX X t yes no) (hE1 : ∀ z ∈ yes, ErrX X.K X.mg z) (hE2 : ∀ z ∈ no, ErrX X.K X.mg z)
      (hh : ∀ (x : Xc) (e : D) (a : Addr) (oe : Obj) (pn : List (Addr × Obj)), x.nm ∈ yes → HC X x e a oe → PXN.CtxN oe → DSs (X.suite a ((a, oe) :: pn)) wN (b₀ :: suite) (mh x e)) (hu : ∀ x, IndS i (mh x)) (r : CLz X n i hds cl) :
      CLz X n i (.ExceptHandler (some t) (some n) (b₀ :: suite) pos' :: hds) ((yes, no, mh) :: cl)
section
variable {X : Cx} {W : WX} {n : Str} {i : Nat} {body : List Stmt} {h₀ : ExceptHandler} {hds : List ExceptHandler} {cl : Clz} {pos : Pos} {mb : Rho → Sto → Fl}
end
section
variable {X : Cx} {W : WX} {body suite : List Stmt} {b₀ : Stmt} {t : Expr} {pos pos' : Pos} {mb mh : Rho → Sto → Fl} {yes no : List Str}
end
section
variable {X : Cx} {W : WX} {body : List Stmt} {t arg : Expr} {pos pos' pr pc p pos2 : Pos} {mb : Rho → Sto → Fl} {yes no : List Str} {n nm f : Str} {i : Nat} {m : Rho → M D}
end
end Dn
namespace Dn
open PySem PySem.Spec PyProof.Rows L2
variable [HzC]
section
variable {X : Cx} {W : WX} {o e f : Expr} {apos cpos : Pos} {mo mi me : Rho → M D}
end
section
variable {P : Program} {w : World} {K : PySem.W.Frag} {mg : Str → Option Value} {base : Heap} {k k' : Nat} {m n : Str} {spec : List D → M D} {t : Tbl}
end
section
variable {X : Cx} {W : WX} {k j : Nat} {m : Str} {t : Tbl} {o e2 : Expr} {mo m2 : Rho → M D} {p pos apos : Pos}
end
end Dn
namespace Dn
open PySem PySem.Spec PyProof.Rows L2
section
variable {S σ β : Type}
end
section
variable {S : Type} {W : Wd S} {fr : Sto} {Γ : List Sl} {σ β : Type} {i : Nat} {enc : β → D}
end
section
variable {S : Type} {W : Wd S} {fr : Sto} {Γ : List Sl}
end
end Dn
namespace Dn
open PySem PySem.Spec PyProof.Rows L2 HotX L2H
variable [HzC]
structure NdX (X : Cx) : Prop where nd : X.N.Nodup
end Dn
namespace Dn
open PySem PySem.Spec PyProof.Rows L2
variable [HzC]
structure FnIC (P : Program) (w : World) (K : PySem.W.Frag) (mg : Str → Option Value) (base : Heap) (k : Nat) (nm : Str) (spec : List D → M D) (C : Addr) : Prop where
  ex : ∃ f : Addr, PySem.W.nsIn K mainGlobals nm = some (some (.ref C)) ∧ Mk K C f ∧ RunE P w K mg base k f spec
section
variable {X : Cx} {W : WX} {k j i : Nat} {a : Addr} {nm x : Str} {spec : List D → M D} {e : Expr} {es : List Expr} {am : Rho → M (List D)} {pos p : Pos}
end
structure FnCM (P : Program) (w : World) (K : PySem.W.Frag) (mg : Str → Option Value) (base : Heap) (k : Nat) (nm m : Str) (spec : Addr → List D → M D) : Prop where
  ex : ∃ (C p g : Addr) (mc : Value), mg nm = some (.ref C) ∧ ClX.CRead K C mc ∧ ClX.CMet K C mc m p g ∧ RunE P w K mg base k g (spec C)
  ind : ∀ a ds st, spec a (.adr a :: ds) st = spec 0 (.adr 0 :: ds) st
section
variable {X : Cx} {W : WX} {k j : Nat} {nm m : Str} {spec : Addr → List D → M D} {e : Expr} {es : List Expr} {am : Rho → M (List D)} {pos apos p : Pos}
end
section
variable {S : Type} {W : Wd S} {fr : Sto} {Γ : List Sl}
end
end Dn
namespace Dn
open PySem PySem.Spec PyProof.Rows L2
end Dn
namespace Dn
open PySem PySem.Spec PyProof.Rows L2
variable [HzC]
structure IsKU (K : PySem.W.Frag) (n : Str) (T : String) (b : Bool) : Prop where
  ex : ∃ C, PySem.W.nsIn K mainGlobals n = some (some (.ref C)) ∧ Cls K C ∧ PySem.W.findIn K (.ref C) "__class__" = some (some (.builtin "object.__class__")) ∧ PySem.W.specialIn K (.builtin "object.__class__") "__get__" = some (some (.builtin "getset_descriptor.__get__")) ∧
    PySem.W.takesIn K (.builtin "object.__class__") = some true ∧ PySem.W.mroIn K C (.type "object") = some true ∧ PySem.W.kitOne K (.ref C) (.type T) = some b
section
variable {X : Cx} {W : WX} {pos p p2 : Pos} {e : Expr} {m : Rho → M D}
end
section
variable {S : Type} {W : Wd S} {fr : Sto} {Γ : List Sl}
end
section
variable {A : Type} {R : DkR A} {fr : Sto} {Γ : List Sl}
end
structure ConK (K : PySem.W.Frag) (n f : Str) (i : Int) : Prop where
  ex : ∃ C t, PySem.W.nsIn K mainGlobals n = some (some (.ref C)) ∧ Cls K C ∧ PySem.W.findIn K (.ref C) f = some (some (.int i t)) ∧ PySem.W.specialIn K (.int i t) "__get__" = some none
section
variable {X : Cx} {W : WX} {f : Str} {i : Int} {nms : List Str} {e : Expr} {m : Rho → M D} {pos : Pos}
end
section
variable {A : Type} {R : DkR A} {fr : Sto} {Γ : List Sl}
end
end Dn
namespace Dn
open PySem PySem.Spec PyProof.Rows L2
section
variable {S : Type} {W : Wd S} {fr : Sto} {Γ : List Sl}
end
section
variable {S τ β : Type}
end
section
variable {S : Type} {W : Wd S} {fr : Sto} {Γ : List Sl} {τ β : Type} {i : Nat} {enc : β → D}
inductive ClF (W : Wd S) (fr : Sto) (Γ : List Sl) (i : Nat) (J : τ → List Sl) (enc : β → D) : Clz → Clm S (τ ⊕ β) → Prop
  | nil : ClF W fr Γ i J enc [] []
  | cons {yes no : List Str} {mh : Xc → D → Rho → Sto → Fl} {qh : Xc → Mt S (τ ⊕ β)} {cl : Clz} {cm : Clm S (τ ⊕ β)} (hh : ∀ x, TF W fr ((keepK Γ).set i (.val (e0 x))) (mh x (e0 x)) (qh x) J enc) (r : ClF W fr Γ i J enc cl cm) : ClF W fr Γ i J enc ((yes, no, mh) :: cl) ((yes, no, qh) :: cm)
end
section
variable {A : Type} {R : DkR A} {fr : Sto} {Γ : List Sl}
end
end Dn
namespace Dn
open PySem PySem.Spec PyProof.Rows L2
variable [HzC]
section
variable {P : Program} {w : World} {K : PySem.W.Frag} {mg : Str → Option Value} {base : Heap}
structure FnV (P : Program) (w : World) (K : PySem.W.Frag) (mg : Str → Option Value) (base : Heap) (k : Nat) (x : Str) (np : Nat) (spec : List D → M D) : Prop where
  ex : ∃ (f : Addr) (fd : FuncData) (ps : List Str), FnG P w K mg base k f fd ps (spD K np spec) ∧ mg x = some (.ref f) ∧ PySem.W.keepIn K (.ref f) = true ∧ Binds K fd ps []
  at_ : ∃ f, mg x = some (.ref f) ∧ PySem.W.nsIn K mainGlobals x = some (some (.ref f))
end
section
variable {X : Cx} {W : WX} {j k np i : Nat} {x a : Str} {spec : List D → M D} {tb : Tbl} {p pos : Pos} {e : Expr} {es : List Expr} {am : Rho → M (List D)}
end
section
variable {X : Cx} {W : WX} {k : Nat} {body : List Stmt} {f₀ : Stmt} {fs : List Stmt} {pos : Pos} {mb mf : Rho → Sto → Fl}
end
section
variable {S : Type} {W : Wd S} {fr : Sto} {Γ : List Sl} {σ β τ : Type} {enc : β → D}
end
section
variable {A : Type} {R : DkR A} {fr : Sto} {Γ : List Sl}
end
section
variable {A : Type} {R : DkR A} {fr : Sto} {Γ : List Sl}
end
section
variable {S : Type} {W : Wd S} {fr : Sto} {Γ : List Sl}
end
structure ConC (K : PySem.W.Frag) (mg : Str → Option Value) (nm f : Str) (i : Int) : Prop where
  ex : ∃ (C : Addr) (t : Tok), mg nm = some (.ref C) ∧ ClX.CRead K C (.type "type") ∧ PySem.W.findCls K (.ref C) (.type "type") f = some (.val (.int i t))
end Dn
namespace Dn
open PySem PySem.Spec PyProof.Rows L2
variable [HzC]
section
variable {X : Cx} {W : WX} {a b c : Expr} {ta : TA} {p p2 pos pos2 : Pos} {m1 m2 m3 : Rho → M D}
end
section
variable {S : Type} {W : Wd S} {fr : Sto} {Γ : List Sl}
end
end Dn
namespace Dn
open PySem PySem.Spec PyProof.Rows L2
section
variable {S : Type} {W : Wd S} {fr : Sto} {Γ : List Sl}
end
end Dn
namespace Dn
open PySem PySem.Spec PyProof.Rows L2
variable [HzC]
def txOf (e : Int × Value) : Str := match e.2 with | .str k _ => k | _ => Str.empty
def TxRow (w : World) (e : Int × Value) : Prop := ∃ k u, e.2 = Value.str k u ∧ e.1 = hashStr w k
def SetX (w : World) (h : Heap) (b : Addr) (M : Str → Bool) (c : Nat) : Prop :=
  ∃ ob rw_ ep tb, h.get? b = some ob ∧ ob.ExactSet ∧ ob.data = .set rw_ ep tb ∧ (∀ e ∈ rw_.toList, TxRow w e) ∧ (rw_.toList.map txOf).Nodup ∧ (∀ k, M k = true ↔ k ∈ rw_.toList.map txOf) ∧
    rw_.size < scanBound ∧ tb.fits rw_.size = true ∧ rw_.size = c ∧ Ris tb.place.toList ∧ (w.params.followText "set-order" = true ∨ tb.led = true)
section
variable {P : Program} {w : World} {h h' : Heap} {b : Addr} {M : Str → Bool} {c : Nat}
theorem SetX.at (X : SetX w h b M c) (k : ∀ ob, h.get? b = some ob → h'.get? b = some ob) : SetX w h' b M c := by
  obtain ⟨ob, rw_, ep, tb, ho, q⟩ := X
  exact ⟨ob, rw_, ep, tb, k ob ho, q⟩
theorem SetX.same {M' : Str → Bool} (X : SetX w h b M c) (e : ∀ k, M' k = M k) : SetX w h b M' c := by
  rw [show M' = M from funext e]; exact X
end
section
variable {P : Program} {w : World} {A : Around} {E : Value → Shared → Prop} {s : Shared} {b : Addr} {M : Str → Bool} {c : Nat}
end
section
variable {P : Program} {w : World} {A : Around} {E : Value → Shared → Prop} {s : Shared}
end
theorem ltS_irr (a : Str) : ltS a a = false := by unfold ltS; simp [List.lt_irrefl]
section
variable {X : Cx} {W : WX} {a : Expr} {m : Rho → M D} {p p2 q pos : Pos}
end
section
variable {S : Type} {W : Wd S} {fr : Sto} {Γ : List Sl}
end
end Dn
namespace Dn
open PySem PySem.Spec PyProof.Rows L2
variable [HzC]
section
variable {X : Cx} {W : WX} {e : Expr} {lo hi : Option Expr} {pos p2 : Pos}
end
section
variable {S : Type} {W : Wd S} {fr : Sto} {Γ : List Sl} {α : Type} {e : α → D}
def mcastW {S : Type} (d : D) : Mt S (List Str) := match d with
  | .tup xs => (match strsOf xs with
    | some r => mpure r
    | none => mbad)
  | _ => mbad
theorem castW_tup (xs : List D) : mcastW (S := S) (.tup xs) = match strsOf xs with
    | some r => mpure r
    | none => mbad := rfl
theorem strsOf_inv : ∀ {xs : List D} {r : List Str}, strsOf xs = some r → xs = r.map eS
  | [], r, h => by cases h; rfl
  | d :: xs, r, h => by
    cases d with
    | str y =>
      have h : (strsOf xs).map (y :: ·) = some r := h
      cases e : strsOf xs with
      | none => rw [e] at h; cases h
      | some z =>
        rw [e] at h
        cases h
        rw [strsOf_inv e] <;> rfl
    | _ => cases h
theorem castW_e (r : List Str) : mcastW (S := S) (eT eS r) = mpure r := by
  show (match strsOf (r.map eS) with
    | some r => mpure r
    | none => mbad) = _
  rw [strsOf_eS]
theorem ht_castW {m : Rho → M D} {q : Mt S D} (h : HT W fr Γ m q eD fun _ => Γ) : HT W fr Γ m (mbind q mcastW) (eT eS) fun _ => Γ := fun s ρ st H => or_cast (fun a b s e => by
  cases a with
  | tup xs =>
    rw [castW_tup] at e
    cases hx : strsOf xs with
    | none => rw [hx] at e; cases e
    | some r =>
      rw [hx] at e
      cases e
      rw [strsOf_inv hx]
      rfl
  | _ => cases e) (fun a s => by
  cases a with
  | tup xs =>
    rw [castW_tup]
    cases hx : strsOf xs with
    | none => exact .inr rfl
    | some r => exact .inl ⟨_, rfl⟩
  | _ => exact .inr rfl) (h s ρ st H)
end
section
variable {α : Type} {e : α → D} {n : Nat}
end
end Dn
namespace Dn
open PySem PySem.Spec PyProof.Rows L2
variable [HzC]
open PySem.SeqAt PySem.MeetsSeq
section
variable {P : Program} {w : World} {A : Around} {E : Value → Shared → Prop} {s : Shared}
end
section
variable {S : Type} {W : Wd S} {fr : Sto} {Γ : List Sl}
end
end Dn
namespace Dn
open PySem PySem.Spec PyProof.Rows L2
variable [HzC]
theorem Grow.trans {F F1 F2 : Hp} {ι ι1 ι2 : List Addr} (a : Grow F ι F1 ι1) (b : Grow F1 ι1 F2 ι2) : Grow F ι F2 ι2 := ⟨fun x o h => b.f x o (a.f x o h), fun l x h => b.i l x (a.i l x h)⟩
section
variable {X : Cx} {W : WX} {pos : Pos} {tg iter tg1 iter1 elt : Expr} {ifs ifs1 : List Expr} {scope : Scope} {own : List (Str × Nat)} {ms ms1 : Rho → M Src} {js js1 vs1 : List Nat} {gf gf1 : D → Rho → M Rho} {mt mt1 : Rho → M Bool} {me : Rho → M D}
end
section
variable {S : Type} {W : Wd S} {fr : Sto} {Γ : List Sl} {α β : Type} {e : α → D} {enc : β → D} {gf : D → Rho → M Rho} {mt : Rho → M Bool} {me : Rho → M D} {vs js : List Nat} {G : α → List Sl}
end
end Dn
namespace Dn
open PySem PySem.Spec PyProof.Rows L2
variable [HzC]
section
variable {P : Program} {w : World} {A : Around} {E : Value → Shared → Prop} {s : Shared}
end
section
variable {X : Cx} {pos : Pos}
end
section
variable {S : Type} {W : Wd S} {fr : Sto} {Γ : List Sl}
end
end Dn
namespace Dn
open PySem PySem.Spec PyProof.Rows L2
section
variable {S : Type} {α β : Type}
end
section
variable {S : Type} {W : Wd S} {fr : Sto} {Γ : List Sl} {α β : Type} {e : α → D} {enc : β → D} {i j l : Nat} {s s' : S} {ρ : Rho} {st st' : Sto} {kv kv' : Kv α}
end
end Dn
namespace Dn
open PySem PySem.Spec PyProof.Rows L2
variable [HzC]
section
variable {X : Cx} {W : WX} {pos : Pos}
variable {spos py : Pos} {tg iter tg1 iter1 elt : Expr} {ifs ifs1 : List Expr} {scope : Scope} {own : List (Str × Nat)} {ms ms1 : Rho → M Src} {js js1 vs1 : List Nat} {gf gf1 : D → Rho → M Rho} {mt mt1 : Rho → M Bool} {me : Rho → M D} {i : Nat} {y : Str}
end
end Dn
namespace Dn
open PySem PySem.Spec PyProof.Rows L2
variable [HzC]
def txsOf : List D → Option (List Str)
  | [] => some []
  | .str i :: ds => (txsOf ds).map (i :: ·)
  | _ => none
theorem txsOf_some : ∀ {ds : List D} {ns : List Str}, txsOf ds = some ns → ds = ns.map D.str
  | [], _, h => by cases h; rfl
  | .str i :: ds, ns, h => by
    unfold txsOf at h
    cases e : txsOf ds with
    | none => rw [e] at h; cases h
    | some ms =>
      rw [e] at h
      cases h
      rw [List.map_cons, ← txsOf_some e]
theorem txsOf_str : ∀ ns : List Str, txsOf (ns.map D.str) = some ns
  | [] => rfl
  | n :: ns => by
    rw [List.map_cons]
    unfold txsOf
    rw [txsOf_str ns]
    rfl
theorem reps_txs {K : PySem.W.Frag} {F : Hp} {ι : List Addr} : ∀ ns : List Str, Reps K F ι (ns.map D.str) (ns.map V.str)
  | [] => Reps.nil
  | n :: ns => by
    rw [List.map_cons, List.map_cons]
    exact Reps.cons (by simp only [Rep]) (reps_txs ns)
theorem reps_txs_vs {K : PySem.W.Frag} {F : Hp} {ι : List Addr} : ∀ {ns : List Str} {vs : List V}, Reps K F ι (ns.map D.str) vs → vs = ns.map V.str
  | [], _, h => by simpa only [List.map_nil, Reps] using h
  | n :: ns, _, h => by
    simp only [List.map_cons, Reps] at h
    obtain ⟨v, r, rfl, h1, h2⟩ := h
    simp only [Rep] at h1
    rw [h1, reps_txs_vs h2] <;> rfl
def HzOk (P : Program) (w : World) : Prop := ∀ s : Str, HzC.hz s = (PySem.strKind P w).hash s
theorem ent_eq {P : Program} {w : World} (hz : HzOk P w) : (entS : List Str × Addr × Value → DictEntry) = entryOfKey (tupleKind (PySem.strKind P w)) := by
  funext x
  unfold entS hzS
  rw [show (HzC.hz : Str → Int) = (PySem.strKind P w).hash from funext hz]
  rfl
def dctOfW (st : Sto) : D → Option (List (List Str) × List D)
  | .ref l => match st[l]? with
    | some (.dcs ks xs) => some (ks, xs)
    | _ => none
  | _ => none
def keyOfW : D → Option (List Str)
  | .tup xs => txsOf xs
  | _ => none
def setKW : List (List Str) → List D → List Str → D → List D
  | k :: ks, d :: ds, j, e => (if k = j then e else d) :: setKW ks ds j e
  | _, _, _, _ => []
def putKsW (ks : List (List Str)) (j : List Str) : List (List Str) := if j ∈ ks then ks else ks ++ [j]
def putVsW (ks : List (List Str)) (ds : List D) (j : List Str) (e : D) : List D := if j ∈ ks then setKW ks ds j e else ds ++ [e]
section
variable {K : PySem.W.Frag} {F H : Hp} {ι : List Addr} {st : Sto} {a b : Addr} {xs : List (List Str × Addr × Value)}
theorem atKey_consW (x : List Str × Addr × Value) (xs : List (List Str × Addr × Value)) (j : List Str) : atKey (x :: xs) j = if x.1 = j then some x.2 else atKey xs j := by
  unfold atKey
  rw [List.find?_cons]
  by_cases h : x.1 = j
  · simp [h]
  · simp [h]
theorem at_memW (j : List Str) : ∀ xs : List (List Str × Addr × Value), (atKey xs j).isSome = decide (j ∈ xs.map (·.1))
  | [] => rfl
  | x :: xs => by
    rw [atKey_consW, List.map_cons]
    by_cases h : x.1 = j
    · rw [if_pos h]; simp [h]
    · rw [if_neg h, at_memW j xs]
      simp [Ne.symm h]
theorem put_keysW (j : List Str) (b : Addr) (u : Value) (xs : List (List Str × Addr × Value)) : (storedH xs j b u).map (·.1) = putKsW (xs.map (·.1)) j := by
  unfold storedH putKsW
  rw [at_memW]
  by_cases h : j ∈ xs.map (·.1)
  · rw [decide_eq_true h, if_pos rfl, if_pos h, List.map_map]
    apply List.map_congr_left
    intro x _
    show (putAt j u x).1 = x.1
    unfold putAt
    split <;> rfl
  · rw [decide_eq_false h, if_neg (by decide), if_neg h, List.map_append] <;> rfl
theorem put_sqW {k : List Str} {v : Value} {P : List Str → Addr → Prop} (h : ∀ x ∈ xs, P x.1 x.2.1) (hb : P k b) : ∀ x ∈ storedH xs k b v, P x.1 x.2.1 := fun x hx => by
  unfold storedH at hx
  split at hx
  · obtain ⟨y, hy, rfl⟩ := List.mem_map.mp hx
    unfold putAt
    split
    · exact h y hy
    · exact h y hy
  · rcases List.mem_append.mp hx with hx | hx
    · exact h x hx
    · rw [List.mem_singleton.mp hx]
      exact hb
theorem set_valsW {j : List Str} {e : D} {v : V} {u : Value} (re : Rep K F ι e v) (ru : RelV v u) : ∀ {xs : List (List Str × Addr × Value)} {ds : List D} {ws : List V}, Vals ws (xs.map (·.2.2)) → Reps K F ι ds ws → ∃ ws', Vals ws' ((xs.map (putAt j u)).map (·.2.2)) ∧ Reps K F ι (setKW (xs.map (·.1)) ds j e) ws'
  | [], ds, ws, _, _ => ⟨[], .nil, by unfold setKW; exact Reps.nil⟩
  | x :: xs, ds, ws, vr, r => by
    rw [List.map_cons] at vr
    cases vr with
    | @cons w u' ws us hw ht =>
      cases ds with
      | nil => have := r.length; simp at this
      | cons e' ds =>
        simp only [Reps] at r
        obtain ⟨v', rs, he, r1, r2⟩ := r
        cases he
        obtain ⟨ws', q1, q2⟩ := set_valsW re ru ht r2
        rw [List.map_cons, List.map_cons, List.map_cons]
        unfold setKW
        by_cases hx : x.1 = j
        · refine ⟨v :: ws', .cons ?_ q1, ?_⟩
          · unfold putAt; rw [if_pos hx]; exact ru
          · rw [if_pos hx]; exact Reps.cons re q2
        · refine ⟨w :: ws', .cons ?_ q1, ?_⟩
          · unfold putAt; rw [if_neg hx]; exact hw
          · rw [if_neg hx]; exact Reps.cons r1 q2
theorem put_valsW {j : List Str} {b : Addr} {e : D} {v : V} {u : Value} (re : Rep K F ι e v) (ru : RelV v u) {ds : List D} {ws : List V} (vr : Vals ws (xs.map (·.2.2))) (r : Reps K F ι ds ws) : ∃ ws', Vals ws' ((storedH xs j b u).map (·.2.2)) ∧ Reps K F ι (putVsW (xs.map (·.1)) ds j e) ws' := by
  unfold storedH putVsW
  rw [at_memW]
  by_cases h : j ∈ xs.map (·.1)
  · rw [decide_eq_true h, if_pos rfl, if_pos h]
    exact set_valsW re ru vr r
  · rw [decide_eq_false h, if_neg (by decide), if_neg h, List.map_append]
    exact ⟨ws ++ [v], Paired.snoc vr ru, r.snoc re⟩
theorem Sim.dcs (S : Sim K F ι st H) {d : D} {v : V} {ks : List (List Str)} {ds : List D} (r : Rep K F ι d v) (h : dctOfW st d = some (ks, ds)) : ∃ a xs ws, v = .ref a ∧ (a == sysModules) = false ∧ H a = some (DcsO a xs) ∧ KeysS K F ks xs ∧ Vals ws (xs.map (·.2.2)) ∧ Reps K F ι ds ws := by
  unfold dctOfW at h
  split at h
  · rename_i l
    split at h
    · rename_i ks' xs' e
      cases h
      simp only [Rep] at r
      obtain ⟨a, e2, q⟩ := r
      obtain ⟨xs, ws, z, q2, kt, vr, r⟩ := S.obj l _ a e q
      exact ⟨a, xs, ws, e2, z, q2, kt, vr, r⟩
    · cases h
  · cases h
theorem key_atW {d : D} {v : V} {k : List Str} (r : Rep K F ι d v) (h : keyOfW d = some k) : ∃ b, v = .ref b ∧ SqP K F b (k.map V.str) := by
  unfold keyOfW at h
  split at h
  · simp only [Rep] at r
    obtain ⟨b, vs, e, q, rs⟩ := r
    have := txsOf_some h
    subst this
    rw [reps_txs_vs rs] at q
    exact ⟨b, e, q⟩
  · cases h
end
abbrev KIW (X : Cx) := tupleKind (PySem.strKind X.prog X.w)
section
variable {X : Cx} {pins : List (Addr × Obj)} {σ : L2.St} {H : Hp} {s : Shared} {a b : Addr} {xs : List (List Str × Addr × Value)} {k : List Str} {A : Around} {E : Value → Shared → Prop}
def DAtW (K : PySem.W.Frag) (H : Hp) (a : Addr) (xs : List (List Str × Addr × Value)) : Prop := (a == sysModules) = false ∧ H a = some (DcsO a xs) ∧ ∀ x ∈ xs, SqT K H x.2.1 (x.1.map V.str)
theorem items_intsW : ∀ {k : List Str} {its : List Value}, Vals (k.map V.str) its → ItemsAre (PySem.strKind X.prog X.w) k its
  | [], _, r => by rw [List.map_nil] at r; cases r; exact .nil
  | i :: k, _, r => by
    rw [List.map_cons] at r
    cases r with
    | @cons v u vs us h t =>
      obtain ⟨t', rfl⟩ := h
      exact .cons (strKind_is _ _ _ _) (items_intsW t)
theorem isKeyIW (I : Inv X pins σ H s) (h : SqT X.K H b (k.map V.str)) : (KIW X).is s.heap k b := by
  obtain ⟨its, r, ⟨o, h1, h2, n, h3⟩, _⟩ := I.tuple h
  exact ⟨o, its.toArray, n, h1, h2, h3, by simpa using items_intsW r⟩
theorem dctH_ofW (hz0 : HzOk X.prog X.w) (I : Inv X pins σ H s) (h : DAtW X.K H a xs) : s.heap.DictOfH (KIW X) a xs := by
  obtain ⟨_, e, kt⟩ := h
  obtain ⟨⟨o, es, ep, h1, h2, h3, h4, h5⟩, _, _⟩ := (show ObjOk X.prog X.w H s.heap a (DcsO a xs) from I.hok a _ e)
  exact ⟨o, es, ep, h1, h2, h3, by rw [← ent_eq hz0]; exact h4, fun x hx => isKeyIW I (kt x hx), h5⟩
theorem dctO_okW {P : Program} {w : World} {H' : Hp} {h' : Heap} (h : DcsH a xs h') : ObjOk P w H' h' a (DcsO a xs) := by
  refine ⟨h, let ⟨o, _, _, e, _⟩ := h; ⟨o, e⟩, fun h1 h2 q k => ?_⟩
  obtain ⟨o, es, ep, e, r⟩ := q
  exact ⟨o, es, ep, k o e, r⟩
theorem dctI_notInW (hz0 : HzOk X.prog X.w) {Q : Value → Shared → Prop} (hu : A.units + 1 < cLine) (I : Inv X pins σ H s) (g : DAtW X.K H a xs) (hk : SqT X.K H b (k.map V.str)) (h : ∀ s', Inv X pins σ H s' → Q (.bool (!decide (k ∈ xs.map (·.1)))) s') :
    wpAny (model X.prog X.w) A (compareOp .NotIn (.ref b) (.ref a)) Q E s := by
  refine wpAny_notIn_heap (tupleKind_room_in1 hu) (isKeyIW I hk) g.1 (dctH_ofW hz0 I g) ?_
  rw [at_memW]
  exact h _ (I.tok _)
theorem dct_put_okW (hz0 : HzOk X.prog X.w) (I : Inv X pins σ H s) {ys : List (List Str × Addr × Value)} {h' : Heap} {t' : Nat} (e : H a = some (DcsO a xs)) (hm : h'.DictOfH (KIW X) a ys) (hs : Heap.SameBut a s.heap h') : Inv X pins σ (upd H a (DcsO a ys)) { s with heap := h', toks := t' } := by
  obtain ⟨o, es, ep, h1, h2, h3, h4, _, h5⟩ := hm
  exact d_write I (by rw [e]; exact True.intro) hs ⟨o, h1⟩ (dctO_okW ⟨o, es, ep, h1, h2, h3, by rw [ent_eq hz0]; exact h4, h5⟩)
theorem dctI_setW (hz0 : HzOk X.prog X.w) {Q : Unit → Shared → Prop} {u : Value} (hu : A.units + 1 < cLine) (I : Inv X pins σ H s) (g : DAtW X.K H a xs) (hk : SqT X.K H b (k.map V.str)) (hl : xs.length ≤ sizeLine) (h : ∀ s', Inv X pins σ (upd H a (DcsO a (storedH xs k b u))) s' → Q () s') :
    wpAny (model X.prog X.w) A (setItem (.ref a) (.ref b) u) Q E s :=
  wpAny_setItem_heap (hsz := hl) (tupleKind_room_in1 hu) (isKeyIW I hk) (dctH_ofW hz0 I g) fun h' hm hs => h _ (dct_put_okW hz0 I g.2.1 hm hs)
end
section
variable {X : Cx} {W : WX} {o i e f value : Expr} {pos pos' apos cpos : Pos} {mo mi me : Rho → M D} {td ty tv tx : TE}
def pNotInDW : Sto → D → D → Option D := fun st a b => (keyOfW a).bind fun k => (dctOfW st b).map fun p => .bl (!decide (k ∈ p.1))
theorem op_pNotInDW (hz0 : HzOk X.prog X.w) (hu : X.A.units + 65 < cLine) : OpR X (compareOp .NotIn) (rP X.K pNotInDW) := by
  intro pins s σ H x y v u Q I rx ry ⟨F, ι, st, a, b, d, S, ra, rb, e, q⟩
  unfold pNotInDW at e
  cases ek : keyOfW a with
  | none => rw [ek] at e; cases e
  | some k =>
    cases ed : dctOfW st b with
    | none => rw [ek, ed] at e; cases e
    | some p =>
      rw [ek, ed] at e
      cases e
      obtain ⟨b', rfl, hb⟩ := key_atW ra ek
      obtain ⟨a', xs, ws, rfl, z, q2, kt, vr, r⟩ := S.dcs rb (ks := p.1) (ds := p.2) ed
      obtain rfl : v = Value.ref b' := rx
      obtain rfl : u = Value.ref a' := ry
      refine dctI_notInW hz0 (by omega) I ⟨z, q2, fun x hx => S.sqT (kt.2 x hx)⟩ (S.sqT hb) fun s' I' => ⟨.bl _, H, I', rfl, ?_⟩
      rw [kt.1]
      exact q F H _ Ext.refl S (by simp only [Rep])
end
section
variable {X : Cx} {W : WX} {o i e f value : Expr} {pos pos' apos cpos : Pos} {mo mi me mv : Rho → M D} {td ty tv tx : TE}
def sDPutIW (K : PySem.W.Frag) (td ty tv : TE) : TS := fun D σ H => tv σ H fun v H1 => td σ H1 fun x H2 => ty σ H2 fun y H3 => ∃ (a b : Addr) (xs : List (List Str × Addr × Value)) (k : List Str), x = .ref a ∧ y = .ref b ∧ DAtW K H3 a xs ∧ SqT K H3 b (k.map V.str) ∧ xs.length ≤ sizeLine ∧ ∀ u, RelV v u → D.nx σ (upd H3 a (DcsO a (storedH xs k b u)))
theorem ps_dputIW (hz0 : HzOk X.prog X.w) (hu : X.A.units + 65 < cLine) (ho : PE X o td) (hi : PE X i ty) (hv : PE X value tv) (hs : swapsWith value (some (.Subscript o i pos')) pos.line X.env = pure false) :
    PS X (.Assign [.Subscript o i pos'] value pos) (sDPutIW X.K td ty tv) := by
  refine ⟨fun pins s σ H D I h => ?_⟩
  refine wpAny_Assign_Subscript (thn (hv.run pins s σ H _ I h) fun r s1 ⟨v, H1, I1, rv, q1⟩ => thn (ho.run pins s1 σ H1 _ I1 q1) fun u s2 ⟨x, H2, I2, rx, q2⟩ => thn (hi.run pins s2 σ H2 _ I2 q2) fun iv s3 ⟨y, H3, I3, ry, a, b, xs, k, ex, ey, g, hk, hl, q3⟩ => ?_) hs
  subst ex ey
  obtain rfl : u = Value.ref a := rx
  obtain rfl : iv = Value.ref b := ry
  exact dctI_setW hz0 (by omega) I3 g hk hl fun s4 I4 => ⟨σ, _, I4, q3 r rv⟩
def sDPutW (mo mi mv : Rho → M D) : Rho → Sto → Fl := fun ρ st => (mv ρ st).fl ρ fun v st1 => (mo ρ st1).fl ρ fun d st2 => (mi ρ st2).fl ρ fun k st3 => match d with
  | .ref l => match st3[l]? with
    | some (.dcs ks ds) => match keyOfW k with
      | some j => if ks.length ≤ SZ then .next ρ (st3.set l (.dcs (putKsW ks j) (putVsW ks ds j v))) else .bad
      | none => .bad
    | _ => .bad
  | _ => .bad
theorem ds_dputW (hz0 : HzOk X.prog X.w) (hu : X.A.units + 65 < cLine) (ho : DE X W o mo) (hi : DE X W i mi) (hv : DE X W value mv) (hs : swapsWith value (some (.Subscript o i pos')) pos.line X.env = pure false := by rfl) :
    DS X W (.Assign [.Subscript o i pos'] value pos) (sDPutW mo mi mv) := by
  refine PS.weak (ps_dputIW hz0 hu ho hi hv hs) fun E σ H ⟨F, ι, ρ, st, S, R, q⟩ => ?_
  refine fl_seq S R q fun v st1 F1 ι1 H1 vv x1 S1 R1 r1 q1 => ?_
  refine fl_seq S1 R1 q1 fun d st2 F2 ι2 H2 dv x2 S2 R2 r2 q2 => ?_
  refine fl_seq S2 R2 q2 fun k st3 F3 ι3 H3 kv x3 S3 R3 r3 q3 => ?_
  split at q3
  rotate_left
  · exact (q3 : False).elim
  rename_i l
  split at q3
  rotate_left
  · exact (q3 : False).elim
  rename_i ks ds el
  split at q3
  rotate_left
  · exact (q3 : False).elim
  rename_i j ej
  split at q3
  rotate_left
  · exact (q3 : False).elim
  rename_i hz
  have r2' : Rep X.K F3 ι3 (.ref l) dv := Rep.ext r2 x3
  simp only [Rep] at r2'
  obtain ⟨a, rfl, hl⟩ := r2'
  obtain ⟨xs, ws, z, qa, kt, vr, rr⟩ := S3.obj l _ a el hl
  obtain ⟨b, rfl, hb⟩ := key_atW r3 ej
  refine ⟨a, b, xs, j, rfl, rfl, ⟨z, qa, fun x hx => S3.sqT (kt.2 x hx)⟩, S3.sqT hb, ?_, fun u ru => ?_⟩
  · have e1 := congrArg List.length kt.1
    rw [List.length_map] at e1
    rw [e1]
    exact sz_le hz
  · obtain ⟨ws', hv1, hv2⟩ := put_valsW (j := j) (b := b) (Rep.ext r1 (x2.trans x3)) ru vr rr
    rw [kt.1] at hv2
    refine q3 F3 ι3 _ σ (Ext.write hl (by rw [qa]; simp)) (S3.write hl (by rw [el]; simp) ⟨_, ws', z, upd_same, ⟨?_, ?_⟩, hv1, hv2⟩) R3
    · rw [put_keysW, kt.1]
    · exact put_sqW (P := fun k b => SqP X.K F3 b (k.map V.str)) kt.2 hb
theorem dct_newW {X : Cx} {pins : List (Addr × Obj)} {σ : L2.St} {H : Hp} {s : Shared} (I : Inv X pins σ H s) : Inv X pins σ (upd H s.heap.objs.size (DcsO s.heap.objs.size [])) { s with heap := s.heap.push { cls := .type "dict", data := .dict #[] } } :=
  I.laid (t' := s.toks) (fun _ _ q => Heap.get?_push_of_some _ q) (Nat.le_refl _) (dctO_okW ⟨_, #[], 0, Heap.get?_push_size _ rfl, ⟨rfl, rfl, rfl⟩, rfl, rfl, List.nodup_nil⟩)
theorem dct_sysW {X : Cx} {pins : List (Addr × Obj)} {σ : L2.St} {H : Hp} {s : Shared} (I : Inv X pins σ H s) : (s.heap.objs.size == sysModules) = false := beq_eq_false_iff_ne.mpr (Ne.symm (Nat.ne_of_lt I.big))
def tDisp1IW (K : PySem.W.Frag) (tk tv : TE) : TE := fun σ H Q => ∀ p, H p = none → (p == sysModules) = false → tk σ (upd H p (DcsO p [])) fun x H1 => tv σ H1 fun y H2 => ∃ (b : Addr) (k : List Str), x = .ref b ∧ SqT K H2 b (k.map V.str) ∧ H2 p = some (DcsO p []) ∧ ∀ u, RelV y u → Q (.ref p) (upd H2 p (DcsO p [(k, b, u)]))
theorem pe_disp1IW (hz0 : HzOk X.prog X.w) (hu : X.A.units + 65 < cLine) (hk : PE X i ty) (hv : PE X value tv) : PE X (.Dict [some i] [value] pos) (tDisp1IW X.K ty tv) := by
  refine ⟨fun pins s σ H Q I q => ?_⟩
  have hn := I.hok.fresh (Nat.le_refl s.heap.objs.size)
  refine wpAny_Dict_any rfl rfl (by simp) (by simp) (pairTrees_cons_walk (thn (hk.run pins _ σ _ _ (dct_newW I) (q _ hn (dct_sysW I))) fun u s1 ⟨x, H1, I1, rx, q1⟩ => thn (hv.run pins s1 σ H1 _ I1 q1) fun w2 s2 ⟨y, H2, I2, ry, b, k, ex, hk, he, q2⟩ => pairTrees_nil_walk ?_))
  subst ex
  obtain rfl : u = Value.ref b := rx
  have g : DAtW X.K H2 s.heap.objs.size [] := ⟨dct_sysW I, he, fun _ h => nomatch h⟩
  unfold storeAll
  rw [List.forIn_cons]
  refine wpAny_bind (wpAny_bind (wpAny_dictSet_heap (knd := KIW X) (hsz := Nat.zero_le _) (by show X.A.units < cLine; omega) (isKeyIW I2 hk) (dctH_ofW hz0 I2 g) fun h' hm hs => wpAny_pure ?_))
  dsimp only
  rw [List.forIn_nil]
  exact wpAny_pure ⟨.ref s.heap.objs.size, _, dct_put_okW hz0 I2 he hm hs, rfl, q2 w2 ry⟩
def mNewD1W (mk mv : Rho → M D) : Rho → M D := fun ρ st => (mk ρ st).bind fun k st1 => (mv ρ st1).bind fun v st2 => match keyOfW k with
  | some j => .ok (.ref st2.length) (st2 ++ [.dcs [j] [v]])
  | none => .bad
theorem de_newD1W (hz0 : HzOk X.prog X.w) (hu : X.A.units + 65 < cLine) (hk : DE X W i mi) (hv : DE X W value mv) : DE X W (.Dict [some i] [value] pos) (mNewD1W mi mv) := by
  refine PE.weak (pe_disp1IW hz0 hu hk hv) fun σ H Q ⟨F, ι, ρ, st, S, R, q⟩ p hp hz => ?_
  have x0 : Ext F ι H F ι (upd H p (DcsO p [])) := Ext.laid hp
  have S0 : Sim X.K F ι st (upd H p (DcsO p [])) := S.laid hp
  have h0 : upd H p (DcsO p []) p ≠ none := by rw [upd_same]; simp
  have hF : F p = none := by
    cases e : F p with
    | none => rfl
    | some o => have := S.sub p o e; rw [hp] at this; cases this
  have hi : p ∉ ι := fun h => S.there p h hp
  have q0 := post_ext (F1 := F) (ι1 := ι) back_V q x0
  refine ⟨F, ι, ρ, st, S0, R.ext x0, post_seq back_V q0 fun k st1 F1 ι1 H1 kv e1 x1 S1 r1 q1 => ?_⟩
  refine ⟨F1, ι1, ρ, st1, S1, (R.ext x0).ext x1, post_seq back_V q1 fun v st2 F2 ι2 H2 vv e2 x2 S2 r2 q2 => ?_⟩
  unfold mNewD1W at q
  rw [e1, Out.bind_ok, e2, Out.bind_ok] at q
  split at q
  rotate_left
  · exact (q : False).elim
  rename_i j ej
  obtain ⟨b, rfl, hb⟩ := key_atW (Rep.ext r1 x2) ej
  have x3 := x1.trans x2
  have e3 : H2 p = some (DcsO p []) := x3.keep p _ upd_same hi
  have hF2 : F2 p = none := x3.outF h0 hF hi
  have hi2 : p ∉ ι2 := x3.outI h0 hi
  refine ⟨b, j, rfl, S2.sqT hb, e3, fun u ru => ?_⟩
  have S4 : Sim X.K F2 ι2 st2 (upd H2 p (DcsO p [(j, b, u)])) := S2.outside hF2 hi2
  have mo' : ∀ (l : Nat) (c : Addr), ι2[l]? = some c → (ι2 ++ [p])[l]? = some c := fun l c h => by
    rw [List.getElem?_append_left (List.getElem?_eq_some_iff.mp h).1]; exact h
  have x4 : Ext F ι H F2 (ι2 ++ [p]) (upd H2 p (DcsO p [(j, b, u)])) := ((x0.trans x3).outside hp (by rw [e3]; simp)).locate hp
  refine q F2 (ι2 ++ [p]) _ (.ref p) x4 (S4.locate (m := .dcs [j] [v]) (by rw [upd_same]; simp) hF2 hi2 ⟨[(j, b, u)], [vv], hz, upd_same, ⟨rfl, ?_⟩, .cons ru .nil, Reps.cons (Rep.mono (fun _ _ h => h) mo' _ _ r2) Reps.nil⟩) ?_
  · intro x hx
    rw [List.mem_singleton.mp hx]
    exact hb
  · show Rep _ _ _ _ _
    simp only [Rep]
    exact ⟨p, rfl, by rw [← S2.len, List.getElem?_append_right (Nat.le_refl _)]; simp⟩
end
def keysDW (ks : List (List Str)) : List D := ks.map fun k => .tup (k.map .str)
theorem reps_keysW {K : PySem.W.Frag} {F : Hp} {ι : List Addr} : ∀ {xs : List (List Str × Addr × Value)}, (∀ x ∈ xs, SqP K F x.2.1 (x.1.map V.str)) → Reps K F ι (keysDW (xs.map (·.1))) (xs.map fun x => V.ref x.2.1)
  | [], _ => Reps.nil
  | x :: xs, h => by
    rw [List.map_cons, List.map_cons]
    refine Reps.cons ?_ (reps_keysW fun y hy => h y (by simp [hy]))
    simp only [Rep]
    exact ⟨x.2.1, x.1.map V.str, rfl, h x (by simp), reps_txs x.1⟩
theorem keys_accW {es : Array DictEntry} {xs : List (List Str × Addr × Value)} {acc : Array Value} (he : es.toList = xs.map entS) (it : ItemsOf (fun i v => ∃ en : DictEntry, es[i]? = some en ∧ v = en.key) acc es.size) : acc.toList = xs.map fun x => Value.ref x.2.1 := by
  have l1 : es.size = xs.length := by rw [← Array.length_toList, he, List.length_map]
  have hl : acc.toList.length = xs.length := by rw [Array.length_toList, it.1]; exact l1
  apply List.ext_getElem?
  intro j
  rw [List.getElem?_map]
  cases hj : acc.toList[j]? with
  | none =>
    have h1 := List.getElem?_eq_none_iff.mp hj
    rw [List.getElem?_eq_none (by omega)]
    rfl
  | some v =>
    obtain ⟨en, hen, hv⟩ := it.2 j v (by rw [← Array.getElem?_toList]; exact hj)
    have qe : es[j]? = (xs[j]?).map entS := by rw [← Array.getElem?_toList, he, List.getElem?_map]
    rw [hen] at qe
    cases hb : xs[j]? with
    | none =>
      rw [hb] at qe
      exact nomatch (show some en = none from qe)
    | some b =>
      rw [hb] at qe
      have e2 : en = entS b := Option.some.inj qe
      rw [hv, e2]
      rfl
theorem vals_refsIW : ∀ xs : List (List Str × Addr × Value), Vals (xs.map fun x => V.ref x.2.1) (xs.map fun x => Value.ref x.2.1)
  | [] => .nil
  | x :: xs => by
    rw [List.map_cons, List.map_cons]
    exact .cons rfl (vals_refsIW xs)
open Classical in
noncomputable def pSortedDW : Sto → List D → Option (List D) := fun st ds => match ds with
  | [d] => match dctOfW st d with
    | some (ks, _) => if ks.length ≤ SZ ∧ (∀ x ∈ keysDW ks, isP x = true ∧ (toP x).depth ≤ 50) ∧ PySem.W.AllAlike ((keysDW ks).map toP) ∧ SortableX ((keysDW ks).map toP) then some (sortD (keysDW ks)) else none
    | none => none
  | _ => none
def pListDW : Sto → List D → Option (List D) := fun st ds => match ds with
  | [d] => match dctOfW st d with
    | some (ks, _) => if ks.length ≤ SZ then some (keysDW ks) else none
    | none => none
  | _ => none
section
variable {X : Cx}
theorem call_pListDW (hc : X.calm = true) : CallR X (.type "list") (rBL X.K pListDW) := by
  intro pins s σ H vs us Q I rv ⟨F, ι, st, ds, d, S, ra, e, q⟩
  unfold pListDW at e
  split at e
  rotate_left
  · cases e
  rename_i d1
  split at e
  rotate_left
  · cases e
  rename_i ks dvs e1
  split at e
  rotate_left
  · cases e
  rename_i hz
  cases e
  obtain ⟨v, rfl, rd⟩ := ra.one'
  obtain ⟨u, rfl, ru⟩ := rv.one
  obtain ⟨a, xs, ws, rfl, z, qa, kt, vr, rr⟩ := S.dcs rd e1
  cases ru
  obtain ⟨⟨o, es, ep, ho, hx, hdt, he, hn⟩, _, _⟩ := (show ObjOk X.prog X.w H s.heap a (DcsO a xs) from I.hok a _ qa)
  have l1 : es.size = xs.length := by rw [← Array.length_toList, he, List.length_map]
  have l2 : xs.length = ks.length := by rw [← kt.1, List.length_map]
  have l3 := sz_le hz
  refine PySem.W.kdl_call (kdl_raw z hx hdt) (I.ok.hd hc) ho (by omega) fun h' tk acc' c' kp e it => ?_
  have ea := keys_accW he it
  have hnew := I.hok.fresh (Nat.le_refl s.heap.objs.size)
  refine ⟨.ref s.heap.objs.size, _, I.laid (t' := tk) (o := .lst (xs.map fun x => V.ref x.2.1)) kp (Nat.le_refl _) ?_, rfl, q _ _ (Ext.laid hnew) (S.laid hnew) (pL_new S hnew ?_)⟩
  · exact ⟨by rw [List.length_map]; omega, acc'.toList, c', by rw [ea]; exact vals_refsIW xs, by rw [Array.toArray_toList]; exact e⟩
  · rw [← kt.1]
    exact reps_keysW kt.2
theorem call_pSortedDW (hc : X.calm = true) (hu : X.A.units + 70 < cLine) : CallR X (.builtin "sorted") (rBL X.K pSortedDW) := by
  intro pins s σ H vs us Q I rv ⟨F, ι, st, ds, d, S, ra, e, q⟩
  unfold pSortedDW at e
  split at e
  rotate_left
  · cases e
  rename_i d1
  split at e
  rotate_left
  · cases e
  rename_i ks dvs e1
  split at e
  rotate_left
  · cases e
  rename_i hok
  obtain ⟨hsz, hp, hal, hso⟩ := hok
  cases e
  obtain ⟨v, rfl, rd⟩ := ra.one'
  obtain ⟨u, rfl, ru⟩ := rv.one
  obtain ⟨a, ys, ws0, rfl, z, qa, kt, vr, _⟩ := S.dcs rd e1
  cases ru
  obtain ⟨⟨o, es, ep, ho, hx, hdt, he, hn⟩, _, _⟩ := (show ObjOk X.prog X.w H s.heap a (DcsO a ys) from I.hok a _ qa)
  have l1 : es.size = ys.length := by rw [← Array.length_toList, he, List.length_map]
  have l2 : ys.length = ks.length := by rw [← kt.1, List.length_map]
  have l3 := sz_le hsz
  obtain ⟨xs, exs⟩ : ∃ xs, keysDW ks = xs := ⟨_, rfl⟩
  obtain ⟨ws, ews⟩ : ∃ ws, (ys.map fun x => V.ref x.2.1) = ws := ⟨_, rfl⟩
  obtain ⟨its, eits⟩ : ∃ its, (ys.map fun x => Value.ref x.2.1) = its := ⟨_, rfl⟩
  have rr : Reps X.K F ι xs ws := by rw [← exs, ← ews, ← kt.1]; exact reps_keysW kt.2
  have rits : Vals ws its := by rw [← ews, ← eits]; exact vals_refsIW ys
  have hits : its.length = ks.length := by rw [← eits, List.length_map]; exact l2
  rw [exs] at hp hal hso q
  have hl := rits.length
  have hxl := rr.length
  refine Calls.call_function_entry PyProof.Rows.kind_sorted PyProof.Rows.plain_sorted PyProof.Rows.entry_sorted (PyProof.Rows.args_sorted1 _) ?_
  unfold Builtin.«sorted»
  refine wpAny_bind (m := checkCount "sorted" 1 1 _) (wpAny_pure ?_)
  refine wpAny_bind (PySem.W.kdu_collect (A := X.A.in1) (kdl_raw z hx hdt) (I.ok.hd hc) ho (by omega) fun h' tk acc hk it => ?_)
  have I1 : Inv X pins σ H { s with heap := h', toks := tk } := I.kept hk
  have ei : acc.toList = its := by rw [keys_accW he it]; exact eits
  rw [ei]
  refine wpAny_bind (wpAny_newList ?_ (by omega))
  have hoL : (h'.push (seqObj "list" its.toArray 0)).get? h'.objs.size = some (seqObj "list" its.toArray 0) := Heap.get?_push_size _ rfl
  have ee := each_pairs rr rits
  have er : PySem.W.EachIs (fun u (b : D × V) => ∃ as, Reads (h'.push (seqObj "list" its.toArray 0)) u (toP b.1) as ∧ h'.objs.size ∉ as) its (xs.zip ws) := by
    refine (each_mem2 ee).mono fun u b ⟨⟨h1, h2⟩, hb⟩ => ?_
    have hb1 : b.1 ∈ xs := (List.of_mem_zip (show (b.1, b.2) ∈ xs.zip ws from hb)).1
    obtain ⟨as, r⟩ := Dp.reads I1 _ _ _ (rep_dp S h2 (hp b.1 hb1).1) h1
    refine ⟨as, PyProof.Rows.Reads.keeps (fun _ _ => Heap.get?_push_of_some _) r, fun hm => ?_⟩
    have hal1 : PySem.W.alike (toP b.1) (toP b.1) = true := hal _ (List.mem_map.mpr ⟨b.1, hb1, rfl⟩) _ (List.mem_map.mpr ⟨b.1, hb1, rfl⟩)
    exact absurd (reads_lt _ _ _ hal1 r _ hm) (Nat.lt_irrefl _)
  have em : (xs.zip ws).map (fun b : D × V => toP b.1) = xs.map toP := by
    have e2 : (xs.zip ws).map (fun b : D × V => toP b.1) = ((xs.zip ws).map Prod.fst).map toP := by rw [List.map_map] <;> rfl
    rw [e2, zip_fst rr]
  show wpAny _ _ _ _ _ { s with heap := h'.push (seqObj "list" its.toArray 0), toks := tk }
  refine wpAny_bind (wpAny_holding (list_sort_dataX (enc := fun b : D × V => toP b.1) (bs := xs.zip ws) hoL ee er (by rw [em]; exact hal) (by rw [em]; exact hso) ?_ ?_ fun out hout eout => ?_))
  · rw [List.length_zip]; omega
  · intro b hb
    have hb1 : b.1 ∈ xs := (List.of_mem_zip (show (b.1, b.2) ∈ xs.zip ws from hb)).1
    have := (hp b.1 hb1).2
    show X.A.units + 1 + 1 + (toP b.1).depth < cLine
    omega
  obtain ⟨rs, rvs⟩ := pairs_each eout
  have es' : ((xs.zip ws).mergeSort (PySem.W.dataLe false fun b : D × V => toP b.1)).map (·.1) = sortD xs := by
    unfold sortD
    have e2 := List.map_mergeSort (r := PySem.W.dataLe false fun b : D × V => toP b.1) (s := PySem.W.dataLe false toP) (f := Prod.fst) (l := xs.zip ws) (fun a _ b _ => rfl)
    rw [zip_fst rr] at e2
    exact e2
  rw [es'] at rs
  obtain ⟨e', he'⟩ := PyProof.Rows.sortedHeap_at (vs := its) (out := out.toArray) hoL
  have hlen2 : (((xs.zip ws).mergeSort (PySem.W.dataLe false fun b : D × V => toP b.1)).map (·.2)).length ≤ sizeLine := by
    rw [List.length_map, List.length_mergeSort, List.length_zip]; omega
  have hnew : H h'.objs.size = none := I1.hok.fresh (Nat.le_refl _)
  refine wpAny_pure ⟨_, rfl, .ref h'.objs.size, upd H h'.objs.size (.lst (((xs.zip ws).mergeSort (PySem.W.dataLe false fun b : D × V => toP b.1)).map (·.2))), I1.laid (t' := tk) (fun b u e => ?_) (Nat.le_refl _)
    (show ObjOk X.prog X.w _ _ _ (.lst _) from ⟨hlen2, out, e', rvs, he'⟩), rfl, q _ _ (Ext.laid hnew) (S.laid hnew) (pL_new S hnew rs)⟩
  have hb : b < h'.objs.size := Heap.lt_size e
  rw [PyProof.Rows.sortedHeap_old (Nat.ne_of_lt hb) (by rw [size_push']; exact Nat.lt_succ_of_lt hb)]
  exact Heap.get?_push_of_some _ e
end
end Dn
namespace Dn
open PySem PySem.Spec PyProof.Rows L2
abbrev KvW (α : Type) := List (List Str × α)
section
variable {α : Type}
def eKW (kv : KvW α) : List (List Str) := kv.map Prod.fst
def eWW (e : α → D) (kv : KvW α) : List D := kv.map fun p => e p.2
def hasPW (kv : KvW α) (k : List Str) : Bool := decide (k ∈ eKW kv)
def setPW (kv : KvW α) (k : List Str) (x : α) : KvW α := kv.map fun p => (p.1, if p.1 = k then x else p.2)
def putPW (kv : KvW α) (k : List Str) (x : α) : KvW α := if k ∈ eKW kv then setPW kv k x else kv ++ [(k, x)]
def mputDW {S : Type} (kv : KvW α) (k : List Str) (x : α) : Mt S (KvW α) := if kv.length ≤ SZ then mpure (putPW kv k x) else mbad
def mkeysW {S : Type} (kv : KvW α) : Mt S (List (List Str)) := if kv.length ≤ SZ then mpure (eKW kv) else mbad
theorem keyOf_eW (k : List Str) : keyOfW (eT eS k) = some k := txsOf_str k
theorem setK_eW (e : α → D) (k : List Str) (x : α) : ∀ kv : KvW α, setKW (eKW kv) (eWW e kv) k (e x) = eWW e (setPW kv k x)
  | [] => rfl
  | p :: ps => by
    show (if p.1 = k then e x else e p.2) :: setKW (eKW ps) (eWW e ps) k (e x) = e (if p.1 = k then x else p.2) :: eWW e (setPW ps k x)
    rw [setK_eW e k x ps]
    by_cases h : p.1 = k
    · rw [if_pos h, if_pos h]
    · rw [if_neg h, if_neg h]
theorem eK_setW (kv : KvW α) (k : List Str) (x : α) : eKW (setPW kv k x) = eKW kv := by
  unfold eKW setPW
  rw [List.map_map] <;> rfl
theorem putKs_eW (kv : KvW α) (k : List Str) (x : α) : putKsW (eKW kv) k = eKW (putPW kv k x) := by
  unfold putKsW putPW
  by_cases h : k ∈ eKW kv
  · rw [if_pos h, if_pos h, eK_setW]
  · rw [if_neg h, if_neg h]
    show _ = (kv ++ [(k, x)]).map Prod.fst
    rw [List.map_append] <;> rfl
theorem putVs_eW (e : α → D) (kv : KvW α) (k : List Str) (x : α) : putVsW (eKW kv) (eWW e kv) k (e x) = eWW e (putPW kv k x) := by
  unfold putVsW putPW
  by_cases h : k ∈ eKW kv
  · rw [if_pos h, if_pos h, setK_eW]
  · rw [if_neg h, if_neg h]
    show _ = (kv ++ [(k, x)]).map fun p => e p.2
    rw [List.map_append] <;> rfl
theorem eK_lenW (kv : KvW α) : (eKW kv).length = kv.length := List.length_map ..
theorem keysD_eW (ks : List (List Str)) : keysDW ks = ks.map (eT eS) := rfl
theorem dct_refW {st : Sto} {l : Nat} {ks : List (List Str)} {ds : List D} (h : st[l]? = some (.dcs ks ds)) : dctOfW st (.ref l) = some (ks, ds) := by
  unfold dctOfW
  dsimp only
  rw [h]
end
section
variable {S : Type} {W : Wd S} {fr : Sto} {Γ : List Sl} {α : Type} {e : α → D} {i : Nat} {m mi mk mv : Rho → M D}
theorem hv_ninDMW {kv : KvW α} {k : List Str} (h : HV W fr Γ m (eT eS k)) (hi : Γ[i]? = some (.mut (.dcs (eKW kv) (eWW e kv)))) : HV W fr Γ (mOp pNotInDW m (mVar i)) (eB (!hasPW kv k)) := fun s ρ st H => by
  obtain ⟨l, q1, q2, q3⟩ := H.mt i _ hi
  have e1 : mVar i ρ st = .ok (.ref l) st := by unfold mVar; rw [q1]
  unfold mOp
  rw [h s ρ st H, Out.bind_ok, e1, Out.bind_ok]
  unfold pNotInDW
  rw [keyOf_eW, dct_refW q3] <;> rfl
theorem tn_dputW {kv : KvW α} {q : Mt S α} {qi : Mt S (List Str)} (hi : Γ[i]? = some (.mut (.dcs (eKW kv) (eWW e kv)))) (h : HT W fr Γ m q e fun _ => Γ) (hj : HT W fr Γ mi qi (eT eS) fun _ => Γ) :
    TN W fr Γ (sDPutW (mVar i) mi m) (mbind q fun x => mbind qi fun k => mputDW kv k x) fun z => Γ.set i (.mut (.dcs (eKW z) (eWW e z))) := fun s ρ st H => by
  refine OR.fl (h s ρ st H) fun x s1 st1 H1 => ?_
  obtain ⟨l, q1, q2, q3⟩ := H1.mt i _ hi
  have e1 : mVar i ρ st1 = .ok (.ref l) st1 := by unfold mVar; rw [q1]
  rw [e1, Out.fl_ok]
  refine OR.fl (hj s1 ρ st1 H1) fun k s2 st2 H2 => ?_
  obtain ⟨l', p1, p2, p3⟩ := H2.mt i _ hi
  rw [q1] at p1
  injection p1 with p1
  injection p1 with p1
  injection p1 with p1
  subst p1
  show NR W fr _ (match st2[l]? with
    | some (.dcs ks ds) => match keyOfW (eT eS k) with
      | some j => if ks.length ≤ SZ then .next ρ (st2.set l (.dcs (putKsW ks j) (putVsW ks ds j (e x)))) else .bad
      | none => .bad
    | _ => .bad) _
  rw [p3]
  dsimp only
  rw [keyOf_eW]
  dsimp only
  rw [eK_lenW]
  unfold mputDW
  by_cases hc : kv.length ≤ SZ
  · rw [if_pos hc, if_pos hc]
    refine ⟨ρ, _, rfl, ?_⟩
    rw [putKs_eW kv k x, putVs_eW]
    exact H2.write _ hi q1
  · rw [if_neg hc, if_neg hc]
    trivial
theorem tn_newD1W {q : Mt S α} {qi : Mt S (List Str)} (hk : HT W fr Γ mk qi (eT eS) fun _ => Γ) (hv : HT W fr Γ mv q e fun _ => Γ) : TN W fr Γ (sAsg (gN i) (mNewD1W mk mv)) (mbind qi fun k => mbind q fun x => mpure [(k, x)]) fun z => Γ.set i (.mut (.dcs (eKW z) (eWW e z))) := fun s ρ st H => by
  have e2 : sAsg (gN i) (mNewD1W mk mv) ρ st = (mk ρ st).fl ρ fun k st1 => (mv ρ st1).fl ρ fun v st2 => match keyOfW k with
    | some j => .next (ρ.set i (some (.ref st2.length))) (st2 ++ [.dcs [j] [v]])
    | none => .bad := by
    unfold sAsg mNewD1W
    cases mk ρ st with
    | ok k st1 =>
      simp only [Out.bind_ok, Out.fl_ok]
      cases mv ρ st1 with
      | ok v st2 =>
        simp only [Out.bind_ok, Out.fl_ok]
        cases keyOfW k <;> rfl
      | exc x s' => rfl
      | bad => rfl
    | exc x s' => rfl
    | bad => rfl
  rw [e2]
  refine OR.fl (hk s ρ st H) fun k s1 st1 H1 => ?_
  refine OR.fl (hv s1 ρ st1 H1) fun x s2 st2 H2 => ?_
  rw [keyOf_eW]
  exact ⟨_, _, rfl, H2.setNew i (.dcs [k] [e x])⟩
theorem ht_listDMW {kv : KvW α} (hi : Γ[i]? = some (.mut (.dcs (eKW kv) (eWW e kv)))) : HT W fr Γ (lB pListDW (mCons (mVar i) mNil)) (mkeysW kv) (fun zs => zs.map (eT eS)) fun _ => Γ := fun s ρ st H => by
  obtain ⟨l, q1, q2, q3⟩ := H.mt i _ hi
  have e1 : mVar i ρ st = .ok (.ref l) st := by unfold mVar; rw [q1]
  unfold lB mCons mNil
  rw [e1]
  show OR W fr _ ρ _ (lift (pListDW st [.ref l]) st) (mkeysW kv s)
  unfold pListDW mkeysW
  dsimp only
  rw [dct_refW q3]
  dsimp only
  rw [eK_lenW]
  by_cases hc : kv.length ≤ SZ
  · rw [if_pos hc, if_pos hc]
    exact ⟨st, rfl, H⟩
  · rw [if_neg hc, if_neg hc]
    trivial
theorem ht_sortDMW {kv : KvW α} (hi : Γ[i]? = some (.mut (.dcs (eKW kv) (eWW e kv)))) : HT W fr Γ (lB pSortedDW (mCons (mVar i) mNil)) (msort (lexB ltS) (eKW kv)) (fun zs => zs.map (eT eS)) fun _ => Γ := fun s ρ st H => by
  obtain ⟨l, q1, q2, q3⟩ := H.mt i _ hi
  have e1 : mVar i ρ st = .ok (.ref l) st := by unfold mVar; rw [q1]
  unfold lB mCons mNil
  rw [e1]
  show OR W fr _ ρ _ (lift (pSortedDW st [.ref l]) st) (msort (lexB ltS) (eKW kv) s)
  unfold msort
  by_cases h : (eKW kv).length ≤ 100000
  · rw [if_pos h]
    have h1 := t_sorted (e := eT eS) (lt := lexB ltS) (by decide) (eKW kv) h (st := st) (d := .lst ((eKW kv).map (eT eS))) rfl
    refine ⟨st, ?_, H⟩
    unfold pSortedDW
    dsimp only
    rw [dct_refW q3]
    dsimp only
    unfold pSorted at h1
    dsimp only at h1
    rw [show seqOf st (.lst ((eKW kv).map (eT eS))) = some ((eKW kv).map (eT eS)) from rfl] at h1
    dsimp only at h1
    rw [List.length_map] at h1
    rw [keysD_eW]
    by_cases hc : (eKW kv).length ≤ SZ ∧ (∀ x ∈ (eKW kv).map (eT eS), isP x = true ∧ (toP x).depth ≤ 50) ∧ PySem.W.AllAlike (((eKW kv).map (eT eS)).map toP) ∧ SortableX (((eKW kv).map (eT eS)).map toP)
    · rw [if_pos hc] at h1 ⊢
      rw [h1] <;> rfl
    · rw [if_neg hc] at h1
      cases h1
  · rw [if_neg h]
    trivial
end
end Dn

namespace Lw
open PySem PySem.Spec PyProof.Rows L2 Dn
-- ### the text by places
def top (i : Nat) : Stmt := PySem.Challenge.pw_pressrelease_k19_whole_conditions_of_eff.main.body.getD i (.Pass ⟨0, 0, 0, 0⟩)
abbrev s_changed_word : Stmt := top 8
abbrev N_changed_word : List Str := ["panel", "pressed", "button", "word"]
abbrev s_effect_after : Stmt := top 9
abbrev N_effect_after : List Str := ["panel", "effect", "pressed", "button", "word"]
abbrev s_effect_of : Stmt := top 10
abbrev N_effect_of : List Str := ["panel", "row", "effect", "button"]
abbrev s_free_buttons : Stmt := top 11
abbrev N_free_buttons : List Str := ["panel", "effect", "kept", "button", "word", "one"]
abbrev s_is_effect_form : Stmt := top 12
abbrev N_is_effect_form : List Str := ["panel", "value", "word"]
abbrev s_ordered : Stmt := top 13
abbrev N_ordered : List Str := ["panel", "buttons", "left", "order", "first", "button", "other"]
abbrev s_gather : Stmt := top 14
abbrev N_gather : List Str := ["panel", "effect", "free", "pressed", "gathered", "helpers", "waiting", "button", "new", "one"]
abbrev s_row_for : Stmt := top 15
abbrev N_row_for : List Str := ["panel", "value", "free", "latched", "button", "word", "order", "gathered", "helpers"]
abbrev s_all_effects : Stmt := top 16
abbrev N_all_effects : List Str := ["panel", "found", "waiting", "effect", "button", "after"]
abbrev s__law_draws : Stmt := top 21
abbrev N__law_draws : List Str := ["_law_script", "_law_cells", "_law_cell"]
abbrev s__law_next : Stmt := top 22
abbrev N__law_next : List Str := ["_law_drawn", "_law_many", "_law_cells", "_law_nth", "_law_rests", "_law_spot", "_law_digit", "_law_mixed", "_law_more"]
abbrev s__law_panel : Stmt := top 23
abbrev N__law_panel : List Str := ["_law_drawn", "_law_most", "_law_n", "_law_share", "_law_found", "_law_button", "_law_others", "_law_other"]
abbrev s__law_row : Stmt := top 24
abbrev N__law_row : List Str := ["_law_drawn", "_law_n", "_law_most", "_law_press"]
abbrev s__law_words : Stmt := top 25
abbrev N__law_words : List Str := ["_law_drawn", "_law_n", "_law_button"]
abbrev s_way_back : Stmt := top 18
abbrev N_way_back : List Str := ["panel", "start", "allowed", "ways", "found", "way", "button"]
abbrev s_find_round : Stmt := top 19
abbrev N_find_round : List Str := ["panel", "state", "at", "button", "found"]
abbrev s__law_gathered : Stmt := top 26
abbrev N__law_gathered : List Str := ["_law_panel_here", "_law_words_here", "_law_found", "_law_helpers", "_law_button", "_law_word", "_law_at", "_law_other", "_law_one"]
abbrev s__law_holds : Stmt := top 27
abbrev N__law_holds : List Str := ["_law_panel_here", "_law_words_here", "_law_on", "_law_button", "_law_word", "_law_other"]
abbrev s__law_all_words : Stmt := top 28
abbrev N__law_all_words : List Str := ["_law_n", "_law_found", "_law_button", "_law_longer", "_law_words_here", "_law_word"]
abbrev s_law : Stmt := top 29
abbrev N_law : List Str := ["_law_script", "_law_drawn", "_law_turn", "_law_panel_here", "_law_due", "_law_words_here", "_law_some", "_law_values", "_law_k"]
-- ### what the defs mean
noncomputable def m_changed_word : Rho → Sto → Fl := (sSeq (sIf (isB (mOp pEq (mVar 2) (mVar 1))) (sRet (mLit (.str ("on" : Str)))) sNext)
  (sRet (mIf (isB (mOp pIn (mVar 2) (mOp pIdx (mVar 0) (mVar 1)))) (mLit (.str ("off" : Str))) (mVar 3))))
noncomputable def d_changed_word : List D → M D := fnD 4 4 m_changed_word
theorem nn_changed_word : NeedN 4 d_changed_word := needN_fnD
noncomputable def c_effect_after_1 : Rho → M (List D) := lLc (iEnumD (mVar 1)) (gT 2 (gsCons (gN 3) (gsCons (gN 4) gsNil))) bYes (mCall d_changed_word (mCons (mVar 0) (mCons (mVar 2) (mCons (mVar 3) (mCons (mVar 4) mNil))))) [3, 4]
noncomputable def m_effect_after : Rho → Sto → Fl := (sRet (mB pTuple (mCons (mFrz c_effect_after_1) mNil)))
noncomputable def d_effect_after : List D → M D := fnD 3 5 m_effect_after
theorem nn_effect_after : NeedN 3 d_effect_after := needN_fnD
noncomputable def l_effect_of_1 : Rho → Sto → Fl := (sAsg (gN 2) (mCall d_effect_after (mCons (mVar 0) (mCons (mVar 2) (mCons (mVar 3) mNil)))))
noncomputable def m_effect_of : Rho → Sto → Fl := (sSeq (sAsg (gN 2) (mOp pMul (mTup (mCons (mLit (.str ("same" : Str))) mNil)) (mB pLen (mCons (mVar 0) mNil))))
  (sSeq (sFor (iSeq (mVar 1)) (gN 3) l_effect_of_1)
  (sRet (mVar 2))))
noncomputable def d_effect_of : List D → M D := fnD 2 4 m_effect_of
theorem nn_effect_of : NeedN 2 d_effect_of := needN_fnD
noncomputable def c_free_buttons_1 : Rho → M (List D) := lLc (iEnumD (mVar 1)) (gT 2 (gsCons (gN 3) (gsCons (gN 4) gsNil))) (isB (mOp pEq (mVar 4) (mLit (.str ("same" : Str))))) (mVar 3) [3, 4]
noncomputable def c_free_buttons_2 : Rho → M (List D) := lLc (iSeq (mTup (mCons (mVar 3) (mStar (mOp pIdx (mVar 0) (mVar 3)) mNil)))) (gN 5) bYes (mOp pIn (mVar 5) (mVar 2)) [5]
noncomputable def c_free_buttons_3 : Rho → M (List D) := lLc (iRng1D (mB pLen (mCons (mVar 0) mNil))) (gN 3) (bNot (mTru (mB pAny (mCons (mFrz c_free_buttons_2) mNil)))) (mVar 3) [3]
noncomputable def m_free_buttons : Rho → Sto → Fl := (sSeq (sAsg (gN 2) (mFrz c_free_buttons_1))
  (sRet (mFrz c_free_buttons_3)))
noncomputable def d_free_buttons : List D → M D := fnD 2 6 m_free_buttons
theorem nn_free_buttons : NeedN 2 d_free_buttons := needN_fnD
noncomputable def c_is_effect_form_1 : Rho → M (List D) := lLc (iSeq (mVar 1)) (gN 2) bYes (mAndV (mIsi "str" (mVar 2)) (mOp pIn (mVar 2) (mTup (mCons (mLit (.str ("on" : Str))) (mCons (mLit (.str ("off" : Str))) (mCons (mLit (.str ("same" : Str))) mNil)))))) [2]
noncomputable def m_is_effect_form : Rho → Sto → Fl := (sSeq (sIf (bOr (bNot (mTru (mIsi "tuple" (mVar 1)))) (isB (mOp pNe (mB pLen (mCons (mVar 1) mNil)) (mB pLen (mCons (mVar 0) mNil))))) (sRet (mLit (.bl false))) sNext)
  (sRet (mB pAll (mCons (mFrz c_is_effect_form_1) mNil))))
noncomputable def d_is_effect_form : List D → M D := fnD 2 3 m_is_effect_form
theorem nn_is_effect_form : NeedN 2 d_is_effect_form := needN_fnD
noncomputable def c_ordered_1 : Rho → M (List D) := lLc (iSeq (mVar 2)) (gN 6) bYes (mOp pIn (mVar 5) (mOp pIdx (mVar 0) (mVar 6))) [6]
noncomputable def c_ordered_2 : Rho → M (List D) := lLc (iSeq (mVar 2)) (gN 5) (bNot (mTru (mB pAny (mCons (mFrz c_ordered_1) mNil)))) (mVar 5) [5]
noncomputable def l_ordered_1 : Rho → Sto → Fl := (sSeq (sAsg (gN 4) (mFrz c_ordered_2))
    (sSeq (sIf (isB (mOp pEq (mVar 4) (mFrz (lDisp mNil)))) (sRet (mLit .non)) sNext)
    (sSeq (sDrop (mMeth "list" pAppend (mVar 3) (mCons (mOp pIdx (mVar 4) (mLit (.int 0))) mNil)))
    (sDrop (mMeth "list" pRemove (mVar 2) (mCons (mOp pIdx (mVar 4) (mLit (.int 0))) mNil))))))
noncomputable def m_ordered : Rho → Sto → Fl := (sSeq (sAsg (gT 2 (gsCons (gN 2) (gsCons (gN 3) gsNil))) (mTup (mCons (mNew (lB pList (mCons (mVar 1) mNil))) (mCons (mNew (lDisp mNil)) mNil))))
  (sSeq (sWhile 1000 (isB (mOp pNe (mVar 2) (mFrz (lDisp mNil)))) l_ordered_1)
  (sFz 3 (sRet (mVar 3)))))
noncomputable def d_ordered : List D → M D := fnD 2 7 m_ordered
theorem nn_ordered : NeedN 2 d_ordered := needN_fnD
noncomputable def c_gather_1 : Rho → M (List D) := lLc (iSeq (mOp pIdx (mVar 0) (mVar 7))) (gN 9) (bAnd (isB (mOp pEq (mOp pIdx (mVar 1) (mVar 9)) (mLit (.str ("off" : Str))))) (isB (mOp pNotIn (mVar 9) (mVar 4)))) (mVar 9) [9]
noncomputable def c_gather_2 : Rho → M (List D) := lLc (iSeq (mVar 8)) (gN 9) (isB (mOp pIn (mVar 9) (mVar 2))) (mVar 9) [9]
noncomputable def c_gather_3 : Rho → M (List D) := lLc (iSeq (mVar 8)) (gN 9) (isB (mOp pIn (mVar 9) (mVar 2))) (mVar 9) [9]
noncomputable def l_gather_1 : Rho → Sto → Fl := (sSeq (sAsg (gN 7) (mMeth "list" pPopAt (mVar 6) (mCons (mLit (.int 0)) mNil)))
    (sSeq (sAsg (gN 8) (mFrz c_gather_1))
    (sSeq (sDrop (mMeth "list" pExtend (mVar 4) (mCons (mVar 8) mNil)))
    (sSeq (sDrop (mMeth "list" pExtend (mVar 6) (mCons (mFrz c_gather_2) mNil)))
    (sDrop (mMeth "list" pExtend (mVar 5) (mCons (mFrz c_gather_3) mNil)))))))
noncomputable def m_gather : Rho → Sto → Fl := (sSeq (sAsg (gT 2 (gsCons (gN 4) (gsCons (gN 5) gsNil))) (mTup (mCons (mNew (lDisp mNil)) (mCons (mNew (lDisp mNil)) mNil))))
  (sSeq (sAsg (gN 6) (mNew (lB pList (mCons (mVar 3) mNil))))
  (sSeq (sWhile 1000 (isB (mOp pNe (mVar 6) (mFrz (lDisp mNil)))) l_gather_1)
  (sFz 4 (sFz 5 (sRet (mTup (mCons (mVar 4) (mCons (mVar 5) mNil)))))))))
noncomputable def d_gather : List D → M D := fnD 4 10 m_gather
theorem nn_gather : NeedN 4 d_gather := needN_fnD
noncomputable def c_row_for_1 : Rho → M (List D) := lLc (iEnumD (mVar 1)) (gT 2 (gsCons (gN 4) (gsCons (gN 5) gsNil))) (isB (mOp pEq (mVar 5) (mLit (.str ("on" : Str))))) (mVar 4) [4, 5]
noncomputable def c_row_for_2 : Rho → M (List D) := lLc (iSeq (mVar 3)) (gN 4) bYes (mOp pIn (mVar 4) (mVar 2)) [4]
noncomputable def m_row_for : Rho → Sto → Fl := (sSeq (sIf (bNot (mTru (mCall d_is_effect_form (mCons (mVar 0) (mCons (mVar 1) mNil))))) (sRet (mLit .non)) sNext)
  (sSeq (sAsg (gN 2) (mCall d_free_buttons (mCons (mVar 0) (mCons (mVar 1) mNil))))
  (sSeq (sAsg (gN 3) (mFrz c_row_for_1))
  (sSeq (sAsg (gN 6) (mCall d_ordered (mCons (mVar 0) (mCons (mVar 3) mNil))))
  (sSeq (sIf (bOr (isB (mOp pIs (mVar 6) (mLit .non))) (bNot (mTru (mB pAll (mCons (mFrz c_row_for_2) mNil))))) (sRet (mLit .non)) sNext)
  (sSeq (sAsg (gT 2 (gsCons (gN 7) (gsCons (gN 8) gsNil))) (mCall d_gather (mCons (mVar 0) (mCons (mVar 1) (mCons (mVar 2) (mCons (mVar 6) mNil))))))
  (sRet (mIf (isB (mOp pEq (mB pLen (mCons (mVar 7) mNil)) (mMethT pCountT (mVar 1) (mCons (mLit (.str ("off" : Str))) mNil)))) (mTup (mStar (mFrz (lRevL (mVar 8))) (mStar (mVar 6) mNil))) (mLit .non)))))))))
noncomputable def d_row_for : List D → M D := fnD 2 9 m_row_for
theorem nn_row_for : NeedN 2 d_row_for := needN_fnD
noncomputable def l_all_effects_1 : Rho → Sto → Fl := (sSeq (sAsg (gN 5) (mCall d_effect_after (mCons (mVar 0) (mCons (mVar 3) (mCons (mVar 4) mNil)))))
      (sIf (isB (mOp pNotInDW (mVar 5) (mVar 1))) (sSeq (sDPutW (mVar 1) (mVar 5) (mLit (.bl true)))
        (sDrop (mMeth "list" pAppend (mVar 2) (mCons (mVar 5) mNil)))) sNext))
noncomputable def l_all_effects_2 : Rho → Sto → Fl := (sSeq (sAsg (gN 3) (mMeth "list" pPop (mVar 2) mNil))
    (sFor (iRng1D (mB pLen (mCons (mVar 0) mNil))) (gN 4) l_all_effects_1))
noncomputable def m_all_effects : Rho → Sto → Fl := (sSeq (sIf (isB (mOp pGt (mB pLen (mCons (mVar 0) mNil)) (mLit (.int 7)))) sNever sNext)
  (sSeq (sAsg (gN 1) (mNewD1W (mOp pMul (mTup (mCons (mLit (.str ("same" : Str))) mNil)) (mB pLen (mCons (mVar 0) mNil))) (mLit (.bl true))))
  (sSeq (sAsg (gN 2) (mNew (lB pListDW (mCons (mVar 1) mNil))))
  (sSeq (sWhile 1000 (isB (mOp pNe (mVar 2) (mFrz (lDisp mNil)))) l_all_effects_2)
  (sRet (mB pTuple (mCons (mFrz (lB pSortedDW (mCons (mVar 1) mNil))) mNil)))))))
noncomputable def d_all_effects : List D → M D := fnD 1 6 m_all_effects
theorem nn_all_effects : NeedN 1 d_all_effects := needN_fnD
noncomputable def c__law_draws_1 : Rho → M (List D) := lLc (iSeq (mVar 1)) (gN 2) bYes (mOp pMul (mVar 2) (mB pInt (mCons (mOp pGe (mVar 2) (mOp pPow (mLit (.int 10)) (mLit (.int 18)))) mNil))) [2]
noncomputable def m__law_draws : Rho → Sto → Fl := (sSeq (sAsg (gN 1) (mFrz (lOp pCat (mFrz (lB pList (mCons (mFrz (lSlL (mVar 0) oNone (oSome (mLit (.int 63))))) mNil))) (mFrz (lOp pRepL (mFrz (lDisp (mCons (mLit (.int 0)) mNil))) (mB pInt (mCons (mOp pEq (mB pLen (mCons (mVar 0) mNil)) (mLit (.int 0))) mNil)))))))
  (sRet (mNew (lDisp (mCons (mVar 1) (mCons (mLit (.int 0)) (mCons (mNew c__law_draws_1) mNil)))))))
noncomputable def d__law_draws : List D → M D := fnD 1 3 m__law_draws
theorem nn__law_draws : NeedN 1 d__law_draws := needN_fnD
noncomputable def m__law_next : Rho → Sto → Fl := (sSeq (sAsg (gL 3 (gsCons (gN 2) (gsCons (gN 3) (gsCons (gN 4) gsNil)))) (mVar 0))
  (sSeq (sAsg (gN 5) (mOp pMod (mVar 3) (mB pLen (mCons (mVar 2) mNil))))
  (sSeq (sAsg (gSubD (mVar 0) (mLit (.int 1))) (mOp pAdd (mVar 3) (mLit (.int 1))))
  (sSeq (sIf (isB (mOp pGt (mOp pIdx (mVar 4) (mVar 5)) (mLit (.int 0)))) (sSeq (sAsg (gN 6) (mOp pMod (mOp pIdx (mVar 4) (mVar 5)) (mVar 1)))
    (sSeq (sAsg (gSubD (mVar 4) (mVar 5)) (mOp pDiv (mOp pIdx (mVar 4) (mVar 5)) (mVar 1)))
    (sRet (mVar 6)))) sNext)
  (sSeq (sAsg (gN 7) (mOp pMod (mOp pPow (mOp pAdd (mOp pAdd (mOp pMod (mOp pIdx (mVar 2) (mVar 5)) (mLit (.int 2147483647))) (mOp pMul (mLit (.int 69621)) (mVar 3))) (mLit (.int 30269))) (mLit (.int 3))) (mLit (.int 2147483629))))
  (sSeq (sAsg (gN 8) (mOp pMod (mOp pPow (mOp pAdd (mOp pAdd (mVar 7) (mOp pMul (mOp pMul (mLit (.int 6007)) (mVar 3)) (mVar 3))) (mLit (.int 17))) (mLit (.int 3))) (mLit (.int 2147483587))))
  (sRet (mOp pMod (mOp pMod (mOp pAdd (mOp pMul (mVar 8) (mLit (.int 2147483423))) (mVar 7)) (mLit (.int 4611686018427387847))) (mVar 1)))))))))
noncomputable def d__law_next : List D → M D := fnD 2 9 m__law_next
theorem nn__law_next : NeedN 2 d__law_next := needN_fnD
noncomputable def c__law_panel_1 : Rho → M (List D) := lLc (iRng1D (mVar 2)) (gN 7) (isB (mOp pNe (mVar 7) (mVar 5))) (mVar 7) [7]
noncomputable def c__law_panel_2 : Rho → M (List D) := lLc (iSeq (mVar 6)) (gN 7) (isB (mOp pLt (mCall d__law_next (mCons (mVar 0) (mCons (mLit (.int 5)) mNil))) (mVar 3))) (mVar 7) [7]
noncomputable def l__law_panel_1 : Rho → Sto → Fl := (sSeq (sAsg (gN 6) (mFrz c__law_panel_1))
    (sDrop (mMeth "list" pAppend (mVar 4) (mCons (mB pTuple (mCons (mFrz c__law_panel_2) mNil)) mNil))))
noncomputable def m__law_panel : Rho → Sto → Fl := (sSeq (sAsg (gN 2) (mOp pIdx (mFrz (lDisp (mCons (mOp pAdd (mLit (.int 1)) (mCall d__law_next (mCons (mVar 0) (mCons (mVar 1) mNil)))) (mCons (mVar 1) mNil)))) (mB pInt (mCons (mOp pEq (mCall d__law_next (mCons (mVar 0) (mCons (mLit (.int 4)) mNil))) (mLit (.int 0))) mNil))))
  (sSeq (sAsg (gT 2 (gsCons (gN 3) (gsCons (gN 4) gsNil))) (mTup (mCons (mCall d__law_next (mCons (mVar 0) (mCons (mLit (.int 6)) mNil))) (mCons (mNew (lDisp mNil)) mNil))))
  (sSeq (sFor (iRng1D (mVar 2)) (gN 5) l__law_panel_1)
  (sFz 4 (sRet (mB pTuple (mCons (mVar 4) mNil)))))))
noncomputable def d__law_panel : List D → M D := fnD 2 8 m__law_panel
theorem nn__law_panel : NeedN 2 d__law_panel := needN_fnD
noncomputable def c__law_row_1 : Rho → M (List D) := lLc (iRng1D (mCall d__law_next (mCons (mVar 0) (mCons (mOp pAdd (mVar 2) (mLit (.int 1))) mNil)))) (gN 3) bYes (mCall d__law_next (mCons (mVar 0) (mCons (mVar 1) mNil))) [3]
noncomputable def m__law_row : Rho → Sto → Fl := (sRet (mB pTuple (mCons (mFrz c__law_row_1) mNil)))
noncomputable def d__law_row : List D → M D := fnD 3 4 m__law_row
theorem nn__law_row : NeedN 3 d__law_row := needN_fnD
noncomputable def c__law_words_1 : Rho → M (List D) := lLc (iRng1D (mVar 1)) (gN 2) bYes (mOp pIdx (mFrz (lDisp (mCons (mLit (.str ("on" : Str))) (mCons (mLit (.str ("off" : Str))) (mCons (mLit (.str ("same" : Str))) mNil))))) (mCall d__law_next (mCons (mVar 0) (mCons (mLit (.int 3)) mNil)))) [2]
noncomputable def m__law_words : Rho → Sto → Fl := (sRet (mB pTuple (mCons (mFrz c__law_words_1) mNil)))
noncomputable def d__law_words : List D → M D := fnD 2 3 m__law_words
theorem nn__law_words : NeedN 2 d__law_words := needN_fnD
noncomputable def l_way_back_1 : Rho → Sto → Fl := (sSeq (sIf (isB (mOp pEq (mVar 6) (mVar 1))) (sRet (mVar 5)) sNext)
      (sIf (bAnd (isB (mOp pIn (mVar 6) (mVar 2))) (isB (mOp pNotIn (mVar 6) (mVar 4)))) (sSeq (sDrop (mMeth "list" pAppend (mVar 4) (mCons (mVar 6) mNil)))
        (sDrop (mMeth "list" pAppend (mVar 3) (mCons (mTup (mStar (mVar 5) (mCons (mVar 6) mNil))) mNil)))) sNext))
noncomputable def l_way_back_2 : Rho → Sto → Fl := (sSeq (sAsg (gN 5) (mMeth "list" pPopAt (mVar 3) (mCons (mLit (.int 0)) mNil)))
    (sFor (iSeq (mOp pIdx (mVar 0) (mOp pIdx (mVar 5) (mUn pNeg (mLit (.int 1)))))) (gN 6) l_way_back_1))
noncomputable def m_way_back : Rho → Sto → Fl := (sSeq (sPar 3 4 (mCons (mNew (lDisp (mCons (mTup (mCons (mVar 1) mNil)) mNil))) (mCons (mNew (lDisp (mCons (mVar 1) mNil))) mNil)))
  (sSeq (sWhile 1000 (isB (mOp pNe (mVar 3) (mFrz (lDisp mNil)))) l_way_back_2)
  (sRet (mLit .non))))
noncomputable def d_way_back : List D → M D := fnD 3 7 m_way_back
theorem nn_way_back : NeedN 3 d_way_back := needN_fnD
noncomputable def l_find_round_1 : Rho → Sto → Fl := (sSeq (sAsg (gN 4) (mCall d_way_back (mCons (mVar 0) (mCons (mVar 3) (mCons (mSlT (mVar 1) (oSome (mVar 2)) oNone) mNil)))))
    (sIf (isB (mOp pIsNot (mVar 4) (mLit .non))) (sRet (mVar 4)) sNext))
noncomputable def m_find_round : Rho → Sto → Fl := (sSeq (sFor (iEnumD (mVar 1)) (gT 2 (gsCons (gN 2) (gsCons (gN 3) gsNil))) l_find_round_1)
  (sRet (mLit .non)))
noncomputable def d_find_round : List D → M D := fnD 2 5 m_find_round
theorem nn_find_round : NeedN 2 d_find_round := needN_fnD
noncomputable def c__law_gathered_1 : Rho → M (List D) := lLc (iEnumD (mVar 1)) (gT 2 (gsCons (gN 4) (gsCons (gN 5) gsNil))) (isB (mOp pEq (mVar 5) (mLit (.str ("on" : Str))))) (mVar 4) [4, 5]
noncomputable def c__law_gathered_2 : Rho → M (List D) := lLc (iSeq (mOp pIdx (mVar 0) (mVar 7))) (gN 8) bYes (mOp pIdx (mVar 1) (mVar 8)) [8]
noncomputable def l__law_gathered_1 : Rho → Sto → Fl := (sIf (bAnd (isB (mOp pEq (mOp pIdx (mVar 1) (mVar 7)) (mLit (.str ("off" : Str))))) (isB (mOp pNotIn (mVar 7) (mVar 2)))) (sSeq (sDrop (mMeth "list" pAppend (mVar 2) (mCons (mVar 7) mNil)))
        (sIf (isB (mOp pNotIn (mLit (.str ("same" : Str))) (mFrz c__law_gathered_2))) (sDrop (mMeth "list" pAppend (mVar 3) (mCons (mVar 7) mNil))) sNext)) sNext)
noncomputable def l__law_gathered_2 : Rho → Sto → Fl := (sSeq (sFor (iSeq (mOp pIdx (mVar 0) (mOp pIdx (mVar 3) (mVar 6)))) (gN 7) l__law_gathered_1)
    (sAsg (gN 6) (mOp pAdd (mVar 6) (mLit (.int 1)))))
noncomputable def m__law_gathered : Rho → Sto → Fl := (sSeq (sPar 2 3 (mCons (mNew (lDisp mNil)) (mCons (mNew c__law_gathered_1) mNil)))
  (sSeq (sAsg (gN 6) (mLit (.int 0)))
  (sSeq (sWhile 1000 (isB (mOp pLt (mVar 6) (mB pLen (mCons (mVar 3) mNil)))) l__law_gathered_2)
  (sFz 2 (sRet (mVar 2))))))
noncomputable def d__law_gathered : List D → M D := fnD 2 9 m__law_gathered
theorem nn__law_gathered : NeedN 2 d__law_gathered := needN_fnD
noncomputable def c__law_holds_1 : Rho → M (List D) := lLc (iEnumD (mVar 1)) (gT 2 (gsCons (gN 3) (gsCons (gN 4) gsNil))) (isB (mOp pEq (mVar 4) (mLit (.str ("on" : Str))))) (mVar 3) [3, 4]
noncomputable def c__law_holds_2 : Rho → M (List D) := lLc (iSeq (mOp pIdx (mVar 0) (mVar 3))) (gN 5) bYes (mOp pIdx (mVar 1) (mVar 5)) [5]
noncomputable def l__law_holds_1 : Rho → Sto → Fl := (sIf (isB (mOp pIn (mLit (.str ("same" : Str))) (mFrz c__law_holds_2))) (sRet (mLit (.bl false))) sNext)
noncomputable def m__law_holds : Rho → Sto → Fl := (sSeq (sAsg (gN 2) (mB pTuple (mCons (mFrz c__law_holds_1) mNil)))
  (sSeq (sIf (isB (mOp pIsNot (mCall d_find_round (mCons (mVar 0) (mCons (mVar 2) mNil))) (mLit .non))) (sRet (mLit (.bl false))) sNext)
  (sSeq (sFor (iSeq (mVar 2)) (gN 3) l__law_holds_1)
  (sRet (mOp pEq (mB pLen (mCons (mCall d__law_gathered (mCons (mVar 0) (mCons (mVar 1) mNil))) mNil)) (mMethT pCountT (mVar 1) (mCons (mLit (.str ("off" : Str))) mNil)))))))
noncomputable def d__law_holds : List D → M D := fnD 2 6 m__law_holds
theorem nn__law_holds : NeedN 2 d__law_holds := needN_fnD
noncomputable def c__law_all_words_1 : Rho → M (List D) := lLc (iSeq (mTup (mCons (mLit (.str ("off" : Str))) (mCons (mLit (.str ("on" : Str))) (mCons (mLit (.str ("same" : Str))) mNil))))) (gN 5) bYes (mOp pAdd (mVar 4) (mTup (mCons (mVar 5) mNil))) [5]
noncomputable def l__law_all_words_1 : Rho → Sto → Fl := (sDrop (mMeth "list" pExtend (mVar 3) (mCons (mFrz c__law_all_words_1) mNil)))
noncomputable def l__law_all_words_2 : Rho → Sto → Fl := (sSeq (sAsg (gN 3) (mNew (lDisp mNil)))
    (sSeq (sFor (iSeq (mVar 1)) (gN 4) l__law_all_words_1)
    (sFz 3 (sAsg (gN 1) (mVar 3)))))
noncomputable def m__law_all_words : Rho → Sto → Fl := (sSeq (sAsg (gN 1) (mFrz (lDisp (mCons (mTup mNil) mNil))))
  (sSeq (sFor (iRng1D (mVar 0)) (gN 2) l__law_all_words_2)
  (sRet (mVar 1))))
noncomputable def d__law_all_words : List D → M D := fnD 1 6 m__law_all_words
theorem nn__law_all_words : NeedN 1 d__law_all_words := needN_fnD
noncomputable def c_law_1 : Rho → M (List D) := lLc (iSeq (mCall d__law_all_words (mCons (mB pLen (mCons (mVar 3) mNil)) mNil))) (gN 5) (mTru (mCall d__law_holds (mCons (mVar 3) (mCons (mVar 5) mNil)))) (mVar 5) [5]
noncomputable def c_law_2 : Rho → M (List D) := lLc (iSeq (mCall d__law_all_words (mCons (mB pLen (mCons (mVar 3) mNil)) mNil))) (gN 5) (isB (mOp pIsNot (mCall d_row_for (mCons (mVar 3) (mCons (mVar 5) mNil))) (mLit .non))) (mVar 5) [5]
noncomputable def l_law_1 : Rho → Sto → Fl := (sSeq (sAsg (gN 3) (mCall d__law_panel (mCons (mVar 1) (mCons (mLit (.int 4)) mNil))))
    (sSeq (sAsg (gN 4) (mFrz c_law_1))
    (sSeq (sIf (isB (mOp pNe (mCall d_all_effects (mCons (mVar 3) mNil)) (mB pTuple (mCons (mVar 4) mNil)))) (sRet (mLit (.bl false))) sNext)
    (sSeq (sAsg (gN 6) (mFrz c_law_2))
    (sIf (isB (mOp pNe (mVar 6) (mVar 4))) (sRet (mLit (.bl false))) sNext)))))
noncomputable def c_law_3 : Rho → M (List D) := lLc (iRng1D (mLit (.int 4))) (gN 8) bYes (mCall d__law_words (mCons (mVar 1) (mCons (mB pLen (mCons (mVar 3) mNil)) mNil))) [8]
noncomputable def l_law_2 : Rho → Sto → Fl := (sIf (isB (mOp pNe (mOp pIsNot (mCall d_row_for (mCons (mVar 3) (mCons (mVar 5) mNil))) (mLit .non)) (mCall d__law_holds (mCons (mVar 3) (mCons (mVar 5) mNil))))) (sRet (mLit (.bl false))) sNext)
noncomputable def l_law_3 : Rho → Sto → Fl := (sSeq (sAsg (gN 3) (mCall d__law_panel (mCons (mVar 1) (mCons (mOp pAdd (mLit (.int 5)) (mVar 2)) mNil))))
    (sSeq (sAsg (gN 7) (mNew c_law_3))
    (sSeq (sDrop (mMeth "list" pAppend (mVar 7) (mCons (mCall d_effect_of (mCons (mVar 3) (mCons (mCall d__law_row (mCons (mVar 1) (mCons (mB pLen (mCons (mVar 3) mNil)) (mCons (mLit (.int 12)) mNil)))) mNil))) mNil)))
    (sFz 7 (sSeq (sFor (iSeq (mVar 7)) (gN 5) l_law_2)
    (sIf (bNot (mTru (mCall d__law_holds (mCons (mVar 3) (mCons (mOp pIdx (mVar 7) (mUn pNeg (mLit (.int 1)))) mNil))))) (sRet (mLit (.bl false))) sNext))))))
noncomputable def rest_law_1 : Rho → Sto → Fl := (sSeq (sFor (iRng1D (mLit (.int 3))) (gN 2) l_law_1)
  (sSeq (sFor (iRng1D (mLit (.int 3))) (gN 2) l_law_3)
  (sRet (mLit (.bl true)))))
noncomputable def m_law : Rho → Sto → Fl := (sSeq (sAsg (gN 1) (mCall d__law_draws (mCons (mVar 0) mNil))) rest_law_1)
noncomputable def d_law : List D → M D := fnD 1 9 m_law
theorem nn_law : NeedN 1 d_law := needN_fnD

def hds0 : Dn.HdQ := []
def hds : Dn.HdQ := hds0
def fcts0 : List (Dn.KF → Bool) := [fun K => Dn.fnB K (He.ga K "changed_word") "changed_word",
  fun K => Dn.fnB K (He.ga K "effect_after") "effect_after",
  fun K => Dn.fnB K (He.ga K "effect_of") "effect_of",
  fun K => Dn.fnB K (He.ga K "free_buttons") "free_buttons",
  fun K => Dn.fnB K (He.ga K "is_effect_form") "is_effect_form",
  fun K => Dn.fnB K (He.ga K "ordered") "ordered",
  fun K => Dn.fnB K (He.ga K "gather") "gather",
  fun K => Dn.fnB K (He.ga K "row_for") "row_for",
  fun K => Dn.fnB K (He.ga K "all_effects") "all_effects",
  fun K => Dn.fnB K (He.ga K "_law_draws") "_law_draws",
  fun K => Dn.fnB K (He.ga K "_law_next") "_law_next",
  fun K => Dn.fnB K (He.ga K "_law_panel") "_law_panel",
  fun K => Dn.fnB K (He.ga K "_law_row") "_law_row",
  fun K => Dn.fnB K (He.ga K "_law_words") "_law_words",
  fun K => Dn.fnB K (He.ga K "way_back") "way_back",
  fun K => Dn.fnB K (He.ga K "find_round") "find_round",
  fun K => Dn.fnB K (He.ga K "_law_gathered") "_law_gathered",
  fun K => Dn.fnB K (He.ga K "_law_holds") "_law_holds",
  fun K => Dn.fnB K (He.ga K "_law_all_words") "_law_all_words",
  fun K => Dn.fnB K (He.ga K "law") "law",
  fun K => decide (PySem.W.nsIn K mainGlobals "changed_word" = some (some (.ref (He.ga K "changed_word")))),
  fun K => decide (PySem.W.nsIn K mainGlobals "effect_after" = some (some (.ref (He.ga K "effect_after")))),
  fun K => decide (PySem.W.nsIn K mainGlobals "effect_of" = some (some (.ref (He.ga K "effect_of")))),
  fun K => decide (PySem.W.nsIn K mainGlobals "free_buttons" = some (some (.ref (He.ga K "free_buttons")))),
  fun K => decide (PySem.W.nsIn K mainGlobals "is_effect_form" = some (some (.ref (He.ga K "is_effect_form")))),
  fun K => decide (PySem.W.nsIn K mainGlobals "ordered" = some (some (.ref (He.ga K "ordered")))),
  fun K => decide (PySem.W.nsIn K mainGlobals "gather" = some (some (.ref (He.ga K "gather")))),
  fun K => decide (PySem.W.nsIn K mainGlobals "row_for" = some (some (.ref (He.ga K "row_for")))),
  fun K => decide (PySem.W.nsIn K mainGlobals "all_effects" = some (some (.ref (He.ga K "all_effects")))),
  fun K => decide (PySem.W.nsIn K mainGlobals "_law_draws" = some (some (.ref (He.ga K "_law_draws"))))]
def fcts1 : List (Dn.KF → Bool) := [fun K => decide (PySem.W.nsIn K mainGlobals "_law_next" = some (some (.ref (He.ga K "_law_next")))),
  fun K => decide (PySem.W.nsIn K mainGlobals "_law_panel" = some (some (.ref (He.ga K "_law_panel")))),
  fun K => decide (PySem.W.nsIn K mainGlobals "_law_row" = some (some (.ref (He.ga K "_law_row")))),
  fun K => decide (PySem.W.nsIn K mainGlobals "_law_words" = some (some (.ref (He.ga K "_law_words")))),
  fun K => decide (PySem.W.nsIn K mainGlobals "way_back" = some (some (.ref (He.ga K "way_back")))),
  fun K => decide (PySem.W.nsIn K mainGlobals "find_round" = some (some (.ref (He.ga K "find_round")))),
  fun K => decide (PySem.W.nsIn K mainGlobals "_law_gathered" = some (some (.ref (He.ga K "_law_gathered")))),
  fun K => decide (PySem.W.nsIn K mainGlobals "_law_holds" = some (some (.ref (He.ga K "_law_holds")))),
  fun K => decide (PySem.W.nsIn K mainGlobals "_law_all_words" = some (some (.ref (He.ga K "_law_all_words")))),
  fun K => decide (PySem.W.nsIn K mainGlobals "law" = some (some (.ref (He.ga K "law")))),
  fun K => decide (PySem.W.nsIn K mainGlobals "all" = some none),
  fun K => decide (PySem.W.nsIn K mainGlobals "any" = some none),
  fun K => decide (PySem.W.nsIn K mainGlobals "enumerate" = some none),
  fun K => decide (PySem.W.nsIn K mainGlobals "int" = some none),
  fun K => decide (PySem.W.nsIn K mainGlobals "isinstance" = some none),
  fun K => decide (PySem.W.nsIn K mainGlobals "len" = some none),
  fun K => decide (PySem.W.nsIn K mainGlobals "list" = some none),
  fun K => decide (PySem.W.nsIn K mainGlobals "range" = some none),
  fun K => decide (PySem.W.nsIn K mainGlobals "sorted" = some none),
  fun K => decide (PySem.W.nsIn K mainGlobals "str" = some none),
  fun K => decide (PySem.W.nsIn K mainGlobals "tuple" = some none),
  fun K => Dn.intB K "SMALL_BUTTONS" 7,
  fun K => Dn.strB K "OFF" ("off" : Str),
  fun K => Dn.strB K "ON" ("on" : Str),
  fun K => Dn.strB K "SAME" ("same" : Str)]
def fcts : List (Dn.KF → Bool) := fcts0 ++ fcts1
def fdfs0 : List Dn.FnQ := [⟨fun K => (He.ga K "changed_word"), "changed_word", "changed_word", (defArgs s_changed_word), (defBody s_changed_word), (defScope s_changed_word), []⟩,
  ⟨fun K => (He.ga K "effect_after"), "effect_after", "effect_after", (defArgs s_effect_after), (defBody s_effect_after), (defScope s_effect_after), []⟩,
  ⟨fun K => (He.ga K "effect_of"), "effect_of", "effect_of", (defArgs s_effect_of), (defBody s_effect_of), (defScope s_effect_of), []⟩,
  ⟨fun K => (He.ga K "free_buttons"), "free_buttons", "free_buttons", (defArgs s_free_buttons), (defBody s_free_buttons), (defScope s_free_buttons), []⟩,
  ⟨fun K => (He.ga K "is_effect_form"), "is_effect_form", "is_effect_form", (defArgs s_is_effect_form), (defBody s_is_effect_form), (defScope s_is_effect_form), []⟩,
  ⟨fun K => (He.ga K "ordered"), "ordered", "ordered", (defArgs s_ordered), (defBody s_ordered), (defScope s_ordered), []⟩,
  ⟨fun K => (He.ga K "gather"), "gather", "gather", (defArgs s_gather), (defBody s_gather), (defScope s_gather), []⟩,
  ⟨fun K => (He.ga K "row_for"), "row_for", "row_for", (defArgs s_row_for), (defBody s_row_for), (defScope s_row_for), []⟩,
  ⟨fun K => (He.ga K "all_effects"), "all_effects", "all_effects", (defArgs s_all_effects), (defBody s_all_effects), (defScope s_all_effects), []⟩,
  ⟨fun K => (He.ga K "_law_draws"), "_law_draws", "_law_draws", (defArgs s__law_draws), (defBody s__law_draws), (defScope s__law_draws), []⟩,
  ⟨fun K => (He.ga K "_law_next"), "_law_next", "_law_next", (defArgs s__law_next), (defBody s__law_next), (defScope s__law_next), []⟩,
  ⟨fun K => (He.ga K "_law_panel"), "_law_panel", "_law_panel", (defArgs s__law_panel), (defBody s__law_panel), (defScope s__law_panel), []⟩,
  ⟨fun K => (He.ga K "_law_row"), "_law_row", "_law_row", (defArgs s__law_row), (defBody s__law_row), (defScope s__law_row), []⟩,
  ⟨fun K => (He.ga K "_law_words"), "_law_words", "_law_words", (defArgs s__law_words), (defBody s__law_words), (defScope s__law_words), []⟩,
  ⟨fun K => (He.ga K "way_back"), "way_back", "way_back", (defArgs s_way_back), (defBody s_way_back), (defScope s_way_back), []⟩,
  ⟨fun K => (He.ga K "find_round"), "find_round", "find_round", (defArgs s_find_round), (defBody s_find_round), (defScope s_find_round), []⟩,
  ⟨fun K => (He.ga K "_law_gathered"), "_law_gathered", "_law_gathered", (defArgs s__law_gathered), (defBody s__law_gathered), (defScope s__law_gathered), []⟩,
  ⟨fun K => (He.ga K "_law_holds"), "_law_holds", "_law_holds", (defArgs s__law_holds), (defBody s__law_holds), (defScope s__law_holds), []⟩,
  ⟨fun K => (He.ga K "_law_all_words"), "_law_all_words", "_law_all_words", (defArgs s__law_all_words), (defBody s__law_all_words), (defScope s__law_all_words), []⟩,
  ⟨fun K => (He.ga K "law"), "law", "law", (defArgs s_law), (defBody s_law), (defScope s_law), []⟩]
def fdfs : List Dn.FnQ := fdfs0
def lse0 : List PySem.Str := ["SMALL_BUTTONS",
  "__name__",
  "PanelError",
  "TooLarge",
  "ON",
  "OFF",
  "SAME",
  "changed_word",
  "effect_after",
  "effect_of",
  "free_buttons",
  "is_effect_form",
  "ordered",
  "gather",
  "row_for",
  "all_effects",
  "way_back",
  "find_round",
  "_law_draws",
  "_law_next",
  "_law_panel",
  "_law_row",
  "_law_words",
  "_law_gathered",
  "_law_holds",
  "_law_all_words"]
def lse : List PySem.Str := lse0
abbrev RQ : PySem.W.OpenRow := PySem.W.OpenLaw.row PySem.Challenge.rw_pressrelease_k19_whole_conditions_of_eff
theorem run_false (w : World) : HandSHeadRun.RunEq RQ (PySem.W.view RQ.prog [29]) (Dn.hookQ fcts fdfs hds) (Dn.obQ fcts fdfs hds) 9000 lse (w.withFollow "special-get-raises" false) := by
  intro os
  kernel_rfl
theorem run_true (w : World) : HandSHeadRun.RunEq RQ (PySem.W.view RQ.prog [29]) (Dn.hookQ fcts fdfs hds) (Dn.obQ fcts fdfs hds) 9000 lse (w.withFollow "special-get-raises" true) := by
  intro os
  kernel_rfl
theorem run_all (w : World) : HandSHeadRun.RunEq RQ (PySem.W.view RQ.prog [29]) (Dn.hookQ fcts fdfs hds) (Dn.obQ fcts fdfs hds) 9000 lse w := PySem.W.byRow2 "special-get-raises" (P := fun w => HandSHeadRun.RunEq RQ (PySem.W.view RQ.prog [29]) (Dn.hookQ fcts fdfs hds) (Dn.obQ fcts fdfs hds) 9000 lse w) run_false run_true w
/-! ### the drawn numbers -/
def dkB (cells rests : List Int) (k : Nat) (rest : Sto) : Sto := .lst (rests.map .int) :: .lst [.lst (cells.map .int), nI k, .ref 0] :: rest
structure GoodB (cells rests : List Int) : Prop where
  len : rests.length = cells.length
  pos : 1 ≤ cells.length
  nn : ∀ z ∈ rests, 0 ≤ z
theorem goodB_set {cells rests : List Int} (g : GoodB cells rests) {j : Nat} {z : Int} (h : 0 ≤ z) : GoodB cells (rests.set j z) := ⟨by rw [List.length_set]; exact g.len, g.pos, fun y hy => by
  rcases List.mem_or_eq_of_mem_set hy with q | q
  · exact g.nn y q
  · rw [q]; exact h⟩
section
variable (c e : List Int) (k : Nat) (r : Sto)
theorem dkB_ref1 : (dkB c e k r)[1]? = some (.lst [.lst (c.map .int), nI k, .ref 0]) := rfl
theorem dkB_ref0 : (dkB c e k r)[0]? = some (.lst (e.map .int)) := rfl
theorem dkB_rest {j : Nat} (h : j < e.length) : pIdx (dkB c e k r) (.ref 0) (.int (j : Int)) = some (.int e[j]) := by
  rw [pIdx_ref (xs := e.map .int) rfl, atI_cast, List.getElem?_map, List.getElem?_eq_getElem h] <;> rfl
theorem dkB_cell {j : Nat} (h : j < c.length) (s : Sto) : pIdx s (.lst (c.map .int)) (.int (j : Int)) = some (.int c[j]) := by
  have := pIdx_lst s (c.map .int) j
  rw [List.getElem?_map, List.getElem?_eq_getElem h] at this
  exact this
theorem dkB_put (ρ : Rho) : gSubD (mVar 0) (mLit (.int 1)) (.int ((k : Int) + 1)) (some (.ref 1) :: ρ) (dkB c e k r) = .ok (some (.ref 1) :: ρ) (dkB c e (k + 1) r) := by
  rw [gSubD_ref (l := 1) (j := 1) (xs := [.lst (c.map .int), nI k, .ref 0]) rfl rfl rfl rfl] <;> rfl
theorem dkB_set {j : Nat} {z : Int} {a0 a1 a2 a3 a6 a7 a8 : Option D} (h : j < e.length) : gSubD (mVar 4) (mVar 5) (.int z) [a0, a1, a2, a3, some (.ref 0), some (.int (j : Int)), a6, a7, a8] (dkB c e k r) = .ok [a0, a1, a2, a3, some (.ref 0), some (.int (j : Int)), a6, a7, a8] (dkB c (e.set j z) k r) := by
  rw [gSubD_ref (l := 0) (j := j) (xs := e.map .int) (s1 := dkB c e k r) (s2 := dkB c e k r) (k := (j : Int)) rfl rfl rfl ?_]
  · unfold dkB
    rw [List.map_set]
    rfl
  · rw [List.length_map]
    unfold ixN
    rw [if_pos (by omega), if_pos (by omega), Int.toNat_natCast]
end
theorem next_ok {cells rests : List Int} {k m : Nat} (g : GoodB cells rests) (hk : k ≤ 10000000) (h1 : 1 ≤ m) (h2 : m < 1073741824) :
    ∃ z rests', z < m ∧ GoodB cells rests' ∧ ∀ rest, d__law_next [.ref 1, nI m] (dkB cells rests k rest) = .ok (nI z) (dkB cells rests' (k + 1) rest) := by
  have hm : (0 : Int) < (m : Int) := by omega
  have hm2 : (m : Int) < 1073741824 := by omega
  have hpos := g.pos
  have hlen := g.len
  have hu : ∀ z rests' rest, m__law_next [some (.ref 1), some (nI m), none, none, none, none, none, none, none] (dkB cells rests k rest) = .ret (nI z) (dkB cells rests' (k + 1) rest) → d__law_next [.ref 1, nI m] (dkB cells rests k rest) = .ok (nI z) (dkB cells rests' (k + 1) rest) := fun z c2 rest e => by
    show clean (dkB cells rests k rest) (flOut (m__law_next [some (.ref 1), some (nI m), none, none, none, none, none, none, none] (dkB cells rests k rest))) = _
    rw [e, flOut_ret]
    exact clean_same rfl
  obtain ⟨j, ej⟩ : ∃ j, k % cells.length = j := ⟨_, rfl⟩
  have hj : j < cells.length := by rw [← ej]; exact Nat.mod_lt _ (by omega)
  have hj2 : j < rests.length := by omega
  have hr := g.nn rests[j] (List.getElem_mem hj2)
  have em : ∀ s : Sto, pMod s (nI k) (.int (cells.length : Int)) = some (.int (j : Int)) := fun s => by
    unfold nI
    rw [pMod_int _ _ _ (by omega)]
    have : (k : Int) % (cells.length : Int) = (j : Int) := by rw [← ej]; simp
    rw [this]
  have elen : ∀ s : Sto, pLen s [.lst (cells.map .int)] = some (.int (cells.length : Int)) := fun s => by show some (D.int ((cells.map D.int).length : Int)) = _; rw [List.length_map]
  have egl : ∀ rest, gL 3 (gsCons (gN 2) (gsCons (gN 3) (gsCons (gN 4) gsNil))) (.ref 1) [some (.ref 1), some (nI m), none, none, none, none, none, none, none] (dkB cells rests k rest) = .ok [some (.ref 1), some (nI m), some (.lst (cells.map .int)), some (nI k), some (.ref 0), none, none, none, none] (dkB cells rests k rest) := fun rest => by
    rw [gL_ref (n := 3) (xs := [.lst (cells.map .int), nI k, .ref 0]) (dkB_ref1 cells rests k rest) rfl]
    rfl
  have eadd : ∀ s : Sto, pAdd s (nI k) (.int 1) = some (.int ((k : Int) + 1)) := fun s => rfl
  by_cases hb : 0 < rests[j]
  · obtain ⟨z, ez⟩ : ∃ z : Nat, rests[j] % (m : Int) = z := ⟨(rests[j] % (m : Int)).toNat, by have := Int.emod_nonneg rests[j] (Int.ne_of_gt hm); omega⟩
    have hz : z < m := by have := Int.emod_lt_of_pos rests[j] hm; omega
    refine ⟨z, rests.set j (rests[j] / (m : Int)), hz, goodB_set g (Int.ediv_nonneg hr (by omega)), fun rest => hu z _ rest ?_⟩
    have dv : ∀ s : Sto, pDiv s (.int rests[j]) (nI m) = some (.int (rests[j] / (m : Int))) := fun s => pDiv_int _ _ _ ⟨hm, hm2⟩
    have md : ∀ s : Sto, pMod s (.int rests[j]) (nI m) = some (nI z) := fun s => by unfold nI; rw [pMod_int _ _ _ hm, ez]
    unfold m__law_next
    simp [mVar_ap, egl, elen, em, eadd, dkB_put, dkB_rest _ _ _ _ hj2, hb, md, dv, dkB_set _ _ _ _ hj2]
  · obtain ⟨a, ea⟩ : ∃ a : Int, cells[j] % 2147483647 = a := ⟨_, rfl⟩
    have ha0 : 0 ≤ a := by rw [← ea]; exact Int.emod_nonneg _ (by decide)
    have ha1 : a < 2147483647 := by rw [← ea]; exact Int.emod_lt_of_pos _ (by decide)
    obtain ⟨b, eb⟩ : ∃ b : Int, (a + 69621 * (k : Int) + 30269) ^ 3 % 2147483629 = b := ⟨_, rfl⟩
    have hb0 : 0 ≤ b := by rw [← eb]; exact Int.emod_nonneg _ (by decide)
    have hb1 : b < 2147483629 := by rw [← eb]; exact Int.emod_lt_of_pos _ (by decide)
    have hkk : 6007 * (k : Int) * (k : Int) ≤ 6007 * 10000000 * 10000000 := Int.mul_le_mul (by omega) (by omega) (by omega) (by omega)
    have hkk0 : 0 ≤ 6007 * (k : Int) * (k : Int) := Int.mul_nonneg (by omega) (by omega)
    obtain ⟨q, eq⟩ : ∃ q : Int, 6007 * (k : Int) * (k : Int) = q := ⟨_, rfl⟩
    rw [eq] at hkk hkk0
    obtain ⟨d, ed⟩ : ∃ d : Int, (b + q + 17) ^ 3 % 2147483587 = d := ⟨_, rfl⟩
    obtain ⟨z, ez⟩ : ∃ z : Nat, (d * 2147483423 + b) % 4611686018427387847 % (m : Int) = z := ⟨((d * 2147483423 + b) % 4611686018427387847 % (m : Int)).toNat, by have := Int.emod_nonneg ((d * 2147483423 + b) % 4611686018427387847) (Int.ne_of_gt hm); omega⟩
    have hz : z < m := by have := Int.emod_lt_of_pos ((d * 2147483423 + b) % 4611686018427387847) hm; omega
    refine ⟨z, rests, hz, g, fun rest => hu z _ rest ?_⟩
    have p1 : ∀ s : Sto, pMod s (.int cells[j]) (.int 2147483647) = some (.int a) := fun s => by rw [pMod_int _ _ _ (by decide), ea]
    have p2 : ∀ s : Sto, pMul s (.int 69621) (nI k) = some (.int (69621 * (k : Int))) := fun s => pMul_int _ _ _ (.inl (by decide))
    have p3 : ∀ s : Sto, pPow s (.int (a + 69621 * (k : Int) + 30269)) (.int 3) = some (.int ((a + 69621 * (k : Int) + 30269) ^ 3)) := fun s => pPow_int _ _ _ ⟨by decide, by decide, by omega⟩
    have p4 : ∀ s : Sto, pMod s (.int ((a + 69621 * (k : Int) + 30269) ^ 3)) (.int 2147483629) = some (.int b) := fun s => by rw [pMod_int _ _ _ (by decide), eb]
    have p5 : ∀ s : Sto, pMul s (.int 6007) (nI k) = some (.int (6007 * (k : Int))) := fun s => pMul_int _ _ _ (.inl (by decide))
    have p6 : ∀ s : Sto, pMul s (.int (6007 * (k : Int))) (nI k) = some (.int q) := fun s => by unfold nI; rw [pMul_int _ _ _ (.inl (by omega)), eq]
    have p7 : ∀ s : Sto, pPow s (.int (b + q + 17)) (.int 3) = some (.int ((b + q + 17) ^ 3)) := fun s => pPow_int _ _ _ ⟨by decide, by decide, by omega⟩
    have p8 : ∀ s : Sto, pMod s (.int ((b + q + 17) ^ 3)) (.int 2147483587) = some (.int d) := fun s => by rw [pMod_int _ _ _ (by decide), ed]
    have p9 : ∀ s : Sto, pMul s (.int d) (.int 2147483423) = some (.int (d * 2147483423)) := fun s => pMul_int _ _ _ (.inr (by decide))
    have p10 : ∀ s : Sto, pMod s (.int (d * 2147483423 + b)) (.int 4611686018427387847) = some (.int ((d * 2147483423 + b) % 4611686018427387847)) := fun s => pMod_int _ _ _ (by decide)
    have p11 : ∀ s : Sto, pMod s (.int ((d * 2147483423 + b) % 4611686018427387847)) (nI m) = some (nI z) := fun s => by unfold nI; rw [pMod_int _ _ _ hm, ez]
    unfold m__law_next
    simp [mVar_ap, egl, elen, em, eadd, dkB_put, dkB_rest _ _ _ _ hj2, hb, dkB_cell _ hj, p1, p2, p3, p4, p5, p6, p7, p8, p9, p10, p11]
theorem draws_ok (ns : List Int) (h : ns.length ≤ 63) : ∃ cells rests, GoodB cells rests ∧ d__law_draws [.scr (ns.map .int)] [] = .ok (.ref 1) (dkB cells rests 0 []) := by
  obtain ⟨ms, em⟩ : ∃ ms, ns.take 63 = ms := ⟨_, rfl⟩
  have hml : ms.length ≤ 63 := by rw [← em, List.length_take]; omega
  obtain ⟨cells, hc⟩ : ∃ cells, (if ns.length = 0 then ([0] : List Int) else ms) = cells := ⟨_, rfl⟩
  have hcl : cells.length ≤ 63 ∧ 1 ≤ cells.length := by
    rw [← hc]
    by_cases e : ns.length = 0
    · rw [if_pos e]; exact ⟨by decide, by decide⟩
    · rw [if_neg e, ← em, List.length_take]; omega
  have hrr : ∀ z : Int, z * (if (1000000000000000000 : Int) ≤ z then 1 else 0) ≥ 0 := fun z => by
    split <;> omega
  refine ⟨cells, cells.map fun z => z * (if (1000000000000000000 : Int) ≤ z then 1 else 0), ⟨by rw [List.length_map], hcl.2, fun y hy => ?_⟩, ?_⟩
  · obtain ⟨z, _, rfl⟩ := List.mem_map.mp hy
    exact hrr z
  have p18 : ∀ s : Sto, pPow s (.int 10) (.int 18) = some (.int 1000000000000000000) := fun s => by rw [pPow_int _ _ _ (by decide)] <;> rfl
  have h1 : c__law_draws_1 [some (.scr (ns.map .int)), some (.lst (cells.map .int)), none] [] = .ok ((cells.map fun z => z * (if (1000000000000000000 : Int) ≤ z then 1 else 0)).map .int) [] := by
    unfold c__law_draws_1
    simp only [lLc_ap, iSeq_ap, mVar_ap, List.getElem?_cons_zero, List.getElem?_cons_succ, Out.bind_ok, srcOf_lst, lift_some, List.length_map]
    rw [if_pos (by omega), lcL_pure (g := fun d => match d with | .int z => some (.int (z * (if (1000000000000000000 : Int) ≤ z then 1 else 0))) | _ => none) (by simp)]
    · show Out.ok _ _ = Out.ok _ _
      congr 1
      clear hc hcl
      induction cells with
      | nil => rfl
      | cons a l ih => rw [List.map_cons, List.filterMap_cons, ih] <;> rfl
    · intro d hd
      obtain ⟨z, _, rfl⟩ := List.mem_map.mp hd
      have pm : ∀ (b : Bool) (s : Sto), pMul s (.int z) (.int (if b = true then 1 else 0)) = some (.int (z * (if b = true then 1 else 0))) := fun b s => by
        cases b
        · exact pMul_int _ _ _ (.inr (by decide))
        · exact pMul_int _ _ _ (.inr (by decide))
      have pi : ∀ (b : Bool) (s : Sto), pInt s [.bl b] = some (.int (if b = true then 1 else 0)) := fun b s => by cases b <;> rfl
      have pm2 := pm (decide ((1000000000000000000 : Int) ≤ z))
      by_cases hz : (1000000000000000000 : Int) ≤ z
      · rw [decide_eq_true hz] at pm2
        simp [lcF, wipeD, mVar_ap, p18, pi, hz] at pm2 ⊢
        simp [pm2]
      · rw [decide_eq_false hz] at pm2
        simp [lcF, wipeD, mVar_ap, p18, pi, hz] at pm2 ⊢
        simp [pm2]
  have hcut : Dn.cutD (ns.map D.int) none (some 63) = ms.map D.int := by
    have := cutD_take (ns.map D.int) 63
    rw [← List.map_take, em] at this
    exact this
  have hlen : ∀ s : Sto, pLen s [.scr (ns.map .int)] = some (.int (ns.length : Int)) := fun s => by show some (D.int ((ns.map D.int).length : Int)) = _; rw [List.length_map]
  have hcat : ∀ s : Sto, ∃ zs : List D, pRepL s (.lst [.int 0]) (.int (if ns.length = 0 then 1 else 0)) = some zs ∧ pCat s (.lst (ms.map .int)) (.lst zs) = some (cells.map .int) := fun s => by
    rw [← hc]
    by_cases e : ns.length = 0
    · rw [if_pos e, if_pos e]
      have em0 : ms = [] := by rw [← em, List.length_eq_zero_iff.mp e]; rfl
      subst em0
      refine ⟨[.int 0], ?_, ?_⟩
      · unfold pRepL
        simp only [lstOf_lst]
        rw [if_pos ⟨by decide, by decide, by decide⟩]
        rfl
      · unfold pCat
        simp only [lstOf_lst]
        rw [if_pos (by decide)]
        rfl
    · rw [if_neg e, if_neg e]
      refine ⟨[], ?_, ?_⟩
      · unfold pRepL
        simp only [lstOf_lst]
        rw [if_pos ⟨by decide, by decide, by decide⟩]
        rfl
      · unfold pCat
        simp only [lstOf_lst]
        rw [if_pos (by rw [List.length_map]; show ms.length + 0 ≤ 100000; omega), List.append_nil]
  obtain ⟨zs, hz1, hz2⟩ := hcat []
  have pib : ∀ (s : Sto), pInt s [.bl (decide ((ns.length : Int) = 0))] = some (.int (if ns.length = 0 then 1 else 0)) := fun s => by
    by_cases e : ns.length = 0
    · rw [decide_eq_true (by omega), if_pos e]; rfl
    · rw [decide_eq_false (by omega), if_neg e]; rfl
  have pls : ∀ s : Sto, pList s [.lst (ms.map .int)] = some (ms.map .int) := fun _ => rfl
  have hm : m__law_draws [some (.scr (ns.map .int)), none, none] [] = .ret (.ref 1) (dkB cells (cells.map fun z => z * (if (1000000000000000000 : Int) ≤ z then 1 else 0)) 0 []) := by
    unfold m__law_draws
    have l1 : ([.int 0] : List D).length ≤ 100000 := by decide
    simp only [sSeq_ap, sAsg_ap, mFrz_ap, lOp_ap, lB_ap, mCons_ap, lSlL, mVar_ap, List.getElem?_cons_zero, List.getElem?_cons_succ, Out.bind_ok, oNone_ap, oSome, mLit_ap, hcut, mNil_ap, pls, lift_some, lDisp_ap, l1, if_true, mB_ap, mOp_ap, hlen, pEq_int, pib, hz1, hz2, Out.fl_ok, gN_ap, nox_ok, List.set_cons_succ, List.set_cons_zero, seq_next, sRet_ap, mNew_ap, h1]
    rfl
  show clean [] (flOut (m__law_draws [some (.scr (ns.map .int)), none, none] [])) = _
  rw [hm, flOut_ret]
  unfold clean
  dsimp only
  rw [if_neg]
  rintro ⟨h1, _⟩
  simp [D.low] at h1
/-! ### the drawn numbers, and instances, as a world -/
def Dk : Type := { x : List Int × List Int × Nat // GoodB x.1 x.2.1 }
def RDk : DkR Dk where
  d0 s := .lst (s.1.2.1.map .int)
  d1 s := .lst [.lst (s.1.1.map .int), nI s.1.2.2, .ref 0]
  n0 _ := rfl
  n1 _ := rfl
abbrev ST := OS Dk
def _root_.Dn.OS.k (s : ST) : Nat := s.dk.1.2.2
theorem dk_of {s : ST} {st : Sto} (h : HasO RDk s st) : st = dkB s.dk.1.1 s.dk.1.2.1 s.dk.1.2.2 (st.drop 2) := by
  match st, h.a0, h.a1 with
  | a :: b :: r, h0, h1 =>
    obtain rfl := Option.some.inj h0
    obtain rfl := Option.some.inj h1
    rfl
theorem has_dk {s : ST} {c e : List Int} {k : Nat} {d : Dk} {r : Sto} (h : HasO RDk s (dkB c e k r)) : HasO RDk ⟨d, s.m⟩ (dkB d.1.1 d.1.2.1 d.1.2.2 r) := by
  have get : ∀ l (m : MO), 2 ≤ l → ((dkB c e k r)[l]? = some m ↔ (dkB d.1.1 d.1.2.1 d.1.2.2 r)[l]? = some m) := fun l m hl => by
    match l, hl with
    | l + 2, _ => exact Iff.rfl
  have ins : ∀ (l : Nat) (n : Str) (fs : List (Str × D)), (dkB d.1.1 d.1.2.1 d.1.2.2 r)[l]? = some (MO.ins n fs) ↔ (dkB c e k r)[l]? = some (MO.ins n fs) := fun l n fs => by
    match l with
    | 0 => exact ⟨fun h => (nomatch Option.some.inj h), fun h => (nomatch Option.some.inj h)⟩
    | 1 => exact ⟨fun h => (nomatch Option.some.inj h), fun h => (nomatch Option.some.inj h)⟩
    | l + 2 => exact Iff.rfl
  refine ⟨rfl, rfl, fun l o e => ?_, fun l n fs e => h.ins l n fs ((ins _ _ _).mp e), fun k' n fs f l e i => ?_⟩
  · obtain ⟨a, b, o'⟩ := h.at_ l o e
    refine ⟨a, (get l _ a).mp b, ?_⟩
    rcases o' with q | ⟨n, fs, q⟩ | ⟨k', n, fs, f, q, i⟩
    · exact .inl q
    · exact .inr (.inl ⟨n, fs, (ins _ _ _).mpr q⟩)
    · exact .inr (.inr ⟨k', n, fs, f, (ins _ _ _).mpr q, i⟩)
  · exact h.ref k' n fs f l ((ins _ _ _).mp e) i
open Classical in
noncomputable def draw (m : Int) : Mt ST Int := fun s => if h : ∃ z d', (0 ≤ z ∧ z < m ∧ d'.1.2.2 = s.k + 1) ∧ ∀ r, d__law_next [.ref 1, eI m] (dkB s.dk.1.1 s.dk.1.2.1 s.dk.1.2.2 r) = .ok (eI z) (dkB (d' : Dk).1.1 d'.1.2.1 d'.1.2.2 r) then .ok h.choose ⟨h.choose_spec.choose, s.m⟩ else .bad
theorem fn_draw (m : Int) : FN (WO RDk) d__law_next [.ref 1, eI m] (draw m) eI := fun st s hs => by
  have hs : HasO RDk s st := hs
  unfold draw
  split
  · rename_i h
    have e := h.choose_spec.choose_spec.2 (st.drop 2)
    rw [← dk_of hs] at e
    have hd := dk_of hs
    have h2 : HasO RDk s (dkB s.dk.1.1 s.dk.1.2.1 s.dk.1.2.2 (st.drop 2)) := by rw [← hd]; exact hs
    refine ⟨_, e, has_dk h2, ?_, fun l hl no => ?_⟩
    · have := congrArg List.length hd
      rw [this]
      exact Nat.le_refl _
    · have l2 : 2 ≤ l := by
        by_cases q : 2 ≤ l
        · exact q
        · exact absurd (Or.inl (by omega)) no
      have e2 : st[l]? = (dkB h.choose_spec.choose.1.1 h.choose_spec.choose.1.2.1 h.choose_spec.choose.1.2.2 (st.drop 2))[l]? := by
        rw [hd]
        match l, l2 with
        | l + 2, _ => rfl
      refine ⟨fun o => no ?_, e2.symm⟩
      have ins : ∀ (k' : Nat) (n : Str) (fs : List (Str × D)), (dkB h.choose_spec.choose.1.1 h.choose_spec.choose.1.2.1 h.choose_spec.choose.1.2.2 (st.drop 2))[k']? = some (MO.ins n fs) → st[k']? = some (MO.ins n fs) := fun k' n fs q => by
        rw [hd]
        match k', q with
        | 0, q => exact (nomatch Option.some.inj q)
        | 1, q => exact (nomatch Option.some.inj q)
        | k' + 2, q => exact q
      rcases o with q | ⟨n, fs, q⟩ | ⟨k', n, fs, f, q, i⟩
      · exact .inl q
      · exact .inr (.inl ⟨n, fs, ins _ _ _ q⟩)
      · exact .inr (.inr ⟨k', n, fs, f, ins _ _ _ q, i⟩)
  · trivial
theorem draw_run {m : Int} {s : ST} (h1 : 1 ≤ m) (h2 : m < 1073741824) (hk : s.k ≤ 10000000) : ∃ z s', draw m s = .ok z s' ∧ 0 ≤ z ∧ z < m ∧ s'.k = s.k + 1 ∧ s'.m = s.m := by
  have h : ∃ z d', (0 ≤ z ∧ z < m ∧ d'.1.2.2 = s.k + 1) ∧ ∀ r, d__law_next [.ref 1, eI m] (dkB s.dk.1.1 s.dk.1.2.1 s.dk.1.2.2 r) = .ok (eI z) (dkB (d' : Dk).1.1 d'.1.2.1 d'.1.2.2 r) := by
    obtain ⟨⟨⟨c, e, k⟩, g⟩, hm⟩ := s
    have hk' : k ≤ 10000000 := hk
    obtain ⟨z, e', hz, g', hd⟩ := next_ok (m := m.toNat) g hk' (by omega) (by omega)
    have em : (m.toNat : Int) = m := by omega
    refine ⟨z, ⟨(c, e', k + 1), g'⟩, ⟨by omega, by omega, rfl⟩, fun r => ?_⟩
    have := hd r
    unfold nI at this
    rw [em] at this
    exact this
  refine ⟨h.choose, ⟨h.choose_spec.choose, s.m⟩, ?_, h.choose_spec.choose_spec.1.1, h.choose_spec.choose_spec.1.2.1, h.choose_spec.choose_spec.1.2.2, rfl⟩
  unfold draw
  rw [dif_pos h]
/-! ### what is drawn: whatever the cells are -/
def Runs {α : Type} (n : Nat) (q : Mt ST α) (Q : α → Prop) : Prop := ∀ s : ST, s.k + n ≤ 10000000 → ∃ a s', q s = .ok a s' ∧ (s'.k ≤ s.k + n ∧ s'.m = s.m) ∧ Q a
section
variable {α β σ : Type}
theorem runs_pure {a : α} {Q : α → Prop} (h : Q a) : Runs 0 (mpure a) Q := fun s _ => ⟨a, s, rfl, ⟨Nat.le_refl _, rfl⟩, h⟩
theorem runs_bind {n m : Nat} {q : Mt ST α} {k : α → Mt ST β} {Q : α → Prop} {R : β → Prop} (h : Runs n q Q) (hk : ∀ a, Q a → Runs m (k a) R) : Runs (n + m) (mbind q k) R := fun s hs => by
  obtain ⟨a, s1, e1, ⟨h1, g1⟩, ha⟩ := h s (by omega)
  obtain ⟨b, s2, e2, ⟨h2, g2⟩, hb⟩ := hk a ha s1 (by omega)
  exact ⟨b, s2, by unfold mbind; rw [e1]; exact e2, ⟨by omega, g2.trans g1⟩, hb⟩
theorem runs_mono {n m : Nat} {q : Mt ST α} {Q R : α → Prop} (h : Runs n q Q) (hn : n ≤ m) (hq : ∀ a, Q a → R a) : Runs m q R := fun s hs => by
  obtain ⟨a, s1, e1, ⟨h1, g1⟩, ha⟩ := h s (by omega)
  exact ⟨a, s1, e1, ⟨by omega, g1⟩, hq a ha⟩
theorem runs_le {n m : Nat} {q : Mt ST α} {Q : α → Prop} (h : Runs n q Q) (hn : n ≤ m) : Runs m q Q := runs_mono h hn fun _ h => h
theorem runs_draw {m : Int} (h1 : 1 ≤ m) (h2 : m < 1073741824) : Runs 1 (draw m) fun z => 0 ≤ z ∧ z < m := fun s hs => by
  obtain ⟨z, s', e, h3, h4, h5, h6⟩ := draw_run h1 h2 (s := s) (by omega)
  exact ⟨z, s', e, ⟨by omega, h6⟩, h3, h4⟩
theorem runs_calm {n : Nat} {q : Mt ST α} {Q : α → Prop} (h : Runs n q Q) : Runs n (calmly q) Q := fun s hs => by
  obtain ⟨a, s1, e1, h1, ha⟩ := h s hs
  exact ⟨a, s1, by unfold calmly; rw [e1] <;> rfl, h1, ha⟩
/-- a loop, its state told by the items behind it -/
theorem runs_forU {c : Nat} {body : α → σ → Mt ST σ} (I : List α → σ → Prop) (xs : List α) (hb : ∀ pre x post z, xs = pre ++ x :: post → I pre z → Runs c (body x z) (I (pre ++ [x]))) :
    ∀ (post pre : List α) (z : σ), xs = pre ++ post → I pre z → Runs (post.length * c) (forU body post z) (I xs)
  | [], pre, z, e, h => by
    rw [List.append_nil] at e
    subst e
    exact runs_le (runs_pure h) (Nat.zero_le _)
  | x :: post, pre, z, e, h => by
    unfold forU
    refine runs_le (runs_bind (hb pre x post z e h) fun z' h' => runs_forU I xs hb post (pre ++ [x]) z' (by rw [e]; simp) h') ?_
    rw [List.length_cons, Nat.succ_mul]
    omega
theorem runs_for {c : Nat} {body : α → σ → Mt ST σ} (I : List α → σ → Prop) {xs : List α} {z : σ} (h : I [] z) (hb : ∀ pre x post z, xs = pre ++ x :: post → I pre z → Runs c (body x z) (I (pre ++ [x]))) : Runs (xs.length * c) (forU body xs z) (I xs) := runs_forU I xs hb xs [] z rfl h
/-- a loop in which nothing returns -/
theorem runs_forX {c : Nat} {body : α → σ → Mt ST (Lp σ β)} (I : σ → Prop) : ∀ (xs : List α) (z : σ), I z → (∀ x ∈ xs, ∀ z, I z → Runs c (body x z) fun r => ∃ z', r = .nx z' ∧ I z') → Runs (xs.length * c) (forX body xs z) fun r => ∃ z', r = .inl z' ∧ I z'
  | [], z, h, _ => runs_le (runs_pure ⟨z, rfl, h⟩) (Nat.zero_le _)
  | x :: xs, z, h, hb => by
    unfold forX
    refine runs_le (runs_bind (m := xs.length * c) (hb x (by simp) z h) ?_) ?_
    · rintro r ⟨z', rfl, h'⟩
      exact runs_forX I xs z' h' fun y hy => hb y (by simp [hy])
    · rw [List.length_cons, Nat.succ_mul]
      omega
theorem runs_mapT {c : Nat} {f : α → Mt ST β} (P : α → β → Prop) : ∀ (xs : List α), (∀ x ∈ xs, Runs c (f x) (P x)) → Runs (xs.length * c) (mapT f xs) fun ys => ys.length = xs.length ∧ ∀ y ∈ ys, ∃ x ∈ xs, P x y
  | [], _ => runs_le (runs_pure ⟨rfl, fun _ h => nomatch h⟩) (Nat.zero_le _)
  | x :: xs, hf => by
    unfold mapT
    refine runs_le (runs_bind (m := xs.length * c + 0) (hf x (by simp)) fun y hy => runs_bind (runs_mapT P xs fun z hz => hf z (by simp [hz])) fun ys hys => runs_pure ⟨by simp [hys.1], fun z hz => ?_⟩) ?_
    · rcases List.mem_cons.mp hz with e | e
      · exact ⟨x, by simp, by rw [e]; exact hy⟩
      · obtain ⟨w, hw, hp⟩ := hys.2 z e
        exact ⟨w, by simp [hw], hp⟩
    · rw [List.length_cons, Nat.succ_mul]
      omega
theorem runs_compM {c : Nat} {p : α → Bool} {f : α → Mt ST β} (P : α → β → Prop) {xs : List α} (hl : xs.length ≤ 100000) (hf : ∀ x ∈ xs, Runs c (f x) (P x)) : Runs (xs.length * c) (compM p f xs) fun ys => ys.length = (xs.filter p).length ∧ ∀ y ∈ ys, ∃ x ∈ xs, P x y := by
  unfold compM
  rw [if_pos hl]
  refine runs_mono (runs_mapT P (xs.filter p) fun x hx => hf x (List.mem_filter.mp hx).1) (Nat.mul_le_mul_right _ (List.length_filter_le _ _)) ?_
  rintro ys ⟨h1, h2⟩
  exact ⟨h1, fun y hy => let ⟨x, hx, hp⟩ := h2 y hy; ⟨x, (List.mem_filter.mp hx).1, hp⟩⟩
/-- a drawn part of a list -/
theorem runs_sub {c : Nat} {p : α → Mt ST Bool} {xs : List α} (hl : xs.length ≤ 100000) (hp : ∀ x ∈ xs, Runs c (p x) fun _ => True) : Runs (xs.length * c) (compG p (fun x => mpure x) xs) fun ys => ys.Sublist xs := by
  unfold compG
  rw [if_pos hl]
  clear hl
  induction xs with
  | nil => exact runs_le (runs_pure (List.Sublist.refl _)) (Nat.zero_le _)
  | cons x xs ih =>
    unfold compT
    refine runs_le (runs_bind (n := c + 0) (m := xs.length * c + 0) (Q := fun o => o = none ∨ o = some x) ?_ fun o ho => runs_bind (ih fun y hy => hp y (by simp [hy])) fun ys hys => runs_pure ?_) ?_
    · refine runs_bind (hp x (by simp)) fun b _ => ?_
      cases b
      · exact runs_pure (.inl rfl)
      · exact runs_pure (.inr rfl)
    · rcases ho with rfl | rfl
      · exact hys.cons x
      · exact hys.cons_cons x
    · rw [List.length_cons, Nat.succ_mul]
      omega
/-- .. with another item for each -/
theorem runs_subF {c : Nat} {p : α → Mt ST Bool} {f : α → β} {xs : List α} (hl : xs.length ≤ 100000) (hp : ∀ x ∈ xs, Runs c (p x) fun _ => True) : Runs (xs.length * c) (compG p (fun x => mpure (f x)) xs) fun ys => ∃ zs : List α, ys = zs.map f ∧ zs.Sublist xs := by
  unfold compG
  rw [if_pos hl]
  clear hl
  induction xs with
  | nil => exact runs_le (runs_pure ⟨[], rfl, List.Sublist.refl _⟩) (Nat.zero_le _)
  | cons x xs ih =>
    unfold compT
    refine runs_le (runs_bind (n := c + 0) (m := xs.length * c + 0) (Q := fun o => o = none ∨ o = some (f x)) ?_ fun o ho => runs_bind (ih fun y hy => hp y (by simp [hy])) fun ys hys => runs_pure ?_) ?_
    · refine runs_bind (hp x (by simp)) fun b _ => ?_
      cases b
      · exact runs_pure (.inl rfl)
      · exact runs_pure (.inr rfl)
    · obtain ⟨zs, e, hz⟩ := hys
      rcases ho with rfl | rfl
      · exact ⟨zs, e, hz.cons x⟩
      · exact ⟨x :: zs, by rw [e]; rfl, hz.cons_cons x⟩
    · rw [List.length_cons, Nat.succ_mul]
      omega
end
noncomputable def p_changed_word {S : Type} (vpanel : (List (List Int))) (vpressed : Int) (vbutton : Int) (vword : Str) : Mt S Str := mbind (mpure (decide (vbutton = vpressed))) fun vb1 => if vb1 = true then (mpure ("on" : Str)) else (mbind (mbind (midx vpanel vpressed) fun vx2 => mpure (decide (vbutton ∈ vx2))) fun vb3 => if vb3 = true then mpure ("off" : Str) else mpure vword)
theorem fn_changed_word {S : Type} {W : Wd S} (vpanel : (List (List Int))) (vpressed : Int) (vbutton : Int) (vword : Str) : FN W d_changed_word [(eT (eT eI)) vpanel, eI vpressed, eI vbutton, eS vword] (p_changed_word vpanel vpressed vbutton vword) eS := fnT_of (fun b => Pl.p b) rfl (le_c rfl) fun fr => (tr_ifseq (ht_ofV (enc := id) (hv_isB (hv_op (hv_var rfl) (hv_var rfl) (t_eq (e := eI) _ _ (by decide))))) (tr_seqR (tr_ret (ht_ofV hv_lit))) (tr_nextR (tr_ret (ht_if (ht_isB (ht_op (ac_V (hv_var rfl) (ac_T (ht_op (ac_V (hv_var rfl) (ac_V (hv_var rfl) (af_idxT (e := (eT eI)) vpanel vpressed)))) fun vx2 => (af_op (enc := eB) (t_inT (e := eI) vbutton vx2 (by decide))))))) (ht_ofV hv_lit) (ht_ofV (hv_var rfl))))))
noncomputable def p_effect_after {S : Type} (vpanel : (List (List Int))) (veffect : (List Str)) (vpressed : Int) : Mt S (List Str) := mbind (mbind (mbind (mpure veffect) fun vxs1 => mpure (enumZ 0 vxs1)) fun vxs3 => calmly (compM (fun (vx2 : (Int × Str)) => true) (fun (vx2 : (Int × Str)) => p_changed_word vpanel vpressed vx2.1 vx2.2) vxs3)) fun vx4 => mpure vx4
theorem fn_effect_after {S : Type} {W : Wd S} (vpanel : (List (List Int))) (veffect : (List Str)) (vpressed : Int) : FN W d_effect_after [(eT (eT eI)) vpanel, (eT eS) veffect, eI vpressed] (p_effect_after vpanel veffect vpressed) (eT eS) := fnT_of (fun b => Pl.p b) rfl (le_c rfl) fun fr => (tr_ret (ht_b (ac_T (ht_frz (ht_compM (enc := eS) (c := (fun (vx2 : (Int × Str)) => true)) (f := (fun (vx2 : (Int × Str)) => p_changed_word vpanel vpressed vx2.1 vx2.2)) (src_enum (sT (e := eS)) (ht_ofV (hv_var rfl))) rfl (fun vx2 => (gt1_T (gts_cons (gt1_N 3 _) (gts_cons (gt1_N 4 _) gts_nil)) rfl)) (by decide) (fun _ => (kp_of trivial)) (fun vx2 => hv_yes) (fun vx2 => (ht_call (ac_V (hv_var rfl) (ac_V (hv_var rfl) (ac_V (hv_var rfl) (ac_V (hv_var rfl) (ac_fn (fn_changed_word vpanel vpressed vx2.1 vx2.2)))))))))) fun vx4 => (af_b1 (enc := (eT eS)) (t_tupL (e := eS) _)))))
noncomputable def p_effect_of {S : Type} (vpanel : (List (List Int))) (vrow : (List Int)) : Mt S (List Str) := mbind (mrepT ([("same" : Str)]) (vpanel.length : Int)) fun veffect1 => mbind (mbind (mpure vrow) fun vxs5 => forU (fun (vx3 : Int) (vz2 : (List Str)) => mbind (p_effect_after vpanel vz2 vx3) fun veffect4 => mpure veffect4) vxs5 veffect1) fun vz2 => mpure vz2
theorem fn_effect_of {S : Type} {W : Wd S} (vpanel : (List (List Int))) (vrow : (List Int)) : FN W d_effect_of [(eT (eT eI)) vpanel, (eT eI) vrow] (p_effect_of vpanel vrow) (eT eS) := fnT_of (fun b => Pl.p b) rfl (le_c rfl) fun fr => (tr_seqN (tn_asg (ht_op (ac_V (hv_tup (hv_cons hv_lit hv_nil) (le_c rfl)) (ac_V (hv_b (A := D) (hv_cons (hv_var rfl) hv_nil) (t_lenT (e := (eT eI)) _)) (af_repT (e := eS) ([("same" : Str)]) (vpanel.length : Int)))))) fun veffect1 => (tr_seqN (tn_for (J := fun (vz2 : (List Str)) => [.val ((eT (eT eI)) vpanel), .val ((eT eI) vrow), .val ((eT eS) vz2), .any]) (z0 := veffect1) (src_seq (sT (e := eI)) (ht_ofV (hv_var rfl))) (fun _ => (.same (.same (.same (.any .nil))))) (fun vx3 vz2 => (gt1_N 3 _)) (fun vx3 vz2 => (tn_map (f := fun (veffect4 : (List Str)) => veffect4) (tn_asg (ht_call (ac_V (hv_var rfl) (ac_V (hv_var rfl) (ac_V (hv_var rfl) (ac_fn (fn_effect_after vpanel vz2 vx3))))))) (fun veffect4 => (.same (.same (.same (.any .nil)))))))) fun vz2 => (tr_ret (ht_ofV (hv_var rfl)))))
noncomputable def p_free_buttons {S : Type} (vpanel : (List (List Int))) (veffect : (List Str)) : Mt S (List Int) := mbind (mbind (mbind (mpure veffect) fun vxs1 => mpure (enumZ 0 vxs1)) fun vxs3 => compV (fun (vx2 : (Int × Str)) => (decide (vx2.2 = ("same" : Str)))) (fun (vx2 : (Int × Str)) => vx2.1) vxs3) fun vkept4 => mbind (mbind (mpure (vpanel.length : Int)) fun vn5 => mrng (0 : Int) vn5) fun vxs13 => calmly (compG (fun (vx6 : Int) => mbind (mbind (mbind (mbind (mbind (midx vpanel vx6) fun vx7 => mdisp ([vx6] ++ vx7)) fun vxs9 => compV (fun (vx8 : Int) => true) (fun (vx8 : Int) => (decide (vx8 ∈ vkept4))) vxs9) fun vx10 => mpure (vx10.any id)) fun vx11 => mpure vx11) fun vb12 => mpure (!vb12)) (fun (vx6 : Int) => mpure vx6) vxs13)
theorem fn_free_buttons {S : Type} {W : Wd S} (vpanel : (List (List Int))) (veffect : (List Str)) : FN W d_free_buttons [(eT (eT eI)) vpanel, (eT eS) veffect] (p_free_buttons vpanel veffect) (eL eI) := fnT_of (fun b => Pl.p b) rfl (le_c rfl) fun fr => (tr_seqN (tn_asg (ht_frz (ht_compV (enc := eI) (c := (fun (vx2 : (Int × Str)) => (decide (vx2.2 = ("same" : Str))))) (f := (fun (vx2 : (Int × Str)) => vx2.1)) (src_enum (sT (e := eS)) (ht_ofV (hv_var rfl))) rfl (fun vx2 => (gt1_T (gts_cons (gt1_N 3 _) (gts_cons (gt1_N 4 _) gts_nil)) rfl)) (by decide) (fun _ => (kp_of trivial)) (fun vx2 => (hv_isB (hv_op (hv_var rfl) hv_lit (t_eq (e := eS) _ _ (by decide))))) (fun vx2 => (hv_var rfl))))) fun vkept4 => (tr_ret (ht_frz (ht_compG (enc := eI) (c := (fun (vx6 : Int) => mbind (mbind (mbind (mbind (mbind (midx vpanel vx6) fun vx7 => mdisp ([vx6] ++ vx7)) fun vxs9 => compV (fun (vx8 : Int) => true) (fun (vx8 : Int) => (decide (vx8 ∈ vkept4))) vxs9) fun vx10 => mpure (vx10.any id)) fun vx11 => mpure vx11) fun vb12 => mpure (!vb12))) (f := (fun (vx6 : Int) => mpure vx6)) (src_rng1 (ht_ofV (hv_b (A := D) (hv_cons (hv_var rfl) hv_nil) (t_lenT (e := (eT eI)) _)))) rfl (fun vx6 => (gt1_N 3 _)) (by decide) (fun _ => (kp_of trivial)) (fun vx6 => (ht_not (ht_tru (ht_b (ac_T (ht_frz (ht_compV (enc := eB) (c := (fun (vx8 : Int) => true)) (f := (fun (vx8 : Int) => (decide (vx8 ∈ vkept4)))) (src_seq (sT (e := eI)) (ht_tup (ac_V (hv_var rfl) (ac_star (ht_op (ac_V (hv_var rfl) (ac_V (hv_var rfl) (af_idxT (e := (eT eI)) vpanel vx6)))) (fun _ _ => rfl) fun vx7 => (af_tupE (e := eI) ([vx6] ++ vx7) (by first | rfl | (simp only [List.map_append, List.map_cons, List.map_nil, List.append_nil, List.nil_append, List.append_assoc] <;> rfl))))))) rfl (fun vx8 => (gt1_N 5 _)) (by decide) (fun _ => (kp_of trivial)) (fun vx8 => hv_yes) (fun vx8 => (hv_op (hv_var rfl) (hv_var rfl) (t_inL (e := eI) vx8 vkept4 (by decide)))))) fun vx10 => (af_b1 (enc := eB) (t_any _)))) (fun x => tr_B x)))) (fun vx6 => (ht_ofV (hv_var rfl)))))))
noncomputable def p_is_effect_form {S : Type} (vpanel : (List (List Int))) (vvalue : D) : Mt S Bool := mbind (mbind (mbind (mbind (mbind (mpure vvalue) fun vd1 => misiD "tuple" vd1) fun vx2 => mpure vx2) fun vb3 => mpure (!vb3)) fun vb6 => if vb6 = true then mpure true else mbind (mbind (mbind (mpure vvalue) mcastT) fun vx4 => mpure (vx4.length : Int)) fun vx5 => mpure (!decide (vx5 = (vpanel.length : Int)))) fun vb7 => if vb7 = true then (mpure false) else (mbind (mbind (mbind (mpure vvalue) mcastT) fun vxs12 => calmly (compM (fun (vx8 : D) => true) (fun (vx8 : D) => mbind (mbind (mpure vx8) fun vd9 => misiD "str" vd9) fun vb11 => if vb11 = true then mbind (mbind (mpure vx8) mcastS) fun vx10 => mpure (decide (vx10 ∈ [("on" : Str), ("off" : Str), ("same" : Str)])) else mpure false) vxs12)) fun vx13 => mpure (vx13.all id))
theorem fn_is_effect_form {S : Type} {W : Wd S} (vpanel : (List (List Int))) (vvalue : D) : FN W d_is_effect_form [(eT (eT eI)) vpanel, eD vvalue] (p_is_effect_form vpanel vvalue) eB := fnT_of (fun b => Pl.p b) rfl (le_c rfl) fun fr => (tr_ifseq (ht_or (ht_not (ht_tru (ht_isiD (ht_ofV (hv_var rfl))) (fun x => tr_B x))) (ht_isB (ht_op (ac_T (ht_b (ac_T (ht_castT (ht_ofV (hv_var rfl))) fun vx4 => (af_b1 (enc := eI) (t_lenT (e := eD) _)))) fun vx5 => (ac_V (hv_b (A := D) (hv_cons (hv_var rfl) hv_nil) (t_lenT (e := (eT eI)) _)) (af_op (enc := eB) (t_ne (e := eI) _ _ (by decide)))))))) (tr_seqR (tr_ret (ht_ofV hv_lit))) (tr_nextR (tr_ret (ht_b (ac_T (ht_frz (ht_compM (enc := eB) (c := (fun (vx8 : D) => true)) (f := (fun (vx8 : D) => mbind (mbind (mpure vx8) fun vd9 => misiD "str" vd9) fun vb11 => if vb11 = true then mbind (mbind (mpure vx8) mcastS) fun vx10 => mpure (decide (vx10 ∈ [("on" : Str), ("off" : Str), ("same" : Str)])) else mpure false)) (src_seq (sT (e := eD)) (ht_castT (ht_ofV (hv_var rfl)))) rfl (fun vx8 => (gt1_N 2 _)) (by decide) (fun _ => (kp_of trivial)) (fun vx8 => hv_yes) (fun vx8 => (ht_andV (ht_isiD (ht_ofV (hv_var rfl))) (ht_op (ac_T (ht_castS (ht_ofV (hv_var rfl))) fun vx10 => (ac_V (hv_tup (hv_cons hv_lit (hv_cons hv_lit (hv_cons hv_lit hv_nil))) (le_c rfl)) (af_op (enc := eB) (t_inT (e := eS) vx10 ([("on" : Str), ("off" : Str), ("same" : Str)]) (by decide)))))))))) fun vx13 => (af_b1 (enc := eB) (t_all _)))))))
noncomputable def p_ordered {S : Type} (vpanel : (List (List Int))) (vbuttons : (List Int)) : Mt S (Option (List Int)) := mbind (mpure (vbuttons, ([] : (List Int)))) fun vp1 => mfin (whileX (fun (vz2 : (List Int) × (List Int)) => mpure (!decide (vz2.2 = ([] : (List Int))))) (fun (vz2 : (List Int) × (List Int)) => mbind (calmly (compG (fun (vx3 : Int) => mbind (mbind (mbind (calmly (compG (fun (vx4 : Int) => mpure true) (fun (vx4 : Int) => mbind (midx vpanel vx4) fun vx5 => mpure (decide (vx3 ∈ vx5))) vz2.2)) fun vx7 => mpure (vx7.any id)) fun vx8 => mpure vx8) fun vb9 => mpure (!vb9)) (fun (vx3 : Int) => mpure vx3) vz2.2)) fun vfirst11 => mbind (mpure (decide (vfirst11 = ([] : (List Int))))) fun vb12 => if vb12 = true then (mbind (mpure (none : Option (List Int))) fun vr13 => mpure (.rt vr13)) else (mbind (mbind (midx vfirst11 (0 : Int)) fun vx15 => mapp vz2.1 vx15) fun vorder14 => mbind (mbind (midx vfirst11 (0 : Int)) fun vx17 => if vx17 ∈ vz2.2 then mpure (vz2.2.eraseIdx (vz2.2.idxOf vx17)) else mbad) fun vleft16 => mpure (.nx (vorder14, vleft16)))) 1000 (vp1.2, vp1.1)) fun vz2 => mpure (some vz2.1)
theorem fn_ordered {S : Type} {W : Wd S} (vpanel : (List (List Int))) (vbuttons : (List Int)) : FN W d_ordered [(eT (eT eI)) vpanel, (eL eI) vbuttons] (p_ordered vpanel vbuttons) (eO (eL eI)) := fnT_of (fun b => Pl.p b) rfl (le_c rfl) fun fr => (tr_seqN (tn_tup2 (J := fun (vp1 : (List Int) × (List Int)) => [.val ((eT (eT eI)) vpanel), .val ((eL eI) vbuttons), .mut (.lst (List.map eI vp1.1)), .mut (.lst (List.map eI vp1.2)), .any, .any, .any]) (ap_New (hv_bL (hv_cons (hv_var rfl) hv_nil) (t_listL (e := eI) _)) fun _ => (ap_New (hv_disp hv_nil (le_c rfl)) fun _ => (ap_two (lt_c rfl) (lt_c rfl))))) fun vp1 => (tr_seqF (J := _) (tf_while (J := fun (vz2 : (List Int) × (List Int)) => [.val ((eT (eT eI)) vpanel), .val ((eL eI) vbuttons), .mut (.lst (List.map eI vz2.2)), .mut (.lst (List.map eI vz2.1)), .any, .any, .any]) (z0 := (vp1.2, vp1.1)) (.same (.same (.same (.same (.any (.any (.any .nil))))))) (fun vz2 => (ht_ofV (enc := id) (hv_isB (hv_opM1 rfl (hv_frz (hv_disp hv_nil (le_c rfl))) (fun _ _ h => dr_ne1 h) (t_ne (e := (eL eI)) vz2.2 ([] : (List Int)) (by decide)))))) (fun vz2 => (tl_seqN (tn_asg (ht_frz (ht_compGL (enc := eI) (c := (fun (vx3 : Int) => mbind (mbind (mbind (calmly (compG (fun (vx4 : Int) => mpure true) (fun (vx4 : Int) => mbind (midx vpanel vx4) fun vx5 => mpure (decide (vx3 ∈ vx5))) vz2.2)) fun vx7 => mpure (vx7.any id)) fun vx8 => mpure vx8) fun vb9 => mpure (!vb9))) (f := (fun (vx3 : Int) => mpure vx3)) rfl rfl (fun vx3 => (gt1_N 5 _)) (by decide) (fun _ => (kp_of ⟨by decide, rfl, ⟨by decide, rfl, trivial⟩⟩)) (fun vx3 => (ht_not (ht_tru (ht_b (ac_T (ht_frz (ht_compGL (enc := eB) (c := (fun (vx4 : Int) => mpure true)) (f := (fun (vx4 : Int) => mbind (midx vpanel vx4) fun vx5 => mpure (decide (vx3 ∈ vx5)))) rfl rfl (fun vx4 => (gt1_N 6 _)) (by decide) (fun _ => (kp_of ⟨by decide, rfl, ⟨by decide, rfl, trivial⟩⟩)) (fun vx4 => (ht_ofV (enc := id) hv_yes)) (fun vx4 => (ht_op (ac_V (hv_var rfl) (ac_T (ht_op (ac_V (hv_var rfl) (ac_V (hv_var rfl) (af_idxT (e := (eT eI)) vpanel vx4)))) fun vx5 => (af_op (enc := eB) (t_inT (e := eI) vx3 vx5 (by decide))))))))) fun vx7 => (af_b1 (enc := eB) (t_any _)))) (fun x => tr_B x)))) (fun vx3 => (ht_ofV (hv_var rfl)))))) fun vfirst11 => (tl_ifseq (ht_ofV (enc := id) (hv_isB (hv_op (hv_var rfl) (hv_frz (hv_disp hv_nil (le_c rfl))) (t_eq (e := (eL eI)) vfirst11 ([] : (List Int)) (by decide))))) (tl_seqX (tx_ofR (tr_ret (ht_ofV hv_lit)))) (tl_nextR (tl_seqN (tn_drop (ht_append rfl (ht_op (ac_V (hv_var rfl) (ac_V hv_lit (af_idxL (e := eI) vfirst11 (0 : Int))))))) fun vorder14 => (tl_endN (f := fun (vleft16 : (List Int)) => (vorder14, vleft16)) (tn_drop (ht_remove rfl (ht_op (ac_V (hv_var rfl) (ac_V hv_lit (af_idxL (e := eI) vfirst11 (0 : Int))))))) (fun vleft16 => (.same (.same (.same (.same (.any (.any (.any .nil))))))))))))))) fun vz2 => (tr_fz rfl (tr_ret (ht_ofV (hv_var rfl))))))
noncomputable def p_gather {S : Type} (vpanel : (List (List Int))) (veffect : (List Str)) (vfree : (List Int)) (vpressed : (List Int)) : Mt S ((List Int) × (List Int)) := mbind (mpure (([] : (List Int)), ([] : (List Int)))) fun vp1 => mbind (mpure vpressed) fun vwaiting2 => mbind (whileU (fun (vz3 : (List Int) × (List Int) × (List Int)) => mpure (!decide (vz3.1 = ([] : (List Int))))) (fun (vz3 : (List Int) × (List Int) × (List Int)) => mbind (mpopAt vz3.1 0) fun vbutton5 => mbind (mbind (midx vpanel vbutton5.1) fun vxs9 => calmly (compG (fun (vx6 : Int) => mbind (mbind (midx veffect vx6) fun vx7 => mpure (decide (vx7 = ("off" : Str)))) fun vb8 => if vb8 = true then mpure (!decide (vx6 ∈ vz3.2.1)) else mpure false) (fun (vx6 : Int) => mpure vx6) vxs9)) fun vnew10 => mbind (mbind (mpure vnew10) fun vx12 => mcat vz3.2.1 vx12) fun vgathered11 => mbind (mbind (mbind (mpure vnew10) fun vxs15 => compV (fun (vx14 : Int) => (decide (vx14 ∈ vfree))) (fun (vx14 : Int) => vx14) vxs15) fun vx16 => mcat vbutton5.2 vx16) fun vwaiting13 => mbind (mbind (mbind (mpure vnew10) fun vxs19 => compV (fun (vx18 : Int) => (decide (vx18 ∈ vfree))) (fun (vx18 : Int) => vx18) vxs19) fun vx20 => mcat vz3.2.2 vx20) fun vhelpers17 => mpure (vwaiting13, vgathered11, vhelpers17)) 1000 (vwaiting2, vp1.1, vp1.2)) fun vz3 => mpure (vz3.2.1, vz3.2.2)
theorem fn_gather {S : Type} {W : Wd S} (vpanel : (List (List Int))) (veffect : (List Str)) (vfree : (List Int)) (vpressed : (List Int)) : FN W d_gather [(eT (eT eI)) vpanel, (eT eS) veffect, (eL eI) vfree, (eL eI) vpressed] (p_gather vpanel veffect vfree vpressed) (eP (eL eI) (eL eI)) := fnT_of (fun b => Pl.p b) rfl (le_c rfl) fun fr => (tr_seqN (tn_tup2 (J := fun (vp1 : (List Int) × (List Int)) => [.val ((eT (eT eI)) vpanel), .val ((eT eS) veffect), .val ((eL eI) vfree), .val ((eL eI) vpressed), .mut (.lst (List.map eI vp1.1)), .mut (.lst (List.map eI vp1.2)), .any, .any, .any, .any]) (ap_New (hv_disp hv_nil (le_c rfl)) fun _ => (ap_New (hv_disp hv_nil (le_c rfl)) fun _ => (ap_two (lt_c rfl) (lt_c rfl))))) fun vp1 => (tr_seqN (tn_new (ht_ofV (enc := fun zs => List.map eI zs) (hv_bL (hv_cons (hv_var rfl) hv_nil) (t_listL (e := eI) _)))) fun vwaiting2 => (tr_seqN (tn_while (J := fun (vz3 : (List Int) × (List Int) × (List Int)) => [.val ((eT (eT eI)) vpanel), .val ((eT eS) veffect), .val ((eL eI) vfree), .val ((eL eI) vpressed), .mut (.lst (List.map eI vz3.2.1)), .mut (.lst (List.map eI vz3.2.2)), .mut (.lst (List.map eI vz3.1)), .any, .any, .any]) (z0 := (vwaiting2, vp1.1, vp1.2)) (.same (.same (.same (.same (.same (.same (.same (.any (.any (.any .nil)))))))))) (fun vz3 => (ht_ofV (enc := id) (hv_isB (hv_opM1 rfl (hv_frz (hv_disp hv_nil (le_c rfl))) (fun _ _ h => dr_ne1 h) (t_ne (e := (eL eI)) vz3.1 ([] : (List Int)) (by decide)))))) (fun vz3 => (tn_seq (tn_asg (ht_popAt rfl hv_lit)) fun vbutton5 => (tn_seq (tn_asg (ht_frz (ht_compG (enc := eI) (c := (fun (vx6 : Int) => mbind (mbind (midx veffect vx6) fun vx7 => mpure (decide (vx7 = ("off" : Str)))) fun vb8 => if vb8 = true then mpure (!decide (vx6 ∈ vz3.2.1)) else mpure false)) (f := (fun (vx6 : Int) => mpure vx6)) (src_seq (sT (e := eI)) (ht_op (ac_V (hv_var rfl) (ac_V (hv_var rfl) (af_idxT (e := (eT eI)) vpanel vbutton5.1))))) rfl (fun vx6 => (gt1_N 9 _)) (by decide) (fun _ => (kp_of ⟨by decide, rfl, ⟨by decide, rfl, ⟨by decide, rfl, trivial⟩⟩⟩)) (fun vx6 => (ht_and (ht_isB (ht_op (ac_T (ht_op (ac_V (hv_var rfl) (ac_V (hv_var rfl) (af_idxT (e := eS) veffect vx6)))) fun vx7 => (ac_V hv_lit (af_op (enc := eB) (t_eq (e := eS) _ _ (by decide))))))) (ht_ofV (enc := id) (hv_isB (hv_opM2 (hv_var rfl) rfl (fun _ _ h => dr_nin2 h) (t_ninL (e := eI) vx6 vz3.2.1 (by decide))))))) (fun vx6 => (ht_ofV (hv_var rfl)))))) fun vnew10 => (tn_seq (tn_drop (ht_extend rfl (ht_ofV (hv_var rfl)))) fun vgathered11 => (tn_seq (tn_drop (ht_extend rfl (ht_frz (ht_compV (enc := eI) (c := (fun (vx14 : Int) => (decide (vx14 ∈ vfree)))) (f := (fun (vx14 : Int) => vx14)) (src_seq (sL (e := eI)) (ht_ofV (hv_var rfl))) rfl (fun vx14 => (gt1_N 9 _)) (by decide) (fun _ => (kp_of ⟨by decide, rfl, ⟨by decide, rfl, ⟨by decide, rfl, trivial⟩⟩⟩)) (fun vx14 => (hv_isB (hv_op (hv_var rfl) (hv_var rfl) (t_inL (e := eI) vx14 vfree (by decide))))) (fun vx14 => (hv_var rfl)))))) fun vwaiting13 => (tn_map (f := fun (vhelpers17 : (List Int)) => (vwaiting13, vgathered11, vhelpers17)) (tn_drop (ht_extend rfl (ht_frz (ht_compV (enc := eI) (c := (fun (vx18 : Int) => (decide (vx18 ∈ vfree)))) (f := (fun (vx18 : Int) => vx18)) (src_seq (sL (e := eI)) (ht_ofV (hv_var rfl))) rfl (fun vx18 => (gt1_N 9 _)) (by decide) (fun _ => (kp_of ⟨by decide, rfl, ⟨by decide, rfl, ⟨by decide, rfl, trivial⟩⟩⟩)) (fun vx18 => (hv_isB (hv_op (hv_var rfl) (hv_var rfl) (t_inL (e := eI) vx18 vfree (by decide))))) (fun vx18 => (hv_var rfl)))))) (fun vhelpers17 => (.same (.same (.same (.same (.same (.same (.same (.any (.any (.any .nil)))))))))))))))))) fun vz3 => (tr_fz rfl (tr_fz rfl (tr_ret (ht_ofV (hv_tup (hv_cons (hv_var rfl) (hv_cons (hv_var rfl) hv_nil)) (le_c rfl)))))))))
noncomputable def p_row_for {S : Type} (vpanel : (List (List Int))) (vvalue : D) : Mt S (Option (List Int)) := mbind (mbind (mbind (p_is_effect_form vpanel vvalue) fun vx1 => mpure vx1) fun vb2 => mpure (!vb2)) fun vb3 => if vb3 = true then (mpure (none : Option (List Int))) else (mbind (mbind (mbind (mpure vvalue) mcastW) fun vx4 => p_free_buttons vpanel vx4) fun vfree5 => mbind (mbind (mbind (mbind (mpure vvalue) mcastW) fun vxs6 => mpure (enumZ 0 vxs6)) fun vxs8 => compV (fun (vx7 : (Int × Str)) => (decide (vx7.2 = ("on" : Str)))) (fun (vx7 : (Int × Str)) => vx7.1) vxs8) fun vlatched9 => mbind (p_ordered vpanel vlatched9) fun vorder10 => mbind (mbind (mpure (vorder10.isNone)) fun vb16 => if vb16 = true then mpure true else mbind (mbind (mbind (mbind (mpure vlatched9) fun vxs12 => compV (fun (vx11 : Int) => true) (fun (vx11 : Int) => (decide (vx11 ∈ vfree5))) vxs12) fun vx13 => mpure (vx13.all id)) fun vx14 => mpure vx14) fun vb15 => mpure (!vb15)) fun vb17 => if vb17 = true then (mpure (none : Option (List Int))) else (mbind (mbind (mbind (mpure vvalue) mcastW) fun vx18 => mbind (mopt vorder10) fun vx19 => p_gather vpanel vx18 vfree5 vx19) fun vp20 => mbind (mbind (mbind (mbind (mpure vvalue) mcastW) fun vy21 => mcountD eS vy21 ("off" : Str)) fun vx22 => mpure (decide ((vp20.1.length : Int) = vx22))) fun vb25 => if vb25 = true then mbind (mbind (mopt vorder10) fun vx23 => mdisp (vp20.2.reverse ++ vx23)) fun vx24 => mpure (some vx24) else mpure (none : Option (List Int))))
theorem fn_row_for {S : Type} {W : Wd S} (vpanel : (List (List Int))) (vvalue : D) : FN W d_row_for [(eT (eT eI)) vpanel, eD vvalue] (p_row_for vpanel vvalue) (eO (eT eI)) := fnT_of (fun b => Pl.p b) rfl (le_c rfl) fun fr => (tr_ifseq (ht_not (ht_tru (ht_call (ac_V (hv_var rfl) (ac_V (hv_var rfl) (ac_fn (fn_is_effect_form vpanel vvalue))))) (fun x => tr_B x))) (tr_seqR (tr_ret (ht_ofV hv_lit))) (tr_nextR (tr_seqN (tn_asg (ht_call (ac_V (hv_var rfl) (ac_T (ht_castW (ht_ofV (hv_var rfl))) fun vx4 => (ac_fn (fn_free_buttons vpanel vx4)))))) fun vfree5 => (tr_seqN (tn_asg (ht_frz (ht_compV (enc := eI) (c := (fun (vx7 : (Int × Str)) => (decide (vx7.2 = ("on" : Str))))) (f := (fun (vx7 : (Int × Str)) => vx7.1)) (src_enum (sT (e := eS)) (ht_castW (ht_ofV (hv_var rfl)))) rfl (fun vx7 => (gt1_T (gts_cons (gt1_N 4 _) (gts_cons (gt1_N 5 _) gts_nil)) rfl)) (by decide) (fun _ => (kp_of trivial)) (fun vx7 => (hv_isB (hv_op (hv_var rfl) hv_lit (t_eq (e := eS) _ _ (by decide))))) (fun vx7 => (hv_var rfl))))) fun vlatched9 => (tr_seqN (tn_asg (ht_call (ac_V (hv_var rfl) (ac_V (hv_var rfl) (ac_fn (fn_ordered vpanel vlatched9)))))) fun vorder10 => (tr_ifseq (ht_or (ht_ofV (enc := id) (hv_isB (hv_op (hv_var rfl) hv_lit (t_isO (e := (eL eI)) _)))) (ht_not (ht_tru (ht_b (ac_T (ht_frz (ht_compV (enc := eB) (c := (fun (vx11 : Int) => true)) (f := (fun (vx11 : Int) => (decide (vx11 ∈ vfree5)))) (src_seq (sL (e := eI)) (ht_ofV (hv_var rfl))) rfl (fun vx11 => (gt1_N 4 _)) (by decide) (fun _ => (kp_of trivial)) (fun vx11 => hv_yes) (fun vx11 => (hv_op (hv_var rfl) (hv_var rfl) (t_inL (e := eI) vx11 vfree5 (by decide)))))) fun vx13 => (af_b1 (enc := eB) (t_all _)))) (fun x => tr_B x)))) (tr_seqR (tr_ret (ht_ofV hv_lit))) (tr_nextR (tr_seqN (tn_asgG (ht_call (ac_V (hv_var rfl) (ac_T (ht_castW (ht_ofV (hv_var rfl))) fun vx18 => (ac_V (hv_var rfl) (ac_T (ht_unopt (hv_var rfl)) fun vx19 => (ac_fn (fn_gather vpanel vx18 vfree5 vx19))))))) (fun vp20 => (gt1_T (gts_cons (gt1_N 7 _) (gts_cons (gt1_N 8 _) gts_nil)) rfl))) fun vp20 => (tr_ret (ht_if (ht_isB (ht_op (ac_V (hv_b (A := D) (hv_cons (hv_var rfl) hv_nil) (t_lenL (e := eI) _)) (ac_T (ht_countX (by decide) (ht_castW (ht_ofV (hv_var rfl))) hv_lit) fun vx22 => (af_op (enc := eB) (t_eq (e := eI) _ _ (by decide))))))) (ht_conv (e := (eT eI)) (f := fun (vx24 : (List Int)) => (some vx24)) (ht_tup (ac_starV (hv_frz (hv_revL (hv_var rfl))) (fun _ => rfl) (ac_star (ht_unopt (hv_var rfl)) (fun _ _ => rfl) fun vx23 => (af_tupE (e := eI) (vp20.2.reverse ++ vx23) (by first | rfl | (simp only [List.map_append, List.map_cons, List.map_nil, List.append_nil, List.nil_append, List.append_assoc] <;> rfl)))))) (fun _ => rfl)) (ht_ofV hv_lit)))))))))))
noncomputable def p_all_effects {S : Type} (vpanel : (List (List Int))) : Mt S (List (List Str)) := mbind (mpure (decide ((vpanel.length : Int) > (7 : Int)))) fun vb1 => if vb1 = true then mbad else (mbind (mbind (mrepT ([("same" : Str)]) (vpanel.length : Int)) fun vk3 => mbind (mpure true) fun vx4 => mpure [(vk3, vx4)]) fun vfound2 => mbind (mkeysW vfound2) fun vwaiting5 => mbind (whileU (fun (vz6 : (List (List Str)) × (KvW Bool)) => mpure (!decide (vz6.1 = ([] : (List (List Str)))))) (fun (vz6 : (List (List Str)) × (KvW Bool)) => mbind (mpop vz6.1) fun veffect8 => mbind (mbind (mbind (mpure (vpanel.length : Int)) fun vn10 => mrng (0 : Int) vn10) fun vxs20 => forU (fun (vx11 : Int) (vz9 : (KvW Bool) × (List (List Str))) => mbind (p_effect_after vpanel veffect8.1 vx11) fun vafter12 => mbind (mbind (mpure (!hasPW vz9.1 vafter12)) fun vb19 => if vb19 = true then (mbind (mbind (mpure true) fun vx14 => mbind (mpure vafter12) fun vk15 => mputDW vz9.1 vk15 vx14) fun vfound16 => mbind (mbind (mpure vafter12) fun vx18 => mapp vz9.2 vx18) fun vwaiting17 => mpure (vfound16, vwaiting17)) else (mpure (vz9.1, vz9.2))) fun vz13 => mpure (vz13.1, vz13.2)) vxs20 (vz6.2, veffect8.2)) fun vz9 => mpure (vz9.2, vz9.1)) 1000 (vwaiting5, vfound2)) fun vz6 => mbind (msort (lexB ltS) (eKW vz6.2)) fun vx21 => mpure vx21)
theorem fn_all_effects {S : Type} {W : Wd S} (vpanel : (List (List Int))) : FN W d_all_effects [(eT (eT eI)) vpanel] (p_all_effects vpanel) (eT (eT eS)) := fnT_of (fun b => Pl.p b) rfl (le_c rfl) fun fr => (tr_ifseq (ht_ofV (enc := id) (hv_isB (hv_op (hv_b (A := D) (hv_cons (hv_var rfl) hv_nil) (t_lenT (e := (eT eI)) _)) hv_lit (t_gt _ _)))) (tr_seqR tr_never) (tr_nextR (tr_seqN (tn_newD1W (e := eB) (ht_op (ac_V (hv_tup (hv_cons hv_lit hv_nil) (le_c rfl)) (ac_V (hv_b (A := D) (hv_cons (hv_var rfl) hv_nil) (t_lenT (e := (eT eI)) _)) (af_repT (e := eS) ([("same" : Str)]) (vpanel.length : Int))))) (ht_ofV hv_lit)) fun vfound2 => (tr_seqN (tn_new (ht_listDMW (e := eB) rfl)) fun vwaiting5 => (tr_seqN (tn_while (J := fun (vz6 : (List (List Str)) × (KvW Bool)) => [.val ((eT (eT eI)) vpanel), .mut (.dcs (eKW vz6.2) (eWW eB vz6.2)), .mut (.lst (List.map (eT eS) vz6.1)), .any, .any, .any]) (z0 := (vwaiting5, vfound2)) (.same (.same (.same (.any (.any (.any .nil)))))) (fun vz6 => (ht_ofV (enc := id) (hv_isB (hv_opM1 rfl (hv_frz (hv_disp hv_nil (le_c rfl))) (fun _ _ h => dr_ne1 h) (t_ne (e := (eL (eT eS))) vz6.1 ([] : (List (List Str))) (by decide)))))) (fun vz6 => (tn_seq (tn_asg (ht_pop rfl)) fun veffect8 => (tn_map (f := fun (vz9 : (KvW Bool) × (List (List Str))) => (vz9.2, vz9.1)) (tn_for (J := fun (vz9 : (KvW Bool) × (List (List Str))) => [.val ((eT (eT eI)) vpanel), .mut (.dcs (eKW vz9.1) (eWW eB vz9.1)), .mut (.lst (List.map (eT eS) vz9.2)), .val ((eT eS) veffect8.1), .any, .any]) (z0 := (vz6.2, veffect8.2)) (src_rng1 (ht_ofV (hv_b (A := D) (hv_cons (hv_var rfl) hv_nil) (t_lenT (e := (eT eI)) _)))) (fun _ => (.same (.same (.same (.same (.any (.any .nil))))))) (fun vx11 vz9 => (gt1_N 4 _)) (fun vx11 vz9 => (tn_seq (tn_asg (ht_call (ac_V (hv_var rfl) (ac_V (hv_var rfl) (ac_V (hv_var rfl) (ac_fn (fn_effect_after vpanel veffect8.1 vx11))))))) fun vafter12 => (tn_map (f := fun (vz13 : (KvW Bool) × (List (List Str))) => (vz13.1, vz13.2)) (tn_if (J := fun (vz13 : (KvW Bool) × (List (List Str))) => [.val ((eT (eT eI)) vpanel), .mut (.dcs (eKW vz13.1) (eWW eB vz13.1)), .mut (.lst (List.map (eT eS) vz13.2)), .val ((eT eS) veffect8.1), .val (eI vx11), .val ((eT eS) vafter12)]) (ht_ofV (enc := id) (hv_isB (hv_ninDMW (e := eB) (hv_var rfl) rfl))) (tn_seq (tn_dputW (e := eB) rfl (ht_ofV hv_lit) (ht_ofV (hv_var rfl))) fun vfound16 => (tn_map (f := fun (vwaiting17 : (List (List Str))) => (vfound16, vwaiting17)) (tn_drop (ht_append rfl (ht_ofV (hv_var rfl)))) (fun vwaiting17 => (.same (.same (.same (.same (.same (.same .nil))))))))) (tn_skip (.same (.same (.same (.same (.same (.same .nil)))))))) (fun vz13 => (.same (.same (.same (.same (.any (.any .nil))))))))))) (fun vz9 => (.same (.same (.same (.any (.any (.any .nil))))))))))) fun vz6 => (tr_ret (ht_b (ac_T (ht_frz (ht_sortDMW (e := eB) rfl)) fun vx21 => (af_b1 (enc := (eT (eT eS))) (t_tupL (e := (eT eS)) _))))))))))
noncomputable def p__law_panel (vmost : Int) : Mt ST (List (List Int)) := mbind (mbind (mbind (mbind (draw vmost) fun vx1 => mpure ((1 : Int) + vx1)) fun vx2 => mpure [vx2, vmost]) fun vx5 => mbind (mbind (mbind (draw (4 : Int)) fun vx3 => mpure (decide (vx3 = (0 : Int)))) fun vx4 => mpure (b2z vx4)) fun vx6 => midx vx5 vx6) fun vn7 => mbind (mbind (draw (6 : Int)) fun vx8 => mpure (vx8, ([] : (List (List Int))))) fun vp9 => mbind (mbind (mbind (mpure vn7) fun vn11 => mrng (0 : Int) vn11) fun vxs23 => forU (fun (vx12 : Int) (vz10 : (List (List Int))) => mbind (mbind (mbind (mpure vn7) fun vn13 => mrng (0 : Int) vn13) fun vxs15 => compV (fun (vx14 : Int) => (!decide (vx14 = vx12))) (fun (vx14 : Int) => vx14) vxs15) fun vothers16 => mbind (mbind (mbind (mbind (mpure vothers16) fun vxs20 => calmly (compG (fun (vx18 : Int) => mbind (draw (5 : Int)) fun vx19 => mpure (decide (vx19 < vp9.1))) (fun (vx18 : Int) => mpure vx18) vxs20)) fun vx21 => mpure vx21) fun vx22 => mapp vz10 vx22) fun vfound17 => mpure vfound17) vxs23 vp9.2) fun vz10 => mpure vz10
theorem fn__law_panel (vmost : Int) : FN (WO RDk) d__law_panel [.ref 1, eI vmost] (p__law_panel vmost) (eT (eT eI)) := fnT_of (fun b => Pl.p b) rfl (le_c rfl) fun fr => (tr_seqN (tn_asg (ht_op (ac_T (ht_frz (ht_disp (enc := fun (zs : List Int) => List.map eI zs) (ac_T (ht_op (ac_V hv_lit (ac_T (ht_call (ac_V (hv_var rfl) (ac_V (hv_var rfl) (ac_fn (fn_draw vmost))))) fun vx1 => (af_op (t_add _ _))))) fun vx2 => (ac_V (hv_var rfl) (ac_ret fun _ => rfl))))) fun vx5 => (ac_T (ht_b (ac_T (ht_op (ac_T (ht_call (ac_V (hv_var rfl) (ac_V hv_lit (ac_fn (fn_draw (4 : Int)))))) fun vx3 => (ac_V hv_lit (af_op (enc := eB) (t_eq (e := eI) _ _ (by decide)))))) fun vx4 => (af_b1 (enc := eI) (t_intB _)))) fun vx6 => (af_idxL (e := eI) vx5 vx6))))) fun vn7 => (tr_seqN (tn_tup2 (J := fun (vp9 : Int × (List (List Int))) => [.val (.ref 1), .val (eI vmost), .val (eI vn7), .val (eI vp9.1), .mut (.lst (List.map (eT eI) vp9.2)), .any, .any, .any]) (ap_T (ht_call (ac_V (hv_var rfl) (ac_V hv_lit (ac_fn (fn_draw (6 : Int)))))) (fun _ => rfl) fun vx8 => (ap_New (hv_disp hv_nil (le_c rfl)) fun _ => (ap_two (lt_c rfl) (lt_c rfl))))) fun vp9 => (tr_seqN (tn_for (J := fun (vz10 : (List (List Int))) => [.val (.ref 1), .val (eI vmost), .val (eI vn7), .val (eI vp9.1), .mut (.lst (List.map (eT eI) vz10)), .any, .any, .any]) (z0 := vp9.2) (src_rng1 (ht_ofV (hv_var rfl))) (fun _ => (.same (.same (.same (.same (.same (.any (.any (.any .nil))))))))) (fun vx12 vz10 => (gt1_N 5 _)) (fun vx12 vz10 => (tn_seq (tn_asg (ht_frz (ht_compV (enc := eI) (c := (fun (vx14 : Int) => (!decide (vx14 = vx12)))) (f := (fun (vx14 : Int) => vx14)) (src_rng1 (ht_ofV (hv_var rfl))) rfl (fun vx14 => (gt1_N 7 _)) (by decide) (fun _ => (kp_of ⟨by decide, rfl, trivial⟩)) (fun vx14 => (hv_isB (hv_op (hv_var rfl) (hv_var rfl) (t_ne (e := eI) _ _ (by decide))))) (fun vx14 => (hv_var rfl))))) fun vothers16 => (tn_map (f := fun (vfound17 : (List (List Int))) => vfound17) (tn_drop (ht_append rfl (ht_b (ac_T (ht_frz (ht_compG (enc := eI) (c := (fun (vx18 : Int) => mbind (draw (5 : Int)) fun vx19 => mpure (decide (vx19 < vp9.1)))) (f := (fun (vx18 : Int) => mpure vx18)) (src_seq (sL (e := eI)) (ht_ofV (hv_var rfl))) rfl (fun vx18 => (gt1_N 7 _)) (by decide) (fun _ => (kp_of ⟨by decide, rfl, trivial⟩)) (fun vx18 => (ht_isB (ht_op (ac_T (ht_call (ac_V (hv_var rfl) (ac_V hv_lit (ac_fn (fn_draw (5 : Int)))))) fun vx19 => (ac_V (hv_var rfl) (af_op (enc := eB) (t_lt _ _))))))) (fun vx18 => (ht_ofV (hv_var rfl))))) fun vx21 => (af_b1 (enc := (eT eI)) (t_tupL (e := eI) _)))))) (fun vfound17 => (.same (.same (.same (.same (.same (.any (.any (.any .nil))))))))))))) fun vz10 => (tr_fz rfl (tr_ret (ht_ofV (hv_b (A := D) (hv_cons (hv_var rfl) hv_nil) (t_tupL (e := (eT eI)) _))))))))
noncomputable def p__law_row (vn : Int) (vmost : Int) : Mt ST (List Int) := mbind (mbind (mbind (draw (vmost + (1 : Int))) fun vn1 => mrng (0 : Int) vn1) fun vxs3 => calmly (compM (fun (vx2 : Int) => true) (fun (vx2 : Int) => draw vn) vxs3)) fun vx4 => mpure vx4
theorem fn__law_row (vn : Int) (vmost : Int) : FN (WO RDk) d__law_row [.ref 1, eI vn, eI vmost] (p__law_row vn vmost) (eT eI) := fnT_of (fun b => Pl.p b) rfl (le_c rfl) fun fr => (tr_ret (ht_b (ac_T (ht_frz (ht_compM (enc := eI) (c := (fun (vx2 : Int) => true)) (f := (fun (vx2 : Int) => draw vn)) (src_rng1 (ht_call (ac_V (hv_var rfl) (ac_V (hv_op (hv_var rfl) hv_lit (t_add _ _)) (ac_fn (fn_draw (vmost + (1 : Int)))))))) rfl (fun vx2 => (gt1_N 3 _)) (by decide) (fun _ => (kp_of trivial)) (fun vx2 => hv_yes) (fun vx2 => (ht_call (ac_V (hv_var rfl) (ac_V (hv_var rfl) (ac_fn (fn_draw vn)))))))) fun vx4 => (af_b1 (enc := (eT eI)) (t_tupL (e := eI) _)))))
noncomputable def p__law_words (vn : Int) : Mt ST (List Str) := mbind (mbind (mbind (mpure vn) fun vn1 => mrng (0 : Int) vn1) fun vxs4 => calmly (compM (fun (vx2 : Int) => true) (fun (vx2 : Int) => mbind (draw (3 : Int)) fun vx3 => midx ([("on" : Str), ("off" : Str), ("same" : Str)]) vx3) vxs4)) fun vx5 => mpure vx5
theorem fn__law_words (vn : Int) : FN (WO RDk) d__law_words [.ref 1, eI vn] (p__law_words vn) (eT eS) := fnT_of (fun b => Pl.p b) rfl (le_c rfl) fun fr => (tr_ret (ht_b (ac_T (ht_frz (ht_compM (enc := eS) (c := (fun (vx2 : Int) => true)) (f := (fun (vx2 : Int) => mbind (draw (3 : Int)) fun vx3 => midx ([("on" : Str), ("off" : Str), ("same" : Str)]) vx3)) (src_rng1 (ht_ofV (hv_var rfl))) rfl (fun vx2 => (gt1_N 2 _)) (by decide) (fun _ => (kp_of trivial)) (fun vx2 => hv_yes) (fun vx2 => (ht_op (ac_V (hv_frz (hv_disp (hv_cons hv_lit (hv_cons hv_lit (hv_cons hv_lit hv_nil))) (le_c rfl))) (ac_T (ht_call (ac_V (hv_var rfl) (ac_V hv_lit (ac_fn (fn_draw (3 : Int)))))) fun vx3 => (af_idxL (e := eS) ([("on" : Str), ("off" : Str), ("same" : Str)]) vx3))))))) fun vx5 => (af_b1 (enc := (eT eS)) (t_tupL (e := eS) _)))))
noncomputable def p_way_back {S : Type} (vpanel : (List (List Int))) (vstart : Int) (vallowed : (List Int)) : Mt S (Option (List Int)) := mbind (mpure ([[vstart]], [vstart])) fun vp1 => mfin (whileX (fun (vz2 : (List (List Int)) × (List Int)) => mpure (!decide (vz2.1 = ([] : (List (List Int)))))) (fun (vz2 : (List (List Int)) × (List Int)) => mbind (mpopAt vz2.1 0) fun vway4 => mfinL (mbind (mbind (midx vway4.1 (-(1 : Int))) fun vx6 => midx vpanel vx6) fun vxs16 => forX (fun (vx7 : Int) (vz5 : (List Int) × (List (List Int))) => mbind (mpure (decide (vx7 = vstart))) fun vb8 => if vb8 = true then (mbind (mpure (some vway4.1)) fun vr9 => mpure (.rt vr9)) else (mbind (mbind (mpure ((decide (vx7 ∈ vallowed)) && (!decide (vx7 ∈ vz5.1)))) fun vb15 => if vb15 = true then (mbind (mbind (mpure vx7) fun vx12 => mapp vz5.1 vx12) fun vfound11 => mbind (mbind (mdisp (vway4.1 ++ [vx7])) fun vx14 => mapp vz5.2 vx14) fun vways13 => mpure (vfound11, vways13)) else (mpure (vz5.1, vz5.2))) fun vz10 => mpure (.nx (vz10.1, vz10.2)))) vxs16 (vz2.2, vway4.2)) fun vz5 => mpure (.nx (vz5.2, vz5.1))) 1000 (vp1.1, vp1.2)) fun vz2 => mpure (none : Option (List Int))
theorem fn_way_back {S : Type} {W : Wd S} (vpanel : (List (List Int))) (vstart : Int) (vallowed : (List Int)) : FN W d_way_back [(eT (eT eI)) vpanel, eI vstart, (eT eI) vallowed] (p_way_back vpanel vstart vallowed) (eO (eT eI)) := fnT_of (fun b => Pl.p b) rfl (le_c rfl) fun fr => (tr_seqN (tn_par (J := fun (vp1 : (List (List Int)) × (List Int)) => [.val ((eT (eT eI)) vpanel), .val (eI vstart), .val ((eT eI) vallowed), .mut (.lst (List.map (eT eI) vp1.1)), .mut (.lst (List.map eI vp1.2)), .any, .any]) (ap_New (hv_disp (hv_cons (hv_tup (hv_cons (hv_var rfl) hv_nil) (le_c rfl)) hv_nil) (le_c rfl)) fun _ => (ap_New (hv_disp (hv_cons (hv_var rfl) hv_nil) (le_c rfl)) fun _ => (ap_two (lt_c rfl) (lt_c rfl))))) fun vp1 => (tr_seqF (J := _) (tf_while (J := fun (vz2 : (List (List Int)) × (List Int)) => [.val ((eT (eT eI)) vpanel), .val (eI vstart), .val ((eT eI) vallowed), .mut (.lst (List.map (eT eI) vz2.1)), .mut (.lst (List.map eI vz2.2)), .any, .any]) (z0 := (vp1.1, vp1.2)) (.same (.same (.same (.same (.same (.any (.any .nil))))))) (fun vz2 => (ht_ofV (enc := id) (hv_isB (hv_opM1 rfl (hv_frz (hv_disp hv_nil (le_c rfl))) (fun _ _ h => dr_ne1 h) (t_ne (e := (eL (eT eI))) vz2.1 ([] : (List (List Int))) (by decide)))))) (fun vz2 => (tl_seqN (tn_asg (ht_popAt rfl hv_lit)) fun vway4 => (tl_endF (f := fun (vz5 : (List Int) × (List (List Int))) => (vz5.2, vz5.1)) (tf_for (J := fun (vz5 : (List Int) × (List (List Int))) => [.val ((eT (eT eI)) vpanel), .val (eI vstart), .val ((eT eI) vallowed), .mut (.lst (List.map (eT eI) vz5.2)), .mut (.lst (List.map eI vz5.1)), .val ((eT eI) vway4.1), .any]) (z0 := (vz2.2, vway4.2)) (src_seq (sT (e := eI)) (ht_op (ac_V (hv_var rfl) (ac_T (ht_op (ac_V (hv_var rfl) (ac_V (hv_un hv_lit (t_neg _)) (af_idxT (e := eI) vway4.1 (-(1 : Int)))))) fun vx6 => (af_idxT (e := (eT eI)) vpanel vx6))))) (fun _ => (.same (.same (.same (.same (.same (.same (.any .nil)))))))) (fun vx7 vz5 => (gt1_N 6 _)) (fun vx7 vz5 => (tl_ifseq (ht_ofV (enc := id) (hv_isB (hv_op (hv_var rfl) (hv_var rfl) (t_eq (e := eI) _ _ (by decide))))) (tl_seqX (tx_ofR (tr_ret (ht_ofV (hv_var rfl))))) (tl_nextR (tl_endN (f := fun (vz10 : (List Int) × (List (List Int))) => (vz10.1, vz10.2)) (tn_if (J := fun (vz10 : (List Int) × (List (List Int))) => [.val ((eT (eT eI)) vpanel), .val (eI vstart), .val ((eT eI) vallowed), .mut (.lst (List.map (eT eI) vz10.2)), .mut (.lst (List.map eI vz10.1)), .val ((eT eI) vway4.1), .val (eI vx7)]) (ht_ofV (enc := id) (hv_and (hv_isB (hv_op (hv_var rfl) (hv_var rfl) (t_inT (e := eI) vx7 vallowed (by decide)))) (hv_isB (hv_opM2 (hv_var rfl) rfl (fun _ _ h => dr_nin2 h) (t_ninL (e := eI) vx7 vz5.1 (by decide)))))) (tn_seq (tn_drop (ht_append rfl (ht_ofV (hv_var rfl)))) fun vfound11 => (tn_map (f := fun (vways13 : (List (List Int))) => (vfound11, vways13)) (tn_drop (ht_append rfl (ht_tup (ac_starV (hv_var rfl) (fun _ => rfl) (ac_V (hv_var rfl) (af_tupE (e := eI) (vway4.1 ++ [vx7]) (by first | rfl | (simp only [List.map_append, List.map_cons, List.map_nil, List.append_nil, List.nil_append, List.append_assoc] <;> rfl)))))))) (fun vways13 => (.same (.same (.same (.same (.same (.same (.same .nil)))))))))) (tn_skip (.same (.same (.same (.same (.same (.same (.same .nil))))))))) (fun vz10 => (.same (.same (.same (.same (.same (.same (.any .nil))))))))))))) (fun vz5 => (.same (.same (.same (.same (.same (.any (.any .nil)))))))))))) fun vz2 => (tr_ret (ht_ofV hv_lit))))
noncomputable def p_find_round {S : Type} (vpanel : (List (List Int))) (vstate : (List Int)) : Mt S (Option (List Int)) := mfin (mbind (mbind (mpure vstate) fun vxs2 => mpure (enumZ 0 vxs2)) fun vxs7 => forX (fun (vx3 : (Int × Int)) (vz1 : Unit) => mbind (p_way_back vpanel vx3.2 (cutD vstate (some vx3.1) none)) fun vfound4 => mbind (mpure (vfound4.isSome)) fun vb5 => if vb5 = true then (mbind (mpure vfound4) fun vr6 => mpure (.rt vr6)) else (mpure (.nx ()))) vxs7 ()) fun vz1 => mpure (none : Option (List Int))
theorem fn_find_round {S : Type} {W : Wd S} (vpanel : (List (List Int))) (vstate : (List Int)) : FN W d_find_round [(eT (eT eI)) vpanel, (eT eI) vstate] (p_find_round vpanel vstate) (eO (eT eI)) := fnT_of (fun b => Pl.p b) rfl (le_c rfl) fun fr => (tr_seqF (J := _) (tf_for (J := fun (vz1 : Unit) => [.val ((eT (eT eI)) vpanel), .val ((eT eI) vstate), .any, .any, .any]) (z0 := ()) (src_enum (sT (e := eI)) (ht_ofV (hv_var rfl))) (fun _ => (.same (.same (.any (.any (.any .nil)))))) (fun vx3 vz1 => (gt1_T (gts_cons (gt1_N 2 _) (gts_cons (gt1_N 3 _) gts_nil)) rfl)) (fun vx3 vz1 => (tl_seqN (tn_asg (ht_call (ac_V (hv_var rfl) (ac_V (hv_var rfl) (ac_V (hv_slT (hv_var rfl) (hv_oSome (hv_var rfl)) hv_oNone) (ac_fn (fn_way_back vpanel vx3.2 (cutD vstate (some vx3.1) none)))))))) fun vfound4 => (tl_if (ht_ofV (enc := id) (hv_isB (hv_op (hv_var rfl) hv_lit (t_isNotO (e := (eT eI)) _)))) (tl_ofX (tx_ofR (tr_ret (ht_ofV (hv_var rfl))))) (tl_nextR (tl_next (.same (.same (.any (.any (.any .nil))))))))))) fun vz1 => (tr_ret (ht_ofV hv_lit)))
noncomputable def p__law_gathered {S : Type} (vpanel_here : (List (List Int))) (vwords_here : (List Str)) : Mt S (List Int) := mbind (mbind (mbind (mbind (mpure vwords_here) fun vxs1 => mpure (enumZ 0 vxs1)) fun vxs3 => compV (fun (vx2 : (Int × Str)) => (decide (vx2.2 = ("on" : Str)))) (fun (vx2 : (Int × Str)) => vx2.1) vxs3) fun vx4 => mpure (([] : (List Int)), vx4)) fun vp5 => mbind (mpure (0 : Int)) fun vat6 => mbind (whileU (fun (vz7 : (List Int) × (List Int) × Int) => mpure (decide (vz7.2.2 < (vz7.2.1.length : Int)))) (fun (vz7 : (List Int) × (List Int) × Int) => mbind (mbind (mbind (midx vz7.2.1 vz7.2.2) fun vx9 => midx vpanel_here vx9) fun vxs24 => forU (fun (vx10 : Int) (vz8 : (List Int) × (List Int)) => mbind (mbind (mbind (mbind (midx vwords_here vx10) fun vx11 => mpure (decide (vx11 = ("off" : Str)))) fun vb12 => if vb12 = true then mpure (!decide (vx10 ∈ vz8.1)) else mpure false) fun vb23 => if vb23 = true then (mbind (mbind (mpure vx10) fun vx15 => mapp vz8.1 vx15) fun vfound14 => mbind (mbind (mbind (mbind (midx vpanel_here vx10) fun vxs17 => calmly (compM (fun (vx16 : Int) => true) (fun (vx16 : Int) => midx vwords_here vx16) vxs17)) fun vx18 => mpure (!decide (("same" : Str) ∈ vx18))) fun vb22 => if vb22 = true then (mbind (mbind (mpure vx10) fun vx21 => mapp vz8.2 vx21) fun vhelpers20 => mpure vhelpers20) else (mpure vz8.2)) fun vz19 => mpure (vfound14, vz19)) else (mpure (vz8.1, vz8.2))) fun vz13 => mpure (vz13.1, vz13.2)) vxs24 (vz7.1, vz7.2.1)) fun vz8 => mbind (mpure (vz7.2.2 + (1 : Int))) fun vat25 => mpure (vz8.1, vz8.2, vat25)) 1000 (vp5.1, vp5.2, vat6)) fun vz7 => mpure vz7.1
theorem fn__law_gathered {S : Type} {W : Wd S} (vpanel_here : (List (List Int))) (vwords_here : (List Str)) : FN W d__law_gathered [(eT (eT eI)) vpanel_here, (eT eS) vwords_here] (p__law_gathered vpanel_here vwords_here) (eL eI) := fnT_of (fun b => Pl.p b) rfl (le_c rfl) fun fr => (tr_seqN (tn_par (J := fun (vp5 : (List Int) × (List Int)) => [.val ((eT (eT eI)) vpanel_here), .val ((eT eS) vwords_here), .mut (.lst (List.map eI vp5.1)), .mut (.lst (List.map eI vp5.2)), .any, .any, .any, .any, .any]) (ap_New (hv_disp hv_nil (le_c rfl)) fun _ => (ap_NewTF rfl (fun _ => (ht_compV (enc := eI) (c := (fun (vx2 : (Int × Str)) => (decide (vx2.2 = ("on" : Str))))) (f := (fun (vx2 : (Int × Str)) => vx2.1)) (src_enum (sT (e := eS)) (ht_ofV (hv_var rfl))) rfl (fun vx2 => (gt1_T (gts_cons (gt1_N 4 _) (gts_cons (gt1_N 5 _) gts_nil)) rfl)) (by decide) (fun _ => (kp_of trivial)) (fun vx2 => (hv_isB (hv_op (hv_var rfl) hv_lit (t_eq (e := eS) _ _ (by decide))))) (fun vx2 => (hv_var rfl)))) fun vx4 _ => (ap_two (lt_c rfl) (lt_c rfl))))) fun vp5 => (tr_seqN (tn_asg (ht_ofV (enc := eI) hv_lit)) fun vat6 => (tr_seqN (tn_while (J := fun (vz7 : (List Int) × (List Int) × Int) => [.val ((eT (eT eI)) vpanel_here), .val ((eT eS) vwords_here), .mut (.lst (List.map eI vz7.1)), .mut (.lst (List.map eI vz7.2.1)), .any, .any, .val (eI vz7.2.2), .any, .any]) (z0 := (vp5.1, vp5.2, vat6)) (.same (.same (.same (.same (.any (.any (.same (.any (.any .nil))))))))) (fun vz7 => (ht_ofV (enc := id) (hv_isB (hv_op (hv_var rfl) (hv_bM rfl (fun _ _ h => dr_len h) (t_lenL (e := eI) _)) (t_lt _ _))))) (fun vz7 => (tn_seq (tn_for (J := fun (vz8 : (List Int) × (List Int)) => [.val ((eT (eT eI)) vpanel_here), .val ((eT eS) vwords_here), .mut (.lst (List.map eI vz8.1)), .mut (.lst (List.map eI vz8.2)), .any, .any, .val (eI vz7.2.2), .any, .any]) (z0 := (vz7.1, vz7.2.1)) (src_seq (sT (e := eI)) (ht_op (ac_V (hv_var rfl) (ac_T (ht_op (ac_M rfl (hv_cons (hv_var rfl) hv_nil) (fun st _ h => by show lift _ _ = lift _ _; rw [dr_idx1 h]) (ac_V (hv_var rfl) (af_idxL _ _)))) fun vx9 => (af_idxT (e := (eT eI)) vpanel_here vx9))))) (fun _ => (.same (.same (.same (.same (.any (.any (.same (.any (.any .nil)))))))))) (fun vx10 vz8 => (gt1_N 7 _)) (fun vx10 vz8 => (tn_map (f := fun (vz13 : (List Int) × (List Int)) => (vz13.1, vz13.2)) (tn_if (J := fun (vz13 : (List Int) × (List Int)) => [.val ((eT (eT eI)) vpanel_here), .val ((eT eS) vwords_here), .mut (.lst (List.map eI vz13.1)), .mut (.lst (List.map eI vz13.2)), .any, .any, .val (eI vz7.2.2), .val (eI vx10), .any]) (ht_and (ht_isB (ht_op (ac_T (ht_op (ac_V (hv_var rfl) (ac_V (hv_var rfl) (af_idxT (e := eS) vwords_here vx10)))) fun vx11 => (ac_V hv_lit (af_op (enc := eB) (t_eq (e := eS) _ _ (by decide))))))) (ht_ofV (enc := id) (hv_isB (hv_opM2 (hv_var rfl) rfl (fun _ _ h => dr_nin2 h) (t_ninL (e := eI) vx10 vz8.1 (by decide)))))) (tn_seq (tn_drop (ht_append rfl (ht_ofV (hv_var rfl)))) fun vfound14 => (tn_map (f := fun (vz19 : (List Int)) => (vfound14, vz19)) (tn_if (J := fun (vz19 : (List Int)) => [.val ((eT (eT eI)) vpanel_here), .val ((eT eS) vwords_here), .mut (.lst (List.map eI vfound14)), .mut (.lst (List.map eI vz19)), .any, .any, .val (eI vz7.2.2), .val (eI vx10), .any]) (ht_isB (ht_op (ac_V hv_lit (ac_T (ht_frz (ht_compM (enc := eS) (c := (fun (vx16 : Int) => true)) (f := (fun (vx16 : Int) => midx vwords_here vx16)) (src_seq (sT (e := eI)) (ht_op (ac_V (hv_var rfl) (ac_V (hv_var rfl) (af_idxT (e := (eT eI)) vpanel_here vx10))))) rfl (fun vx16 => (gt1_N 8 _)) (by decide) (fun _ => (kp_of ⟨by decide, rfl, ⟨by decide, rfl, trivial⟩⟩)) (fun vx16 => hv_yes) (fun vx16 => (ht_op (ac_V (hv_var rfl) (ac_V (hv_var rfl) (af_idxT (e := eS) vwords_here vx16))))))) fun vx18 => (af_op (enc := eB) (t_ninL (e := eS) ("same" : Str) vx18 (by decide))))))) (tn_map (f := fun (vhelpers20 : (List Int)) => vhelpers20) (tn_drop (ht_append rfl (ht_ofV (hv_var rfl)))) (fun vhelpers20 => (.same (.same (.same (.same (.any (.any (.same (.same (.any .nil))))))))))) (tn_skip (.same (.same (.same (.same (.any (.any (.same (.same (.any .nil))))))))))) (fun vz19 => (.same (.same (.same (.same (.any (.any (.same (.same (.any .nil)))))))))))) (tn_skip (.same (.same (.same (.same (.any (.any (.same (.same (.any .nil))))))))))) (fun vz13 => (.same (.same (.same (.same (.any (.any (.same (.any (.any .nil))))))))))))) fun vz8 => (tn_map (f := fun (vat25 : Int) => (vz8.1, vz8.2, vat25)) (tn_asg (ht_ofV (hv_op (hv_var rfl) hv_lit (t_add _ _)))) (fun vat25 => (.same (.same (.same (.same (.any (.any (.same (.any (.any .nil)))))))))))))) fun vz7 => (tr_fz rfl (tr_ret (ht_ofV (hv_var rfl)))))))
noncomputable def p__law_holds {S : Type} (vpanel_here : (List (List Int))) (vwords_here : (List Str)) : Mt S Bool := mbind (mbind (mbind (mbind (mpure vwords_here) fun vxs1 => mpure (enumZ 0 vxs1)) fun vxs3 => compV (fun (vx2 : (Int × Str)) => (decide (vx2.2 = ("on" : Str)))) (fun (vx2 : (Int × Str)) => vx2.1) vxs3) fun vx4 => mpure vx4) fun von5 => mbind (mbind (p_find_round vpanel_here von5) fun vx6 => mpure (vx6.isSome)) fun vb7 => if vb7 = true then (mpure false) else (mfin (mbind (mpure von5) fun vxs15 => forX (fun (vx9 : Int) (vz8 : Unit) => mbind (mbind (mbind (midx vpanel_here vx9) fun vxs11 => calmly (compM (fun (vx10 : Int) => true) (fun (vx10 : Int) => midx vwords_here vx10) vxs11)) fun vx12 => mpure (decide (("same" : Str) ∈ vx12))) fun vb13 => if vb13 = true then (mbind (mpure false) fun vr14 => mpure (.rt vr14)) else (mpure (.nx ()))) vxs15 ()) fun vz8 => mbind (mbind (p__law_gathered vpanel_here vwords_here) fun vx16 => mpure (vx16.length : Int)) fun vx17 => mbind (mcountD eS vwords_here ("off" : Str)) fun vx18 => mpure (decide (vx17 = vx18)))
theorem fn__law_holds {S : Type} {W : Wd S} (vpanel_here : (List (List Int))) (vwords_here : (List Str)) : FN W d__law_holds [(eT (eT eI)) vpanel_here, (eT eS) vwords_here] (p__law_holds vpanel_here vwords_here) eB := fnT_of (fun b => Pl.p b) rfl (le_c rfl) fun fr => (tr_seqN (tn_asg (ht_b (ac_T (ht_frz (ht_compV (enc := eI) (c := (fun (vx2 : (Int × Str)) => (decide (vx2.2 = ("on" : Str))))) (f := (fun (vx2 : (Int × Str)) => vx2.1)) (src_enum (sT (e := eS)) (ht_ofV (hv_var rfl))) rfl (fun vx2 => (gt1_T (gts_cons (gt1_N 3 _) (gts_cons (gt1_N 4 _) gts_nil)) rfl)) (by decide) (fun _ => (kp_of trivial)) (fun vx2 => (hv_isB (hv_op (hv_var rfl) hv_lit (t_eq (e := eS) _ _ (by decide))))) (fun vx2 => (hv_var rfl)))) fun vx4 => (af_b1 (enc := (eT eI)) (t_tupL (e := eI) _))))) fun von5 => (tr_ifseq (ht_isB (ht_op (ac_T (ht_call (ac_V (hv_var rfl) (ac_V (hv_var rfl) (ac_fn (fn_find_round vpanel_here von5))))) fun vx6 => (ac_V hv_lit (af_op (enc := eB) (t_isNotO (e := (eT eI)) _)))))) (tr_seqR (tr_ret (ht_ofV hv_lit))) (tr_nextR (tr_seqF (J := _) (tf_for (J := fun (vz8 : Unit) => [.val ((eT (eT eI)) vpanel_here), .val ((eT eS) vwords_here), .val ((eT eI) von5), .any, .any, .any]) (z0 := ()) (src_seq (sT (e := eI)) (ht_ofV (hv_var rfl))) (fun _ => (.same (.same (.same (.any (.any (.any .nil))))))) (fun vx9 vz8 => (gt1_N 3 _)) (fun vx9 vz8 => (tl_if (ht_isB (ht_op (ac_V hv_lit (ac_T (ht_frz (ht_compM (enc := eS) (c := (fun (vx10 : Int) => true)) (f := (fun (vx10 : Int) => midx vwords_here vx10)) (src_seq (sT (e := eI)) (ht_op (ac_V (hv_var rfl) (ac_V (hv_var rfl) (af_idxT (e := (eT eI)) vpanel_here vx9))))) rfl (fun vx10 => (gt1_N 5 _)) (by decide) (fun _ => (kp_of trivial)) (fun vx10 => hv_yes) (fun vx10 => (ht_op (ac_V (hv_var rfl) (ac_V (hv_var rfl) (af_idxT (e := eS) vwords_here vx10))))))) fun vx12 => (af_op (enc := eB) (t_inL (e := eS) ("same" : Str) vx12 (by decide))))))) (tl_ofX (tx_ofR (tr_ret (ht_ofV hv_lit)))) (tl_nextR (tl_next (.same (.same (.same (.any (.any (.any .nil))))))))))) fun vz8 => (tr_ret (ht_op (ac_T (ht_b (ac_T (ht_call (ac_V (hv_var rfl) (ac_V (hv_var rfl) (ac_fn (fn__law_gathered vpanel_here vwords_here))))) fun vx16 => (af_b1 (enc := eI) (t_lenL (e := eI) _)))) fun vx17 => (ac_T (ht_countT (by decide) (hv_var rfl) hv_lit) fun vx18 => (af_op (enc := eB) (t_eq (e := eI) _ _ (by decide)))))))))))
noncomputable def p__law_all_words {S : Type} (vn : Int) : Mt S (List (List Str)) := mbind (mpure ([([] : (List Str))])) fun vfound1 => mbind (mbind (mbind (mpure vn) fun vn3 => mrng (0 : Int) vn3) fun vxs14 => forU (fun (vx4 : Int) (vz2 : (List (List Str))) => mbind (mpure ([] : (List (List Str)))) fun vlonger5 => mbind (mbind (mpure vz2) fun vxs12 => forU (fun (vx7 : (List Str)) (vz6 : (List (List Str))) => mbind (mbind (mbind (mpure ([("off" : Str), ("on" : Str), ("same" : Str)])) fun vxs10 => calmly (compM (fun (vx9 : Str) => true) (fun (vx9 : Str) => mcat vx7 ([vx9])) vxs10)) fun vx11 => mcat vz6 vx11) fun vlonger8 => mpure vlonger8) vxs12 vlonger5) fun vz6 => mbind (mpure vz6) fun vfound13 => mpure vfound13) vxs14 vfound1) fun vz2 => mpure vz2
theorem fn__law_all_words {S : Type} {W : Wd S} (vn : Int) : FN W d__law_all_words [eI vn] (p__law_all_words vn) (eL (eT eS)) := fnT_of (fun b => Pl.p b) rfl (le_c rfl) fun fr => (tr_seqN (tn_asg (ht_ofV (enc := (eL (eT eS))) (hv_frz (hv_disp (hv_cons (hv_tup hv_nil (le_c rfl)) hv_nil) (le_c rfl))))) fun vfound1 => (tr_seqN (tn_for (J := fun (vz2 : (List (List Str))) => [.val (eI vn), .val ((eL (eT eS)) vz2), .any, .any, .any, .any]) (z0 := vfound1) (src_rng1 (ht_ofV (hv_var rfl))) (fun _ => (.same (.same (.any (.any (.any (.any .nil))))))) (fun vx4 vz2 => (gt1_N 2 _)) (fun vx4 vz2 => (tn_seq (tn_new (ht_ofV (enc := fun zs => List.map (eT eS) zs) (hv_disp hv_nil (le_c rfl)))) fun vlonger5 => (tn_seq (tn_for (J := fun (vz6 : (List (List Str))) => [.val (eI vn), .val ((eL (eT eS)) vz2), .val (eI vx4), .mut (.lst (List.map (eT eS) vz6)), .any, .any]) (z0 := vlonger5) (src_seq (sL (e := (eT eS))) (ht_ofV (hv_var rfl))) (fun _ => (.same (.same (.same (.same (.any (.any .nil))))))) (fun vx7 vz6 => (gt1_N 4 _)) (fun vx7 vz6 => (tn_map (f := fun (vlonger8 : (List (List Str))) => vlonger8) (tn_drop (ht_extend rfl (ht_frz (ht_compM (enc := (eT eS)) (c := (fun (vx9 : Str) => true)) (f := (fun (vx9 : Str) => mcat vx7 ([vx9]))) (src_seq (sT (e := eS)) (ht_ofV (hv_tup (hv_cons hv_lit (hv_cons hv_lit (hv_cons hv_lit hv_nil))) (le_c rfl)))) rfl (fun vx9 => (gt1_N 5 _)) (by decide) (fun _ => (kp_of ⟨by decide, rfl, trivial⟩)) (fun vx9 => hv_yes) (fun vx9 => (ht_op (ac_V (hv_var rfl) (ac_V (hv_tup (hv_cons (hv_var rfl) hv_nil) (le_c rfl)) (af_catT (e := eS) vx7 ([vx9])))))))))) (fun vlonger8 => (.same (.same (.same (.same (.any (.any .nil)))))))))) fun vz6 => (tn_fz rfl (tn_map (f := fun (vfound13 : (List (List Str))) => vfound13) (tn_asg (ht_ofV (hv_var rfl))) (fun vfound13 => (.same (.same (.any (.any (.any (.any .nil))))))))))))) fun vz2 => (tr_ret (ht_ofV (hv_var rfl)))))
noncomputable def p_law : Mt ST Bool := mfin (mbind (mbind (mpure (3 : Int)) fun vn2 => mrng (0 : Int) vn2) fun vxs18 => forX (fun (vx3 : Int) (vz1 : Unit) => mbind (p__law_panel (4 : Int)) fun vpanel_here4 => mbind (mbind (p__law_all_words (vpanel_here4.length : Int)) fun vxs7 => calmly (compG (fun (vx5 : (List Str)) => mbind (p__law_holds vpanel_here4 vx5) fun vx6 => mpure vx6) (fun (vx5 : (List Str)) => mpure vx5) vxs7)) fun vdue8 => mbind (mbind (p_all_effects vpanel_here4) fun vx9 => mpure (!decide (vx9 = vdue8))) fun vb10 => if vb10 = true then (mbind (mpure false) fun vr11 => mpure (.rt vr11)) else (mbind (mbind (p__law_all_words (vpanel_here4.length : Int)) fun vxs14 => calmly (compG (fun (vx12 : (List Str)) => mbind (p_row_for vpanel_here4 ((eT eS) vx12)) fun vx13 => mpure (vx13.isSome)) (fun (vx12 : (List Str)) => mpure vx12) vxs14)) fun vsome15 => mbind (mpure (!decide (vsome15 = vdue8))) fun vb16 => if vb16 = true then (mbind (mpure false) fun vr17 => mpure (.rt vr17)) else (mpure (.nx ())))) vxs18 ()) fun vz1 => mfin (mbind (mbind (mpure (3 : Int)) fun vn20 => mrng (0 : Int) vn20) fun vxs43 => forX (fun (vx21 : Int) (vz19 : Unit) => mbind (p__law_panel ((5 : Int) + vx21)) fun vpanel_here22 => mbind (mbind (mbind (mpure (4 : Int)) fun vn23 => mrng (0 : Int) vn23) fun vxs25 => calmly (compM (fun (vx24 : Int) => true) (fun (vx24 : Int) => p__law_words (vpanel_here22.length : Int)) vxs25)) fun vvalues26 => mbind (mbind (mbind (p__law_row (vpanel_here22.length : Int) (12 : Int)) fun vx28 => p_effect_of vpanel_here22 vx28) fun vx29 => mapp vvalues26 vx29) fun vvalues27 => mfinL (mbind (mpure vvalues27) fun vxs37 => forX (fun (vx31 : (List Str)) (vz30 : Unit) => mbind (mbind (mbind (p_row_for vpanel_here22 ((eT eS) vx31)) fun vx32 => mpure (vx32.isSome)) fun vx33 => mbind (p__law_holds vpanel_here22 vx31) fun vx34 => mpure (!decide (vx33 = vx34))) fun vb35 => if vb35 = true then (mbind (mpure false) fun vr36 => mpure (.rt vr36)) else (mpure (.nx ()))) vxs37 ()) fun vz30 => mbind (mbind (mbind (mbind (midx vvalues27 (-(1 : Int))) fun vx38 => p__law_holds vpanel_here22 vx38) fun vx39 => mpure vx39) fun vb40 => mpure (!vb40)) fun vb41 => if vb41 = true then (mbind (mpure false) fun vr42 => mpure (.rt vr42)) else (mpure (.nx ()))) vxs43 ()) fun vz19 => mpure true
theorem tr_law (fr : Sto) : TR (WO RDk) fr [.any, .val (.ref 1), .any, .any, .any, .any, .any, .any, .any] rest_law_1 p_law eB := (tr_seqF (J := _) (tf_for (J := fun (vz1 : Unit) => [.any, .val (.ref 1), .any, .any, .any, .any, .any, .any, .any]) (z0 := ()) (src_rng1 (ht_ofV hv_lit)) (fun _ => (.any (.same (.any (.any (.any (.any (.any (.any (.any .nil)))))))))) (fun vx3 vz1 => (gt1_N 2 _)) (fun vx3 vz1 => (tl_seqN (tn_asg (ht_call (ac_V (hv_var rfl) (ac_V hv_lit (ac_fn (fn__law_panel (4 : Int))))))) fun vpanel_here4 => (tl_seqN (tn_asg (ht_frz (ht_compG (enc := (eT eS)) (c := (fun (vx5 : (List Str)) => mbind (p__law_holds vpanel_here4 vx5) fun vx6 => mpure vx6)) (f := (fun (vx5 : (List Str)) => mpure vx5)) (src_seq (sL (e := (eT eS))) (ht_call (ac_V (hv_b (A := D) (hv_cons (hv_var rfl) hv_nil) (t_lenT (e := (eT eI)) _)) (ac_fn (fn__law_all_words (vpanel_here4.length : Int)))))) rfl (fun vx5 => (gt1_N 5 _)) (by decide) (fun _ => (kp_of trivial)) (fun vx5 => (ht_tru (ht_call (ac_V (hv_var rfl) (ac_V (hv_var rfl) (ac_fn (fn__law_holds vpanel_here4 vx5))))) (fun x => tr_B x))) (fun vx5 => (ht_ofV (hv_var rfl)))))) fun vdue8 => (tl_ifseq (ht_isB (ht_op (ac_T (ht_call (ac_V (hv_var rfl) (ac_fn (fn_all_effects vpanel_here4)))) fun vx9 => (ac_V (hv_b (A := D) (hv_cons (hv_var rfl) hv_nil) (t_tupL (e := (eT eS)) _)) (af_op (enc := eB) (t_ne (e := (eT (eT eS))) vx9 vdue8 (by decide))))))) (tl_seqX (tx_ofR (tr_ret (ht_ofV hv_lit)))) (tl_nextR (tl_seqN (tn_asg (ht_frz (ht_compG (enc := (eT eS)) (c := (fun (vx12 : (List Str)) => mbind (p_row_for vpanel_here4 ((eT eS) vx12)) fun vx13 => mpure (vx13.isSome))) (f := (fun (vx12 : (List Str)) => mpure vx12)) (src_seq (sL (e := (eT eS))) (ht_call (ac_V (hv_b (A := D) (hv_cons (hv_var rfl) hv_nil) (t_lenT (e := (eT eI)) _)) (ac_fn (fn__law_all_words (vpanel_here4.length : Int)))))) rfl (fun vx12 => (gt1_N 5 _)) (by decide) (fun _ => (kp_of trivial)) (fun vx12 => (ht_isB (ht_op (ac_T (ht_call (ac_V (hv_var rfl) (ac_V (hv_var rfl) (ac_fn (fn_row_for vpanel_here4 ((eT eS) vx12)))))) fun vx13 => (ac_V hv_lit (af_op (enc := eB) (t_isNotO (e := (eT eI)) _))))))) (fun vx12 => (ht_ofV (hv_var rfl)))))) fun vsome15 => (tl_if (ht_ofV (enc := id) (hv_isB (hv_op (hv_var rfl) (hv_var rfl) (t_ne (e := (eL (eT eS))) vsome15 vdue8 (by decide))))) (tl_ofX (tx_ofR (tr_ret (ht_ofV hv_lit)))) (tl_nextR (tl_next (.any (.same (.any (.any (.any (.any (.any (.any (.any .nil))))))))))))))))))) fun vz1 => (tr_seqF (J := _) (tf_for (J := fun (vz19 : Unit) => [.any, .val (.ref 1), .any, .any, .any, .any, .any, .any, .any]) (z0 := ()) (src_rng1 (ht_ofV hv_lit)) (fun _ => (.any (.same (.any (.any (.any (.any (.any (.any (.any .nil)))))))))) (fun vx21 vz19 => (gt1_N 2 _)) (fun vx21 vz19 => (tl_seqN (tn_asg (ht_call (ac_V (hv_var rfl) (ac_V (hv_op hv_lit (hv_var rfl) (t_add _ _)) (ac_fn (fn__law_panel ((5 : Int) + vx21))))))) fun vpanel_here22 => (tl_seqN (tn_new (ht_compM (enc := (eT eS)) (c := (fun (vx24 : Int) => true)) (f := (fun (vx24 : Int) => p__law_words (vpanel_here22.length : Int))) (src_rng1 (ht_ofV hv_lit)) rfl (fun vx24 => (gt1_N 8 _)) (by decide) (fun _ => (kp_of trivial)) (fun vx24 => hv_yes) (fun vx24 => (ht_call (ac_V (hv_var rfl) (ac_V (hv_b (A := D) (hv_cons (hv_var rfl) hv_nil) (t_lenT (e := (eT eI)) _)) (ac_fn (fn__law_words (vpanel_here22.length : Int))))))))) fun vvalues26 => (tl_seqN (tn_drop (ht_append rfl (ht_call (ac_V (hv_var rfl) (ac_T (ht_call (ac_V (hv_var rfl) (ac_V (hv_b (A := D) (hv_cons (hv_var rfl) hv_nil) (t_lenT (e := (eT eI)) _)) (ac_V hv_lit (ac_fn (fn__law_row (vpanel_here22.length : Int) (12 : Int))))))) fun vx28 => (ac_fn (fn_effect_of vpanel_here22 vx28))))))) fun vvalues27 => (tl_fz rfl (tl_seqF (tf_for (J := fun (vz30 : Unit) => [.any, .val (.ref 1), .val (eI vx21), .val ((eT (eT eI)) vpanel_here22), .any, .any, .any, .val ((eL (eT eS)) vvalues27), .any]) (z0 := ()) (src_seq (sL (e := (eT eS))) (ht_ofV (hv_var rfl))) (fun _ => (.any (.same (.same (.same (.any (.any (.any (.same (.any .nil)))))))))) (fun vx31 vz30 => (gt1_N 5 _)) (fun vx31 vz30 => (tl_if (ht_isB (ht_op (ac_T (ht_op (ac_T (ht_call (ac_V (hv_var rfl) (ac_V (hv_var rfl) (ac_fn (fn_row_for vpanel_here22 ((eT eS) vx31)))))) fun vx32 => (ac_V hv_lit (af_op (enc := eB) (t_isNotO (e := (eT eI)) _))))) fun vx33 => (ac_T (ht_call (ac_V (hv_var rfl) (ac_V (hv_var rfl) (ac_fn (fn__law_holds vpanel_here22 vx31))))) fun vx34 => (af_op (enc := eB) (t_ne (e := eB) _ _ (by decide))))))) (tl_ofX (tx_ofR (tr_ret (ht_ofV hv_lit)))) (tl_nextR (tl_next (.any (.same (.same (.same (.any (.any (.any (.same (.any .nil)))))))))))))) fun vz30 => (tl_if (ht_not (ht_tru (ht_call (ac_V (hv_var rfl) (ac_T (ht_op (ac_V (hv_var rfl) (ac_V (hv_un hv_lit (t_neg _)) (af_idxL (e := (eT eS)) vvalues27 (-(1 : Int)))))) fun vx38 => (ac_fn (fn__law_holds vpanel_here22 vx38))))) (fun x => tr_B x))) (tl_ofX (tx_ofR (tr_ret (ht_ofV hv_lit)))) (tl_nextR (tl_next (.any (.same (.any (.any (.any (.any (.any (.any (.any .nil))))))))))))))))))) fun vz19 => (tr_ret (ht_ofV hv_lit))))
/-! ### runs with a budget -/
section
variable {α β σ : Type}
theorem runs_b {N n : Nat} {q : Mt ST α} {k : α → Mt ST β} {Q : α → Prop} {R : β → Prop} (h : Runs n q Q) (hn : n ≤ N) (hk : ∀ a, Q a → Runs (N - n) (k a) R) : Runs N (mbind q k) R :=
  runs_le (runs_bind h hk) (by omega)
theorem runs_d {N : Nat} {m : Int} {k : Int → Mt ST β} {R : β → Prop} (h1 : 1 ≤ m) (h2 : m < 1073741824) (hn : 1 ≤ N) (hk : ∀ a, 0 ≤ a → a < m → Runs (N - 1) (k a) R) : Runs N (mbind (draw m) k) R :=
  runs_b (runs_draw h1 h2) hn fun a ha => hk a ha.1 ha.2
theorem runs_p {N : Nat} {a : α} {Q : α → Prop} (h : Q a) : Runs N (mpure a) Q := runs_le (runs_pure h) (Nat.zero_le _)
theorem runs_forL {N c : Nat} {body : α → σ → Mt ST σ} (I : List α → σ → Prop) {xs : List α} {z : σ} {k : σ → Mt ST β} {R : β → Prop} (h : I [] z) (hn : xs.length * c ≤ N) (hb : ∀ pre x post z, xs = pre ++ x :: post → I pre z → Runs c (body x z) (I (pre ++ [x]))) (hk : ∀ z, I xs z → Runs (N - xs.length * c) (k z) R) : Runs N (mbind (forU body xs z) k) R :=
  runs_b (runs_for I h hb) hn hk
/-- a loop with a leaving return that nothing reaches -/
theorem runs_fin {N c : Nat} {body : α → σ → Mt ST (Lp σ β)} (I : σ → Prop) {xs : List α} {z : σ} {k : σ → Mt ST β} {R : β → Prop} (h : I z) (hn : xs.length * c ≤ N) (hb : ∀ x ∈ xs, ∀ z, I z → Runs c (body x z) fun r => ∃ z', r = .nx z' ∧ I z') (hk : ∀ z, I z → Runs (N - xs.length * c) (k z) R) : Runs N (mfin (forX body xs z) k) R := by
  unfold mfin
  refine runs_b (runs_forX I xs z h hb) hn ?_
  rintro r ⟨z', rfl, hz⟩
  exact hk z' hz
theorem runs_finL {γ : Type} {N c : Nat} {body : α → σ → Mt ST (Lp σ β)} (I : σ → Prop) {xs : List α} {z : σ} {k : σ → Mt ST (Lp γ β)} {R : Lp γ β → Prop} (h : I z) (hn : xs.length * c ≤ N) (hb : ∀ x ∈ xs, ∀ z, I z → Runs c (body x z) fun r => ∃ z', r = .nx z' ∧ I z') (hk : ∀ z, I z → Runs (N - xs.length * c) (k z) R) : Runs N (mfinL (forX body xs z) k) R := by
  unfold mfinL
  refine runs_b (runs_forX I xs z h hb) hn ?_
  rintro r ⟨z', rfl, hz⟩
  exact hk z' hz
end
theorem mfin_bind {S β σ ω : Type} (q : Mt S ω) (l : ω → Mt S (σ ⊕ β)) (k : σ → Mt S β) : mfin (mbind q l) k = mbind q fun a => mfin (l a) k := by
  unfold mfin
  rw [mbind_assoc]
theorem mfinL_bind {S β σ τ ω : Type} (q : Mt S ω) (l : ω → Mt S (σ ⊕ β)) (k : σ → Mt S (Lp τ β)) : mfinL (mbind q l) k = mbind q fun a => mfinL (l a) k := by
  unfold mfinL
  rw [mbind_assoc]
theorem perm_erase {α : Type} : ∀ (l : List α) (i : Nat) (h : i < l.length), (l[i] :: l.eraseIdx i).Perm l
  | x :: l, 0, _ => List.Perm.refl _
  | x :: l, i + 1, h => (List.Perm.swap _ _ _).trans ((perm_erase l i (by simpa using h)).cons x)
theorem compG_id {S α : Type} {c : α → Mt S Bool} (p : α → Bool) {xs : List α} (hl : xs.length ≤ 100000) (hc : ∀ x ∈ xs, c x = mpure (p x)) : compG c (fun x => mpure x) xs = mpure (xs.filter p) := by
  have := compG_pure (f := fun x => mpure x) p id hl hc fun _ _ _ => rfl
  rw [List.map_id] at this
  exact this
/-! ### what holds whatever is chosen -/
def EndsR {S α : Type} (r : Rs S α) (Q : α → S → Prop) : Prop := match r with
  | .ok a s => Q a s
  | .amb P f => ∀ n, P n → EndsR (f n) Q
  | _ => False
theorem ends_bind {S α β : Type} {r : Rs S α} {k : α → Mt S β} {Q : α → S → Prop} {R : β → S → Prop} (h : EndsR r Q) (hk : ∀ a s, Q a s → EndsR (k a s) R) : EndsR (rbind r k) R := by
  induction r with
  | ok a s => exact hk a s h
  | exc x s => exact (h : False).elim
  | bad => exact (h : False).elim
  | amb P f ih => exact fun n p => ih n (h n p)
theorem ends_mono {S α : Type} {r : Rs S α} {Q R : α → S → Prop} (h : EndsR r Q) (hq : ∀ a s, Q a s → R a s) : EndsR r R := by
  induction r with
  | ok a s => exact hq a s h
  | exc x s => exact (h : False).elim
  | bad => exact (h : False).elim
  | amb P f ih => exact fun n p => ih n (h n p)
abbrev Hpo := Nat → Option MO
/-- from the heap m, with at most n draws -/
def RunH {α : Type} (n : Nat) (m : Hpo) (q : Mt ST α) (Q : α → Hpo → Prop) : Prop := ∀ s : ST, s.m = m → s.k + n ≤ 10000000 → EndsR (q s) fun a s' => s'.k ≤ s.k + n ∧ Q a s'.m
section
variable {α β σ : Type} {m : Hpo}
theorem rh_pure {N : Nat} {a : α} {Q : α → Hpo → Prop} (h : Q a m) : RunH N m (mpure a) Q := fun s e _ => ⟨Nat.le_add_right _ _, by rw [e]; exact h⟩
theorem rh_bind {n n' : Nat} {q : Mt ST α} {k : α → Mt ST β} {Q : α → Hpo → Prop} {R : β → Hpo → Prop} (h : RunH n m q Q) (hk : ∀ a m', Q a m' → RunH n' m' (k a) R) : RunH (n + n') m (mbind q k) R := fun s e hs => by
  refine ends_bind (h s e (by omega)) fun a s1 ⟨h1, ha⟩ => ?_
  exact ends_mono (hk a s1.m ha s1 rfl (by omega)) fun b s2 ⟨h2, hb⟩ => ⟨by omega, hb⟩
theorem rh_mono {n n' : Nat} {q : Mt ST α} {Q R : α → Hpo → Prop} (h : RunH n m q Q) (hn : n ≤ n') (hq : ∀ a m', Q a m' → R a m') : RunH n' m q R := fun s e hs => ends_mono (h s e (by omega)) fun a s1 ⟨h1, ha⟩ => ⟨by omega, hq a _ ha⟩
theorem rh_b {N n : Nat} {q : Mt ST α} {k : α → Mt ST β} {Q : α → Hpo → Prop} {R : β → Hpo → Prop} (h : RunH n m q Q) (hn : n ≤ N) (hk : ∀ a m', Q a m' → RunH (N - n) m' (k a) R) : RunH N m (mbind q k) R :=
  rh_mono (rh_bind h hk) (by omega) fun _ _ h => h
/-- what leaves the heap alone -/
theorem rh_r {n : Nat} {q : Mt ST α} {Q : α → Prop} (h : Runs n q Q) : RunH n m q fun a m' => m' = m ∧ Q a := fun s e hs => by
  obtain ⟨a, s', e1, ⟨h1, h2⟩, ha⟩ := h s hs
  rw [e1]
  exact ⟨h1, h2.trans e, ha⟩
theorem rh_rb {N n : Nat} {q : Mt ST α} {k : α → Mt ST β} {Q : α → Prop} {R : β → Hpo → Prop} (h : Runs n q Q) (hn : n ≤ N) (hk : ∀ a, Q a → RunH (N - n) m (k a) R) : RunH N m (mbind q k) R :=
  rh_b (rh_r h) hn fun a m' ⟨e, ha⟩ => by rw [e]; exact hk a ha
theorem rh_d {N : Nat} {b : Int} {k : Int → Mt ST β} {R : β → Hpo → Prop} (h1 : 1 ≤ b) (h2 : b < 1073741824) (hn : 1 ≤ N) (hk : ∀ a, 0 ≤ a → a < b → RunH (N - 1) m (k a) R) : RunH N m (mbind (draw b) k) R :=
  rh_rb (runs_draw h1 h2) hn fun a ha => hk a ha.1 ha.2
theorem rh_calm {n : Nat} {q : Mt ST α} {Q : α → Hpo → Prop} (h : RunH n m q Q) : RunH n m (calmly q) Q := fun s e hs => by
  have := h s e hs
  unfold calmly
  revert this
  generalize q s = r
  intro this
  induction r with
  | ok a s => exact this
  | exc x s => exact this
  | bad => exact this
  | amb P f ih => exact fun n p => ih n (this n p)
theorem rh_forU {c : Nat} {body : α → σ → Mt ST σ} (I : List α → σ → Hpo → Prop) (xs : List α) (hb : ∀ pre x post z m', xs = pre ++ x :: post → I pre z m' → RunH c m' (body x z) (I (pre ++ [x]))) :
    ∀ (post pre : List α) (z : σ) (m' : Hpo), xs = pre ++ post → I pre z m' → RunH (post.length * c) m' (forU body post z) (I xs)
  | [], pre, z, m', e, h => by
    rw [List.append_nil] at e
    subst e
    exact rh_pure h
  | x :: post, pre, z, m', e, h => by
    unfold forU
    refine rh_mono (rh_bind (hb pre x post z m' e h) fun z' m2 h' => rh_forU I xs hb post (pre ++ [x]) z' m2 (by rw [e]; simp) h') ?_ fun _ _ h => h
    rw [List.length_cons, Nat.succ_mul]
    omega
theorem rh_for {c : Nat} {body : α → σ → Mt ST σ} (I : List α → σ → Hpo → Prop) {xs : List α} {z : σ} (h : I [] z m) (hb : ∀ pre x post z m', xs = pre ++ x :: post → I pre z m' → RunH c m' (body x z) (I (pre ++ [x]))) : RunH (xs.length * c) m (forU body xs z) (I xs) := rh_forU I xs hb xs [] z m rfl h
theorem rh_forX {c : Nat} {body : α → σ → Mt ST (Lp σ β)} (I : List α → σ → Hpo → Prop) (xs : List α) (hb : ∀ pre x post z m', xs = pre ++ x :: post → I pre z m' → RunH c m' (body x z) fun r m2 => ∃ z', r = .nx z' ∧ I (pre ++ [x]) z' m2) :
    ∀ (post pre : List α) (z : σ) (m' : Hpo), xs = pre ++ post → I pre z m' → RunH (post.length * c) m' (forX body post z) fun r m2 => ∃ z', r = .inl z' ∧ I xs z' m2
  | [], pre, z, m', e, h => by
    rw [List.append_nil] at e
    subst e
    exact rh_pure ⟨z, rfl, h⟩
  | x :: post, pre, z, m', e, h => by
    unfold forX
    refine rh_mono (rh_bind (n' := post.length * c) (hb pre x post z m' e h) ?_) ?_ fun _ _ h => h
    · rintro r m2 ⟨z', rfl, h'⟩
      exact rh_forX I xs hb post (pre ++ [x]) z' m2 (by rw [e]; simp) h'
    · rw [List.length_cons, Nat.succ_mul]
      omega
theorem rh_fin {N c : Nat} {body : α → σ → Mt ST (Lp σ β)} (I : List α → σ → Hpo → Prop) {xs : List α} {z : σ} {k : σ → Mt ST β} {R : β → Hpo → Prop} (h : I [] z m) (hn : xs.length * c ≤ N) (hb : ∀ pre x post z m', xs = pre ++ x :: post → I pre z m' → RunH c m' (body x z) fun r m2 => ∃ z', r = .nx z' ∧ I (pre ++ [x]) z' m2) (hk : ∀ z m', I xs z m' → RunH (N - xs.length * c) m' (k z) R) : RunH N m (mfin (forX body xs z) k) R := by
  unfold mfin
  refine rh_b (rh_forX I xs hb xs [] z m rfl h) hn ?_
  rintro r m' ⟨z', rfl, hz⟩
  exact hk z' m' hz
theorem rh_finL {γ : Type} {N c : Nat} {body : α → σ → Mt ST (Lp σ β)} (I : List α → σ → Hpo → Prop) {xs : List α} {z : σ} {k : σ → Mt ST (Lp γ β)} {R : Lp γ β → Hpo → Prop} (h : I [] z m) (hn : xs.length * c ≤ N) (hb : ∀ pre x post z m', xs = pre ++ x :: post → I pre z m' → RunH c m' (body x z) fun r m2 => ∃ z', r = .nx z' ∧ I (pre ++ [x]) z' m2) (hk : ∀ z m', I xs z m' → RunH (N - xs.length * c) m' (k z) R) : RunH N m (mfinL (forX body xs z) k) R := by
  unfold mfinL
  refine rh_b (rh_forX I xs hb xs [] z m rfl h) hn ?_
  rintro r m' ⟨z', rfl, hz⟩
  exact hk z' m' hz
/-- what is told by its steps -/
theorem rh_at {N : Nat} {q : Mt ST α} {Q : α → Hpo → Prop} (h : ∀ d : Dk, EndsR (q ⟨d, m⟩) fun a s' => s'.dk = d ∧ Q a s'.m) : RunH N m q Q := fun s e hs => by
  have := h s.dk
  have es : (⟨s.dk, m⟩ : ST) = s := by rw [← e]
  rw [es] at this
  refine ends_mono this fun a s' ⟨h1, h2⟩ => ⟨?_, h2⟩
  have : s'.k = s.k := by unfold OS.k; rw [h1]
  omega
end
/-! ### the law's end -/
theorem has_nil {c e : List Int} {k : Nat} (g : GoodB c e) : HasO RDk (⟨⟨(c, e, k), g⟩, fun _ => none⟩ : ST) (dkB c e k []) := by
  refine ⟨rfl, rfl, fun l o e => (nomatch e), fun l n fs e => ?_, fun k' n fs f l e i => ?_⟩
  · match l, e with
    | 0, e => exact (nomatch Option.some.inj e)
    | 1, e => exact (nomatch Option.some.inj e)
    | l + 2, e => exact (nomatch e)
  · match k', e with
    | 0, e => exact (nomatch Option.some.inj e)
    | 1, e => exact (nomatch Option.some.inj e)
    | k' + 2, e => exact (nomatch e)
theorem rr_ends {α : Type} {fr : Sto} {enc : α → D} {r : Fl} {q : Rs ST α} {Q : α → ST → Prop} (h : RR (WO RDk) fr enc r q) (e : EndsR q Q) : ∃ b s' st', r = .ret (enc b) st' ∧ Q b s' := by
  induction q with
  | ok b s' =>
    obtain ⟨st', e1, _⟩ := h
    exact ⟨b, s', st', e1, e⟩
  | exc x s => exact (e : False).elim
  | bad => exact (e : False).elim
  | amb P f ih =>
    obtain ⟨n, p, h⟩ := h
    exact ih n h (e n p)
theorem law_end {c : Nat} {nN : Nat} {rest : Rho → Sto → Fl} {p : Mt ST Bool} (ht : TR (WO RDk) [] (.any :: .val (.ref 1) :: List.replicate nN .any) rest p eB) (hr : RunH c (fun _ => none) p fun b _ => b = true) (hc : c ≤ 10000000) (ns : List Int) (hl : ns.length ≤ 63) :
    ∃ st', fnD 1 (nN + 2) (sSeq (sAsg (gN 1) (mCall d__law_draws (mCons (mVar 0) mNil))) rest) [.scr (ns.map .int)] [] = .ok (.bl true) st' := by
  obtain ⟨cells, rests, g, e⟩ := draws_ok ns hl
  have hs := has_nil (k := 0) g
  have h1 := ht (⟨⟨(cells, rests, 0), g⟩, fun _ => none⟩ : ST) (some (.scr (ns.map .int)) :: some (.ref 1) :: List.replicate nN none) (dkB cells rests 0 []) ⟨by simp, ⟨hs, Nat.zero_le _, fun l hl => absurd hl (Nat.not_lt_zero l)⟩, fun i d h => ?_, fun i m h => ?_, fun i j m1 m2 h => ?_, fun i m h => ?_⟩
  · obtain ⟨b, s', st', e3, hb⟩ := rr_ends h1 (hr _ rfl (by show 0 + c ≤ _; omega))
    obtain rfl := hb.2
    have hm : sSeq (sAsg (gN 1) (mCall d__law_draws (mCons (mVar 0) mNil))) rest (rho0 (nN + 2) [.scr (ns.map .int)]) [] = .ret (.bl true) st' := by
      have er : rho0 (nN + 2) [.scr (ns.map .int)] = some (.scr (ns.map .int)) :: none :: List.replicate nN none := rfl
      rw [er]
      simp [mVar_ap, e]
      exact e3
    obtain ⟨st2, hc⟩ := clean_some [] (.bl true) st'
    refine ⟨st2, ?_⟩
    show clean [] (flOut (sSeq (sAsg (gN 1) (mCall d__law_draws (mCons (mVar 0) mNil))) rest (rho0 (nN + 2) [.scr (ns.map .int)]) [])) = _
    rw [hm, flOut_ret, hc]
  · match i, h with
    | 0, h => simp at h
    | 1, h => simp at h; subst h; rfl
    | i + 2, h =>
      rw [List.getElem?_cons_succ, List.getElem?_cons_succ, List.getElem?_replicate] at h
      split at h <;> cases h
  · match i, h with
    | 0, h => simp at h
    | 1, h => simp at h
    | i + 2, h =>
      rw [List.getElem?_cons_succ, List.getElem?_cons_succ, List.getElem?_replicate] at h
      split at h <;> cases h
  · match i, h with
    | 0, h => simp at h
    | 1, h => simp at h
    | i + 2, h =>
      rw [List.getElem?_cons_succ, List.getElem?_cons_succ, List.getElem?_replicate] at h
      split at h <;> cases h
  · match i, h with
    | 0, h => simp at h
    | 1, h => simp at h
    | i + 2, h =>
      rw [List.getElem?_cons_succ, List.getElem?_cons_succ, List.getElem?_replicate] at h
      split at h <;> cases h
/-! ### k18: words of rows -/
def wNew (pan : List (List Int)) (i : Int) (w : Str) (b : Int) : Str := if i = b then "on" else if i ∈ rowAt pan b then "off" else w
def wFrom (pan : List (List Int)) (w : Str) (row : List Int) (i : Int) : Str := row.foldl (wNew pan i) w
abbrev wAft (pan : List (List Int)) (row : List Int) (i : Int) : Str := wFrom pan "same" row i
/-- b concerns i -/
def Tch (pan : List (List Int)) (i b : Int) : Prop := i = b ∨ i ∈ rowAt pan b
def wOf (i z : Int) : Str := if i = z then "on" else "off"
theorem wNew_tch {pan : List (List Int)} {i b : Int} (w : Str) (h : Tch pan i b) : wNew pan i w b = wOf i b := by
  unfold wNew wOf
  by_cases e : i = b
  · rw [if_pos e, if_pos e]
  · rw [if_neg e, if_neg e, if_pos (h.resolve_left e)]
theorem wNew_not {pan : List (List Int)} {i b : Int} (w : Str) (h : ¬ Tch pan i b) : wNew pan i w b = w := by
  unfold wNew
  rw [if_neg fun e => h (.inl e), if_neg fun e => h (.inr e)]
theorem wFrom_not {pan : List (List Int)} {i : Int} : ∀ {row : List Int} (w : Str), (∀ b ∈ row, ¬ Tch pan i b) → wFrom pan w row i = w
  | [], w, _ => rfl
  | b :: row, w, h => by
    show wFrom pan (wNew pan i w b) row i = w
    rw [wNew_not w (h b (by simp)), wFrom_not w fun c hc => h c (by simp [hc])]
theorem wFrom_app (pan : List (List Int)) (w : Str) (r1 r2 : List Int) (i : Int) : wFrom pan w (r1 ++ r2) i = wFrom pan (wFrom pan w r1 i) r2 i := by
  unfold wFrom
  rw [List.foldl_append]
theorem wFrom_at {pan : List (List Int)} {i : Int} {p q : List Int} {z : Int} (w : Str) (hz : Tch pan i z) (hq : ∀ b ∈ q, ¬ Tch pan i b) : wFrom pan w (p ++ z :: q) i = wOf i z := by
  rw [wFrom_app]
  show wFrom pan (wNew pan i _ z) q i = _
  rw [wNew_tch _ hz, wFrom_not _ hq]
/-- the last button of a row that concerns i -/
theorem last_tch (pan : List (List Int)) (i : Int) : ∀ row : List Int, (∀ b ∈ row, ¬ Tch pan i b) ∨ ∃ p z q, row = p ++ z :: q ∧ Tch pan i z ∧ ∀ b ∈ q, ¬ Tch pan i b
  | [] => .inl fun _ h => nomatch h
  | b :: row => by
    rcases last_tch pan i row with h | ⟨p, z, q, e, hz, hq⟩
    · by_cases hb : Tch pan i b
      · exact .inr ⟨[], b, row, rfl, hb, h⟩
      · refine .inl fun c hc => ?_
        rcases List.mem_cons.mp hc with rfl | hc
        · exact hb
        · exact h c hc
    · exact .inr ⟨b :: p, z, q, by rw [e]; rfl, hz, hq⟩
theorem wOf_ne (i z : Int) : wOf i z ≠ "same" := by
  unfold wOf
  split <;> decide
theorem same_iff {pan : List (List Int)} {row : List Int} {i : Int} : wAft pan row i = "same" ↔ ∀ b ∈ row, ¬ Tch pan i b := by
  rcases last_tch pan i row with h | ⟨p, z, q, e, hz, hq⟩
  · exact ⟨fun _ => h, fun _ => wFrom_not _ h⟩
  · have : wAft pan row i = wOf i z := by rw [e]; exact wFrom_at _ hz hq
    rw [this]
    exact ⟨fun h => absurd h (wOf_ne i z), fun h => absurd hz (h z (by rw [e]; simp))⟩
theorem wFrom_any {pan : List (List Int)} {row : List Int} {i : Int} (w : Str) : wFrom pan w row i = if wAft pan row i = "same" then w else wAft pan row i := by
  rcases last_tch pan i row with h | ⟨p, z, q, e, hz, hq⟩
  · rw [if_pos (same_iff.mpr h), wFrom_not w h]
  · have h1 : ∀ w, wFrom pan w row i = wOf i z := fun w => by rw [e]; exact wFrom_at w hz hq
    rw [h1 w, wAft, h1, if_neg (wOf_ne i z)]
theorem wAft_app (pan : List (List Int)) (r1 r2 : List Int) (i : Int) : wAft pan (r1 ++ r2) i = if wAft pan r2 i = "same" then wAft pan r1 i else wAft pan r2 i := by
  rw [wAft, wFrom_app, wFrom_any]
theorem wAft_twice (pan : List (List Int)) (r : List Int) (i : Int) : wAft pan (r ++ r) i = wAft pan r i := by
  rw [wAft_app]
  split <;> rfl
def plain : List Int → List Int
  | [] => []
  | b :: r => if b ∈ r then plain r else b :: plain r
theorem wFrom_eq {pan : List (List Int)} {row : List Int} {i b : Int} (w w' : Str) (hb : b ∈ row) (h : Tch pan i b) : wFrom pan w row i = wFrom pan w' row i := by
  have : ¬ wAft pan row i = "same" := fun q => same_iff.mp q b hb h
  rw [wFrom_any w, wFrom_any w', if_neg this, if_neg this]
theorem wFrom_plain (pan : List (List Int)) (i : Int) : ∀ (row : List Int) (w : Str), wFrom pan w (plain row) i = wFrom pan w row i
  | [], w => rfl
  | b :: row, w => by
    unfold plain
    split
    · rename_i hb
      rw [wFrom_plain pan i row w]
      show _ = wFrom pan (wNew pan i w b) row i
      by_cases h : Tch pan i b
      · exact wFrom_eq _ _ hb h
      · rw [wNew_not w h]
    · show wFrom pan (wNew pan i w b) (plain row) i = wFrom pan (wNew pan i w b) row i
      exact wFrom_plain pan i row _
theorem on_iff {pan : List (List Int)} {row : List Int} {i : Int} : wAft pan row i = "on" ↔ ∃ p q, row = p ++ i :: q ∧ ∀ b ∈ q, ¬ Tch pan i b := by
  constructor
  · intro h
    rcases last_tch pan i row with h2 | ⟨p, z, q, e, hz, hq⟩
    · rw [wAft, wFrom_not _ h2] at h
      exact absurd h (by decide)
    · rw [e, wAft, wFrom_at _ hz hq] at h
      unfold wOf at h
      split at h
      · rename_i hi
        subst hi
        exact ⟨p, q, e, hq⟩
      · exact absurd h (by decide)
  · rintro ⟨p, q, e, hq⟩
    rw [e, wAft, wFrom_at _ (.inl rfl) hq]
    unfold wOf
    rw [if_pos rfl]
theorem off_iff {pan : List (List Int)} {row : List Int} {i : Int} : wAft pan row i = "off" ↔ ∃ p z q, row = p ++ z :: q ∧ i ≠ z ∧ i ∈ rowAt pan z ∧ ∀ b ∈ q, ¬ Tch pan i b := by
  constructor
  · intro h
    rcases last_tch pan i row with h2 | ⟨p, z, q, e, hz, hq⟩
    · rw [wAft, wFrom_not _ h2] at h
      exact absurd h (by decide)
    · rw [e, wAft, wFrom_at _ hz hq] at h
      unfold wOf at h
      split at h
      · exact absurd h (by decide)
      · rename_i hi
        exact ⟨p, z, q, e, hi, hz.resolve_left hi, hq⟩
  · rintro ⟨p, z, q, e, hi, hz, hq⟩
    rw [e, wAft, wFrom_at _ (.inr hz) hq]
    unfold wOf
    rw [if_neg hi]
theorem word_cases (pan : List (List Int)) (row : List Int) (i : Int) : wAft pan row i = "on" ∨ wAft pan row i = "off" ∨ wAft pan row i = "same" := by
  rcases last_tch pan i row with h2 | ⟨p, z, q, e, hz, hq⟩
  · exact .inr (.inr (wFrom_not _ h2))
  · rw [e, wAft, wFrom_at _ hz hq]
    unfold wOf
    split
    · exact .inl rfl
    · exact .inr (.inl rfl)
/-! the law's part: presses that lead to the words of a row -/
structure Words (pan : List (List Int)) (R : List Int) (order helpers : List Int) : Prop where
  on : ∀ i, i ∈ order → wAft pan R i = "on"
  all : ∀ i, wAft pan R i = "on" → i ∈ order
  ndo : order.Nodup
  seq : ∀ p x q, order = p ++ x :: q → ∀ y ∈ q, x ∉ rowAt pan y
  off : ∀ i, i ∈ helpers → wAft pan R i = "off"
  ndh : helpers.Nodup
  fro : ∀ b, b ∈ order ++ helpers → ∀ i, Tch pan i b → wAft pan R i ≠ "same"
  rel : ∀ i, wAft pan R i = "off" → ∃ z, i ∈ rowAt pan z ∧ (z ∈ order ∨ ∃ p q, helpers = p ++ z :: q ∧ i ∉ p)
/-- the row helpers backwards, then order, has the words of R -/
theorem words_row {pan : List (List Int)} {R order helpers : List Int} (h : Words pan R order helpers) (hself : ∀ i z, i ∈ rowAt pan z → i ≠ z) (i : Int) : wAft pan (helpers.reverse ++ order) i = wAft pan R i := by
  rcases word_cases pan R i with hw | hw | hw
  · rw [hw, on_iff]
    obtain ⟨p, q, e⟩ := List.append_of_mem (h.all i hw)
    refine ⟨helpers.reverse ++ p, q, by rw [e, List.append_assoc], fun b hb ht => ?_⟩
    rcases ht with rfl | ht
    · have := h.ndo
      rw [e, List.nodup_append] at this
      exact (List.nodup_cons.mp this.2.1).1 hb
    · exact h.seq p i q e b hb ht
  · -- released behind its press
    rw [hw]
    have hno : i ∉ order := fun hm => by
      rw [h.on i hm] at hw
      exact absurd hw (by decide)
    obtain ⟨z, hz, hzo⟩ := h.rel i hw
    have key : ∃ p q, helpers.reverse ++ order = p ++ z :: q ∧ i ∉ q := by
      rcases hzo with hzo | ⟨p, q, e, hip⟩
      · obtain ⟨p, q, e⟩ := List.append_of_mem hzo
        exact ⟨helpers.reverse ++ p, q, by rw [e, List.append_assoc], fun hm => hno (by rw [e]; simp [hm])⟩
      · refine ⟨q.reverse, p.reverse ++ order, by rw [e]; simp, fun hm => ?_⟩
        rcases List.mem_append.mp hm with hm | hm
        · exact hip (List.mem_reverse.mp hm)
        · exact hno hm
    obtain ⟨p, q, e, hiq⟩ := key
    rcases word_cases pan (helpers.reverse ++ order) i with hx | hx | hx
    · obtain ⟨p', q', e', hq'⟩ := on_iff.mp hx
      exfalso
      have hlen : p.length < p'.length ∨ p.length = p'.length ∨ p'.length < p.length := by omega
      rw [e] at e'
      rcases hlen with hl | hl | hl
      · have h1 : (p ++ z :: q)[p'.length]? = some i := by rw [e']; simp
        rw [List.getElem?_append_right (by omega)] at h1
        obtain ⟨k, hk⟩ : ∃ k, p'.length - p.length = k + 1 := ⟨p'.length - p.length - 1, by omega⟩
        rw [hk, List.getElem?_cons_succ] at h1
        exact hiq (List.mem_of_getElem? h1)
      · have h1 : (p ++ z :: q)[p.length]? = some z := by simp
        rw [e', hl] at h1
        simp at h1
        exact hself i z hz h1
      · have h1 : (p' ++ i :: q')[p.length]? = some z := by rw [← e']; simp
        rw [List.getElem?_append_right (by omega)] at h1
        obtain ⟨k, hk⟩ : ∃ k, p.length - p'.length = k + 1 := ⟨p.length - p'.length - 1, by omega⟩
        rw [hk, List.getElem?_cons_succ] at h1
        exact hq' z (List.mem_of_getElem? h1) (.inr hz)
    · exact hx
    · exact absurd (.inr hz) (same_iff.mp hx z (by rw [e]; simp))
  · rw [hw]
    refine same_iff.mpr fun b hb ht => h.fro b ?_ i ht hw
    rcases List.mem_append.mp hb with hb | hb
    · exact List.mem_append.mpr (.inr (List.mem_reverse.mp hb))
    · exact List.mem_append.mpr (.inl hb)

/-! ### the search of row_for -/
section
variable {pan : List (List Int)} (hself : ∀ i z, i ∈ rowAt pan z → i ≠ z)
theorem on_mem {R : List Int} {i : Int} (h : wAft pan R i = "on") : i ∈ R := by
  obtain ⟨p, q, e, _⟩ := on_iff.mp h
  rw [e]
  simp
include hself in
theorem first_on (R : List Int) : ∀ left : List Int, left ≠ [] → (∀ x ∈ left, wAft pan R x = "on") → ∃ x ∈ left, ∀ y ∈ left, x ∉ rowAt pan y := by
  induction R with
  | nil =>
    intro left hne h
    cases left with
    | nil => exact absurd rfl hne
    | cons a l => exact absurd (h a (by simp)) (by show ¬ ("same" : Str) = "on"; decide)
  | cons b R ih =>
    intro left hne h
    by_cases hall : ∀ x ∈ left, wAft pan R x = "on"
    · exact ih left hne hall
    · obtain ⟨x, hx⟩ := Classical.not_forall.mp hall
      obtain ⟨hxl, hx⟩ := Classical.not_imp.mp hx
      have h1 := h x hxl
      have h2 : wFrom pan (wNew pan x "same" b) R x = "on" := h1
      rw [wFrom_any] at h2
      split at h2
      · rename_i hs
        have hb : x = b := by
          unfold wNew at h2
          by_cases e : x = b
          · exact e
          · rw [if_neg e] at h2
            split at h2 <;> exact absurd h2 (by decide)
        refine ⟨x, hxl, fun y hy ht => ?_⟩
        have h3 := on_mem (h y hy)
        rcases List.mem_cons.mp h3 with h4 | h4
        · exact hself x y ht (by rw [h4, hb])
        · exact same_iff.mp hs y h4 (.inr ht)
      · exact absurd h2 hx
/-- the state of `ordered` -/
structure OInv (pan : List (List Int)) (L order left : List Int) : Prop where
  perm : (order ++ left).Perm L
  seq : ∀ p x q, order = p ++ x :: q → ∀ y ∈ q, x ∉ rowAt pan y
  fwd : ∀ x ∈ order, ∀ y ∈ left, x ∉ rowAt pan y
theorem OInv.step {L order left : List Int} (h : OInv pan L order left) {f : Int} (hf : f ∈ left) (hr : ∀ y ∈ left, f ∉ rowAt pan y) : OInv pan L (order ++ [f]) (left.erase f) where
  perm := by
    rw [List.append_assoc, List.singleton_append]
    exact ((List.perm_cons_erase hf).symm.append_left order).trans h.perm
  seq p x q e y hy := by
    rcases List.eq_nil_or_concat q with rfl | ⟨q', l, rfl⟩
    · exact nomatch hy
    · rw [List.concat_eq_append] at e hy
      have e2 : order ++ [f] = (p ++ x :: q') ++ [l] := by rw [e]; simp
      have e3 := List.append_inj' e2 rfl
      have hl : f = l := by simpa using e3.2
      rcases List.mem_append.mp hy with hy | hy
      · exact h.seq p x q' e3.1 y hy
      · rw [List.mem_singleton.mp hy, ← hl]
        exact h.fwd x (by rw [e3.1]; simp) f hf
  fwd x hx y hy := by
    have hy := List.mem_of_mem_erase hy
    rcases List.mem_append.mp hx with hx | hx
    · exact h.fwd x hx y hy
    · rw [List.mem_singleton.mp hx]
      exact hr y hy
/-- the state of `gather` -/
structure GInv (pan : List (List Int)) (R order : List Int) (free : Int → Prop) (done waiting gathered helpers : List Int) : Prop where
  off : ∀ i ∈ gathered, wAft pan R i = "off"
  nd : gathered.Nodup
  hel : ∀ i, i ∈ helpers ↔ i ∈ gathered ∧ free i
  ndh : helpers.Nodup
  split : order ++ helpers = done ++ waiting
  rel : ∀ i ∈ gathered, ∃ z, i ∈ rowAt pan z ∧ (z ∈ order ∨ ∃ p q, helpers = p ++ z :: q ∧ i ∉ p)
  clo : ∀ z ∈ done, ∀ y ∈ rowAt pan z, wAft pan R y = "off" → y ∈ gathered
theorem GInv.start {R order : List Int} {free : Int → Prop} : GInv pan R order free [] order [] [] :=
  ⟨fun _ h => (nomatch h), List.nodup_nil, fun i => by simp, List.nodup_nil, by simp, fun _ h => (nomatch h), fun _ h => (nomatch h)⟩
theorem GInv.step {R order done waiting gathered helpers : List Int} {free : Int → Bool} {b : Int} (h : GInv pan R order (fun i => free i = true) done (b :: waiting) gathered helpers) (hn : (rowAt pan b).Nodup) {new : List Int} (e : new = (rowAt pan b).filter fun i => decide (wAft pan R i = "off") && !decide (i ∈ gathered)) :
    GInv pan R order (fun i => free i = true) (done ++ [b]) (waiting ++ new.filter free) (gathered ++ new) (helpers ++ new.filter free) := by
  have hnew : ∀ i, i ∈ new ↔ i ∈ rowAt pan b ∧ wAft pan R i = "off" ∧ i ∉ gathered := fun i => by
    rw [e]
    simp
  have hnn : new.Nodup := by rw [e]; exact hn.sublist List.filter_sublist
  refine ⟨fun i hi => ?_, ?_, fun i => ?_, ?_, ?_, fun i hi => ?_, fun z hz y hy hw => ?_⟩
  · rcases List.mem_append.mp hi with hi | hi
    · exact h.off i hi
    · exact ((hnew i).mp hi).2.1
  · rw [List.nodup_append]
    exact ⟨h.nd, hnn, fun a ha c hc q => ((hnew c).mp hc).2.2 (by rw [← q]; exact ha)⟩
  · rw [List.mem_append, List.mem_append, List.mem_filter, h.hel i]
    constructor
    · rintro (⟨h1, h2⟩ | ⟨h1, h2⟩)
      · exact ⟨.inl h1, h2⟩
      · exact ⟨.inr h1, h2⟩
    · rintro ⟨h1 | h1, h2⟩
      · exact .inl ⟨h1, h2⟩
      · exact .inr ⟨h1, h2⟩
  · rw [List.nodup_append]
    exact ⟨h.ndh, hnn.sublist List.filter_sublist, fun a ha c hc q => ((hnew c).mp (List.mem_filter.mp hc).1).2.2 (by rw [← q]; exact ((h.hel a).mp ha).1)⟩
  · rw [← List.append_assoc, h.split]
    simp
  · rcases List.mem_append.mp hi with hi | hi
    · obtain ⟨z, hz, hzo⟩ := h.rel i hi
      refine ⟨z, hz, ?_⟩
      rcases hzo with hzo | ⟨p, q, e2, hip⟩
      · exact .inl hzo
      · exact .inr ⟨p, q ++ new.filter free, by rw [e2]; simp, hip⟩
    · have hi2 := (hnew i).mp hi
      refine ⟨b, hi2.1, ?_⟩
      have hb : b ∈ order ++ helpers := by rw [h.split]; simp
      rcases List.mem_append.mp hb with hb | hb
      · exact .inl hb
      · obtain ⟨p, q, e2⟩ := List.append_of_mem hb
        refine .inr ⟨p, q ++ new.filter free, by rw [e2]; simp, fun hm => ?_⟩
        exact hi2.2.2 ((h.hel i).mp (by rw [e2]; simp [hm])).1
  · rcases List.mem_append.mp hz with hz | hz
    · exact List.mem_append.mpr (.inl (h.clo z hz y hy hw))
    · rw [List.mem_singleton.mp hz] at hy
      by_cases hg : y ∈ gathered
      · exact List.mem_append.mpr (.inl hg)
      · exact List.mem_append.mpr (.inr ((hnew y).mpr ⟨hy, hw, hg⟩))
include hself in
/-- at the end all that is off is gathered -/
theorem GInv.all {R order done gathered helpers : List Int} {free : Int → Prop} (h : GInv pan R order free done [] gathered helpers) (ho : ∀ i, wAft pan R i = "on" → i ∈ order) (hf : ∀ b ∈ R, free b) :
    ∀ (n : Nat) (y : Int) p z q, q.length ≤ n → R = p ++ z :: q → y ∈ rowAt pan z → (∀ b ∈ q, ¬ Tch pan y b) → y ∈ gathered := by
  have hsp := h.split
  rw [List.append_nil] at hsp
  intro n
  induction n with
  | zero =>
    intro y p z q hq e hy hu
    have hq : q = [] := List.length_eq_zero_iff.mp (by omega)
    subst hq
    have hw : wAft pan R y = "off" := off_iff.mpr ⟨p, z, [], e, hself y z hy, hy, hu⟩
    have hz : wAft pan R z = "on" := on_iff.mpr ⟨p, [], e, fun _ h => nomatch h⟩
    exact h.clo z (by rw [← hsp]; exact List.mem_append.mpr (.inl (ho z hz))) y hy hw
  | succ n ih =>
    intro y p z q hq e hy hu
    have hw : wAft pan R y = "off" := off_iff.mpr ⟨p, z, q, e, hself y z hy, hy, hu⟩
    rcases last_tch pan z q with h2 | ⟨p2, z2, q2, e2, ht, hu2⟩
    · have hz : wAft pan R z = "on" := on_iff.mpr ⟨p, q, e, h2⟩
      exact h.clo z (by rw [← hsp]; exact List.mem_append.mpr (.inl (ho z hz))) y hy hw
    · have e3 : R = (p ++ z :: p2) ++ z2 :: q2 := by rw [e, e2]; simp
      rcases ht with rfl | ht
      · have hz : wAft pan R z = "on" := on_iff.mpr ⟨_, q2, e3, hu2⟩
        exact h.clo z (by rw [← hsp]; exact List.mem_append.mpr (.inl (ho z hz))) y hy hw
      · have hlen : q2.length ≤ n := by
          have := congrArg List.length e2
          rw [List.length_append, List.length_cons] at this
          omega
        have hg := ih z (p ++ z :: p2) z2 q2 hlen e3 ht hu2
        have hh : z ∈ helpers := (h.hel z).mpr ⟨hg, hf z (by rw [e]; simp)⟩
        exact h.clo z (by rw [← hsp]; exact List.mem_append.mpr (.inr hh)) y hy hw
include hself in
theorem words_of {R L order helpers gathered done : List Int} {free : Int → Prop} (hO : OInv pan L order []) (hL : ∀ i, i ∈ L ↔ wAft pan R i = "on") (hLn : L.Nodup) (hG : GInv pan R order free done [] gathered helpers) (hf : ∀ b ∈ R, free b) (hfree : ∀ b, free b → ∀ i, Tch pan i b → wAft pan R i ≠ "same") : Words pan R order helpers ∧ ∀ i, i ∈ gathered ↔ wAft pan R i = "off" := by
  have hp := hO.perm
  rw [List.append_nil] at hp
  have hall : ∀ i, wAft pan R i = "on" → i ∈ order := fun i hi => hp.mem_iff.mpr ((hL i).mpr hi)
  have hon : ∀ i, i ∈ order → wAft pan R i = "on" := fun i hi => (hL i).mp (hp.mem_iff.mp hi)
  have hgath : ∀ i, i ∈ gathered ↔ wAft pan R i = "off" := fun i => ⟨hG.off i, fun hw => by
    obtain ⟨p, z, q, e, _, hz, hu⟩ := off_iff.mp hw
    exact hG.all hself hall hf q.length i p z q (Nat.le_refl _) e hz hu⟩
  exact ⟨⟨hon, hall, hp.nodup_iff.mpr hLn, hO.seq, fun i hi => hG.off i ((hG.hel i).mp hi).1, hG.ndh, fun b hb i ht => by
    rcases List.mem_append.mp hb with hb | hb
    · exact hfree b (hf b (on_mem (hon b hb))) i ht
    · exact hfree b ((hG.hel b).mp hb).2 i ht, fun i hi => hG.rel i ((hgath i).mpr hi)⟩, hgath⟩
end
/-! ### k18: what is drawn -/
/-- a panel of ascending lists without the own button -/
structure PanN (pan : List (List Int)) : Prop extends Pan 10 pan where
  self : ∀ (i : Nat) r, pan[i]? = some r → (i : Int) ∉ r
  nd : ∀ r ∈ pan, r.Nodup
theorem rowAt_or (pan : List (List Int)) (z : Int) : rowAt pan z = [] ∨ rowAt pan z ∈ pan := by
  unfold rowAt
  rw [List.getD_eq_getElem?_getD]
  cases h : pan[z.toNat]? with
  | none => exact .inl rfl
  | some r => exact .inr (List.mem_of_getElem? h)
theorem PanN.hself {pan : List (List Int)} (h : PanN pan) (i z : Int) (hi : i ∈ rowAt pan z) : i ≠ z := by
  rintro rfl
  rcases rowAt_or pan i with e | hm
  · rw [e] at hi; exact nomatch hi
  · have hr := h.rng _ hm i hi
    have hl : i.toNat < pan.length := by omega
    have := h.self i.toNat pan[i.toNat] (List.getElem?_eq_getElem hl)
    unfold rowAt at hi
    rw [List.getD_eq_getElem?_getD, List.getElem?_eq_getElem hl] at hi
    rw [show ((i.toNat : Nat) : Int) = i by omega] at this
    exact this hi
theorem PanN.rnd {pan : List (List Int)} (h : PanN pan) (z : Int) : (rowAt pan z).Nodup := by
  rcases rowAt_or pan z with e | hm
  · rw [e]; exact List.nodup_nil
  · exact h.nd _ hm
theorem upto_split {n : Nat} {pre post : List Int} {b : Int} (e : upto n = pre ++ b :: post) : b = (pre.length : Int) ∧ pre.length < n := by
  have h : (upto n)[pre.length]? = some b := by rw [e]; simp
  rw [upto_get] at h
  split at h
  · exact ⟨(Option.some.inj h).symm, by assumption⟩
  · cases h
theorem panel_runs {M : Int} (hM1 : 1 ≤ M) (hM2 : M ≤ 10) : Runs 103 (p__law_panel M) fun pan => PanN pan ∧ (pan.length : Int) ≤ M := by
  unfold p__law_panel
  simp only [mbind_assoc, mbind_pure]
  refine runs_d (by omega) (by omega) (by omega) fun x hx1 hx2 => ?_
  refine runs_d (by omega) (by omega) (by omega) fun o ho1 ho2 => ?_
  obtain ⟨n, hn1, hn2, e0⟩ : ∃ n : Nat, 1 ≤ n ∧ (n : Int) ≤ M ∧ midx (S := ST) [1 + x, M] (b2z (decide (o = 0))) = mpure (n : Int) := by
    by_cases h : o = 0
    · refine ⟨M.toNat, by omega, by omega, ?_⟩
      have e1 : ((M.toNat : Nat) : Int) = M := by omega
      rw [e1, decide_eq_true h] <;> rfl
    · refine ⟨(1 + x).toNat, by omega, by omega, ?_⟩
      have e1 : (((1 + x).toNat : Nat) : Int) = 1 + x := by omega
      rw [e1, decide_eq_false h] <;> rfl
  rw [e0, mbind_pure]
  refine runs_d (by omega) (by omega) (by omega) fun sh hs1 hs2 => ?_
  rw [mrng_nat n (by omega)]
  simp only [mbind_pure, mbind_ret]
  refine runs_mono (runs_for (c := 10) (fun pre (pan : List (List Int)) => pan.length = pre.length ∧ (∀ r ∈ pan, r.length ≤ 10 ∧ Bel n r ∧ r.Nodup) ∧ ∀ (i : Nat) r, pan[i]? = some r → (i : Int) ∉ r) ⟨rfl, fun _ h => (nomatch h), fun i r h => by simp at h⟩ (fun pre b post pan e hI => ?_)) (by rw [upto_length]; omega) fun pan hI => ?_
  · have hsp := upto_split e
    have hpl := hsp.2
    rw [compV_ok (by rw [upto_length]; omega), mbind_pure, List.map_id']
    have hfl : ((upto n).filter fun v => !decide (v = b)).length ≤ 10 := Nat.le_trans (List.length_filter_le _ _) (by rw [upto_length]; omega)
    refine runs_b (n := 10) (Q := fun ys => (ys.length ≤ 10 ∧ Bel n ys ∧ ys.Nodup) ∧ b ∉ ys) (runs_calm (runs_mono (runs_sub (c := 1) (by omega) fun y hy => ?_) (by omega) ?_)) (by omega) fun own ho => ?_
    · exact runs_d (by omega) (by omega) (by omega) fun a _ _ => runs_p trivial
    · intro ys hys
      have hl := hys.length_le
      refine ⟨⟨by omega, fun a ha => mem_upto.mp (List.mem_filter.mp (hys.subset ha)).1, (((nodup_upto n).sublist List.filter_sublist).sublist hys)⟩, fun hm => ?_⟩
      have := (List.mem_filter.mp (hys.subset hm)).2
      simp at this
    · rw [mapp_ok (by omega)]
      refine runs_p ⟨by simp [hI.1], fun r hr => ?_, fun i r hr => ?_⟩
      · rcases List.mem_append.mp hr with h | h
        · exact hI.2.1 r h
        · rw [List.mem_singleton.mp h]
          exact ho.1
      · by_cases hi : i < pan.length
        · rw [List.getElem?_append_left hi] at hr
          exact hI.2.2 i r hr
        · rw [List.getElem?_append_right (by omega)] at hr
          have hi2 : i - pan.length = 0 := by
            apply Classical.byContradiction
            intro hne
            rw [List.getElem?_eq_none (by simp; omega)] at hr
            cases hr
          rw [hi2] at hr
          cases hr
          have : (i : Int) = b := by rw [hsp.1]; omega
          rw [this]
          exact ho.2
  · rw [upto_length] at hI
    refine ⟨{ pos := by omega, le := by omega, len := fun r hr => (hI.2.1 r hr).1, rng := fun r hr => ?_, self := hI.2.2, nd := fun r hr => (hI.2.1 r hr).2.2 }, by omega⟩
    rw [hI.1]
    exact (hI.2.1 r hr).2.1
/-! ### effects and rows for them -/
/-- a panel of ascending lists without the own button -/
def eff (pan : List (List Int)) (row : List Int) : List Str := (upto pan.length).map (wAft pan row)
theorem eff_len (pan : List (List Int)) (row : List Int) : (eff pan row).length = pan.length := by
  unfold eff
  rw [List.length_map, upto_length]
/-! ### row_for -/
theorem sel_ok (n : Nat) (w : Int → Str) (p : Str → Bool) : (((upto n).map fun i => (i, w i)).filter fun x => p x.2).map (fun x => x.1) = (upto n).filter fun i => p (w i) := by
  rw [List.filter_map, List.map_map]
  show ((upto n).filter fun i => p (w i)).map (fun i => i) = _
  rw [List.map_id']
def keptOf (pan : List (List Int)) (R : List Int) : List Int := (upto pan.length).filter fun i => decide (wAft pan R i = "same")
def freeB (pan : List (List Int)) (R : List Int) (b : Int) : Bool := !([b] ++ rowAt pan b).any fun o => decide (o ∈ keptOf pan R)
theorem row_bel {pan : List (List Int)} (h : PanN pan) {i z : Int} (hi : i ∈ rowAt pan z) : 0 ≤ i ∧ i < (pan.length : Int) := by
  rcases rowAt_or pan z with e | hm
  · rw [e] at hi; exact nomatch hi
  · exact h.rng _ hm i hi
theorem free_ok {pan : List (List Int)} (h : PanN pan) (R : List Int) : p_free_buttons (S := ST) pan (eff pan R) = mpure ((upto pan.length).filter (freeB pan R)) := by
  have hl := h.le
  unfold p_free_buttons eff
  simp only [mbind_pure, enumZ_upto]
  rw [mrng_nat pan.length (by omega)]
  simp only [mbind_pure]
  rw [compV_ok (by rw [List.length_map, upto_length]; omega), mbind_pure, sel_ok pan.length (wAft pan R) (fun w => decide (w = "same"))]
  rw [compG_id (freeB pan R) (by rw [upto_length]; omega) fun x hx => ?_, calmly_pure']
  have hx := mem_upto.mp hx
  have hr := h.len _ (h.row hx.1 hx.2)
  rw [midx_row hx.1 hx.2, mbind_pure, mdisp_ok (by rw [List.length_append, List.length_singleton]; omega), mbind_pure, compV_ok (by rw [List.length_append, List.length_singleton]; omega), mbind_pure, mbind_pure, mbind_pure, filter_true, List.any_map]
  rfl
theorem free_pressed {pan : List (List Int)} {R : List Int} {b : Int} (hb : b ∈ R) : freeB pan R b = true := by
  unfold freeB
  simp only [Bool.not_eq_true', List.any_eq_false, decide_eq_true_eq]
  intro o ho hk
  have := of_decide_eq_true (List.mem_filter.mp hk).2
  refine same_iff.mp this b hb ?_
  rcases List.mem_append.mp ho with ho | ho
  · exact .inl (List.mem_singleton.mp ho)
  · exact .inr ho
theorem free_same {pan : List (List Int)} (h : PanN pan) {R : List Int} (hR : Bel pan.length R) {b : Int} (hb : 0 ≤ b ∧ b < (pan.length : Int)) (hf : freeB pan R b = true) (i : Int) (ht : Tch pan i b) : wAft pan R i ≠ "same" := fun hs => by
  unfold freeB at hf
  simp only [Bool.not_eq_true', List.any_eq_false, decide_eq_true_eq] at hf
  have hi : 0 ≤ i ∧ i < (pan.length : Int) := by
    rcases ht with rfl | ht
    · exact hb
    · exact row_bel h ht
  refine hf i ?_ (List.mem_filter.mpr ⟨mem_upto.mpr hi, decide_eq_true hs⟩)
  rcases ht with rfl | ht
  · simp
  · simp [ht]
theorem erase_idx : ∀ (l : List Int) (a : Int), l.eraseIdx (l.idxOf a) = l.erase a
  | [], a => rfl
  | b :: l, a => by
    rw [List.idxOf_cons, List.erase_cons]
    by_cases e : b = a
    · simp [e]
    · have e2 : (b == a) = false := by simpa using e
      rw [e2]
      show b :: l.eraseIdx (l.idxOf a) = b :: l.erase a
      rw [erase_idx l a]
theorem ord_loop {pan : List (List Int)} (h : PanN pan) {R L : List Int} (hL : ∀ x ∈ L, wAft pan R x = "on") (hLb : Bel pan.length L) (hLn : L.length ≤ 10)
    {c : List Int × List Int → Mt ST Bool} {body : List Int × List Int → Mt ST (Lp (List Int × List Int) (Option (List Int)))} (hc : ∀ z, c z = mpure (!decide (z.2 = [])))
    (hb : ∀ order left, Bel pan.length left → left.length ≤ 10 → body (order, left) = mbind (mpure (left.filter fun x => !left.any fun o => decide (x ∈ rowAt pan o))) fun first => if decide (first = []) = true then mpure (.rt none) else mbind (midx first 0) fun f => mbind (mapp order f) fun o2 => if f ∈ left then mpure (.nx (o2, left.eraseIdx (left.idxOf f))) else mbad) :
    ∀ (fuel : Nat) (order left : List Int), OInv pan L order left → left.length < fuel → ∃ o2, whileX c body fuel (order, left) = mpure (.inl (o2, [])) ∧ OInv pan L o2 []
  | 0, _, _, _, hf => by omega
  | fuel + 1, order, [], hO, _ => by
    unfold whileX
    rw [hc]
    exact ⟨order, rfl, hO⟩
  | fuel + 1, order, a :: left, hO, hf => by
    have hsub : ∀ x ∈ a :: left, x ∈ L := fun x hx => hO.perm.mem_iff.mp (List.mem_append.mpr (.inr hx))
    have hlen := hO.perm.length_eq
    rw [List.length_append] at hlen
    unfold whileX
    rw [hc, mbind_pure]
    simp only [reduceCtorEq, decide_false, Bool.not_false, if_true]
    rw [hb order (a :: left) (fun x hx => hLb x (hsub x hx)) (by omega), mbind_pure]
    obtain ⟨x, hx, hxr⟩ := first_on h.hself R (a :: left) (by simp) fun x hx => hL x (hsub x hx)
    obtain ⟨first, ef⟩ : ∃ first, ((a :: left).filter fun x => !(a :: left).any fun o => decide (x ∈ rowAt pan o)) = first := ⟨_, rfl⟩
    have hxf : x ∈ first := by
      rw [← ef, List.mem_filter]
      refine ⟨hx, ?_⟩
      simp only [Bool.not_eq_true', List.any_eq_false, decide_eq_true_eq]
      exact hxr
    rw [ef]
    cases first with
    | nil => exact nomatch hxf
    | cons f fs =>
      have hf2 : f ∈ (a :: left).filter fun x => !(a :: left).any fun o => decide (x ∈ rowAt pan o) := by rw [ef]; simp
      obtain ⟨hfl, hfr⟩ := List.mem_filter.mp hf2
      simp only [Bool.not_eq_true', List.any_eq_false, decide_eq_true_eq] at hfr
      rw [if_neg (by simp), midx_cons0, mbind_pure, mapp_ok (by omega), mbind_pure, if_pos hfl, mbind_pure, erase_idx]
      have hl2 : ((a :: left).erase f).length = left.length := by
        rw [List.length_erase_of_mem hfl, List.length_cons]
        omega
      rw [List.length_cons] at hf
      exact ord_loop h hL hLb hLn hc hb fuel (order ++ [f]) ((a :: left).erase f) (hO.step hfl hfr) (by omega)
theorem ord_ok {pan : List (List Int)} (h : PanN pan) {R L : List Int} (hL : ∀ x ∈ L, wAft pan R x = "on") (hLb : Bel pan.length L) (hLn : L.length ≤ 10) : ∃ order, p_ordered (S := ST) pan L = mpure (some order) ∧ OInv pan L order [] := by
  unfold p_ordered
  simp only [mbind_pure]
  obtain ⟨o, e, hO⟩ := ord_loop h hL hLb hLn (c := fun (vz2 : (List Int) × (List Int)) => mpure (!decide (vz2.2 = ([] : (List Int)))))
    (body := fun (vz2 : (List Int) × (List Int)) => mbind (calmly (compG (fun (vx3 : Int) => mbind (mbind (mbind (calmly (compG (fun (vx4 : Int) => mpure true) (fun (vx4 : Int) => mbind (midx pan vx4) fun vx5 => mpure (decide (vx3 ∈ vx5))) vz2.2)) fun vx7 => mpure (vx7.any id)) fun vx8 => mpure vx8) fun vb9 => mpure (!vb9)) (fun (vx3 : Int) => mpure vx3) vz2.2)) fun vfirst11 => if (decide (vfirst11 = ([] : (List Int)))) = true then (mpure (.rt (none : Option (List Int)))) else (mbind (mbind (midx vfirst11 (0 : Int)) fun vx15 => mapp vz2.1 vx15) fun vorder14 => mbind (mbind (midx vfirst11 (0 : Int)) fun vx17 => if vx17 ∈ vz2.2 then mpure (vz2.2.eraseIdx (vz2.2.idxOf vx17)) else mbad) fun vleft16 => mpure (.nx (vorder14, vleft16))))
    (fun z => rfl) (fun order left hb hl => by
      dsimp only
      rw [compG_id (fun x => !left.any fun o => decide (x ∈ rowAt pan o)) (by omega) fun x hx => ?_, calmly_pure', mbind_pure, mbind_pure]
      · cases left.filter (fun x => !left.any fun o => decide (x ∈ rowAt pan o)) with
        | nil => rfl
        | cons f fs =>
          rw [if_neg (by simp), if_neg (by simp), midx_cons0]
          simp only [mbind_pure, mbind_assoc]
          congr 1
          funext o2
          split <;> rfl
      · rw [compG_pure (fun _ => true) (fun o => decide (x ∈ rowAt pan o)) (by omega) (fun _ _ => rfl) (fun o ho _ => by rw [midx_row (hb o ho).1 (hb o ho).2, mbind_pure]), calmly_pure', mbind_pure, mbind_pure, mbind_pure, filter_true, List.any_map]
        rfl) 1000 [] L ⟨by simp, fun p x q e => by simp at e, fun _ hx => nomatch hx⟩ (by omega)
  exact ⟨o, by rw [e] <;> rfl, hO⟩

theorem eff_at {pan : List (List Int)} (R : List Int) {i : Int} (h : 0 ≤ i ∧ i < (pan.length : Int)) : midx (S := ST) (eff pan R) i = mpure (wAft pan R i) := by
  refine midx_ok h.1 ?_
  have e : ((i.toNat : Nat) : Int) = i := by omega
  unfold eff
  rw [List.getElem?_map, upto_get, if_pos (by omega), e] <;> rfl
theorem nodup_bel {n : Nat} {l : List Int} (hn : l.Nodup) (h : Bel n l) : l.length ≤ n := by
  have := nodup_len_sub hn (m := upto n) fun a ha => mem_upto.mpr (h a ha)
  rwa [upto_length] at this
theorem GInv.bel {pan : List (List Int)} (h : PanN pan) {R order done waiting gathered helpers : List Int} {free : Int → Prop} (g : GInv pan R order free done waiting gathered helpers) : Bel pan.length gathered ∧ Bel pan.length helpers :=
  have h1 : Bel pan.length gathered := fun i hi => let ⟨z, hz, _⟩ := g.rel i hi; row_bel h hz
  ⟨h1, fun i hi => h1 i ((g.hel i).mp hi).1⟩
theorem gat_loop {pan : List (List Int)} (h : PanN pan) {R order : List Int} {free : Int → Bool} (ho : Bel pan.length order) (hon : order.length ≤ 10)
    {c : List Int × List Int × List Int → Mt ST Bool} {body : List Int × List Int × List Int → Mt ST (List Int × List Int × List Int)} (hc : ∀ z, c z = mpure (!decide (z.1 = [])))
    (hb : ∀ b rest gathered helpers, (0 ≤ b ∧ b < (pan.length : Int)) → rest.length ≤ 100 → gathered.length ≤ 10 → helpers.length ≤ 10 → ∀ new, new = (rowAt pan b).filter (fun i => decide (wAft pan R i = "off") && !decide (i ∈ gathered)) → body (b :: rest, gathered, helpers) = mpure (rest ++ new.filter free, gathered ++ new, helpers ++ new.filter free)) :
    ∀ (fuel : Nat) (done waiting gathered helpers : List Int), GInv pan R order (fun i => free i = true) done waiting gathered helpers → 20 < done.length + fuel → ∃ d2 g2 h2, whileU c body fuel (waiting, gathered, helpers) = mpure ([], g2, h2) ∧ GInv pan R order (fun i => free i = true) d2 [] g2 h2
  | 0, done, waiting, gathered, helpers, g, hf => by
    have hle := h.le
    have hl := congrArg List.length g.split
    rw [List.length_append, List.length_append] at hl
    have := nodup_bel g.ndh (g.bel h).2
    omega
  | fuel + 1, done, [], gathered, helpers, g, hf => by
    unfold whileU
    rw [hc]
    exact ⟨done, gathered, helpers, rfl, g⟩
  | fuel + 1, done, b :: waiting, gathered, helpers, g, hf => by
    have hle := h.le
    have hl := congrArg List.length g.split
    rw [List.length_append, List.length_append, List.length_cons] at hl
    have hh := nodup_bel g.ndh (g.bel h).2
    have hg := nodup_bel g.nd (g.bel h).1
    have hbm : b ∈ order ++ helpers := by rw [g.split]; simp
    have hbr : 0 ≤ b ∧ b < (pan.length : Int) := by
      rcases List.mem_append.mp hbm with q | q
      · exact ho b q
      · exact (g.bel h).2 b q
    unfold whileU
    rw [hc, mbind_pure]
    simp only [reduceCtorEq, decide_false, Bool.not_false, if_true]
    rw [hb b waiting gathered helpers hbr (by omega) (by omega) (by omega) _ rfl, mbind_pure]
    exact gat_loop h ho hon hc hb fuel (done ++ [b]) _ _ _ (g.step (h.rnd b) rfl) (by rw [List.length_append, List.length_singleton]; omega)
theorem gat_ok {pan : List (List Int)} (h : PanN pan) {R order freeL : List Int} (ho : Bel pan.length order) (hon : order.length ≤ 10) : ∃ d2 g2 h2, p_gather (S := ST) pan (eff pan R) freeL order = mpure (g2, h2) ∧ GInv pan R order (fun i => decide (i ∈ freeL) = true) d2 [] g2 h2 := by
  unfold p_gather
  have hmo : ∀ {β : Type} (k : List Int → Mt ST β), mbind (mopt (some order)) k = k order := fun k => rfl
  simp only [mbind_pure, mbind_assoc, hmo]
  obtain ⟨d2, g2, h2, e, g⟩ := gat_loop h (R := R) (free := fun i => decide (i ∈ freeL)) ho hon (c := fun (vz4 : (List Int) × (List Int) × (List Int)) => mpure (!decide (vz4.1 = ([] : (List Int)))))
    (body := fun (vz4 : (List Int) × (List Int) × (List Int)) => mbind (mpopAt vz4.1 0) fun vbutton6 => mbind (midx pan vbutton6.1) fun vxs10 => mbind (calmly (compG (fun (vx7 : Int) => mbind (midx (eff pan R) vx7) fun vx8 => if (decide (vx8 = ("off" : Str))) = true then mpure (!decide (vx7 ∈ vz4.2.1)) else mpure false) (fun (vx7 : Int) => mpure vx7) vxs10)) fun vnew11 => mbind (mcat vz4.2.1 vnew11) fun vgathered12 => mbind (compV (fun (vx15 : Int) => (decide (vx15 ∈ freeL))) (fun (vx15 : Int) => vx15) vnew11) fun vx17 => mbind (mcat vbutton6.2 vx17) fun vwaiting14 => mbind (compV (fun (vx19 : Int) => (decide (vx19 ∈ freeL))) (fun (vx19 : Int) => vx19) vnew11) fun vx21 => mbind (mcat vz4.2.2 vx21) fun vhelpers18 => mpure (vwaiting14, vgathered12, vhelpers18))
    (fun z => rfl) (fun b rest gathered helpers hbr hl1 hl2 hl3 new en => by
      have hr := h.len _ (h.row hbr.1 hbr.2)
      have hn : new.length ≤ 10 := by rw [en]; exact Nat.le_trans (List.length_filter_le _ _) hr
      have hnf : (new.filter fun i => decide (i ∈ freeL)).length ≤ 10 := Nat.le_trans (List.length_filter_le _ _) hn
      have e0 : mpopAt (S := ST) (b :: rest) 0 = mpure (b, rest) := rfl
      show mbind (mpopAt (b :: rest) 0) _ = _
      rw [e0, mbind_pure]
      dsimp only
      rw [midx_row hbr.1 hbr.2, mbind_pure, compG_id (fun i => decide (wAft pan R i = "off") && !decide (i ∈ gathered)) (by omega) fun x hx => ?_, calmly_pure', mbind_pure, ← en, mcat_ok (by omega), mbind_pure, compV_ok (by omega), mbind_pure, List.map_id', mcat_ok (by omega), mbind_pure, mbind_pure, mcat_ok (by omega), mbind_pure]
      rw [eff_at R (row_bel h hx), mbind_pure]
      by_cases hw : wAft pan R x = "off"
      · rw [decide_eq_true hw] <;> rfl
      · rw [decide_eq_false hw] <;> rfl) 1000 [] order [] [] GInv.start (by simp)
  exact ⟨d2, g2, h2, by rw [e] <;> rfl, g⟩
theorem lay_word {pan : List (List Int)} {R : List Int} (y : Str) (hy : y = "on" ∨ y = "off" ∨ y = "same") : ∀ x ∈ y :: eff pan R, (toP (eS x)).canLay0 = true := by
  have key : ∀ w : Str, w = "on" ∨ w = "off" ∨ w = "same" → (toP (eS w)).canLay0 = true := by
    rintro w (rfl | rfl | rfl) <;> (show PyData.canLay0 (.str _) = true; rw [PyData.canLay0]; decide +kernel)
  intro x hx
  rcases List.mem_cons.mp hx with rfl | hx
  · exact key x hy
  · unfold eff at hx
    obtain ⟨i, _, rfl⟩ := List.mem_map.mp hx
    exact key _ (word_cases pan R i)
theorem eff_count (pan : List (List Int)) (R : List Int) (y : Str) : (eff pan R).count y = ((upto pan.length).filter fun i => decide (wAft pan R i = y)).length := by
  unfold eff
  rw [List.count_eq_countP, List.countP_map, List.countP_eq_length_filter]
  congr 1
/-! ### k14: values of any kind, as effects -/
theorem kb_Non_tuple : kitB "NoneType" "tuple" = some false := by decide +kernel
theorem kb_dict_tuple : kitB "dict" "tuple" = some false := by decide +kernel
theorem kb_Non_str : kitB "NoneType" "str" = some false := by decide +kernel
theorem kb_dict_str : kitB "dict" "str" = some false := by decide +kernel
theorem isRs_mem : ∀ {xs : List D}, isRs xs = true → ∀ x ∈ xs, isR x = true
  | [], _, _, h => nomatch h
  | a :: xs, h, x, hx => by
    rw [isRs, Bool.and_eq_true] at h
    rcases List.mem_cons.mp hx with rfl | hx
    · exact h.1
    · exact isRs_mem h.2 x hx
def wdB (d : D) : Bool := match d with
  | .str y => decide (y ∈ [("on" : Str), ("off" : Str), ("same" : Str)])
  | _ => false
def fmB (n : Nat) (d : D) : Bool := match d with
  | .tup xs => decide (xs.length = n) && xs.all wdB
  | _ => false
theorem misi_tupT {S : Type} (xs : List D) : misiD (S := S) "tuple" (.tup xs) = mpure true := by
  show (match kitB "tuple" "tuple" with | some b => mpure b | none => mbad) = _
  rw [kb_tuple_tuple]
theorem tup_or {S : Type} {d : D} (h : isR d = true) : (∃ xs, d = .tup xs) ∨ (misiD (S := S) "tuple" d = mpure false ∧ ∀ n, fmB n d = false) := by
  cases d with
  | tup xs => exact .inl ⟨xs, rfl⟩
  | non => exact .inr ⟨by
      show (match kitB "NoneType" "tuple" with | some b => mpure b | none => mbad : Mt S Bool) = _
      rw [kb_Non_tuple], fun _ => rfl⟩
  | bl _ => exact .inr ⟨by
      show (match kitB "bool" "tuple" with | some b => mpure b | none => mbad : Mt S Bool) = _
      rw [kb_bool_tuple], fun _ => rfl⟩
  | int _ => exact .inr ⟨by
      show (match kitB "int" "tuple" with | some b => mpure b | none => mbad : Mt S Bool) = _
      rw [kb_int_tuple], fun _ => rfl⟩
  | str _ => exact .inr ⟨by
      show (match kitB "str" "tuple" with | some b => mpure b | none => mbad : Mt S Bool) = _
      rw [kb_str_tuple], fun _ => rfl⟩
  | lst _ => exact .inr ⟨by
      show (match kitB "list" "tuple" with | some b => mpure b | none => mbad : Mt S Bool) = _
      rw [kb_list_tuple], fun _ => rfl⟩
  | sd _ => exact .inr ⟨by
      show (match kitB "dict" "tuple" with | some b => mpure b | none => mbad : Mt S Bool) = _
      rw [kb_dict_tuple], fun _ => rfl⟩
  | _ => simp [isR] at h
theorem str_or {S : Type} {d : D} (h : isR d = true) : (∃ w, d = .str w ∧ misiD (S := S) "str" d = mpure true) ∨ (misiD (S := S) "str" d = mpure false ∧ wdB d = false) := by
  cases d with
  | str w => exact .inl ⟨w, rfl, by
      show (match kitB "str" "str" with | some b => mpure b | none => mbad : Mt S Bool) = _
      rw [kb_str_str]⟩
  | non => exact .inr ⟨by
      show (match kitB "NoneType" "str" with | some b => mpure b | none => mbad : Mt S Bool) = _
      rw [kb_Non_str], rfl⟩
  | bl _ => exact .inr ⟨by
      show (match kitB "bool" "str" with | some b => mpure b | none => mbad : Mt S Bool) = _
      rw [kb_bool_str], rfl⟩
  | int _ => exact .inr ⟨by
      show (match kitB "int" "str" with | some b => mpure b | none => mbad : Mt S Bool) = _
      rw [kb_int_str], rfl⟩
  | tup _ => exact .inr ⟨by
      show (match kitB "tuple" "str" with | some b => mpure b | none => mbad : Mt S Bool) = _
      rw [kb_tuple_str], rfl⟩
  | lst _ => exact .inr ⟨by
      show (match kitB "list" "str" with | some b => mpure b | none => mbad : Mt S Bool) = _
      rw [kb_list_str], rfl⟩
  | sd _ => exact .inr ⟨by
      show (match kitB "dict" "str" with | some b => mpure b | none => mbad : Mt S Bool) = _
      rw [kb_dict_str], rfl⟩
  | _ => simp [isR] at h
theorem form_ok {pan : List (List Int)} (h : PanN pan) {v : D} (hv : isR v = true) : p_is_effect_form (S := ST) pan v = mpure (fmB pan.length v) := by
  have hle := h.le
  unfold p_is_effect_form
  simp only [mbind_pure]
  rcases tup_or (S := ST) hv with ⟨xs, rfl⟩ | ⟨e, hf⟩
  · rw [misi_tupT]
    rw [show mcastT (S := ST) (.tup xs) = mpure xs from rfl]
    simp only [mbind_pure, Bool.not_true, Bool.false_eq_true, if_false]
    have hr := isRs_mem (xs := xs) (by rwa [isR] at hv)
    show _ = mpure (decide (xs.length = pan.length) && xs.all wdB)
    by_cases q : xs.length = pan.length
    · rw [decide_eq_true (show (xs.length : Int) = (pan.length : Int) by omega), decide_eq_true q]
      simp only [Bool.not_true, Bool.false_eq_true, if_false, Bool.true_and]
      rw [compM_pure wdB (by omega) (fun x hx _ => ?_), filter_true, calmly_pure', mbind_pure]
      · congr 1
        show (xs.map wdB).all id = xs.all wdB
        rw [List.all_map] <;> rfl
      · rcases str_or (S := ST) (hr x hx) with ⟨w, rfl, e1⟩ | ⟨e1, e2⟩
        · rw [e1, mbind_pure, if_pos rfl]
          rfl
        · rw [e1, mbind_pure, if_neg (by decide), e2]
    · rw [decide_eq_false (show ¬ (xs.length : Int) = (pan.length : Int) by omega), decide_eq_false q]
      rfl
  · rw [e, hf]
    rfl
theorem wd_word {d : D} (h : wdB d = true) : ∃ y : Str, d = eS y ∧ y ∈ [("on" : Str), ("off" : Str), ("same" : Str)] := by
  cases d with
  | str y => exact ⟨y, rfl, of_decide_eq_true h⟩
  | _ => cases h
theorem fm_words {n : Nat} {d : D} (h : fmB n d = true) : ∃ E : List Str, d = eT eS E ∧ E.length = n ∧ ∀ y ∈ E, y ∈ [("on" : Str), ("off" : Str), ("same" : Str)] := by
  cases d with
  | tup xs =>
    have h : (decide (xs.length = n) && xs.all wdB) = true := h
    rw [Bool.and_eq_true, decide_eq_true_eq, List.all_eq_true] at h
    have key : ∀ xs : List D, (∀ x ∈ xs, wdB x = true) → ∃ E : List Str, xs = E.map eS ∧ ∀ y ∈ E, y ∈ [("on" : Str), ("off" : Str), ("same" : Str)] := by
      intro xs
      induction xs with
      | nil => exact fun _ => ⟨[], rfl, fun _ h => nomatch h⟩
      | cons x xs ih =>
        intro hx
        obtain ⟨y, e, hy⟩ := wd_word (hx x (by simp))
        obtain ⟨E, e2, hE⟩ := ih fun z hz => hx z (by simp [hz])
        exact ⟨y :: E, by rw [e, e2] <;> rfl, fun z hz => by
          rcases List.mem_cons.mp hz with q | q
          · rw [q]; exact hy
          · exact hE z q⟩
    obtain ⟨E, e, hE⟩ := key xs h.2
    exact ⟨E, by rw [e] <;> rfl, by rw [← h.1, e, List.length_map], hE⟩
  | _ => cases h
theorem fm_eT {n : Nat} {E : List Str} (hl : E.length = n) (h : ∀ y ∈ E, y ∈ [("on" : Str), ("off" : Str), ("same" : Str)]) : fmB n (eT eS E) = true := by
  show (decide ((E.map eS).length = n) && (E.map eS).all wdB) = true
  rw [Bool.and_eq_true, decide_eq_true_eq, List.all_eq_true, List.length_map]
  refine ⟨hl, fun x hx => ?_⟩
  obtain ⟨y, hy, rfl⟩ := List.mem_map.mp hx
  exact decide_eq_true (h y hy)
theorem eff_word (pan : List (List Int)) (R : List Int) : ∀ y ∈ eff pan R, y ∈ [("on" : Str), ("off" : Str), ("same" : Str)] := fun y hy => by
  unfold eff at hy
  obtain ⟨i, _, rfl⟩ := List.mem_map.mp hy
  rcases word_cases pan R i with q | q | q <;> rw [q] <;> simp
theorem words_isR (E : List Str) : isR (eT eS E) = true := isR_of _ (Pl.p (e := eT eS) E)
theorem no_row {pan : List (List Int)} (h : PanN pan) {v : D} (hv : isR v = true) (hf : fmB pan.length v = false) : p_row_for (S := ST) pan v = mpure none := by
  unfold p_row_for
  rw [form_ok h hv, hf]
  rfl
/-! ### k14: a row for each effect of a row -/
theorem row_for_ok {pan : List (List Int)} (h : PanN pan) {R : List Int} (hR : Bel pan.length R) : ∃ row, p_row_for (S := ST) pan (eT eS (eff pan R)) = mpure (some row) ∧ eff pan row = eff pan R ∧ row.length ≤ pan.length ∧ Bel pan.length row := by
  have hle := h.le
  obtain ⟨L, eL⟩ : ∃ L, (upto pan.length).filter (fun i => decide (wAft pan R i = "on")) = L := ⟨_, rfl⟩
  have hLm : ∀ i, i ∈ L ↔ wAft pan R i = "on" := fun i => by
    rw [← eL, List.mem_filter, mem_upto, decide_eq_true_eq]
    exact ⟨fun q => q.2, fun q => ⟨hR i (on_mem q), q⟩⟩
  have hLb : Bel pan.length L := fun i hi => hR i (on_mem ((hLm i).mp hi))
  have hLn : L.Nodup := by rw [← eL]; exact (nodup_upto _).sublist List.filter_sublist
  have hLl := nodup_bel hLn hLb
  obtain ⟨order, eo, hO⟩ := ord_ok h (fun x hx => (hLm x).mp hx) hLb (by omega)
  have hp := hO.perm
  rw [List.append_nil] at hp
  have hob : Bel pan.length order := fun i hi => hLb i (hp.mem_iff.mp hi)
  have hol : order.length ≤ 10 := by rw [hp.length_eq]; omega
  obtain ⟨freeL, efr⟩ : ∃ freeL, (upto pan.length).filter (freeB pan R) = freeL := ⟨_, rfl⟩
  obtain ⟨d2, g2, h2, eg, hG⟩ := gat_ok h (R := R) (freeL := freeL) hob hol
  have hfm : ∀ i, decide (i ∈ freeL) = true ↔ (0 ≤ i ∧ i < (pan.length : Int)) ∧ freeB pan R i = true := fun i => by rw [decide_eq_true_eq, ← efr, List.mem_filter, mem_upto]
  obtain ⟨hW, hgath⟩ := words_of h.hself hO hLm hLn hG (fun b hb => (hfm b).mpr ⟨hR b hb, free_pressed hb⟩) fun b hb i ht => free_same h hR ((hfm b).mp hb).1 ((hfm b).mp hb).2 i ht
  have hb2 := hG.bel h
  have hnd : (h2.reverse ++ order).Nodup := by
    rw [List.nodup_append]
    refine ⟨(List.reverse_perm h2).nodup_iff.mpr hG.ndh, hW.ndo, fun a ha c hc q => ?_⟩
    subst q
    have h1 := hW.off a (List.mem_reverse.mp ha)
    rw [hW.on a hc] at h1
    exact absurd h1 (by decide)
  have hbel : Bel pan.length (h2.reverse ++ order) := fun a ha => by
    rcases List.mem_append.mp ha with q | q
    · exact hb2.2 a (List.mem_reverse.mp q)
    · exact hob a q
  have hlen := nodup_bel hnd hbel
  refine ⟨h2.reverse ++ order, ?_, ?_, hlen, hbel⟩
  · have hall : (L.map fun v => decide (v ∈ freeL)).all id = true := by
      rw [List.all_map, List.all_eq_true]
      intro i hi
      exact (hfm i).mpr ⟨hLb i hi, free_pressed (on_mem ((hLm i).mp hi))⟩
    have hcnt : (g2.length : Int) = (((eff pan R).count ("off" : Str) : Nat) : Int) := by
      rw [eff_count]
      have : g2.Perm ((upto pan.length).filter fun i => decide (wAft pan R i = "off")) := (List.perm_ext_iff_of_nodup hG.nd ((nodup_upto _).sublist List.filter_sublist)).mpr fun i => by
        rw [hgath i, List.mem_filter, mem_upto, decide_eq_true_eq]
        exact ⟨fun q => ⟨hb2.1 i ((hgath i).mpr q), q⟩, fun q => q.2⟩
      rw [this.length_eq]
    have hmo : ∀ {β : Type} (k : List Int → Mt ST β), mbind (mopt (some order)) k = k order := fun k => rfl
    have hlat : compV (S := ST) (fun (vx6 : (Int × Str)) => (decide (vx6.2 = ("on" : Str)))) (fun (vx6 : (Int × Str)) => vx6.1) (enumZ 0 (eff pan R)) = mpure L := by
      unfold eff
      rw [enumZ_upto, compV_ok (by rw [List.length_map, upto_length]; omega), sel_ok pan.length (wAft pan R) (fun w => decide (w = "on")), eL]
    have hl3 : h2.reverse.length + order.length ≤ 100000 := by
      rw [List.length_append] at hlen
      omega
    unfold p_row_for
    rw [form_ok h (words_isR _), fm_eT (eff_len pan R) (eff_word pan R)]
    simp only [mbind_pure, mbind_assoc, Bool.not_true, Bool.false_eq_true, if_false, castW_e]
    rw [free_ok h R, efr]
    simp only [mbind_pure, mbind_assoc]
    rw [hlat, mbind_pure, eo, mbind_pure]
    simp only [Option.isNone_some, Bool.false_eq_true, if_false]
    rw [compV_ok (by omega), mbind_pure, filter_true, hall]
    simp only [mbind_pure, Bool.not_true, Bool.false_eq_true, if_false]
    simp only [hmo, castW_e, mbind_pure]
    rw [eg, mbind_pure, mcount_ok (lay_word "off" (.inr (.inl rfl))), mbind_pure, hcnt]
    simp only [decide_true, if_true, hmo]
    rw [mdisp_ok (by rw [List.length_append]; exact hl3)] <;> rfl
  · unfold eff
    congr 1
    funext i
    exact words_row hW h.hself i
/-! ### k14: a row that is found has the effect -/
/-- ordered, of any buttons -/
structure OrS (pan : List (List Int)) (L order left : List Int) : Prop where
  perm : (order ++ left).Perm L
  ord : ∀ pre b post, order = pre ++ b :: post → ∀ o ∈ post ++ left, b ∉ rowAt pan o
theorem OrS.step {pan : List (List Int)} {L order left : List Int} (h : OrS pan L order left) {f : Int} (hf : f ∈ left) (hr : ∀ y ∈ left, f ∉ rowAt pan y) : OrS pan L (order ++ [f]) (left.erase f) := by
  have hp : (f :: left.erase f).Perm left := (List.perm_cons_erase hf).symm
  refine ⟨?_, fun pre b post e o ho => ?_⟩
  · rw [List.append_assoc]
    exact (hp.append_left order).trans h.perm
  · rcases List.eq_nil_or_concat post with rfl | ⟨q, z, rfl⟩
    · have e2 := List.append_inj' e rfl
      have eb : f = b := by simpa using e2.2
      subst eb
      rw [List.nil_append] at ho
      exact hr o (List.mem_of_mem_erase ho)
    · have e2 : order ++ [f] = (pre ++ b :: q) ++ [z] := by rw [e]; simp
      have e3 := List.append_inj' e2 rfl
      have ez : f = z := by simpa using e3.2
      subst ez
      refine h.ord pre b q e3.1 o ?_
      have ho : o ∈ q ++ [f] ++ left.erase f := by simpa using ho
      rcases List.mem_append.mp ho with c | c
      · rcases List.mem_append.mp c with c | c
        · exact List.mem_append_left _ c
        · rw [List.mem_singleton.mp c]
          exact List.mem_append_right _ hf
      · exact List.mem_append_right _ (List.mem_of_mem_erase c)
theorem os_loop {pan : List (List Int)} {L : List Int} (hLb : Bel pan.length L) (hLn : L.length ≤ 10)
    {c : List Int × List Int → Mt ST Bool} {body : List Int × List Int → Mt ST (Lp (List Int × List Int) (Option (List Int)))} (hc : ∀ z, c z = mpure (!decide (z.2 = [])))
    (hb : ∀ order left, Bel pan.length left → left.length ≤ 10 → body (order, left) = mbind (mpure (left.filter fun x => !left.any fun o => decide (x ∈ rowAt pan o))) fun first => if decide (first = []) = true then mpure (.rt none) else mbind (midx first 0) fun f => mbind (mapp order f) fun o2 => if f ∈ left then mpure (.nx (o2, left.eraseIdx (left.idxOf f))) else mbad) :
    ∀ (fuel : Nat) (order left : List Int), OrS pan L order left → left.length < fuel → (∃ o2, whileX c body fuel (order, left) = mpure (.inl (o2, [])) ∧ OrS pan L o2 []) ∨ whileX c body fuel (order, left) = mpure (.inr none)
  | 0, _, _, _, hf => by omega
  | fuel + 1, order, [], hO, _ => by
    unfold whileX
    rw [hc]
    exact .inl ⟨order, rfl, hO⟩
  | fuel + 1, order, a :: left, hO, hf => by
    have hsub : ∀ x ∈ a :: left, x ∈ L := fun x hx => hO.perm.mem_iff.mp (List.mem_append.mpr (.inr hx))
    have hlen := hO.perm.length_eq
    rw [List.length_append] at hlen
    unfold whileX
    rw [hc, mbind_pure]
    simp only [reduceCtorEq, decide_false, Bool.not_false, if_true]
    rw [hb order (a :: left) (fun x hx => hLb x (hsub x hx)) (by omega), mbind_pure]
    obtain ⟨first, ef⟩ : ∃ first, ((a :: left).filter fun x => !(a :: left).any fun o => decide (x ∈ rowAt pan o)) = first := ⟨_, rfl⟩
    rw [ef]
    cases first with
    | nil =>
      rw [if_pos (by simp)]
      exact .inr rfl
    | cons f fs =>
      have hf2 : f ∈ (a :: left).filter fun x => !(a :: left).any fun o => decide (x ∈ rowAt pan o) := by rw [ef]; simp
      obtain ⟨hfl, hfr⟩ := List.mem_filter.mp hf2
      simp only [Bool.not_eq_true', List.any_eq_false, decide_eq_true_eq] at hfr
      rw [if_neg (by simp), midx_cons0, mbind_pure, mapp_ok (by omega), mbind_pure, if_pos hfl, mbind_pure, erase_idx]
      have hl2 : ((a :: left).erase f).length = left.length := by
        rw [List.length_erase_of_mem hfl, List.length_cons]
        omega
      rw [List.length_cons] at hf
      exact os_loop hLb hLn hc hb fuel (order ++ [f]) ((a :: left).erase f) (hO.step hfl hfr) (by omega)
theorem os_ok {pan : List (List Int)} {L : List Int} (hLb : Bel pan.length L) (hLn : L.length ≤ 10) : ∃ o, p_ordered (S := ST) pan L = mpure o ∧ ∀ order, o = some order → OrS pan L order [] := by
  unfold p_ordered
  simp only [mbind_pure]
  have key := os_loop hLb hLn (c := fun (vz2 : (List Int) × (List Int)) => mpure (!decide (vz2.2 = ([] : (List Int)))))
    (body := fun (vz2 : (List Int) × (List Int)) => mbind (calmly (compG (fun (vx3 : Int) => mbind (mbind (mbind (calmly (compG (fun (vx4 : Int) => mpure true) (fun (vx4 : Int) => mbind (midx pan vx4) fun vx5 => mpure (decide (vx3 ∈ vx5))) vz2.2)) fun vx7 => mpure (vx7.any id)) fun vx8 => mpure vx8) fun vb9 => mpure (!vb9)) (fun (vx3 : Int) => mpure vx3) vz2.2)) fun vfirst11 => if (decide (vfirst11 = ([] : (List Int)))) = true then (mpure (.rt (none : Option (List Int)))) else (mbind (mbind (midx vfirst11 (0 : Int)) fun vx15 => mapp vz2.1 vx15) fun vorder14 => mbind (mbind (midx vfirst11 (0 : Int)) fun vx17 => if vx17 ∈ vz2.2 then mpure (vz2.2.eraseIdx (vz2.2.idxOf vx17)) else mbad) fun vleft16 => mpure (.nx (vorder14, vleft16))))
    (fun z => rfl) (fun order left hb hl => by
      dsimp only
      rw [compG_id (fun x => !left.any fun o => decide (x ∈ rowAt pan o)) (by omega) fun x hx => ?_, calmly_pure', mbind_pure, mbind_pure]
      · cases left.filter (fun x => !left.any fun o => decide (x ∈ rowAt pan o)) with
        | nil => rfl
        | cons f fs =>
          rw [if_neg (by simp), if_neg (by simp), midx_cons0]
          simp only [mbind_pure, mbind_assoc]
          congr 1
          funext o2
          split <;> rfl
      · rw [compG_pure (fun _ => true) (fun o => decide (x ∈ rowAt pan o)) (by omega) (fun _ _ => rfl) (fun o ho _ => by rw [midx_row (hb o ho).1 (hb o ho).2, mbind_pure]), calmly_pure', mbind_pure, mbind_pure, mbind_pure, filter_true, List.any_map]
        rfl) 1000 [] L ⟨by simp, fun pre b post e => by cases pre <;> cases e⟩ (by omega)
  rcases key with ⟨o2, e, hO⟩ | e
  · rw [e]
    exact ⟨some o2, rfl, fun order q => by cases q; exact hO⟩
  · rw [e]
    exact ⟨none, rfl, fun order q => nomatch q⟩
/-- gather, for any words -/
structure GW (pan : List (List Int)) (w : Int → Str) (free : Int → Bool) (order done waiting g hp : List Int) : Prop where
  nd : g.Nodup
  bel : Bel pan.length g
  off : ∀ a ∈ g, w a = "off"
  hpe : hp = g.filter free
  src : ∀ pre a post, g = pre ++ a :: post → ∃ x, (x ∈ order ∨ (x ∈ pre ∧ free x = true)) ∧ a ∈ rowAt pan x
  split : order ++ hp = done ++ waiting
theorem GW.step {pan : List (List Int)} (h : PanN pan) {w : Int → Str} {free : Int → Bool} {order done waiting g hp : List Int} {b : Int} (s : GW pan w free order done (b :: waiting) g hp) {new : List Int} (en : new = (rowAt pan b).filter fun i => decide (w i = "off") && !decide (i ∈ g)) : GW pan w free order (done ++ [b]) (waiting ++ new.filter free) (g ++ new) (hp ++ new.filter free) := by
  have hm : ∀ a, a ∈ new ↔ a ∈ rowAt pan b ∧ w a = "off" ∧ a ∉ g := fun a => by
    rw [en, List.mem_filter, Bool.and_eq_true, decide_eq_true_eq]
    simp
  have hbm : b ∈ order ∨ (b ∈ g ∧ free b = true) := by
    have : b ∈ order ++ hp := by rw [s.split]; simp
    rcases List.mem_append.mp this with q | q
    · exact .inl q
    · rw [s.hpe] at q
      exact .inr (List.mem_filter.mp q)
  refine ⟨List.nodup_append.mpr ⟨s.nd, by rw [en]; exact (h.rnd b).sublist List.filter_sublist, fun a ha c hc e => ((hm c).mp hc).2.2 (by rw [← e]; exact ha)⟩, fun a ha => ?_, fun a ha => ?_, by rw [List.filter_append, s.hpe], fun pre a post e => ?_, ?_⟩
  · rcases List.mem_append.mp ha with q | q
    · exact s.bel a q
    · exact row_bel h ((hm a).mp q).1
  · rcases List.mem_append.mp ha with q | q
    · exact s.off a q
    · exact ((hm a).mp q).2.1
  · rcases List.append_eq_append_iff.mp e with ⟨t, e1, e2⟩ | ⟨t, e1, e2⟩
    · have ha : a ∈ new := by rw [e2]; simp
      refine ⟨b, ?_, ((hm a).mp ha).1⟩
      rcases hbm with q | q
      · exact .inl q
      · exact .inr ⟨by rw [e1]; exact List.mem_append_left _ q.1, q.2⟩
    · cases t with
      | nil =>
        have ha : a ∈ new := by
          have : new = a :: post := by simpa using e2.symm
          rw [this]; simp
        refine ⟨b, ?_, ((hm a).mp ha).1⟩
        rcases hbm with q | q
        · exact .inl q
        · exact .inr ⟨by have := q.1; rw [e1, List.append_nil] at this; exact this, q.2⟩
      | cons c t =>
        rw [List.cons_append] at e2
        injection e2 with e3 e4
        subst e3
        exact s.src pre a t e1
  · rw [← List.append_assoc, s.split]
    simp
theorem gw_loop {pan : List (List Int)} (h : PanN pan) {w : Int → Str} {free : Int → Bool} {order : List Int} (ho : Bel pan.length order) (hon : order.length ≤ 10)
    {c : List Int × List Int × List Int → Mt ST Bool} {body : List Int × List Int × List Int → Mt ST (List Int × List Int × List Int)} (hc : ∀ z, c z = mpure (!decide (z.1 = [])))
    (hb : ∀ b rest g hp, (0 ≤ b ∧ b < (pan.length : Int)) → rest.length ≤ 100 → g.length ≤ 10 → hp.length ≤ 10 → ∀ new, new = (rowAt pan b).filter (fun i => decide (w i = "off") && !decide (i ∈ g)) → body (b :: rest, g, hp) = mpure (rest ++ new.filter free, g ++ new, hp ++ new.filter free)) :
    ∀ (fuel : Nat) (done waiting g hp : List Int), GW pan w free order done waiting g hp → 20 < done.length + fuel → ∃ d2 g2 h2, whileU c body fuel (waiting, g, hp) = mpure ([], g2, h2) ∧ GW pan w free order d2 [] g2 h2
  | 0, done, waiting, g, hp, s, hf => by
    have hle := h.le
    have hl := congrArg List.length s.split
    rw [List.length_append, List.length_append] at hl
    have := nodup_bel s.nd s.bel
    have hh : hp.length ≤ g.length := by rw [s.hpe]; exact List.length_filter_le _ _
    omega
  | fuel + 1, done, [], g, hp, s, hf => by
    unfold whileU
    rw [hc]
    exact ⟨done, g, hp, rfl, s⟩
  | fuel + 1, done, b :: waiting, g, hp, s, hf => by
    have hle := h.le
    have hl := congrArg List.length s.split
    rw [List.length_append, List.length_append, List.length_cons] at hl
    have hg := nodup_bel s.nd s.bel
    have hh : hp.length ≤ g.length := by rw [s.hpe]; exact List.length_filter_le _ _
    have hbr : 0 ≤ b ∧ b < (pan.length : Int) := by
      have : b ∈ order ++ hp := by rw [s.split]; simp
      rcases List.mem_append.mp this with q | q
      · exact ho b q
      · rw [s.hpe] at q
        exact s.bel b (List.mem_filter.mp q).1
    unfold whileU
    rw [hc, mbind_pure]
    simp only [reduceCtorEq, decide_false, Bool.not_false, if_true]
    rw [hb b waiting g hp hbr (by omega) (by omega) (by omega) _ rfl, mbind_pure]
    exact gw_loop h ho hon hc hb fuel (done ++ [b]) _ _ _ (s.step h rfl) (by rw [List.length_append, List.length_singleton]; omega)
/-- words by a function -/
def wordsW (n : Nat) (w : Int → Str) : List Str := (upto n).map w
theorem wordsW_len (n : Nat) (w : Int → Str) : (wordsW n w).length = n := by
  unfold wordsW
  rw [List.length_map, upto_length]
theorem wordsW_at {T : Type} {n : Nat} (w : Int → Str) {i : Int} (h : 0 ≤ i ∧ i < (n : Int)) : midx (S := T) (wordsW n w) i = mpure (w i) := by
  refine midx_ok h.1 ?_
  unfold wordsW
  rw [List.getElem?_map, upto_get, if_pos (by omega), Option.map_some, Int.toNat_of_nonneg h.1]
theorem words_fun {E : List Str} {n : Nat} (hl : E.length = n) : E = wordsW n fun i => E.getD i.toNat "same" := by
  unfold wordsW
  refine List.ext_getElem? fun j => ?_
  rw [List.getElem?_map]
  unfold upto
  rw [List.getElem?_map]
  by_cases hj : j < n
  · rw [List.getElem?_range hj]
    show E[j]? = some (E.getD ((j : Int)).toNat "same")
    rw [List.getD_eq_getElem?_getD, Int.toNat_natCast, List.getElem?_eq_getElem (by omega)] <;> rfl
  · rw [List.getElem?_eq_none (by omega), List.getElem?_eq_none (by rw [List.length_range]; omega)] <;> rfl
theorem gw_ok {pan : List (List Int)} (h : PanN pan) {w : Int → Str} {freeL order : List Int} (ho : Bel pan.length order) (hon : order.length ≤ 10) : ∃ d2 g2 h2, p_gather (S := ST) pan (wordsW pan.length w) freeL order = mpure (g2, h2) ∧ GW pan w (fun i => decide (i ∈ freeL)) order d2 [] g2 h2 := by
  unfold p_gather
  simp only [mbind_pure, mbind_assoc]
  obtain ⟨d2, g2, h2, e, g⟩ := gw_loop h (w := w) (free := fun i => decide (i ∈ freeL)) ho hon (c := fun (vz4 : (List Int) × (List Int) × (List Int)) => mpure (!decide (vz4.1 = ([] : (List Int)))))
    (body := fun (vz4 : (List Int) × (List Int) × (List Int)) => mbind (mpopAt vz4.1 0) fun vbutton6 => mbind (midx pan vbutton6.1) fun vxs10 => mbind (calmly (compG (fun (vx7 : Int) => mbind (midx (wordsW pan.length w) vx7) fun vx8 => if (decide (vx8 = ("off" : Str))) = true then mpure (!decide (vx7 ∈ vz4.2.1)) else mpure false) (fun (vx7 : Int) => mpure vx7) vxs10)) fun vnew11 => mbind (mcat vz4.2.1 vnew11) fun vgathered12 => mbind (compV (fun (vx15 : Int) => (decide (vx15 ∈ freeL))) (fun (vx15 : Int) => vx15) vnew11) fun vx17 => mbind (mcat vbutton6.2 vx17) fun vwaiting14 => mbind (compV (fun (vx19 : Int) => (decide (vx19 ∈ freeL))) (fun (vx19 : Int) => vx19) vnew11) fun vx21 => mbind (mcat vz4.2.2 vx21) fun vhelpers18 => mpure (vwaiting14, vgathered12, vhelpers18))
    (fun z => rfl) (fun b rest g hp hbr hl1 hl2 hl3 new en => by
      have hr := h.len _ (h.row hbr.1 hbr.2)
      have hn : new.length ≤ 10 := by rw [en]; exact Nat.le_trans (List.length_filter_le _ _) hr
      have hnf : (new.filter fun i => decide (i ∈ freeL)).length ≤ 10 := Nat.le_trans (List.length_filter_le _ _) hn
      have e0 : mpopAt (S := ST) (b :: rest) 0 = mpure (b, rest) := rfl
      show mbind (mpopAt (b :: rest) 0) _ = _
      rw [e0, mbind_pure]
      dsimp only
      rw [midx_row hbr.1 hbr.2, mbind_pure, compG_id (fun i => decide (w i = "off") && !decide (i ∈ g)) (by omega) fun x hx => ?_, calmly_pure', mbind_pure, ← en, mcat_ok (by omega), mbind_pure, compV_ok (by omega), mbind_pure, List.map_id', mcat_ok (by omega), mbind_pure, mbind_pure, mcat_ok (by omega), mbind_pure]
      rw [wordsW_at w (row_bel h hx), mbind_pure]
      by_cases hw : w x = "off"
      · rw [decide_eq_true hw] <;> rfl
      · rw [decide_eq_false hw] <;> rfl) 1000 [] order [] [] ⟨List.nodup_nil, (fun _ h => nomatch h), (fun _ h => nomatch h), rfl, (fun pre a post e => by cases pre <;> cases e), by simp⟩ (by simp)
  exact ⟨d2, g2, h2, by rw [e] <;> rfl, g⟩
def freeW (pan : List (List Int)) (w : Int → Str) (b : Int) : Bool := !([b] ++ rowAt pan b).any fun o => decide (o ∈ (upto pan.length).filter fun i => decide (w i = "same"))
theorem free_w {pan : List (List Int)} (h : PanN pan) (w : Int → Str) : p_free_buttons (S := ST) pan (wordsW pan.length w) = mpure ((upto pan.length).filter (freeW pan w)) := by
  have hle := h.le
  unfold p_free_buttons wordsW
  simp only [mbind_pure, enumZ_upto]
  rw [mrng_nat pan.length (by omega)]
  simp only [mbind_pure]
  rw [compV_ok (by rw [List.length_map, upto_length]; omega), mbind_pure, sel_ok pan.length w (fun y => decide (y = "same"))]
  rw [compG_id (freeW pan w) (by rw [upto_length]; omega) fun x hx => ?_, calmly_pure']
  have hx := mem_upto.mp hx
  have hr := h.len _ (h.row hx.1 hx.2)
  rw [midx_row hx.1 hx.2, mbind_pure, mdisp_ok (by rw [List.length_append, List.length_singleton]; omega), mbind_pure, compV_ok (by rw [List.length_append, List.length_singleton]; omega), mbind_pure, mbind_pure, mbind_pure, filter_true, List.any_map]
  rfl
theorem sound_w {pan : List (List Int)} (h : PanN pan) {w : Int → Str} (h3 : ∀ i, w i = "on" ∨ w i = "off" ∨ w i = "same") : ∃ o, p_row_for (S := ST) pan (eT eS (wordsW pan.length w)) = mpure o ∧ ∀ row, o = some row → row.Nodup ∧ Bel pan.length row ∧ eff pan row = wordsW pan.length w := by
  have hle := h.le
  obtain ⟨L, eL⟩ : ∃ L, (upto pan.length).filter (fun i => decide (w i = "on")) = L := ⟨_, rfl⟩
  have hLm : ∀ i, i ∈ L ↔ (0 ≤ i ∧ i < (pan.length : Int)) ∧ w i = "on" := fun i => by rw [← eL, List.mem_filter, mem_upto, decide_eq_true_eq]
  have hLb : Bel pan.length L := fun i hi => ((hLm i).mp hi).1
  have hLn : L.Nodup := by rw [← eL]; exact (nodup_upto _).sublist List.filter_sublist
  have hLl := nodup_bel hLn hLb
  obtain ⟨freeL, efr⟩ : ∃ freeL, (upto pan.length).filter (freeW pan w) = freeL := ⟨_, rfl⟩
  have hmem : ∀ y ∈ wordsW pan.length w, y ∈ [("on" : Str), ("off" : Str), ("same" : Str)] := fun y hy => by
    unfold wordsW at hy
    obtain ⟨i, _, rfl⟩ := List.mem_map.mp hy
    rcases h3 i with q | q | q <;> rw [q] <;> simp
  have hlat : compV (S := ST) (fun (vx6 : (Int × Str)) => (decide (vx6.2 = ("on" : Str)))) (fun (vx6 : (Int × Str)) => vx6.1) (enumZ 0 (wordsW pan.length w)) = mpure L := by
    unfold wordsW
    rw [enumZ_upto, compV_ok (by rw [List.length_map, upto_length]; omega), sel_ok pan.length w (fun y => decide (y = "on")), eL]
  obtain ⟨o, eo, hO⟩ := os_ok hLb (by omega)
  unfold p_row_for
  rw [form_ok h (words_isR _), fm_eT (wordsW_len _ w) hmem]
  simp only [mbind_pure, mbind_assoc, Bool.not_true, Bool.false_eq_true, if_false, castW_e]
  rw [free_w h w, efr]
  simp only [mbind_pure, mbind_assoc]
  rw [hlat, mbind_pure, eo, mbind_pure]
  cases o with
  | none =>
    simp only [Option.isNone_none, if_true, mbind_pure]
    exact ⟨none, rfl, fun row q => nomatch q⟩
  | some order =>
    have O := hO order rfl
    have hp := O.perm
    rw [List.append_nil] at hp
    have hob : Bel pan.length order := fun i hi => hLb i (hp.mem_iff.mp hi)
    have hond : order.Nodup := hp.nodup_iff.mpr hLn
    have hol : order.length ≤ 10 := by rw [hp.length_eq]; omega
    have hoi : ∀ i, i ∈ order ↔ (0 ≤ i ∧ i < (pan.length : Int)) ∧ w i = "on" := fun i => hp.mem_iff.trans (hLm i)
    obtain ⟨d2, g, hpl, eg, G⟩ := gw_ok h (w := w) (freeL := freeL) hob hol
    have hgll := nodup_bel G.nd G.bel
    have hmo : ∀ {β : Type} (k : List Int → Mt ST β), mbind (mopt (some order)) k = k order := fun k => rfl
    simp only [Option.isNone_some, Bool.false_eq_true, if_false]
    rw [compV_ok (by omega), mbind_pure, filter_true]
    cases hall : (L.map fun v => decide (v ∈ freeL)).all id with
    | false =>
      simp only [mbind_pure, Bool.not_false, if_true]
      exact ⟨none, rfl, fun row q => nomatch q⟩
    | true =>
      simp only [mbind_pure, Bool.not_true, Bool.false_eq_true, if_false, hmo, castW_e]
      have hlay : ∀ x ∈ ("off" : Str) :: wordsW pan.length w, (toP (eS x)).canLay0 = true := fun x hx => by
        have : x = "on" ∨ x = "off" ∨ x = "same" := by
          rcases List.mem_cons.mp hx with q | q
          · exact .inr (.inl q)
          · simpa using hmem x q
        rcases this with rfl | rfl | rfl <;> first | rfl | decide +kernel
      have hcnt : (wordsW pan.length w).count ("off" : Str) = ((upto pan.length).filter fun i => decide (w i = "off")).length := by
        unfold wordsW
        rw [List.count, List.countP_map, List.countP_eq_length_filter]
        first
          | rfl
          | (congr 1; refine List.filter_congr fun i _ => ?_; show (w i == "off") = _; rw [Bool.eq_iff_iff]; simp)
      rw [eg, mbind_pure, mcount_ok hlay, mbind_pure, hcnt]
      have hhl : hpl.length ≤ g.length := by rw [G.hpe]; exact List.length_filter_le _ _
      by_cases hk : (g.length : Int) = ((((upto pan.length).filter fun i => decide (w i = "off")).length : Nat) : Int)
      · simp only [hk, decide_true, if_true]
        rw [mdisp_ok (by rw [List.length_append, List.length_reverse]; omega), mbind_pure]
        refine ⟨_, rfl, fun row q => ?_⟩
        cases q
        have hfull : ∀ a, 0 ≤ a → a < (pan.length : Int) → w a = "off" → a ∈ g := fun a h0 h1 ha => Classical.byContradiction fun hn => by
          have := nodup_len_sub (List.nodup_cons.mpr ⟨hn, G.nd⟩) (m := (upto pan.length).filter fun i => decide (w i = "off")) fun c hc => by
            rcases List.mem_cons.mp hc with rfl | hc
            · exact List.mem_filter.mpr ⟨mem_upto.mpr ⟨h0, h1⟩, decide_eq_true ha⟩
            · exact List.mem_filter.mpr ⟨mem_upto.mpr (G.bel c hc), decide_eq_true (G.off c hc)⟩
          rw [List.length_cons] at this
          omega
        have hhg : ∀ a ∈ hpl, a ∈ g ∧ a ∈ freeL := fun a ha => by
          rw [G.hpe] at ha
          have := List.mem_filter.mp ha
          exact ⟨this.1, of_decide_eq_true this.2⟩
        have hhn : hpl.Nodup := by rw [G.hpe]; exact G.nd.sublist List.filter_sublist
        have hdis : ∀ a ∈ g, a ∉ order := fun a ha hb => by
          have h1 := G.off a ha
          rw [((hoi a).mp hb).2] at h1
          exact absurd h1 (by decide)
        have hnd : (hpl.reverse ++ order).Nodup := List.nodup_append.mpr ⟨(List.reverse_perm hpl).nodup_iff.mpr hhn, hond, fun a ha c hc e => hdis a (hhg a (List.mem_reverse.mp ha)).1 (by rw [e]; exact hc)⟩
        have hfr : ∀ b ∈ hpl.reverse ++ order, b ∈ freeL := fun b hb => by
          rcases List.mem_append.mp hb with q | q
          · exact (hhg b (List.mem_reverse.mp q)).2
          · rw [List.all_map, List.all_eq_true] at hall
            exact of_decide_eq_true (hall b (hp.mem_iff.mp q))
        refine ⟨hnd, fun a ha => ?_, ?_⟩
        · rcases List.mem_append.mp ha with q | q
          · exact G.bel a (hhg a (List.mem_reverse.mp q)).1
          · exact hob a q
        · unfold eff wordsW
          refine List.map_congr_left fun i hi => ?_
          have hi' := hi
          have hi := mem_upto.mp hi
          rcases h3 i with hw | hw | hw
          · rw [hw, on_iff]
            obtain ⟨pre, post, e⟩ := List.append_of_mem ((hoi i).mpr ⟨hi, hw⟩)
            refine ⟨hpl.reverse ++ pre, post, by rw [e, List.append_assoc], fun b hb ht => ?_⟩
            rcases ht with rfl | ht
            · rw [e] at hond
              exact (List.nodup_cons.mp (List.nodup_append.mp hond).2.1).1 hb
            · exact O.ord pre i post e b (by rw [List.append_nil]; exact hb) ht
          · rw [hw, off_iff]
            obtain ⟨pre, post, e⟩ := List.append_of_mem (hfull i hi.1 hi.2 hw)
            obtain ⟨x, hx, hix⟩ := G.src pre i post e
            have hio : i ∉ order := hdis i (by rw [e]; simp)
            have hipre : i ∉ pre := fun q => by
              have hn := G.nd
              rw [e] at hn
              exact (List.nodup_append.mp hn).2.2 i q i (by simp) rfl
            have hpe := G.hpe
            rw [e, List.filter_append] at hpe
            obtain ⟨A, eA⟩ : ∃ A, hpl.reverse ++ order = A ++ ((pre.filter fun i => decide (i ∈ freeL)).reverse ++ order) := ⟨(List.filter (fun i => decide (i ∈ freeL)) (i :: post)).reverse, by rw [hpe]; simp⟩
            have hiT : i ∉ (pre.filter fun i => decide (i ∈ freeL)).reverse ++ order := fun q => by
              rcases List.mem_append.mp q with q | q
              · exact hipre (List.mem_filter.mp (List.mem_reverse.mp q)).1
              · exact hio q
            rw [eA]
            rcases last_tch pan i ((pre.filter fun i => decide (i ∈ freeL)).reverse ++ order) with q | ⟨p1, z, q1, e1, hz, hq⟩
            · refine absurd (.inr hix) (q x ?_)
              rcases hx with hx | ⟨hx, hf⟩
              · exact List.mem_append_right _ hx
              · exact List.mem_append_left _ (List.mem_reverse.mpr (List.mem_filter.mpr ⟨hx, hf⟩))
            · have hzm : z ∈ (pre.filter fun i => decide (i ∈ freeL)).reverse ++ order := by rw [e1]; simp
              have hne : i ≠ z := fun q => hiT (by rw [q]; exact hzm)
              exact ⟨A ++ p1, z, q1, by rw [e1]; simp, hne, hz.resolve_left hne, hq⟩
          · rw [hw, same_iff]
            intro b hb ht
            have hf := hfr b hb
            rw [← efr] at hf
            have hf := (List.mem_filter.mp hf).2
            unfold freeW at hf
            rw [Bool.not_eq_true', List.any_eq_false] at hf
            refine hf i ?_ (decide_eq_true (List.mem_filter.mpr ⟨hi', decide_eq_true hw⟩))
            rcases ht with rfl | ht
            · simp
            · simp [ht]
      · simp only [hk, decide_false, Bool.false_eq_true, if_false]
        exact ⟨none, rfl, fun row q => nomatch q⟩
/-! ### ascending rows -/
theorem nodup_len_gen {α : Type} [BEq α] [LawfulBEq α] {l m : List α} (hn : l.Nodup) : (∀ a ∈ l, a ∈ m) → l.length ≤ m.length := by
  induction l generalizing m with
  | nil => intro _; exact Nat.zero_le _
  | cons a l ih =>
    intro h
    have h1 := ih (m := m.erase a) (List.nodup_cons.mp hn).2 fun b hb => (List.mem_erase_of_ne (fun q => (List.nodup_cons.mp hn).1 (by rw [← q]; exact hb))).mpr (h b (by simp [hb]))
    have h2 : a ∈ m := h a (by simp)
    rw [List.length_erase_of_mem h2] at h1
    have := List.length_pos_of_mem h2
    rw [List.length_cons]
    omega
def subs {α : Type} : List α → List (List α)
  | [] => [[]]
  | x :: xs => subs xs ++ (subs xs).map (x :: ·)
theorem subs_len {α : Type} : ∀ xs : List α, (subs xs).length = 2 ^ xs.length
  | [] => rfl
  | x :: xs => by
    unfold subs
    rw [List.length_append, List.length_map, subs_len xs, List.length_cons, Nat.pow_succ]
    omega
theorem mem_subs {α : Type} {r xs : List α} (h : r.Sublist xs) : r ∈ subs xs := by
  induction h with
  | slnil => simp [subs]
  | cons x _ ih =>
    unfold subs
    exact List.mem_append.mpr (.inl ih)
  | cons_cons x _ ih =>
    unfold subs
    exact List.mem_append.mpr (.inr (List.mem_map.mpr ⟨_, ih, rfl⟩))
theorem sub_of_sorted : ∀ {L r : List Int}, r.Pairwise (· < ·) → L.Pairwise (· < ·) → (∀ a ∈ r, a ∈ L) → r.Sublist L
  | L, [], _, _, _ => List.nil_sublist L
  | [], a :: r, _, _, h => nomatch h a (by simp)
  | b :: L, a :: r, hr, hL, h => by
    have hr' := List.pairwise_cons.mp hr
    have hL' := List.pairwise_cons.mp hL
    by_cases e : a = b
    · subst e
      refine List.Sublist.cons_cons a (sub_of_sorted hr'.2 hL'.2 fun c hc => ?_)
      rcases List.mem_cons.mp (h c (by simp [hc])) with q | q
      · have := hr'.1 c hc
        omega
      · exact q
    · refine List.Sublist.cons b (sub_of_sorted hr hL'.2 fun c hc => ?_)
      have ha : a ∈ L := (List.mem_cons.mp (h a (by simp))).resolve_left e
      have hab := hL'.1 a ha
      rcases List.mem_cons.mp (h c hc) with q | q
      · rcases List.mem_cons.mp hc with q2 | q2
        · omega
        · have := hr'.1 c q2
          omega
      · exact q
/-- a state: ascending numbers below n -/
def Stt (n : Nat) (r : List Int) : Prop := r.length ≤ 10 ∧ Bel n r ∧ r.Pairwise (· < ·)
theorem stt_sub {n : Nat} (hn : n ≤ 10) {r : List Int} (h : r.Sublist (upto n)) : Stt n r := by
  have := h.length_le
  rw [upto_length] at this
  exact ⟨by omega, fun a ha => mem_upto.mp (h.subset ha), (sorted_upto n).sublist h⟩
theorem stt_mem {n : Nat} {r : List Int} (h : Stt n r) : r ∈ subs (upto n) := mem_subs (sub_of_sorted h.2.2 (sorted_upto n) fun a ha => mem_upto.mpr (h.2.1 a ha))
theorem stts_len {n : Nat} (hn : n ≤ 10) {K : List (List Int)} (h1 : K.Nodup) (h2 : ∀ k ∈ K, Stt n k) : K.length ≤ 1024 := by
  have := nodup_len_gen h1 (m := subs (upto n)) fun k hk => stt_mem (h2 k hk)
  rw [subs_len, upto_length] at this
  exact Nat.le_trans this (Nat.pow_le_pow_right (by decide) hn)
/-! ### the order of tuples of texts -/
section
variable {α : Type} [DecidableEq α] {lt : α → α → Bool}
/-- a strict order of the parts -/
structure SLt (lt : α → α → Bool) : Prop where
  irr : ∀ a, lt a a = false
  tri : ∀ a b, lt a b = false → lt b a = false → a = b
  tra : ∀ a b c, lt a b = true → lt b c = true → lt a c = true
theorem SLt.asym (h : SLt lt) {a b : α} (e : lt a b = true) : lt b a = false := by
  cases q : lt b a with
  | false => rfl
  | true =>
    have := h.tra a b a e q
    rw [h.irr] at this
    cases this
theorem lexB_asym (h : SLt lt) : ∀ (a b : List α), lexB lt a b = true → lexB lt b a = false
  | [], [], e => by cases e
  | [], _ :: _, _ => rfl
  | _ :: _, [], e => by cases e
  | x :: a, y :: b, e => by
    unfold lexB at e ⊢
    by_cases q : x = y
    · rw [if_pos q] at e
      rw [if_pos q.symm]
      exact lexB_asym h a b e
    · rw [if_neg q] at e
      rw [if_neg (fun k => q k.symm)]
      exact h.asym e
theorem lexB_tri (h : SLt lt) : ∀ (a b : List α), lexB lt a b = false → lexB lt b a = false → a = b
  | [], [], _, _ => rfl
  | [], _ :: _, e, _ => by cases e
  | _ :: _, [], _, e => by cases e
  | x :: a, y :: b, e1, e2 => by
    unfold lexB at e1 e2
    by_cases q : x = y
    · rw [if_pos q] at e1
      rw [if_pos q.symm] at e2
      rw [q, lexB_tri h a b e1 e2]
    · rw [if_neg q] at e1
      rw [if_neg (fun k => q k.symm)] at e2
      exact absurd (h.tri x y e1 e2) q
theorem lexB_tra (h : SLt lt) : ∀ (a b c : List α), lexB lt a b = true → lexB lt b c = true → lexB lt a c = true
  | [], [], _, e, _ => by cases e
  | _ :: _, [], _, e, _ => by cases e
  | [], _ :: _, [], _, e => by cases e
  | [], _ :: _, _ :: _, _, _ => rfl
  | _ :: _, _ :: _, [], _, e => by cases e
  | x :: a, y :: b, z :: c, e1, e2 => by
    unfold lexB at e1 e2 ⊢
    by_cases q1 : x = y
    · subst q1
      rw [if_pos rfl] at e1
      by_cases q2 : x = z
      · rw [if_pos q2] at e2 ⊢
        exact lexB_tra h a b c e1 e2
      · rw [if_neg q2] at e2 ⊢
        exact e2
    · rw [if_neg q1] at e1
      by_cases q2 : y = z
      · subst q2
        rw [if_neg q1]
        exact e1
      · rw [if_neg q2] at e2
        have := h.tra x y z e1 e2
        rw [if_neg ?_]
        · exact this
        · intro q
          subst q
          rw [h.irr] at this
          cases this
theorem lex_slt (h : SLt lt) : SLt (lexB lt) where
  irr a := by
    cases q : lexB lt a a with
    | false => rfl
    | true =>
      have := lexB_asym h a a q
      rw [q] at this
      cases this
  tri := lexB_tri h
  tra := lexB_tra h
theorem SLt.leT (h : SLt lt) : ∀ a b c : α, leOf lt a b = true → leOf lt b c = true → leOf lt a c = true := fun a b c e1 e2 => by
  unfold leOf at e1 e2 ⊢
  simp only [Bool.not_eq_true'] at e1 e2 ⊢
  cases q : lt c a with
  | false => rfl
  | true =>
    cases k : lt a b with
    | true =>
      have := h.tra c a b q k
      rw [e2] at this
      cases this
    | false =>
      have := h.tri a b k e1
      subst this
      rw [e2] at q
      cases q
theorem SLt.leTot (h : SLt lt) : ∀ a b : α, (leOf lt a b || leOf lt b a) = true := fun a b => by
  unfold leOf
  cases q : lt b a with
  | false => rfl
  | true => rw [h.asym q]; rfl
/-- equal sets without repetition are sorted alike -/
theorem SLt.sorted (h : SLt lt) {xs ys : List α} (hx : xs.Nodup) (hy : ys.Nodup) (he : ∀ a, a ∈ xs ↔ a ∈ ys) : xs.mergeSort (leOf lt) = ys.mergeSort (leOf lt) := by
  have hp : xs.Perm ys := (List.perm_ext_iff_of_nodup hx hy).mpr he
  refine List.Perm.eq_of_pairwise (le := fun a b => leOf lt a b = true) (fun a b _ _ h1 h2 => ?_) (List.pairwise_mergeSort h.leT h.leTot xs) (List.pairwise_mergeSort h.leT h.leTot ys) (((List.mergeSort_perm xs _).trans hp).trans (List.mergeSort_perm ys _).symm)
  unfold leOf at h1 h2
  simp only [Bool.not_eq_true'] at h1 h2
  exact h.tri a b h2 h1
end
theorem ltS_slt : SLt ltS where
  irr := ltS_irr
  tri a b h1 h2 := by
    unfold ltS at h1 h2
    simp only [decide_eq_false_iff_not] at h1 h2
    have := List.le_antisymm (List.not_lt.mp h2) (List.not_lt.mp h1)
    cases a
    cases b
    simp only at this
    congr 1
    exact Array.toList_inj.mp this
  tra a b c h1 h2 := by
    unfold ltS at *
    simp only [decide_eq_true_eq] at *
    exact List.lt_trans h1 h2
/-! ### k16: all effects -/
section
variable {pan : List (List Int)}
def aft (pan : List (List Int)) (e : List Str) (b : Int) : List Str := (enumZ 0 e).map fun p => wNew pan p.1 p.2 b
theorem aft_eff (R : List Int) (b : Int) : aft pan (eff pan R) b = eff pan (R ++ [b]) := by
  unfold aft eff
  rw [enumZ_upto, List.map_map]
  refine List.map_congr_left fun i _ => ?_
  show wNew pan i (wFrom pan "same" R i) b = wFrom pan "same" (R ++ [b]) i
  rw [wFrom_app] <;> rfl
theorem after_ok {T : Type} {e : List Str} (he : e.length ≤ 100) {b : Int} (hb : 0 ≤ b ∧ b < (pan.length : Int)) : p_effect_after (S := T) pan e b = mpure (aft pan e b) := by
  unfold p_effect_after aft
  simp only [mbind_pure]
  rw [compM_pure (fun p : Int × Str => wNew pan p.1 p.2 b) (by rw [enumZ_length]; omega) (fun y _ _ => ?_), filter_true, calmly_pure', mbind_pure]
  unfold p_changed_word wNew
  simp only [midx_row hb.1 hb.2, mbind_pure]
  by_cases h : y.1 = b <;> by_cases h2 : y.1 ∈ rowAt pan b <;> simp [h, h2]
def W3 : List Str := ["on", "off", "same"]
def W3s : Nat → List (List Str)
  | 0 => [[]]
  | n + 1 => (W3s n).flatMap fun e => W3.map fun y => e ++ [y]
theorem W3s_len : ∀ n, (W3s n).length = 3 ^ n
  | 0 => rfl
  | n + 1 => by
    unfold W3s
    have : ∀ L : List (List Str), (L.flatMap fun e => W3.map fun y => e ++ [y]).length = L.length * 3 := fun L => by
      induction L with
      | nil => rfl
      | cons x L ih =>
        rw [List.flatMap_cons, List.length_append, List.length_map, ih, List.length_cons]
        show 3 + _ = _
        omega
    rw [this, W3s_len n, Nat.pow_succ]
theorem mem_W3s : ∀ {n : Nat} {e : List Str}, e.length = n → (∀ y ∈ e, y ∈ W3) → e ∈ W3s n
  | 0, e, hl, _ => by rw [List.length_eq_zero_iff.mp hl]; simp [W3s]
  | n + 1, e, hl, he => by
    rcases List.eq_nil_or_concat e with q | ⟨e', y, q⟩
    · rw [q] at hl; cases hl
    · rw [List.concat_eq_append] at q
      subst q
      rw [List.length_append, List.length_singleton] at hl
      unfold W3s
      exact List.mem_flatMap.mpr ⟨e', mem_W3s (by omega) fun z hz => he z (by simp [hz]), List.mem_map.mpr ⟨y, he y (by simp), rfl⟩⟩
theorem eff_W3s (R : List Int) : eff pan R ∈ W3s pan.length := mem_W3s (eff_len pan R) fun y hy => by
  unfold eff at hy
  obtain ⟨i, _, rfl⟩ := List.mem_map.mp hy
  rcases word_cases pan R i with e | e | e <;> rw [e] <;> simp [W3]
theorem effs_len (h5 : pan.length ≤ 5) {K : List (List Str)} (hn : K.Nodup) (hK : ∀ k ∈ K, ∃ R, Bel pan.length R ∧ eff pan R = k) : K.length ≤ 243 := by
  have := nodup_len_gen hn (m := W3s pan.length) fun k hk => by
    obtain ⟨R, _, e⟩ := hK k hk
    rw [← e]
    exact eff_W3s R
  rw [W3s_len] at this
  exact Nat.le_trans this (Nat.pow_le_pow_right (by decide) h5)
structure AI (pan : List (List Int)) (kn : KvW Bool) (wt : List (List Str)) (m : Nat) : Prop where
  nd : (eKW kn).Nodup
  ef : ∀ k ∈ eKW kn, ∃ R, Bel pan.length R ∧ eff pan R = k
  sub : ∀ k ∈ wt, k ∈ eKW kn
  wn : wt.Nodup
  st : eff pan [] ∈ eKW kn
  cl : ∀ k ∈ eKW kn, k ∉ wt → ∀ b, 0 ≤ b ∧ b < (pan.length : Int) → aft pan k b ∈ eKW kn
  cnt : m + wt.length = kn.length
def tP (pan : List (List Int)) (e : List Str) (z : KvW Bool × List (List Str)) (b : Int) : KvW Bool × List (List Str) := if aft pan e b ∈ eKW z.1 then z else (z.1 ++ [(aft pan e b, true)], z.2 ++ [aft pan e b])
structure AJ (pan : List (List Int)) (e : List Str) (kn : KvW Bool) (wt : List (List Str)) (m : Nat) (pre : List Int) (z : KvW Bool × List (List Str)) : Prop where
  nd : (eKW z.1).Nodup
  ef : ∀ k ∈ eKW z.1, ∃ R, Bel pan.length R ∧ eff pan R = k
  sub : ∀ k ∈ z.2, k ∈ eKW z.1
  wn : z.2.Nodup
  old : ∀ k ∈ eKW kn, k ∈ eKW z.1
  new : ∀ k ∈ eKW z.1, k ∈ eKW kn ∨ k ∈ z.2
  w0 : ∀ k ∈ wt, k ∈ z.2
  don : ∀ b ∈ pre, aft pan e b ∈ eKW z.1
  cnt : m + 1 + z.2.length = z.1.length
theorem AJ.step {e : List Str} {kn : KvW Bool} {wt : List (List Str)} {m : Nat} {pre : List Int} {z : KvW Bool × List (List Str)} (j : AJ pan e kn wt m pre z) {R : List Int} (hB : Bel pan.length R) (hR : eff pan R = e) {b : Int} (hb : 0 ≤ b ∧ b < (pan.length : Int)) : AJ pan e kn wt m (pre ++ [b]) (tP pan e z b) := by
  unfold tP
  by_cases hm : aft pan e b ∈ eKW z.1
  · rw [if_pos hm]
    refine ⟨j.nd, j.ef, j.sub, j.wn, j.old, j.new, j.w0, fun c hc => ?_, j.cnt⟩
    rcases List.mem_append.mp hc with q | q
    · exact j.don c q
    · rw [List.mem_singleton.mp q]; exact hm
  · rw [if_neg hm]
    have ek : eKW (z.1 ++ [(aft pan e b, true)]) = eKW z.1 ++ [aft pan e b] := by unfold eKW; rw [List.map_append] <;> rfl
    have hw : aft pan e b ∉ z.2 := fun q => hm (j.sub _ q)
    refine ⟨?_, fun k hk => ?_, fun k hk => ?_, ?_, fun k hk => ?_, fun k hk => ?_, fun k hk => List.mem_append.mpr (.inl (j.w0 k hk)), fun c hc => ?_, by have := j.cnt; simp; omega⟩
    · rw [ek]
      exact List.nodup_append.mpr ⟨j.nd, by simp, fun x hx y hy q => hm (by rw [List.mem_singleton.mp hy] at q; rw [← q]; exact hx)⟩
    · rw [ek] at hk
      rcases List.mem_append.mp hk with q | q
      · exact j.ef k q
      · rw [List.mem_singleton.mp q, ← hR, aft_eff]
        exact ⟨R ++ [b], fun x hx => (List.mem_append.mp hx).elim (hB x) fun q => by rw [List.mem_singleton.mp q]; exact hb, rfl⟩
    · rw [ek]
      rcases List.mem_append.mp hk with q | q
      · exact List.mem_append.mpr (.inl (j.sub k q))
      · exact List.mem_append.mpr (.inr q)
    · exact List.nodup_append.mpr ⟨j.wn, by simp, fun x hx y hy q => hw (by rw [List.mem_singleton.mp hy] at q; rw [← q]; exact hx)⟩
    · rw [ek]
      exact List.mem_append.mpr (.inl (j.old k hk))
    · rw [ek] at hk
      rcases List.mem_append.mp hk with q | q
      · exact (j.new k q).imp id fun q => List.mem_append.mpr (.inl q)
      · exact .inr (List.mem_append.mpr (.inr q))
    · rw [ek]
      rcases List.mem_append.mp hc with q | q
      · exact List.mem_append.mpr (.inl (j.don c q))
      · rw [List.mem_singleton.mp q]; simp
theorem AI.next {kn : KvW Bool} {wt : List (List Str)} {e : List Str} {m : Nat} (a : AI pan kn (wt ++ [e]) m) {z : KvW Bool × List (List Str)} (j : AJ pan e kn wt m (upto pan.length) z) : AI pan z.1 z.2 (m + 1) := by
  refine ⟨j.nd, j.ef, j.sub, j.wn, j.old _ a.st, fun k hk hn b hb => ?_, j.cnt⟩
  have h1 := (j.new k hk).resolve_right hn
  by_cases q : k = e
  · rw [q]
    exact j.don b (mem_upto.mpr hb)
  · refine j.old _ (a.cl k h1 (fun w => ?_) b hb)
    rcases List.mem_append.mp w with w | w
    · exact hn (j.w0 k w)
    · exact q (List.mem_singleton.mp w)
theorem alle_loop (h5 : pan.length ≤ 5) {c : List (List Str) × KvW Bool → Mt ST Bool} {body : List (List Str) × KvW Bool → Mt ST (List (List Str) × KvW Bool)} (hc : ∀ z, c z = mpure (!decide (z.1 = [])))
    (hb : ∀ kn wt e m, AI pan kn (wt ++ [e]) m → kn.length ≤ 243 → ∃ z, AJ pan e kn wt m (upto pan.length) z ∧ body (wt ++ [e], kn) = mpure (z.2, z.1)) :
    ∀ (fuel : Nat) (kn : KvW Bool) (wt : List (List Str)) (m : Nat), AI pan kn wt m → 243 < m + fuel → ∃ kn2 m2, whileU c body fuel (wt, kn) = mpure ([], kn2) ∧ AI pan kn2 [] m2
  | 0, kn, wt, m, a, hf => by
    have h1 := effs_len h5 a.nd a.ef
    rw [eK_lenW] at h1
    have := a.cnt
    omega
  | fuel + 1, kn, wt, m, a, hf => by
    have h1 := effs_len h5 a.nd a.ef
    rw [eK_lenW] at h1
    unfold whileU
    rw [hc, mbind_pure]
    rcases List.eq_nil_or_concat wt with q | ⟨w0, e, q⟩
    · subst q
      exact ⟨kn, m, rfl, a⟩
    · rw [List.concat_eq_append] at q
      subst q
      rw [decide_eq_false (by simp)]
      simp only [Bool.not_false, if_true]
      obtain ⟨z, j, eb⟩ := hb kn w0 e m a h1
      rw [eb, mbind_pure]
      exact alle_loop h5 hc hb fuel z.1 z.2 (m + 1) (a.next j) (by omega)
theorem alle_ok (h : PanN pan) (h5 : pan.length ≤ 5) : ∃ kn : KvW Bool, p_all_effects (S := ST) pan = mpure ((eKW kn).mergeSort (leOf (lexB ltS))) ∧ (eKW kn).Nodup ∧ ∀ e, e ∈ eKW kn ↔ ∃ R, Bel pan.length R ∧ eff pan R = e := by
  have e0 : mrepT (S := ST) ([("same" : Str)]) (pan.length : Int) = mpure (eff pan []) := by
    rw [mrepT_ok (by omega) (by omega)]
    congr 1
    show _ = (upto pan.length).map (fun _ => ("same" : Str))
    rw [List.map_const', upto_length, Int.toNat_natCast]
  unfold p_all_effects
  rw [mbind_pure, decide_eq_false (by omega)]
  simp only [Bool.false_eq_true, if_false]
  rw [e0]
  simp only [mbind_pure]
  have ek : mkeysW (S := ST) [(eff pan [], true)] = mpure [eff pan []] := if_pos (by have : (SZ : Nat) = 100000 := rfl; simp; omega)
  rw [ek, mbind_pure]
  have start : AI pan [(eff pan [], true)] [eff pan []] 0 := ⟨by simp [eKW], fun k hk => ⟨[], (fun _ h => nomatch h), by simpa [eKW, eq_comm] using hk⟩, fun k hk => by simpa [eKW] using hk, by simp, by simp [eKW], fun k hk hn => absurd (by simpa [eKW] using hk) hn, rfl⟩
  obtain ⟨kn, m, e, a⟩ := alle_loop (pan := pan) h5
    (c := fun (vz6 : (List (List Str)) × (KvW Bool)) => mpure (!decide (vz6.1 = ([] : (List (List Str))))))
    (body := fun (vz6 : (List (List Str)) × (KvW Bool)) => mbind (mpop vz6.1) fun veffect8 => mbind (mbind (mrng (0 : Int) (pan.length : Int)) fun vxs20 => forU (fun (vx11 : Int) (vz9 : (KvW Bool) × (List (List Str))) => mbind (p_effect_after pan veffect8.1 vx11) fun vafter12 => mbind (if (!hasPW vz9.1 vafter12) = true then (mbind (mputDW vz9.1 vafter12 true) fun vfound16 => mbind (mapp vz9.2 vafter12) fun vwaiting17 => mpure (vfound16, vwaiting17)) else (mpure (vz9.1, vz9.2))) fun vz13 => mpure (vz13.1, vz13.2)) vxs20 (vz6.2, veffect8.2)) fun vz9 => mpure (vz9.2, vz9.1))
    (fun z => rfl)
    (fun kn wt e m a hk => by
      obtain ⟨R, hB, hR⟩ := a.ef e (a.sub e (by simp))
      have hel : e.length ≤ 5 := by rw [← hR, eff_len]; exact h5
      have j0 : AJ pan e kn wt m [] (kn, wt) := ⟨a.nd, a.ef, fun k hk => a.sub k (by simp [hk]), (List.nodup_append.mp a.wn).1, fun _ h => h, fun _ h => .inl h, fun _ h => h, (fun _ h => nomatch h), by have := a.cnt; rw [List.length_append, List.length_singleton] at this; show m + 1 + wt.length = kn.length; omega⟩
      have jn : ∀ (k : Nat) pre post, pre.length = k → upto pan.length = pre ++ post → AJ pan e kn wt m pre (pre.foldl (tP pan e) (kn, wt)) := by
        intro k
        induction k with
        | zero =>
          intro pre post hk _
          rw [List.length_eq_zero_iff.mp hk]
          exact j0
        | succ k ih =>
          intro pre post hk ep
          rcases List.eq_nil_or_concat pre with q | ⟨pre', b, q⟩
          · rw [q] at hk; cases hk
          · rw [List.concat_eq_append] at q
            subst q
            rw [List.length_append, List.length_singleton] at hk
            rw [List.foldl_append]
            exact (ih pre' (b :: post) (by omega) (by rw [ep]; simp)).step hB hR (mem_upto.mp (by rw [ep]; simp))
      refine ⟨(upto pan.length).foldl (tP pan e) (kn, wt), jn _ _ [] rfl (by simp), ?_⟩
      show mbind (mpop (wt ++ [e])) _ = _
      rw [show mpop (S := ST) (wt ++ [e]) = mpure (e, wt) from by unfold mpop; simp, mbind_pure]
      dsimp only
      rw [mrng_nat pan.length (by omega), mbind_pure, forU_inv (upto pan.length) (kn, wt) (fun pre => pre.foldl (tP pan e) (kn, wt)) rfl fun pre b post ep => ?_, mbind_pure]
      have hb := mem_upto.mp (show b ∈ upto pan.length by rw [ep]; simp)
      have j := jn _ pre (b :: post) rfl ep
      have h1 := effs_len h5 j.nd j.ef
      rw [eK_lenW] at h1
      have h2 := j.cnt
      rw [after_ok (by omega) hb, mbind_pure, List.foldl_append]
      show _ = mpure (tP pan e (pre.foldl (tP pan e) (kn, wt)) b)
      generalize pre.foldl (tP pan e) (kn, wt) = z at h1 h2 ⊢
      unfold tP hasPW
      by_cases hm : aft pan e b ∈ eKW z.1
      · rw [decide_eq_true hm, if_pos hm]
        rfl
      · rw [decide_eq_false hm, if_neg hm, if_pos (by rfl)]
        have hp : mputDW (S := ST) z.1 (aft pan e b) true = mpure (z.1 ++ [(aft pan e b, true)]) := by
          unfold mputDW putPW
          rw [if_pos (by have : (SZ : Nat) = 100000 := rfl; omega), if_neg hm]
        rw [hp, mbind_pure, mapp_ok (by omega), mbind_pure, mbind_pure])
    1000 [(eff pan [], true)] [eff pan []] 0 start (by omega)
  have hkl := effs_len h5 a.nd a.ef
  refine ⟨kn, ?_, a.nd, fun x => ⟨a.ef x, ?_⟩⟩
  · have e' := congrArg (fun q => mbind q fun (z : (List (List Str)) × (KvW Bool)) => msort (S := ST) (lexB ltS) (eKW z.2)) e
    refine Eq.trans ?_ (e'.trans ?_)
    · congr 1
      funext z
      exact mbind_ret _
    · show msort (lexB ltS) (eKW kn) = _
      exact msort_ok (by omega)
  · rintro ⟨R, hB, rfl⟩
    have key : ∀ (k : Nat) (R : List Int), R.length = k → Bel pan.length R → eff pan R ∈ eKW kn := by
      intro k
      induction k with
      | zero =>
        intro R hl _
        rw [List.length_eq_zero_iff.mp hl]
        exact a.st
      | succ k ih =>
        intro R hl hB
        rcases List.eq_nil_or_concat R with q | ⟨R', b, q⟩
        · rw [q] at hl; cases hl
        · rw [List.concat_eq_append] at q
          subst q
          rw [List.length_append, List.length_singleton] at hl
          rw [← aft_eff]
          exact a.cl _ (ih R' (by omega) fun x hx => hB x (by simp [hx])) (by simp) b (hB b (by simp))
    exact key _ R rfl hB
end
/-! ### k19: what the law gathers -/
section
variable {pan : List (List Int)} {w : Int → Str}
def onL (pan : List (List Int)) (w : Int → Str) : List Int := (upto pan.length).filter fun i => decide (w i = "on")
theorem mem_onL {i : Int} : i ∈ onL pan w ↔ (0 ≤ i ∧ i < (pan.length : Int)) ∧ w i = "on" := by
  unfold onL
  rw [List.mem_filter, mem_upto, decide_eq_true_eq]
def fre (pan : List (List Int)) (w : Int → Str) (b : Int) : Bool := !decide (("same" : Str) ∈ (rowAt pan b).map w)
theorem fre_iff {b : Int} : fre pan w b = true ↔ ∀ o ∈ rowAt pan b, w o ≠ "same" := by
  unfold fre
  simp only [Bool.not_eq_true', decide_eq_false_iff_not, List.mem_map, not_exists, not_and]
structure GL (pan : List (List Int)) (w : Int → Str) (g hs : List Int) (k : Nat) : Prop where
  nd : g.Nodup
  off : ∀ a ∈ g, (0 ≤ a ∧ a < (pan.length : Int)) ∧ w a = "off"
  hse : hs = onL pan w ++ g.filter (fre pan w)
  src : ∀ pre a post, g = pre ++ a :: post → ∃ x, (x ∈ onL pan w ∨ (x ∈ pre ∧ fre pan w x = true)) ∧ a ∈ rowAt pan x
  clo : ∀ (i : Nat) x, i < k → hs[i]? = some x → ∀ o ∈ rowAt pan x, w o = "off" → o ∈ g
  kl : k ≤ hs.length
def gS (pan : List (List Int)) (w : Int → Str) (z : List Int × List Int) (o : Int) : List Int × List Int := if w o = "off" ∧ o ∉ z.1 then (z.1 ++ [o], if fre pan w o = true then z.2 ++ [o] else z.2) else z
/-- within one row -/
structure GM (pan : List (List Int)) (w : Int → Str) (g0 hs0 : List Int) (k : Nat) (b : Int) (pre : List Int) (z : List Int × List Int) : Prop where
  gl : GL pan w z.1 z.2 k
  don : ∀ o ∈ pre, w o = "off" → o ∈ z.1
  hs : ∀ (i : Nat) x, hs0[i]? = some x → z.2[i]? = some x
theorem GM.step (h : PanN pan) {g0 hs0 : List Int} {k : Nat} {b : Int} {pre : List Int} {z : List Int × List Int} (m : GM pan w g0 hs0 k b pre z) (hk : hs0[k]? = some b) {o : Int} (ho : o ∈ rowAt pan b) : GM pan w g0 hs0 k b (pre ++ [o]) (gS pan w z o) := by
  have hor := row_bel h ho
  have hbk := m.hs k b hk
  unfold gS
  by_cases q : w o = "off" ∧ o ∉ z.1
  · rw [if_pos q]
    have hb : b ∈ onL pan w ∨ (b ∈ z.1 ∧ fre pan w b = true) := by
      have hm := List.mem_of_getElem? hbk
      rw [m.gl.hse] at hm
      exact (List.mem_append.mp hm).imp id fun q => List.mem_filter.mp q
    have hse : (if fre pan w o = true then z.2 ++ [o] else z.2) = onL pan w ++ (z.1 ++ [o]).filter (fre pan w) := by
      rw [List.filter_append, ← List.append_assoc, ← m.gl.hse]
      by_cases f : fre pan w o = true
      · rw [if_pos f, List.filter_cons_of_pos f]; rfl
      · rw [if_neg f, List.filter_cons_of_neg f]; simp
    have hold : ∀ (i : Nat) x, z.2[i]? = some x → (if fre pan w o = true then z.2 ++ [o] else z.2)[i]? = some x := fun i x e => by
      split
      · rw [List.getElem?_append_left (List.getElem?_eq_some_iff.mp e).1]; exact e
      · exact e
    refine ⟨⟨?_, fun a ha => ?_, hse, fun pre' a post e => ?_, fun i x hi hx o' ho' hw' => ?_, ?_⟩, fun c hc hw => ?_, fun i x e => hold i x (m.hs i x e)⟩
    · exact List.nodup_append.mpr ⟨m.gl.nd, by simp, fun x hx y hy e => q.2 (by rw [List.mem_singleton.mp hy] at e; rw [← e]; exact hx)⟩
    · rcases List.mem_append.mp ha with k' | k'
      · exact m.gl.off a k'
      · rw [List.mem_singleton.mp k']; exact ⟨hor, q.1⟩
    · rcases List.eq_nil_or_concat post with e2 | ⟨post', y, e2⟩
      · subst e2
        have e3 := List.append_inj' (show z.1 ++ [o] = pre' ++ [a] from e) rfl
        have ea : o = a := by simpa using e3.2
        subst ea
        refine ⟨b, hb.imp id fun q => ⟨by rw [← e3.1]; exact q.1, q.2⟩, ho⟩
      · rw [List.concat_eq_append] at e2
        subst e2
        have e3 := List.append_inj' (show z.1 ++ [o] = (pre' ++ a :: post') ++ [y] from (show z.1 ++ [o] = pre' ++ a :: (post' ++ [y]) from e).trans (by simp)) rfl
        exact m.gl.src pre' a post' e3.1
    · have hlt : i < z.2.length := Nat.lt_of_lt_of_le hi m.gl.kl
      have hx0 : z.2[i]? = some x := by
        have h1 := hold i _ (List.getElem?_eq_getElem hlt)
        rw [h1] at hx
        rw [List.getElem?_eq_getElem hlt]
        exact hx
      exact List.mem_append.mpr (.inl (m.gl.clo i x hi hx0 o' ho' hw'))
    · have := m.gl.kl
      show k ≤ (if fre pan w o = true then z.2 ++ [o] else z.2).length
      split
      · rw [List.length_append]; omega
      · exact this
    · rcases List.mem_append.mp hc with k' | k'
      · exact List.mem_append.mpr (.inl (m.don c k' hw))
      · exact List.mem_append.mpr (.inr k')
  · rw [if_neg q]
    refine ⟨m.gl, fun c hc hw => ?_, m.hs⟩
    rcases List.mem_append.mp hc with k' | k'
    · exact m.don c k' hw
    · rw [List.mem_singleton.mp k'] at hw ⊢
      exact Classical.byContradiction fun n => q ⟨hw, n⟩
theorem GM.done {g0 hs0 : List Int} {k : Nat} {b : Int} {z : List Int × List Int} (m : GM pan w g0 hs0 k b (rowAt pan b) z) (hk : hs0[k]? = some b) : GL pan w z.1 z.2 (k + 1) := by
  have hbk := m.hs k b hk
  have hlt := (List.getElem?_eq_some_iff.mp hbk).1
  refine ⟨m.gl.nd, m.gl.off, m.gl.hse, m.gl.src, fun i x hi hx o ho hw => ?_, by omega⟩
  by_cases q : i < k
  · exact m.gl.clo i x q hx o ho hw
  · have : i = k := by omega
    subst this
    rw [hbk] at hx
    cases hx
    exact m.don o ho hw
theorem GL.len (h : PanN pan) {g hs : List Int} {k : Nat} (G : GL pan w g hs k) : g.length ≤ pan.length ∧ hs.length ≤ 20 := by
  have h1 := nodup_bel G.nd fun a ha => (G.off a ha).1
  have h2 := List.length_filter_le (fre pan w) g
  have h3 : (onL pan w).length ≤ pan.length := by
    unfold onL
    exact Nat.le_trans (List.length_filter_le _ _) (by rw [upto_length]; omega)
  have hle := h.le
  rw [G.hse, List.length_append]
  omega
theorem gl_loop (h : PanN pan) {c : List Int × List Int × Int → Mt ST Bool} {body : List Int × List Int × Int → Mt ST (List Int × List Int × Int)} (hc : ∀ z, c z = mpure (decide (z.2.2 < (z.2.1.length : Int))))
    (hb : ∀ g hs (k : Nat) b, GL pan w g hs k → hs[k]? = some b → ∃ z : List Int × List Int, GL pan w z.1 z.2 (k + 1) ∧ body (g, hs, (k : Int)) = mpure (z.1, z.2, ((k + 1 : Nat) : Int))) :
    ∀ (fuel : Nat) (g hs : List Int) (k : Nat), GL pan w g hs k → 20 < k + fuel → ∃ g2 hs2, whileU c body fuel (g, hs, (k : Int)) = mpure (g2, hs2, (hs2.length : Int)) ∧ GL pan w g2 hs2 hs2.length
  | 0, g, hs, k, G, hf => by
    have := G.len h
    have := G.kl
    omega
  | fuel + 1, g, hs, k, G, hf => by
    unfold whileU
    rw [hc, mbind_pure]
    by_cases q : k < hs.length
    · rw [decide_eq_true (show ((k : Int)) < (hs.length : Int) by omega), if_pos rfl]
      obtain ⟨z, G2, e⟩ := hb g hs k _ G (List.getElem?_eq_getElem q)
      rw [e, mbind_pure]
      exact gl_loop h hc hb fuel z.1 z.2 (k + 1) G2 (by omega)
    · rw [decide_eq_false (show ¬ ((k : Int)) < (hs.length : Int) by omega)]
      have hk : k = hs.length := by have := G.kl; omega
      subst hk
      exact ⟨g, hs, rfl, G⟩
theorem onc_ok : compV (S := ST) (fun (vx2 : (Int × Str)) => (decide (vx2.2 = ("on" : Str)))) (fun (vx2 : (Int × Str)) => vx2.1) (enumZ 0 (wordsW pan.length w)) = (if (wordsW pan.length w).length ≤ 100000 then mpure (onL pan w) else mbad) := by
  unfold compV
  rw [enumZ_length]
  unfold wordsW onL
  rw [enumZ_upto, sel_ok pan.length w (fun y => decide (y = "on"))]
theorem gath_ok (h : PanN pan) : ∃ g hs, p__law_gathered (S := ST) pan (wordsW pan.length w) = mpure g ∧ GL pan w g hs hs.length := by
  have hle := h.le
  unfold p__law_gathered
  simp only [mbind_pure]
  rw [onc_ok, if_pos (by rw [wordsW_len]; omega), mbind_pure]
  obtain ⟨g, hs, e, G⟩ := gl_loop (w := w) h
    (c := fun (vz7 : (List Int) × (List Int) × Int) => mpure (decide (vz7.2.2 < (vz7.2.1.length : Int))))
    (body := fun (vz7 : (List Int) × (List Int) × Int) => mbind (mbind (mbind (midx vz7.2.1 vz7.2.2) fun vx9 => midx pan vx9) fun vxs24 => forU (fun (vx10 : Int) (vz8 : (List Int) × (List Int)) => mbind (mbind (mbind (mbind (midx (wordsW pan.length w) vx10) fun vx11 => mpure (decide (vx11 = ("off" : Str)))) fun vb12 => if vb12 = true then mpure (!decide (vx10 ∈ vz8.1)) else mpure false) fun vb23 => if vb23 = true then (mbind (mapp vz8.1 vx10) fun vfound14 => mbind (mbind (mbind (mbind (midx pan vx10) fun vxs17 => calmly (compM (fun (vx16 : Int) => true) (fun (vx16 : Int) => midx (wordsW pan.length w) vx16) vxs17)) fun vx18 => mpure (!decide (("same" : Str) ∈ vx18))) fun vb22 => if vb22 = true then (mbind (mapp vz8.2 vx10) fun vhelpers20 => mpure vhelpers20) else (mpure vz8.2)) fun vz19 => mpure (vfound14, vz19)) else (mpure (vz8.1, vz8.2))) fun vz13 => mpure (vz13.1, vz13.2)) vxs24 (vz7.1, vz7.2.1)) fun vz8 => mpure (vz8.1, vz8.2, vz7.2.2 + (1 : Int)))
    (fun z => rfl)
    (fun g hs k b G hk => by
      have hlt := (List.getElem?_eq_some_iff.mp hk).1
      have hbr : 0 ≤ b ∧ b < (pan.length : Int) := by
        have hm := List.mem_of_getElem? hk
        rw [G.hse] at hm
        rcases List.mem_append.mp hm with q | q
        · exact (mem_onL.mp q).1
        · exact (G.off b (List.mem_filter.mp q).1).1
      have m0 : GM pan w g hs k b [] (g, hs) := ⟨G, (fun _ h => nomatch h), fun i x e => e⟩
      have jn : ∀ (n : Nat) pre post, pre.length = n → rowAt pan b = pre ++ post → GM pan w g hs k b pre (pre.foldl (gS pan w) (g, hs)) := by
        intro n
        induction n with
        | zero =>
          intro pre post hn _
          rw [List.length_eq_zero_iff.mp hn]
          exact m0
        | succ n ih =>
          intro pre post hn ep
          rcases List.eq_nil_or_concat pre with q | ⟨pre', o, q⟩
          · rw [q] at hn; cases hn
          · rw [List.concat_eq_append] at q
            subst q
            rw [List.length_append, List.length_singleton] at hn
            rw [List.foldl_append]
            exact (ih pre' (o :: post) (by omega) (by rw [ep]; simp)).step h hk (by rw [ep]; simp)
      refine ⟨(rowAt pan b).foldl (gS pan w) (g, hs), (jn _ _ [] rfl (by simp)).done hk, ?_⟩
      dsimp only
      rw [midx_ok (by omega) (show hs[((k : Nat) : Int).toNat]? = some b by rw [Int.toNat_natCast]; exact hk), mbind_pure, midx_row hbr.1 hbr.2, mbind_pure, forU_inv (rowAt pan b) (g, hs) (fun pre => pre.foldl (gS pan w) (g, hs)) rfl fun pre o post ep => ?_, mbind_pure]
      · rfl
      have ho : o ∈ rowAt pan b := by rw [ep]; simp
      have hor := row_bel h ho
      have m := jn _ pre (o :: post) rfl ep
      obtain ⟨l1, l2⟩ := m.gl.len h
      rw [List.foldl_append]
      show _ = mpure (gS pan w (pre.foldl (gS pan w) (g, hs)) o)
      generalize pre.foldl (gS pan w) (g, hs) = z at l1 l2 ⊢
      rw [wordsW_at w hor, mbind_pure]
      unfold gS
      by_cases q1 : w o = "off"
      · by_cases q2 : o ∈ z.1
        · rw [if_neg (fun q => q.2 q2), decide_eq_true q1, mbind_pure, if_pos rfl, decide_eq_true q2]
          rfl
        · have hr := h.len _ (h.row hor.1 hor.2)
          rw [if_pos ⟨q1, q2⟩, decide_eq_true q1, mbind_pure, if_pos rfl, decide_eq_false q2, mbind_pure, if_pos (by rfl), mapp_ok (by omega), mbind_pure, midx_row hor.1 hor.2, mbind_pure, compM_pure w (by omega) (fun x hx _ => wordsW_at w (row_bel h hx)), filter_true, calmly_pure', mbind_pure, mbind_pure]
          show mbind (mbind (if fre pan w o = true then _ else _) _) _ = _
          by_cases f : fre pan w o = true
          · rw [if_pos f, if_pos f, mapp_ok (by omega)]
            rfl
          · rw [if_neg f, if_neg f]
            rfl
      · rw [if_neg (fun q => q1 q.1), decide_eq_false q1]
        rfl)
    1000 [] (onL pan w) 0 ⟨List.nodup_nil, (fun _ h => nomatch h), by simp, (fun pre a post e => by cases pre <;> cases e), (fun i x hi => absurd hi (by omega)), Nat.zero_le _⟩ (by omega)
  refine ⟨g, hs, ?_, G⟩
  have e' := congrArg (fun q => mbind q fun (z : (List Int) × (List Int) × Int) => mpure (S := ST) z.1) e
  exact e'
end
/-! ### k19: ways back -/
/-- reached from start, by releases, through allowed buttons -/
inductive Pt (pan : List (List Int)) (start : Int) (allowed : List Int) : Int → Prop
  | start : Pt pan start allowed start
  | step {a b : Int} (h : Pt pan start allowed a) (hb : b ∈ rowAt pan a) (ha : b ∈ allowed) : Pt pan start allowed b
section
variable {pan : List (List Int)} {start : Int} {allowed : List Int}
structure WI (pan : List (List Int)) (start : Int) (allowed : List Int) (ways : List (List Int)) (found : List Int) (m : Nat) : Prop where
  nd : found.Nodup
  fp : ∀ x ∈ found, Pt pan start allowed x
  fb : Bel pan.length found
  wl : ∀ way ∈ ways, (∃ x, way.getLast? = some x ∧ x ∈ found) ∧ way.length ≤ found.length
  st : start ∈ found
  dn : ∀ x ∈ found, (∃ way ∈ ways, way.getLast? = some x) ∨ ∀ b ∈ rowAt pan x, b ≠ start ∧ (b ∈ allowed → b ∈ found)
  cnt : m + ways.length = found.length
structure WJ (pan : List (List Int)) (start : Int) (allowed : List Int) (rest : List (List Int)) (found0 : List Int) (way : List Int) (x : Int) (m : Nat) (pre : List Int) (z : List Int × List (List Int)) : Prop where
  nd : z.1.Nodup
  fp : ∀ x ∈ z.1, Pt pan start allowed x
  fb : Bel pan.length z.1
  wl : ∀ way ∈ z.2, (∃ x, way.getLast? = some x ∧ x ∈ z.1) ∧ way.length ≤ z.1.length
  old : ∀ y ∈ found0, y ∈ z.1
  keep : ∀ v ∈ rest, v ∈ z.2
  new : ∀ y ∈ z.1, y ∈ found0 ∨ ∃ v ∈ z.2, v.getLast? = some y
  don : ∀ b ∈ pre, b ≠ start ∧ (b ∈ allowed → b ∈ z.1)
  cnt : m + 1 + z.2.length = z.1.length
  wlen : way.length ≤ z.1.length
theorem WJ.skip {rest : List (List Int)} {found0 way : List Int} {x : Int} {m : Nat} {pre : List Int} {z : List Int × List (List Int)} (j : WJ pan start allowed rest found0 way x m pre z) {b : Int} (h1 : b ≠ start) (h2 : b ∈ allowed → b ∈ z.1) : WJ pan start allowed rest found0 way x m (pre ++ [b]) z :=
  ⟨j.nd, j.fp, j.fb, j.wl, j.old, j.keep, j.new, fun c hc => (List.mem_append.mp hc).elim (j.don c) fun q => by rw [List.mem_singleton.mp q]; exact ⟨h1, h2⟩, j.cnt, j.wlen⟩
theorem WJ.push {rest : List (List Int)} {found0 way : List Int} {x : Int} {m : Nat} {pre : List Int} {z : List Int × List (List Int)} (j : WJ pan start allowed rest found0 way x m pre z) {b : Int} (h1 : b ≠ start) (h2 : b ∈ allowed) (h3 : b ∉ z.1) (hp : Pt pan start allowed b) (hb : 0 ≤ b ∧ b < (pan.length : Int)) : WJ pan start allowed rest found0 way x m (pre ++ [b]) (z.1 ++ [b], z.2 ++ [way ++ [b]]) := by
  refine ⟨?_, fun y hy => ?_, fun y hy => ?_, fun v hv => ?_, fun y hy => List.mem_append.mpr (.inl (j.old y hy)), fun v hv => List.mem_append.mpr (.inl (j.keep v hv)), fun y hy => ?_, fun c hc => ?_, by have := j.cnt; simp; omega, by have := j.wlen; simp; omega⟩
  · exact List.nodup_append.mpr ⟨j.nd, by simp, fun y hy c hc q => h3 (by rw [List.mem_singleton.mp hc] at q; rw [← q]; exact hy)⟩
  · rcases List.mem_append.mp hy with q | q
    · exact j.fp y q
    · rw [List.mem_singleton.mp q]; exact hp
  · rcases List.mem_append.mp hy with q | q
    · exact j.fb y q
    · rw [List.mem_singleton.mp q]; exact hb
  · rcases List.mem_append.mp hv with q | q
    · obtain ⟨⟨y, e, hy⟩, hl⟩ := j.wl v q
      exact ⟨⟨y, e, List.mem_append.mpr (.inl hy)⟩, by rw [List.length_append]; omega⟩
    · rw [List.mem_singleton.mp q]
      exact ⟨⟨b, by simp, by simp⟩, by have := j.wlen; simp; omega⟩
  · rcases List.mem_append.mp hy with q | q
    · exact (j.new y q).imp id fun ⟨v, hv, e⟩ => ⟨v, List.mem_append.mpr (.inl hv), e⟩
    · rw [List.mem_singleton.mp q]
      exact .inr ⟨way ++ [b], by simp, by simp⟩
  · rcases List.mem_append.mp hc with q | q
    · exact ⟨(j.don c q).1, fun k => List.mem_append.mpr (.inl ((j.don c q).2 k))⟩
    · rw [List.mem_singleton.mp q]
      exact ⟨h1, fun _ => by simp⟩
theorem WI.next {rest : List (List Int)} {found0 way : List Int} {x : Int} {m : Nat} (i : WI pan start allowed (way :: rest) found0 m) (hx : way.getLast? = some x) {z : List Int × List (List Int)} (j : WJ pan start allowed rest found0 way x m (rowAt pan x) z) : WI pan start allowed z.2 z.1 (m + 1) := by
  refine ⟨j.nd, j.fp, j.fb, j.wl, j.old _ i.st, fun y hy => ?_, j.cnt⟩
  rcases j.new y hy with q | q
  · rcases i.dn y q with ⟨v, hv, e⟩ | q
    · rcases List.mem_cons.mp hv with k | k
      · rw [k, hx] at e
        rw [← Option.some.inj e]
        exact .inr j.don
      · exact .inl ⟨v, j.keep v k, e⟩
    · exact .inr fun b hb => ⟨(q b hb).1, fun k => j.old b ((q b hb).2 k)⟩
  · exact .inl q
theorem way_in (h : PanN pan) {rest : List (List Int)} {found0 way : List Int} {x : Int} {m : Nat} (hxp : Pt pan start allowed x) {body : Int → List Int × List (List Int) → Mt ST (Lp (List Int × List (List Int)) (Option (List Int)))}
    (hb : ∀ b z, z.1.length ≤ 10 → z.2.length ≤ 10 → body b z = if b = start then mpure (.rt (some way)) else mpure (.nx (if b ∈ allowed ∧ b ∉ z.1 then (z.1 ++ [b], z.2 ++ [way ++ [b]]) else z))) :
    ∀ (post pre : List Int) (z : List Int × List (List Int)), rowAt pan x = pre ++ post → WJ pan start allowed rest found0 way x m pre z → (forX body post z = mpure (.inr (some way)) ∧ start ∈ rowAt pan x) ∨ ∃ z2, forX body post z = mpure (.inl z2) ∧ WJ pan start allowed rest found0 way x m (rowAt pan x) z2
  | [], pre, z, e, j => .inr ⟨z, rfl, by rw [e, List.append_nil]; exact j⟩
  | b :: post, pre, z, e, j => by
    have hbx : b ∈ rowAt pan x := by rw [e]; simp
    have hbr := row_bel h hbx
    have h1 := nodup_bel j.nd j.fb
    have h2 := j.cnt
    have hle := h.le
    unfold forX
    rw [hb b z (by omega) (by omega)]
    by_cases q1 : b = start
    · rw [if_pos q1]
      exact .inl ⟨rfl, by rw [← q1]; exact hbx⟩
    · rw [if_neg q1]
      by_cases q2 : b ∈ allowed ∧ b ∉ z.1
      · rw [if_pos q2]
        exact way_in h hxp hb post (pre ++ [b]) _ (by rw [e]; simp) (j.push q1 q2.1 q2.2 (.step hxp hbx q2.1) hbr)
      · rw [if_neg q2]
        exact way_in h hxp hb post (pre ++ [b]) _ (by rw [e]; simp) (j.skip q1 fun k => Classical.byContradiction fun n => q2 ⟨k, n⟩)
theorem way_loop (h : PanN pan) {c : List (List Int) × List Int → Mt ST Bool} {body : List (List Int) × List Int → Mt ST (Lp (List (List Int) × List Int) (Option (List Int)))} (hc : ∀ z, c z = mpure (!decide (z.1 = [])))
    (hb : ∀ way rest found m x, WI pan start allowed (way :: rest) found m → way.getLast? = some x → (∃ v, body (way :: rest, found) = mpure (.rt (some v)) ∧ start ∈ rowAt pan x) ∨ ∃ z : List Int × List (List Int), body (way :: rest, found) = mpure (.nx (z.2, z.1)) ∧ WJ pan start allowed rest found way x m (rowAt pan x) z) :
    ∀ (fuel : Nat) (ways : List (List Int)) (found : List Int) (m : Nat), WI pan start allowed ways found m → 11 < m + fuel → (∃ v a, whileX c body fuel (ways, found) = mpure (.inr (some v)) ∧ Pt pan start allowed a ∧ start ∈ rowAt pan a) ∨ ∃ found2 m2, whileX c body fuel (ways, found) = mpure (.inl ([], found2)) ∧ WI pan start allowed [] found2 m2
  | 0, ways, found, m, i, hf => by
    have h1 := nodup_bel i.nd i.fb
    have := i.cnt
    have := h.le
    omega
  | fuel + 1, [], found, m, i, hf => by
    unfold whileX
    rw [hc, mbind_pure]
    exact .inr ⟨found, m, rfl, i⟩
  | fuel + 1, way :: rest, found, m, i, hf => by
    obtain ⟨⟨x, hx, hxf⟩, _⟩ := i.wl way (by simp)
    unfold whileX
    rw [hc, mbind_pure, decide_eq_false (by simp)]
    simp only [Bool.not_false, if_true]
    rcases hb way rest found m x i hx with ⟨v, e, hs⟩ | ⟨z, e, j⟩
    · rw [e, mbind_pure]
      exact .inl ⟨v, x, rfl, i.fp x hxf, hs⟩
    · rw [e, mbind_pure]
      exact way_loop h hc hb fuel z.2 z.1 (m + 1) (i.next hx j) (by omega)
theorem way_ok (h : PanN pan) (hs : 0 ≤ start ∧ start < (pan.length : Int)) : ∃ o, p_way_back (S := ST) pan start allowed = mpure o ∧ (o.isSome = true ↔ ∃ a, Pt pan start allowed a ∧ start ∈ rowAt pan a) := by
  have hle := h.le
  have i0 : WI pan start allowed [[start]] [start] 0 := ⟨by simp, fun x hx => by rw [List.mem_singleton.mp hx]; exact .start, fun x hx => by rw [List.mem_singleton.mp hx]; exact hs, fun v hv => by rw [List.mem_singleton.mp hv]; exact ⟨⟨start, rfl, by simp⟩, by simp⟩, by simp, fun x hx => .inl ⟨[start], by simp, by rw [List.mem_singleton.mp hx]; rfl⟩, rfl⟩
  have L := way_loop (pan := pan) (start := start) (allowed := allowed) h
    (c := fun (vz2 : (List (List Int)) × (List Int)) => mpure (!decide (vz2.1 = ([] : (List (List Int))))))
    (body := fun (vz2 : (List (List Int)) × (List Int)) => mbind (mpopAt vz2.1 0) fun vway4 => mfinL (mbind (mbind (midx vway4.1 (-(1 : Int))) fun vx6 => midx pan vx6) fun vxs16 => forX (fun (vx7 : Int) (vz5 : (List Int) × (List (List Int))) => if decide (vx7 = start) = true then (mpure (.rt (some vway4.1))) else (mbind (if ((decide (vx7 ∈ allowed)) && (!decide (vx7 ∈ vz5.1))) = true then (mbind (mapp vz5.1 vx7) fun vfound11 => mbind (mbind (mdisp (vway4.1 ++ [vx7])) fun vx14 => mapp vz5.2 vx14) fun vways13 => mpure (vfound11, vways13)) else (mpure (vz5.1, vz5.2))) fun vz10 => mpure (.nx (vz10.1, vz10.2)))) vxs16 (vz2.2, vway4.2)) fun vz5 => mpure (.nx (vz5.2, vz5.1)))
    (fun z => rfl)
    (fun way rest found m x i hx => by
      obtain ⟨⟨x', hx', hxf⟩, hwl⟩ := i.wl way (by simp)
      rw [hx] at hx'
      cases hx'
      have hxr := i.fb x hxf
      have hfl := nodup_bel i.nd i.fb
      have hcn := i.cnt
      rw [List.length_cons] at hcn
      have j0 : WJ pan start allowed rest found way x m [] (found, rest) := ⟨i.nd, i.fp, i.fb, fun v hv => i.wl v (by simp [hv]), fun _ h => h, fun _ h => h, fun _ h => .inl h, (fun _ h => nomatch h), by show m + 1 + rest.length = found.length; omega, hwl⟩
      have R := way_in (way := way) h (i.fp x hxf) (body := fun (vx7 : Int) (vz5 : (List Int) × (List (List Int))) => if decide (vx7 = start) = true then (mpure (.rt (some way))) else (mbind (if ((decide (vx7 ∈ allowed)) && (!decide (vx7 ∈ vz5.1))) = true then (mbind (mapp vz5.1 vx7) fun vfound11 => mbind (mbind (mdisp (way ++ [vx7])) fun vx14 => mapp vz5.2 vx14) fun vways13 => mpure (vfound11, vways13)) else (mpure (vz5.1, vz5.2))) fun vz10 => mpure (.nx (vz10.1, vz10.2)))) (fun b z h1 h2 => by
        by_cases q1 : b = start
        · rw [if_pos (decide_eq_true q1), if_pos q1]
        · rw [if_neg (by simpa using q1), if_neg q1]
          by_cases q2 : b ∈ allowed ∧ b ∉ z.1
          · rw [if_pos q2, if_pos (by simp [q2.1, q2.2]), mapp_ok (by omega), mbind_pure, mdisp_ok (by rw [List.length_append, List.length_singleton]; omega), mbind_pure, mapp_ok (by omega), mbind_pure, mbind_pure]
          · rw [if_neg q2, if_neg (by simpa using q2), mbind_pure]) (rowAt pan x) [] (found, rest) rfl j0
      have e0 : mpopAt (S := ST) (way :: rest) 0 = mpure (way, rest) := rfl
      show (∃ v, mbind (mpopAt (way :: rest) 0) _ = _ ∧ _) ∨ ∃ z : List Int × List (List Int), mbind (mpopAt (way :: rest) 0) _ = _ ∧ _
      rw [e0, mbind_pure]
      dsimp only
      rw [midx_last hx, mbind_pure, midx_row hxr.1 hxr.2, mbind_pure]
      rcases R with ⟨e, q⟩ | ⟨z, e, j⟩
      · rw [e]
        exact .inl ⟨way, rfl, q⟩
      · rw [e]
        exact .inr ⟨z, rfl, j⟩)
    1000 [[start]] [start] 0 i0 (by omega)
  unfold p_way_back
  simp only [mbind_pure]
  rcases L with ⟨v, a, e, hp, hs'⟩ | ⟨f2, m2, e, i⟩
  · refine ⟨some v, ?_, fun _ => ⟨a, hp, hs'⟩, fun _ => rfl⟩
    exact congrArg (fun q => mfin q fun (_ : (List (List Int)) × (List Int)) => (mpure none : Mt ST (Option (List Int)))) e
  · refine ⟨none, ?_, fun q => (nomatch q), fun ⟨a, hp, hs'⟩ => ?_⟩
    · exact congrArg (fun q => mfin q fun (_ : (List (List Int)) × (List Int)) => (mpure none : Mt ST (Option (List Int)))) e
    · have key : ∀ b, Pt pan start allowed b → b ∈ f2 := fun b hb => by
        induction hb with
        | start => exact i.st
        | @step a b h hb ha ih =>
          rcases i.dn a ih with ⟨v, hv, _⟩ | q
          · cases hv
          · exact (q b hb).2 ha
      rcases i.dn a (key a hp) with ⟨v, hv, _⟩ | q
      · cases hv
      · exact absurd rfl (q start hs').1
end
/-! ### k19: when some row has the words -/
theorem Pt.mono {pan : List (List Int)} {start : Int} {al al' : List Int} (hs : ∀ x ∈ al, x ∈ al') {a : Int} (h : Pt pan start al a) : Pt pan start al' a := by
  induction h with
  | start => exact .start
  | step _ hb ha ih => exact .step ih hb (hs _ ha)
theorem min_ex : ∀ T : List Int, T ≠ [] → ∃ s ∈ T, ∀ x ∈ T, s ≤ x
  | [], h => absurd rfl h
  | [a], _ => ⟨a, by simp, fun x hx => by rw [List.mem_singleton.mp hx]; exact Int.le_refl _⟩
  | a :: b :: T, _ => by
    obtain ⟨s, hs, hm⟩ := min_ex (b :: T) (by simp)
    by_cases q : a ≤ s
    · refine ⟨a, by simp, fun x hx => ?_⟩
      rcases List.mem_cons.mp hx with k | k
      · omega
      · have := hm x k; omega
    · refine ⟨s, by simp [List.mem_cons.mp hs], fun x hx => ?_⟩
      rcases List.mem_cons.mp hx with k | k
      · omega
      · exact hm x k
open Classical in
theorem no_stuck {pan : List (List Int)} : ∀ (n : Nat) (T : List Int), T.length ≤ n → T ≠ [] → (∀ x ∈ T, ∃ y ∈ T, x ∈ rowAt pan y) → ∃ s ∈ T, ∃ a, Pt pan s (T.filter fun x => decide (s ≤ x)) a ∧ s ∈ rowAt pan a
  | 0, T, hl, hn, _ => absurd (List.length_eq_zero_iff.mp (by omega)) hn
  | n + 1, T, hl, hn, hst => by
    obtain ⟨s, hs, hm⟩ := min_ex T hn
    have hT : ∀ x ∈ T, x ∈ T.filter fun x => decide (s ≤ x) := fun x hx => List.mem_filter.mpr ⟨hx, decide_eq_true (hm x hx)⟩
    by_cases q : ∃ a, Pt pan s T a ∧ s ∈ rowAt pan a
    · obtain ⟨a, ha, hsa⟩ := q
      exact ⟨s, hs, a, ha.mono hT, hsa⟩
    · have hmem : ∀ x, x ∈ (T.filter fun x => decide (¬ Pt pan s T x)) ↔ x ∈ T ∧ ¬ Pt pan s T x := fun x => by rw [List.mem_filter, decide_eq_true_eq]
      obtain ⟨y, hy, hsy⟩ := hst s hs
      have hy' : y ∈ T.filter fun x => decide (¬ Pt pan s T x) := (hmem y).mpr ⟨hy, fun k => q ⟨y, k, hsy⟩⟩
      have hlt : (T.filter fun x => decide (¬ Pt pan s T x)).length < T.length := by
        refine Nat.lt_of_le_of_ne (List.length_filter_le _ _) fun e => ?_
        have := List.length_filter_eq_length_iff.mp e s hs
        exact (of_decide_eq_true this) .start
      obtain ⟨s', hs', a, ha, hsa⟩ := no_stuck n (T.filter fun x => decide (¬ Pt pan s T x)) (by omega) (List.ne_nil_of_mem hy') fun x hx => by
        obtain ⟨hxT, hxn⟩ := (hmem x).mp hx
        obtain ⟨z, hz, hxz⟩ := hst x hxT
        exact ⟨z, (hmem z).mpr ⟨hz, fun k => hxn (.step k hxz hxT)⟩, hxz⟩
      refine ⟨s', ((hmem s').mp hs').1, a, ha.mono fun x hx => ?_, hsa⟩
      obtain ⟨h1, h2⟩ := List.mem_filter.mp hx
      exact List.mem_filter.mpr ⟨((hmem x).mp h1).1, h2⟩
theorem topo {pan : List (List Int)} : ∀ (n : Nat) (L : List Int), L.length = n → L.Nodup → (∀ T : List Int, T ≠ [] → (∀ x ∈ T, x ∈ L) → ∃ x ∈ T, ∀ y ∈ T, x ∉ rowAt pan y) → ∃ order : List Int, order.Perm L ∧ ∀ pre x post, order = pre ++ x :: post → ∀ y ∈ post, x ∉ rowAt pan y
  | 0, L, hl, _, _ => ⟨[], by rw [List.length_eq_zero_iff.mp hl], fun pre x post e => by cases pre <;> cases e⟩
  | n + 1, L, hl, hn, hs => by
    obtain ⟨x, hx, hxr⟩ := hs L (fun e => by rw [e] at hl; cases hl) fun _ h => h
    obtain ⟨order, hp, ho⟩ := topo n (L.erase x) (by rw [List.length_erase_of_mem hx]; omega) (hn.erase x) fun T hT hsub => hs T hT fun y hy => List.mem_of_mem_erase (hsub y hy)
    refine ⟨x :: order, (hp.cons x).trans (List.perm_cons_erase hx).symm, fun pre a post e => ?_⟩
    cases pre with
    | nil =>
      cases e
      exact fun y hy => hxr y (List.mem_of_mem_erase (hp.mem_iff.mp hy))
    | cons c pre =>
      cases e
      exact ho pre a post rfl
section
variable {pan : List (List Int)} {w : Int → Str}
theorem off_keep {i : Int} : ∀ (q : List Int), i ∉ q → wFrom pan "off" q i = "off"
  | [], _ => rfl
  | b :: q, h => by
    have hb : i ≠ b := fun e => h (by simp [e])
    show wFrom pan (wNew pan i "off" b) q i = "off"
    have e : wNew pan i "off" b = "off" := by
      unfold wNew
      rw [if_neg hb]
      split <;> rfl
    rw [e]
    exact off_keep q fun k => h (by simp [k])
theorem off_of {p q : List Int} {x i : Int} (hx : i ∈ rowAt pan x) (hne : i ≠ x) (hq : i ∉ q) : wAft pan (p ++ x :: q) i = "off" := by
  rw [wAft, wFrom_app]
  show wFrom pan (wNew pan i _ x) q i = "off"
  have e : ∀ v, wNew pan i v x = "off" := fun v => by
    unfold wNew
    rw [if_neg hne, if_pos hx]
  rw [e]
  exact off_keep q hq
/-- the row of an order and of what is gathered -/
theorem row_built (h : PanN pan) (h3 : ∀ i, w i = "on" ∨ w i = "off" ∨ w i = "same") {order g hs : List Int} {k : Nat} (hp : order.Perm (onL pan w)) (ho : ∀ pre x post, order = pre ++ x :: post → ∀ y ∈ post, x ∉ rowAt pan y) (G : GL pan w g hs k) (hfull : ∀ o, 0 ≤ o ∧ o < (pan.length : Int) → w o = "off" → o ∈ g) (hfr : ∀ b ∈ onL pan w, fre pan w b = true) :
    ∃ R, Bel pan.length R ∧ eff pan R = wordsW pan.length w := by
  have hon : ∀ i, i ∈ order ↔ (0 ≤ i ∧ i < (pan.length : Int)) ∧ w i = "on" := fun i => hp.mem_iff.trans mem_onL
  have hnd : order.Nodup := hp.nodup_iff.mpr ((nodup_upto _).sublist List.filter_sublist)
  refine ⟨(g.filter (fre pan w)).reverse ++ order, fun x hx => ?_, ?_⟩
  · rcases List.mem_append.mp hx with q | q
    · exact (G.off x (List.mem_filter.mp (List.mem_reverse.mp q)).1).1
    · exact ((hon x).mp q).1
  · unfold eff wordsW
    refine List.map_congr_left fun i hi => ?_
    have hi := mem_upto.mp hi
    rcases h3 i with e | e | e
    · rw [e, on_iff]
      obtain ⟨pre, post, eo⟩ := List.append_of_mem ((hon i).mpr ⟨hi, e⟩)
      refine ⟨(g.filter (fre pan w)).reverse ++ pre, post, by rw [eo, List.append_assoc], fun b hb t => ?_⟩
      rcases t with t | t
      · rw [eo] at hnd
        exact (List.nodup_cons.mp (List.nodup_append.mp hnd).2.1).1 (by rw [t]; exact hb)
      · exact ho pre i post eo b hb t
    · rw [e]
      obtain ⟨pre, post, eg⟩ := List.append_of_mem (hfull i hi e)
      obtain ⟨x, hx, hix⟩ := G.src pre i post eg
      have hio : i ∉ order := fun q => by
        have := ((hon i).mp q).2
        rw [e] at this
        exact absurd this (by decide)
      have hne : i ≠ x := h.hself i x hix
      have hipre : i ∉ pre := fun q => by
        have hn := G.nd
        rw [eg] at hn
        exact (List.nodup_append.mp hn).2.2 i q i (by simp) rfl
      rcases hx with hx | ⟨hx, hf⟩
      · obtain ⟨p1, q1, eo⟩ := List.append_of_mem (hp.mem_iff.mpr hx)
        rw [eo, ← List.append_assoc]
        exact off_of hix hne fun q => hio (by rw [eo]; simp [q])
      · obtain ⟨A, B, eB⟩ := List.append_of_mem (List.mem_reverse.mpr (List.mem_filter.mpr ⟨hx, hf⟩) : x ∈ (pre.filter (fre pan w)).reverse)
        rw [eg, List.filter_append, List.reverse_append, eB, List.append_assoc, List.append_assoc, List.cons_append, ← List.append_assoc]
        refine off_of hix hne fun q => ?_
        rcases List.mem_append.mp q with q | q
        · have : i ∈ (pre.filter (fre pan w)).reverse := by rw [eB]; simp [q]
          exact hipre (List.mem_filter.mp (List.mem_reverse.mp this)).1
        · exact hio q
    · rw [e, same_iff]
      intro b hb t
      rcases List.mem_append.mp hb with q | q
      · obtain ⟨hbg, hbf⟩ := List.mem_filter.mp (List.mem_reverse.mp q)
        rcases t with t | t
        · have := (G.off b hbg).2
          rw [← t, e] at this
          exact absurd this (by decide)
        · exact fre_iff.mp hbf i t e
      · rcases t with t | t
        · have := ((hon b).mp q).2
          rw [← t, e] at this
          exact absurd this (by decide)
        · exact fre_iff.mp (hfr b (hp.mem_iff.mp q)) i t e
/-! a row's words -/
/-- the last that touches b is at k -/
structure Lk (pan : List (List Int)) (R : List Int) (b : Int) (z : Int) (k : Nat) : Prop where
  at_ : R[k]? = some z
  tch : Tch pan b z
  no : ∀ (j : Nat) x, k < j → R[j]? = some x → ¬ Tch pan b x
theorem lk_of {R p q : List Int} {b z : Int} (e : R = p ++ z :: q) (ht : Tch pan b z) (hq : ∀ x ∈ q, ¬ Tch pan b x) : Lk pan R b z p.length := by
  refine ⟨by rw [e]; simp, ht, fun j x hj hx => ?_⟩
  rw [e, List.getElem?_append_right (by omega)] at hx
  obtain ⟨m, hm⟩ : ∃ m, j - p.length = m + 1 := ⟨j - p.length - 1, by omega⟩
  rw [hm, List.getElem?_cons_succ] at hx
  exact hq x (List.mem_of_getElem? hx)
theorem Lk.le {R : List Int} {b z : Int} {k : Nat} (l : Lk pan R b z k) {j : Nat} {x : Int} (hx : R[j]? = some x) (ht : Tch pan b x) : j ≤ k := by
  by_cases q : k < j
  · exact absurd ht (l.no j x q hx)
  · omega
theorem lk_on {R : List Int} {b : Int} (h : wAft pan R b = "on") : ∃ k, Lk pan R b b k := by
  obtain ⟨p, q, e, hq⟩ := on_iff.mp h
  exact ⟨_, lk_of e (.inl rfl) hq⟩
theorem lk_off {R : List Int} {b : Int} (h : wAft pan R b = "off") : ∃ z k, Lk pan R b z k ∧ b ≠ z ∧ b ∈ rowAt pan z := by
  obtain ⟨p, z, q, e, h1, h2, hq⟩ := off_iff.mp h
  exact ⟨z, _, lk_of e (.inr h2) hq, h1, h2⟩
theorem ex_noround (h : PanN pan) {R : List Int} {start : Int} {al : List Int} (hs : wAft pan R start = "on") (hal : ∀ x ∈ al, wAft pan R x = "on") {a : Int} (ha : Pt pan start al a) : start ∉ rowAt pan a := fun hsa => by
  obtain ⟨k0, l0⟩ := lk_on hs
  have key : ∃ k, Lk pan R a a k ∧ k0 ≤ k := by
    clear hsa
    induction ha with
    | start => exact ⟨k0, l0, Nat.le_refl _⟩
    | @step a b _ hb hbal ih =>
      obtain ⟨k, l, hk⟩ := ih
      obtain ⟨k2, l2⟩ := lk_on (hal b hbal)
      have := l2.le l.at_ (.inr hb)
      exact ⟨k2, l2, by omega⟩
  obtain ⟨k, l, hk⟩ := key
  have h1 := l0.le l.at_ (.inr hsa)
  have h2 : k = k0 := by omega
  have e := l.at_
  rw [h2, l0.at_] at e
  exact h.hself start a hsa (Option.some.inj e)
theorem ex_free {R : List Int} {b : Int} (hb : b ∈ R) {o : Int} (ho : o ∈ rowAt pan b) : wAft pan R o ≠ "same" := fun e => same_iff.mp e b hb (.inr ho)
theorem ex_full (h : PanN pan) {R : List Int} (hB : Bel pan.length R) (hw : ∀ i, 0 ≤ i ∧ i < (pan.length : Int) → wAft pan R i = w i) {g hs : List Int} (G : GL pan w g hs hs.length) : ∀ (d k : Nat) (o z : Int), R.length ≤ d + k → (0 ≤ o ∧ o < (pan.length : Int)) → w o = "off" → Lk pan R o z k → o ≠ z → o ∈ rowAt pan z → o ∈ g
  | 0, k, o, z, hd, _, _, l, _, _ => by
    have := (List.getElem?_eq_some_iff.mp l.at_).1
    omega
  | d + 1, k, o, z, hd, ho, hwo, l, hne, hoz => by
    have hzR : z ∈ R := List.mem_of_getElem? l.at_
    have hzr := hB z hzR
    have hzs : w z ≠ "same" := fun e => by
      rw [← hw z hzr] at e
      exact same_iff.mp e z hzR (.inl rfl)
    have hzf : fre pan w z = true := fre_iff.mpr fun c hc e => by
      have hcr := row_bel h hc
      rw [← hw c hcr] at e
      exact ex_free hzR hc e
    have hzh : z ∈ hs := by
      rw [G.hse]
      rcases word_cases pan R z with e | e | e
      · exact List.mem_append.mpr (.inl (mem_onL.mpr ⟨hzr, by rw [← hw z hzr]; exact e⟩))
      · obtain ⟨z', k', l', hne', hz'⟩ := lk_off e
        have h1 := l'.le l.at_ (.inl rfl)
        have h2 : k ≠ k' := fun q => by
          have e1 := l.at_
          rw [q, l'.at_] at e1
          exact hne' (Option.some.inj e1).symm
        have hzg := ex_full h hB hw G d k' z z' (by omega) hzr (by rw [← hw z hzr]; exact e) l' hne' hz'
        exact List.mem_append.mpr (.inr (List.mem_filter.mpr ⟨hzg, hzf⟩))
      · rw [hw z hzr] at e
        exact absurd e hzs
    obtain ⟨i, hi⟩ := List.getElem?_of_mem hzh
    exact G.clo i z (List.getElem?_eq_some_iff.mp hi).1 hi o hoz hwo
end
/-! ### k19: the law's conditions -/
theorem forX_some {α β : Type} {body : α → Unit → Mt ST (Lp Unit (Option β))} (C : α → Prop) : ∀ xs : List α, (∀ x ∈ xs, ∃ o : Option β, body x () = mpure (if o.isSome = true then .rt o else .nx ()) ∧ (o.isSome = true ↔ C x)) →
    (∃ o : Option β, forX body xs () = mpure (.inr o) ∧ o.isSome = true ∧ ∃ x ∈ xs, C x) ∨ (forX body xs () = mpure (.inl ()) ∧ ∀ x ∈ xs, ¬ C x)
  | [], _ => .inr ⟨rfl, fun _ h => nomatch h⟩
  | x :: xs, h => by
    obtain ⟨o, e, hC⟩ := h x (by simp)
    unfold forX
    rw [e, mbind_pure]
    cases q : o.isSome with
    | true => exact .inl ⟨o, by rw [if_pos rfl], q, x, by simp, hC.mp q⟩
    | false =>
      rw [if_neg (by decide)]
      rcases forX_some C xs fun y hy => h y (by simp [hy]) with ⟨o2, e2, h2, y, hy, hCy⟩ | ⟨e2, h2⟩
      · exact .inl ⟨o2, e2, h2, y, by simp [hy], hCy⟩
      · refine .inr ⟨e2, fun y hy k => ?_⟩
        rcases List.mem_cons.mp hy with z | z
        · rw [z] at k
          rw [hC.mpr k] at q
          cases q
        · exact h2 y z k
section
variable {pan : List (List Int)} {w : Int → Str}
theorem round_ok (h : PanN pan) : ∃ o, p_find_round (S := ST) pan (onL pan w) = mpure o ∧ (o.isSome = true ↔ ∃ q ∈ enumZ 0 (onL pan w), ∃ a, Pt pan q.2 ((onL pan w).drop q.1.toNat) a ∧ q.2 ∈ rowAt pan a) := by
  unfold p_find_round
  simp only [mbind_pure]
  have L := forX_some (body := fun (vx3 : (Int × Int)) (vz1 : Unit) => mbind (p_way_back (S := ST) pan vx3.2 (cutD (onL pan w) (some vx3.1) none)) fun vfound4 => if vfound4.isSome = true then (mpure (.rt vfound4)) else (mpure (.nx ()))) (fun q => ∃ a, Pt pan q.2 ((onL pan w).drop q.1.toNat) a ∧ q.2 ∈ rowAt pan a) (enumZ 0 (onL pan w)) fun q hq => by
    obtain ⟨i, hi, e1⟩ := mem_enumZ hq
    have hr := (mem_onL.mp (List.mem_of_getElem? hi)).1
    obtain ⟨o, e, ho⟩ := way_ok (allowed := (onL pan w).drop q.1.toNat) h hr
    refine ⟨o, ?_, ho⟩
    have e2 : q.1 = ((i : Nat) : Int) := by rw [e1]; omega
    have e3 : Dn.cutD (onL pan w) (some q.1) none = (onL pan w).drop q.1.toNat := by rw [e2, cutD_drop, Int.toNat_natCast]
    rw [e3, e, mbind_pure]
    split <;> rfl
  rcases L with ⟨o, e, ho, hq⟩ | ⟨e, hq⟩
  · exact ⟨o, by rw [e] <;> rfl, fun _ => hq, fun _ => ho⟩
  · exact ⟨none, by rw [e] <;> rfl, fun k => (nomatch k), fun ⟨q, h1, h2⟩ => absurd h2 (hq q h1)⟩
theorem onL_sorted : (onL pan w).Pairwise (· < ·) := (sorted_upto _).sublist List.filter_sublist
theorem round_none (hn : ¬ ∃ q ∈ enumZ 0 (onL pan w), ∃ a, Pt pan q.2 ((onL pan w).drop q.1.toNat) a ∧ q.2 ∈ rowAt pan a) : ∀ T : List Int, T ≠ [] → (∀ x ∈ T, x ∈ onL pan w) → ∃ x ∈ T, ∀ y ∈ T, x ∉ rowAt pan y := fun T hT hsub => Classical.byContradiction fun hno => by
  have hst : ∀ x ∈ T, ∃ y ∈ T, x ∈ rowAt pan y := fun x hx => Classical.byContradiction fun k => hno ⟨x, hx, fun y hy z => k ⟨y, hy, z⟩⟩
  obtain ⟨s, hs, a, ha, hsa⟩ := no_stuck _ T (Nat.le_refl _) hT hst
  obtain ⟨i, hi⟩ := List.getElem?_of_mem (hsub s hs)
  refine hn ⟨((i : Int), s), ?_, a, ha.mono fun x hx => ?_, hsa⟩
  · have := enumZ_get (onL pan w) 0 i
    rw [hi] at this
    simp only [Option.map_some, Nat.zero_add] at this
    exact List.mem_of_getElem? this
  · obtain ⟨h1, h2⟩ := List.mem_filter.mp hx
    have h2 : s ≤ x := of_decide_eq_true h2
    obtain ⟨j, hj⟩ := List.getElem?_of_mem (hsub x h1)
    obtain ⟨hjl, hje⟩ := List.getElem?_eq_some_iff.mp hj
    obtain ⟨hil, hie⟩ := List.getElem?_eq_some_iff.mp hi
    have hij : i ≤ j := by
      by_cases q : j < i
      · have := List.pairwise_iff_getElem.mp (onL_sorted (pan := pan) (w := w)) j i hjl hil q
        omega
      · omega
    rw [Int.toNat_natCast]
    refine List.mem_of_getElem? (i := j - i) ?_
    rw [List.getElem?_drop, show i + (j - i) = j by omega]
    exact hj
theorem holds_ok (h : PanN pan) (h3 : ∀ i, w i = "on" ∨ w i = "off" ∨ w i = "same") : ∃ b, p__law_holds (S := ST) pan (wordsW pan.length w) = mpure b ∧ (b = true ↔ ∃ R, Bel pan.length R ∧ eff pan R = wordsW pan.length w) := by
  have hle := h.le
  have hwof : ∀ {R : List Int}, eff pan R = wordsW pan.length w → ∀ i, 0 ≤ i ∧ i < (pan.length : Int) → wAft pan R i = w i := fun {R} hR i hi => by
    have e := congrArg (fun E : List Str => E[i.toNat]?) hR
    unfold eff wordsW at e
    simp only [List.getElem?_map, upto_get] at e
    rw [if_pos (by omega)] at e
    simp only [Option.map_some, Int.toNat_of_nonneg hi.1] at e
    exact Option.some.inj e
  obtain ⟨o, eo, ho⟩ := round_ok (w := w) h
  unfold p__law_holds
  simp only [mbind_pure]
  rw [onc_ok, if_pos (by rw [wordsW_len]; omega), mbind_pure, mbind_pure, eo, mbind_pure, mbind_pure]
  cases q : o.isSome with
  | true =>
    refine ⟨false, rfl, fun k => (nomatch k), fun ⟨R, hB, hR⟩ => ?_⟩
    obtain ⟨p, hp, a, ha, hpa⟩ := ho.mp q
    obtain ⟨i, hi, _⟩ := mem_enumZ hp
    have hon : ∀ x ∈ onL pan w, wAft pan R x = "on" := fun x hx => by
      obtain ⟨h1, h2⟩ := mem_onL.mp hx
      rw [hwof hR x h1, h2]
    exact absurd hpa (ex_noround h (hon _ (List.mem_of_getElem? hi)) (fun x hx => hon x (List.mem_of_mem_drop hx)) ha)
  | false =>
    rw [if_neg (by decide)]
    have hno : ¬ ∃ q ∈ enumZ 0 (onL pan w), ∃ a, Pt pan q.2 ((onL pan w).drop q.1.toNat) a ∧ q.2 ∈ rowAt pan a := fun k => by
      rw [ho.mpr k] at q
      cases q
    rw [forX_find (fun b => !fre pan w b) (fun _ => false) _ (fun b hb => ?_)]
    · cases hf : (onL pan w).find? (fun b => !fre pan w b) with
      | some b =>
        refine ⟨false, rfl, fun k => (nomatch k), fun ⟨R, hB, hR⟩ => ?_⟩
        have hb := List.mem_of_find?_eq_some hf
        have hbf := List.find?_some hf
        obtain ⟨h1, h2⟩ := mem_onL.mp hb
        have hbR : b ∈ R := on_mem (by rw [hwof hR b h1]; exact h2)
        have : fre pan w b = true := fre_iff.mpr fun c hc e => by
          rw [← hwof hR c (row_bel h hc)] at e
          exact ex_free hbR hc e
        rw [this] at hbf
        cases hbf
      | none =>
        have hfr : ∀ b ∈ onL pan w, fre pan w b = true := fun b hb => by
          have := List.find?_eq_none.mp hf b hb
          simpa using this
        obtain ⟨g, hs, eg, G⟩ := gath_ok (w := w) h
        have hlay : ∀ x ∈ ("off" : Str) :: wordsW pan.length w, (toP (eS x)).canLay0 = true := fun x hx => by
          have : x = "on" ∨ x = "off" ∨ x = "same" := by
            rcases List.mem_cons.mp hx with q | q
            · exact .inr (.inl q)
            · unfold wordsW at q
              obtain ⟨i, _, rfl⟩ := List.mem_map.mp q
              exact h3 i
          rcases this with rfl | rfl | rfl <;> first | rfl | decide +kernel
        have hcnt : (wordsW pan.length w).count ("off" : Str) = ((upto pan.length).filter fun i => decide (w i = "off")).length := by
          unfold wordsW
          rw [List.count, List.countP_map, List.countP_eq_length_filter]
          first
            | rfl
            | (congr 1; refine List.filter_congr fun i _ => ?_; show (w i == "off") = _; rw [Bool.eq_iff_iff]; simp)
        refine ⟨decide ((g.length : Int) = ((((upto pan.length).filter fun i => decide (w i = "off")).length : Nat) : Int)), ?_, ?_⟩
        · show mbind (mbind (p__law_gathered pan (wordsW pan.length w)) _) _ = _
          rw [eg, mbind_pure, mbind_pure, mcount_ok hlay, mbind_pure, hcnt]
        · rw [decide_eq_true_eq]
          constructor
          · intro hk
            have hfull : ∀ a, 0 ≤ a ∧ a < (pan.length : Int) → w a = "off" → a ∈ g := fun a hr ha => Classical.byContradiction fun hn => by
              have := nodup_len_sub (List.nodup_cons.mpr ⟨hn, G.nd⟩) (m := (upto pan.length).filter fun i => decide (w i = "off")) fun c hc => by
                rcases List.mem_cons.mp hc with rfl | hc
                · exact List.mem_filter.mpr ⟨mem_upto.mpr hr, decide_eq_true ha⟩
                · exact List.mem_filter.mpr ⟨mem_upto.mpr (G.off c hc).1, decide_eq_true (G.off c hc).2⟩
              rw [List.length_cons] at this
              omega
            obtain ⟨order, hp, hord⟩ := topo (pan := pan) _ (onL pan w) rfl ((nodup_upto _).sublist List.filter_sublist) (round_none hno)
            exact row_built h h3 hp hord G hfull hfr
          · rintro ⟨R, hB, hR⟩
            have hfull : ∀ a, a ∈ (upto pan.length).filter (fun i => decide (w i = "off")) → a ∈ g := fun a ha => by
              obtain ⟨h1, h2⟩ := List.mem_filter.mp ha
              have hr := mem_upto.mp h1
              have h2 : w a = "off" := of_decide_eq_true h2
              obtain ⟨z, k, l, hne, haz⟩ := lk_off (pan := pan) (R := R) (b := a) (by rw [hwof hR a hr]; exact h2)
              exact ex_full h hB (hwof hR) G R.length k a z (by omega) hr h2 l hne haz
            have : g.Perm ((upto pan.length).filter fun i => decide (w i = "off")) := (List.perm_ext_iff_of_nodup G.nd ((nodup_upto _).sublist List.filter_sublist)).mpr fun a => ⟨fun ha => List.mem_filter.mpr ⟨mem_upto.mpr (G.off a ha).1, decide_eq_true (G.off a ha).2⟩, hfull a⟩
            rw [this.length_eq]
    · have hr := (mem_onL.mp hb).1
      have hrl := h.len _ (h.row hr.1 hr.2)
      rw [midx_row hr.1 hr.2, mbind_pure, compM_pure w (by omega) (fun x hx _ => wordsW_at w (row_bel h hx)), filter_true, calmly_pure', mbind_pure, mbind_pure]
      unfold fre
      rw [Bool.not_not]
      split <;> rfl
end
/-! ### k19: all words in order; the law -/
theorem forX_q {S σ α β : Type} {z : σ} {body : α → σ → Mt S (Lp σ β)} : ∀ (xs : List α), (∀ x ∈ xs, body x z = mpure (.nx z)) → forX body xs z = mpure (.inl z)
  | [], _ => rfl
  | x :: xs, hb => by
    unfold forX
    rw [hb x (by simp), mbind_pure]
    exact forX_q xs fun y hy => hb y (by simp [hy])
def A3 : List Str := ["off", "on", "same"]
def AW : Nat → List (List Str)
  | 0 => [[]]
  | n + 1 => (AW n).flatMap fun e => A3.map fun y => e ++ [y]
theorem AW_len : ∀ n, (AW n).length = 3 ^ n
  | 0 => rfl
  | n + 1 => by
    unfold AW
    have : ∀ L : List (List Str), (L.flatMap fun e => A3.map fun y => e ++ [y]).length = L.length * 3 := fun L => by
      induction L with
      | nil => rfl
      | cons x L ih =>
        rw [List.flatMap_cons, List.length_append, List.length_map, ih, List.length_cons]
        show 3 + _ = _
        omega
    rw [this, AW_len n, Nat.pow_succ]
theorem mem_A3 {y : Str} : y ∈ A3 ↔ y ∈ W3 := by
  unfold A3 W3
  simp only [List.mem_cons, List.not_mem_nil, or_false]
  constructor <;> rintro (h | h | h) <;> simp [h]
theorem mem_AW : ∀ {n : Nat} {e : List Str}, e ∈ AW n ↔ e.length = n ∧ ∀ y ∈ e, y ∈ W3
  | 0, e => by
    unfold AW
    rw [List.mem_singleton]
    exact ⟨fun h => by rw [h]; exact ⟨rfl, fun _ k => nomatch k⟩, fun h => List.length_eq_zero_iff.mp h.1⟩
  | n + 1, e => by
    unfold AW
    rw [List.mem_flatMap]
    constructor
    · rintro ⟨a, ha, he⟩
      obtain ⟨y, hy, rfl⟩ := List.mem_map.mp he
      obtain ⟨h1, h2⟩ := mem_AW.mp ha
      refine ⟨by rw [List.length_append, h1]; rfl, fun z hz => ?_⟩
      rcases List.mem_append.mp hz with q | q
      · exact h2 z q
      · rw [List.mem_singleton.mp q]; exact mem_A3.mp hy
    · rintro ⟨hl, he⟩
      rcases List.eq_nil_or_concat e with q | ⟨e', y, q⟩
      · rw [q] at hl; cases hl
      · rw [List.concat_eq_append] at q
        subst q
        rw [List.length_append, List.length_singleton] at hl
        exact ⟨e', mem_AW.mpr ⟨by omega, fun z hz => he z (by simp [hz])⟩, List.mem_map.mpr ⟨y, mem_A3.mpr (he y (by simp)), rfl⟩⟩
theorem lexB_more : ∀ {a b : List Str} (x y : List Str), a.length = b.length → lexB ltS a b = true → lexB ltS (a ++ x) (b ++ y) = true
  | [], [], _, _, _, h => nomatch h
  | [], _ :: _, _, _, l, _ => nomatch l
  | _ :: _, [], _, _, l, _ => nomatch l
  | p :: a, q :: b, x, y, l, h => by
    simp only [List.cons_append, lexB] at h ⊢
    split
    · rename_i e
      rw [if_pos e] at h
      exact lexB_more x y (by simpa using l) h
    · rename_i e
      rwa [if_neg e] at h
theorem lexB_last : ∀ (a : List Str) {x y : Str}, x ≠ y → ltS x y = true → lexB ltS (a ++ [x]) (a ++ [y]) = true
  | [], x, y, hn, h => by
    show (if x = y then _ else ltS x y) = true
    rw [if_neg hn, h]
  | p :: a, x, y, hn, h => by
    show (if p = p then lexB ltS (a ++ [x]) (a ++ [y]) else _) = true
    rw [if_pos rfl]
    exact lexB_last a hn h
theorem AW_srt : ∀ n, (AW n).Pairwise fun a b => lexB ltS a b = true
  | 0 => List.pairwise_singleton _ _
  | n + 1 => by
    unfold AW
    rw [List.pairwise_flatMap]
    refine ⟨fun a _ => ?_, ?_⟩
    · rw [List.pairwise_map]
      have hp : A3.Pairwise fun x y => x ≠ y ∧ ltS x y = true := by decide +kernel
      exact hp.imp fun k => lexB_last a k.1 k.2
    · refine List.Pairwise.imp_of_mem (fun {a b} ha hb k => ?_) (AW_srt n)
      intro x hx y hy
      obtain ⟨u, _, rfl⟩ := List.mem_map.mp hx
      obtain ⟨v, _, rfl⟩ := List.mem_map.mp hy
      exact lexB_more _ _ (by rw [(mem_AW.mp ha).1, (mem_AW.mp hb).1]) k
theorem p3 {n : Nat} (h : n ≤ 4) : 3 ^ n ≤ 81 := Nat.pow_le_pow_right (by decide) h
theorem allw_ok {n : Nat} (h4 : n ≤ 4) : p__law_all_words (S := ST) (n : Int) = mpure (AW n) := by
  unfold p__law_all_words
  simp only [mbind_pure, mbind_ret]
  rw [mrng_nat n (by omega), mbind_pure, forU_inv (upto n) [[]] (fun pre => AW pre.length) rfl fun pre b post e => ?_, upto_length]
  have hk : pre.length < n := (upto_split e).2
  have hA := AW_len pre.length
  have h3 := p3 (n := pre.length) (by omega)
  rw [List.length_append, List.length_singleton]
  refine (forU_inv (AW pre.length) [] (fun p2 => p2.flatMap fun e => A3.map fun y => e ++ [y]) rfl fun p2 x q2 e2 => ?_)
  have hx := mem_AW.mp (show x ∈ AW pre.length by rw [e2]; simp)
  have hp2 : (p2.flatMap fun e => A3.map fun y => e ++ [y]).length = p2.length * 3 := by
    clear e2
    induction p2 with
    | nil => rfl
    | cons x L ih =>
      rw [List.flatMap_cons, List.length_append, List.length_map, ih, List.length_cons]
      show 3 + _ = _
      omega
  have hl2 : p2.length ≤ (AW pre.length).length := by rw [e2]; simp
  rw [compM_pure (fun y : Str => x ++ [y]) (by simp) (fun y _ _ => mcat_ok (by rw [List.length_singleton]; omega)), filter_true, calmly_pure', mbind_pure]
  rw [mcat_ok (by rw [hp2, List.length_map]; simp; omega)]
  congr 1
  rw [List.flatMap_append, List.flatMap_singleton]
  rfl
section
variable {pan : List (List Int)}
def HasR (pan : List (List Int)) (E : List Str) : Prop := ∃ R, Bel pan.length R ∧ eff pan R = E
noncomputable def hasR (pan : List (List Int)) (E : List Str) : Bool := @decide (HasR pan E) (Classical.propDecidable _)
theorem hasR_iff {E : List Str} : hasR pan E = true ↔ HasR pan E := @decide_eq_true_iff _ (Classical.propDecidable _)
theorem bool_iff {b : Bool} {p : Prop} {c : Bool} (h1 : b = true ↔ p) (h2 : c = true ↔ p) : b = c := by
  cases b <;> cases c <;> simp_all
theorem w3_fun {E : List Str} (hE : ∀ y ∈ E, y ∈ W3) (i : Nat) : E.getD i "same" = "on" ∨ E.getD i "same" = "off" ∨ E.getD i "same" = ("same" : Str) := by
  rw [List.getD_eq_getElem?_getD]
  cases q : E[i]? with
  | none => exact .inr (.inr rfl)
  | some y =>
    have := hE y (List.mem_of_getElem? q)
    unfold W3 at this
    simpa using this
theorem holdE (h : PanN pan) {E : List Str} (hl : E.length = pan.length) (hE : ∀ y ∈ E, y ∈ W3) : p__law_holds (S := ST) pan E = mpure (hasR pan E) := by
  have eE := words_fun hl
  obtain ⟨b, e1, e2⟩ := holds_ok h (w := fun i : Int => E.getD i.toNat "same") fun i => w3_fun hE i.toNat
  rw [← eE] at e1 e2
  rw [e1, bool_iff e2 hasR_iff]
theorem rowE (h : PanN pan) {E : List Str} (hl : E.length = pan.length) (hE : ∀ y ∈ E, y ∈ W3) : ∃ o, p_row_for (S := ST) pan (eT eS E) = mpure o ∧ o.isSome = hasR pan E := by
  have eE := words_fun hl
  obtain ⟨o, e1, e2⟩ := sound_w h (w := fun i : Int => E.getD i.toNat "same") fun i => w3_fun hE i.toNat
  rw [← eE] at e1 e2
  refine ⟨o, e1, bool_iff (p := HasR pan E) ⟨fun q => ?_, fun ⟨R, hB, e⟩ => ?_⟩ hasR_iff⟩
  · obtain ⟨row, hr⟩ := Option.isSome_iff_exists.mp q
    obtain ⟨_, hB, e⟩ := e2 row hr
    exact ⟨row, hB, e⟩
  · obtain ⟨row, e3, _⟩ := row_for_ok h hB
    rw [e, e1] at e3
    have : o = some row := by
      have := congrFun e3 (Classical.choice ⟨(⟨⟨([0], [0], 0), ⟨rfl, by decide, fun z hz => by simp at hz; omega⟩⟩, fun _ => none⟩ : ST)⟩)
      injection this
    rw [this]
    rfl
theorem effect_ok {T : Type} (h : PanN pan) {row : List Int} (hr : Bel pan.length row) : p_effect_of (S := T) pan row = mpure (eff pan row) := by
  unfold p_effect_of
  have hl := h.le
  rw [mrepT_ok (by omega) (by omega)]
  simp only [mbind_pure, mbind_ret]
  refine forU_inv row _ (fun pre => eff pan pre) ?_ fun pre x post e => ?_
  · show (upto pan.length).map (fun _ => ("same" : Str)) = _
    rw [List.map_const', upto_length, Int.toNat_natCast]
  · rw [after_ok (by rw [eff_len]; omega) (hr x (by rw [e]; simp)), aft_eff]
theorem due_ok (h : PanN pan) (h4 : pan.length ≤ 4) : compG (fun (vx5 : (List Str)) => mbind (p__law_holds (S := ST) pan vx5) fun vx6 => mpure vx6) (fun (vx5 : (List Str)) => mpure vx5) (AW pan.length) = mpure ((AW pan.length).filter (hasR pan)) := by
  have hA := AW_len pan.length
  have h3 := p3 h4
  exact compG_id (hasR pan) (by omega) fun x hx => by rw [holdE h (mem_AW.mp hx).1 (mem_AW.mp hx).2, mbind_pure]
theorem some_ok (h : PanN pan) (h4 : pan.length ≤ 4) : compG (fun (vx12 : (List Str)) => mbind (p_row_for (S := ST) pan ((eT eS) vx12)) fun vx13 => mpure (vx13.isSome)) (fun (vx12 : (List Str)) => mpure vx12) (AW pan.length) = mpure ((AW pan.length).filter (hasR pan)) := by
  have hA := AW_len pan.length
  have h3 := p3 h4
  refine compG_id (hasR pan) (by omega) fun x hx => ?_
  obtain ⟨o, e1, e2⟩ := rowE h (mem_AW.mp hx).1 (mem_AW.mp hx).2
  rw [e1, mbind_pure, e2]
theorem due_srt : ((AW pan.length).filter (hasR pan)).Pairwise fun a b => lexB ltS a b = true := (AW_srt _).sublist List.filter_sublist
theorem alle_due (h : PanN pan) (h4 : pan.length ≤ 4) : p_all_effects (S := ST) pan = mpure ((AW pan.length).filter (hasR pan)) := by
  obtain ⟨kn, e1, n1, m1⟩ := alle_ok h (by omega)
  have hs := lex_slt ltS_slt
  have nd : ((AW pan.length).filter (hasR pan)).Nodup := due_srt.imp fun {a b} k e => by
    subst e
    have := hs.asym k
    rw [k] at this
    cases this
  rw [e1, hs.sorted n1 nd fun e => ?_]
  · congr 1
    refine List.mergeSort_of_pairwise (due_srt.imp fun {a b} k => ?_)
    show (!lexB ltS b a) = true
    rw [hs.asym k]
    rfl
  · rw [m1, List.mem_filter, hasR_iff]
    constructor
    · rintro ⟨R, hB, q⟩
      refine ⟨mem_AW.mpr ⟨?_, ?_⟩, R, hB, q⟩
      · rw [← q, eff_len]
      · rw [← q]
        intro y hy
        unfold eff at hy
        obtain ⟨i, _, rfl⟩ := List.mem_map.mp hy
        rcases word_cases pan R i with e | e | e <;> rw [e] <;> simp [W3]
    · exact fun k => k.2
end
theorem words_runs {n : Nat} (hn : n ≤ 10) : Runs 10 (p__law_words (n : Int)) fun E => E.length = n ∧ ∀ y ∈ E, y ∈ W3 := by
  unfold p__law_words
  simp only [mbind_pure, mbind_ret]
  rw [mrng_nat n (by omega), mbind_pure]
  refine runs_calm (runs_mono (runs_compM (c := 1) (fun _ y => y ∈ W3) (by rw [upto_length]; omega) fun y hy => ?_) (by rw [upto_length]; omega) ?_)
  · refine runs_d (by omega) (by omega) (by omega) fun x h0 h1 => ?_
    have hm := getD_mem (xs := W3) ("on" : Str) h0 (show x < ((W3.length : Nat) : Int) by exact h1)
    have em : midx (S := ST) W3 x = mpure (W3.getD x.toNat ("on" : Str)) := midx_getD ("on" : Str) h0 (by exact h1)
    show Runs _ (midx W3 x) _
    rw [em]
    exact runs_p hm
  · rintro ys ⟨e, h⟩
    refine ⟨by rw [e, filter_true, upto_length], fun a ha => ?_⟩
    obtain ⟨_, _, q⟩ := h a ha
    exact q
theorem row_runs {n : Nat} (h1 : 1 ≤ n) (h2 : n ≤ 10) {M : Int} (hM1 : 0 ≤ M) (hM2 : M ≤ 20) : Runs 30 (p__law_row (n : Int) M) fun r => Bel n r := by
  unfold p__law_row
  simp only [mbind_assoc, mbind_pure]
  refine runs_d (by omega) (by omega) (by omega) fun k hk1 hk2 => ?_
  obtain ⟨t, rfl⟩ : ∃ t : Nat, k = t := ⟨k.toNat, by omega⟩
  rw [mrng_nat t (by omega)]
  simp only [mbind_pure, mbind_ret]
  refine runs_calm (runs_mono (runs_compM (c := 1) (fun _ y => 0 ≤ y ∧ y < (n : Int)) (by rw [upto_length]; omega) fun y hy => runs_draw (by omega) (by omega)) (by rw [upto_length]; omega) ?_)
  rintro ys ⟨e, h⟩ a ha
  obtain ⟨_, _, q⟩ := h a ha
  exact q
theorem mfinL_inl {S σ τ β : Type} (z : σ) (k : σ → Mt S (Lp τ β)) : mfinL (mpure (.inl z)) k = k z := rfl
theorem eff_w3 (pan : List (List Int)) (R : List Int) : ∀ y ∈ eff pan R, y ∈ W3 := fun y hy => by
  unfold eff at hy
  obtain ⟨i, _, rfl⟩ := List.mem_map.mp hy
  rcases word_cases pan R i with e | e | e <;> rw [e] <;> simp [W3]
theorem law_runs0 : Runs 2000 p_law fun b => b = true := by
  unfold p_law
  rw [mfin_bind, mbind_pure, show mrng (S := ST) 0 3 = mpure (upto 3) from mrng_nat 3 (by omega), mbind_pure]
  refine runs_fin (c := 300) (fun _ => True) trivial (by decide) (fun x hx _ _ => ?_) fun _ _ => ?_
  · refine runs_b (panel_runs (by omega) (by omega)) (by omega) fun pan ⟨h, hpl⟩ => ?_
    have h4 : pan.length ≤ 4 := by omega
    rw [allw_ok h4, mbind_pure, due_ok h h4, calmly_pure', mbind_pure, alle_due h h4, mbind_pure, decide_eq_true rfl]
    simp only [Bool.not_true, mbind_pure, Bool.false_eq_true, if_false]
    have so := some_ok h h4
    rw [so, calmly_pure', mbind_pure, decide_eq_true rfl]
    exact runs_p ⟨(), rfl, trivial⟩
  rw [mfin_bind, mbind_pure, mbind_pure]
  refine runs_fin (c := 300) (fun _ => True) trivial (by decide) (fun x hx _ _ => ?_) fun _ _ => runs_p rfl
  have hx := mem_upto.mp hx
  refine runs_b (panel_runs (by omega) (by omega)) (by omega) fun pan ⟨h, hpl⟩ => ?_
  have hle := h.le
  rw [mbind_pure, show mrng (S := ST) 0 4 = mpure (upto 4) from mrng_nat 4 (by omega), mbind_pure]
  refine runs_b (n := 4 * 10) (Q := fun vs => vs.length = 4 ∧ ∀ v ∈ vs, v.length = pan.length ∧ ∀ y ∈ v, y ∈ W3) (runs_calm (runs_mono (runs_compM (c := 10) (fun _ y => y.length = pan.length ∧ ∀ z ∈ y, z ∈ W3) (by rw [upto_length]; omega) fun y hy => words_runs hle) (by rw [upto_length]; omega) ?_)) (by omega) fun va ⟨l1, h1⟩ => ?_
  · rintro ys ⟨e, q⟩
    refine ⟨by rw [e, filter_true, upto_length], fun a ha => ?_⟩
    obtain ⟨_, _, z⟩ := q a ha
    exact z
  simp only [mbind_assoc]
  refine runs_b (row_runs h.pos hle (by omega) (by omega)) (by omega) fun R hR => ?_
  rw [effect_ok h hR, mbind_pure, mapp_ok (by omega), mbind_pure, mbind_pure]
  have hW : ∀ v ∈ va ++ [eff pan R], v.length = pan.length ∧ ∀ y ∈ v, y ∈ W3 := fun v hv => by
    rcases List.mem_append.mp hv with hv | hv
    · exact h1 v hv
    · rw [List.mem_singleton.mp hv]
      exact ⟨eff_len pan R, eff_w3 pan R⟩
  rw [forX_q (z := ()) (va ++ [eff pan R]) fun v hv => ?_, mfinL_inl]
  · rw [midx_last (x := eff pan R) (by simp), mbind_pure, holdE h (eff_len pan R) (eff_w3 pan R), mbind_pure, show hasR pan (eff pan R) = true from hasR_iff.mpr ⟨R, hR, rfl⟩]
    simp only [mbind_pure, Bool.not_true, Bool.false_eq_true, if_false]
    exact runs_p ⟨(), rfl, trivial⟩
  · obtain ⟨o, e1, e2⟩ := rowE h (hW v hv).1 (hW v hv).2
    rw [e1, mbind_pure, mbind_pure, holdE h (hW v hv).1 (hW v hv).2, e2]
    simp only [mbind_pure, decide_true, Bool.not_true, Bool.false_eq_true, if_false]
theorem law_runs : RunH 2000 (fun _ => none) p_law fun b _ => b = true := rh_mono (rh_r law_runs0) (Nat.le_refl _) fun _ _ h => h.2
theorem law_true (ns : List Int) (hl : ns.length ≤ 63) (_ : ∀ z ∈ ns, Builtin.Int.intBits z ≤ 1048576) : ∃ st', d_law [.scr (ns.map .int)] [] = .ok (.bl true) st' := law_end (nN := 7) (tr_law []) law_runs (by decide) ns hl
--PROOF
-- ### that they mean so
variable [HzC]
structure Txt (P : Program) (w : World) (K : PySem.W.Frag) (mg : Str → Option Value) : Prop where
  m_all : mg "all" = none
  m_any : mg "any" = none
  m_enumerate : mg "enumerate" = none
  m_int : mg "int" = none
  m_isinstance : mg "isinstance" = none
  m_len : mg "len" = none
  m_list : mg "list" = none
  m_range : mg "range" = none
  m_sorted : mg "sorted" = none
  m_str : mg "str" = none
  m_tuple : mg "tuple" = none
  hz : HzOk P w
  g_SMALL_BUTTONS : ∃ t, mg "SMALL_BUTTONS" = some (.int 7 t)
  g_OFF : ∃ t, mg "OFF" = some (.str ("off" : Str) t)
  g_ON : ∃ t, mg "ON" = some (.str ("on" : Str) t)
  g_SAME : ∃ t, mg "SAME" = some (.str ("same" : Str) t)
section
variable {P : Program} {w : World} {K : PySem.W.Frag} {mg : Str → Option Value} {base : Heap}
theorem sc_changed_word : FnScope N_changed_word ["panel", "pressed", "button", "word"] (defScope s_changed_word) := ⟨rfl, rfl, rfl, by decide +kernel, rfl, by decide +kernel, by decide +kernel⟩
theorem b_changed_word (T : Txt P w K mg)   {f : Addr} {cdv : Value} {B : Around} {fr : List Env} {s : Shared} {H : Hp} {E : XK} (bd : Bd (cxOf (CXk 7 P w) P w K mg base N_changed_word "changed_word" (defScope s_changed_word) f cdv B fr s H E) (wE E) 6)
    (hp : PassesOwn (model P w) (B.deeper (envOfC "changed_word" (defScope s_changed_word) s.heap.objs.size f cdv)) (envOfC "changed_word" (defScope s_changed_word) s.heap.objs.size f cdv) (cxOf (CXk 7 P w) P w K mg base N_changed_word "changed_word" (defScope s_changed_word) f cdv B fr s H E).xe) :
    DSs (cxOf (CXk 7 P w) P w K mg base N_changed_word "changed_word" (defScope s_changed_word) f cdv B fr s H E) (wE E) (defBody s_changed_word) m_changed_word :=
  (dss_cons (ds_if (dt_cmp (op_pEq bd.u64) (vr 2) (vr 1)) (dss_one (ds_ret (de_gs (by rfl) T.g_ON))) dss_nil)
  (dss_one (ds_ret (de_if (dt_cmp (op_pIn bd.u65) (vr 2) (de_idx (vr 0) (vr 1))) (de_gs (by rfl) T.g_OFF) (vr 3)))))
theorem g_changed_word (T : Txt P w K mg)   {f : Addr} {fd : FuncData} (F : Fun K "changed_word" "changed_word" s_changed_word f fd) : FnG P w K mg base 7 f fd ["panel", "pressed", "button", "word"] (spD K 4 d_changed_word) :=
  fnG_of F sc_changed_word (by decide) fun _ _ _ _ _ _ bd hp => b_changed_word T  bd hp
theorem sc_effect_after : FnScope N_effect_after ["panel", "effect", "pressed"] (defScope s_effect_after) := ⟨rfl, rfl, rfl, by decide +kernel, rfl, by decide +kernel, by decide +kernel⟩
theorem b_effect_after (T : Txt P w K mg) (C_changed_word : FnC P w K mg base 7 "changed_word" 4 d_changed_word)  {f : Addr} {cdv : Value} {B : Around} {fr : List Env} {s : Shared} {H : Hp} {E : XK} (bd : Bd (cxOf (CXk 8 P w) P w K mg base N_effect_after "effect_after" (defScope s_effect_after) f cdv B fr s H E) (wE E) 7)
    (hp : PassesOwn (model P w) (B.deeper (envOfC "effect_after" (defScope s_effect_after) s.heap.objs.size f cdv)) (envOfC "effect_after" (defScope s_effect_after) s.heap.objs.size f cdv) (cxOf (CXk 8 P w) P w K mg base N_effect_after "effect_after" (defScope s_effect_after) f cdv B fr s H E).xe) :
    DSs (cxOf (CXk 8 P w) P w K mg base N_effect_after "effect_after" (defScope s_effect_after) f cdv B fr s H E) (wE E) (defBody s_effect_after) m_effect_after :=
  (dss_one (ds_ret (de_bT call_pTuple (by rfl) T.m_tuple (by rfl) (da_cons (de_frz (dl_lc (own := [("button", 3), ("word", 4)]) bd.calm bd.nd (di_enum (by rfl) T.m_enumerate (vr 1)) (blkOk_by (own := [("button", 3), ("word", 4)]) (N := N_effect_after) (sc := defScope s_effect_after) (by decide +kernel)) (by decide) (fun _ _ _ _ _ => (dg_tup bd.blk.calm (dgs_cons (gn 3 bd.blk) (dgs_cons (gn 4 bd.blk) dgs_nil)))) (fun _ _ _ _ _ => dts_nil) (fun _ _ _ _ _ => (de_call bd.blk C_changed_word (by decide) (by rfl) nn_changed_word (da_cons (vr 0) (da_cons (vr 2) (da_cons (vr 3) (da_cons (vr 4) da_nil)))))))) da_nil))))
theorem g_effect_after (T : Txt P w K mg) (C_changed_word : FnC P w K mg base 7 "changed_word" 4 d_changed_word)  {f : Addr} {fd : FuncData} (F : Fun K "effect_after" "effect_after" s_effect_after f fd) : FnG P w K mg base 8 f fd ["panel", "effect", "pressed"] (spD K 3 d_effect_after) :=
  fnG_of F sc_effect_after (by decide) fun _ _ _ _ _ _ bd hp => b_effect_after T C_changed_word bd hp
theorem sc_effect_of : FnScope N_effect_of ["panel", "row"] (defScope s_effect_of) := ⟨rfl, rfl, rfl, by decide +kernel, rfl, by decide +kernel, by decide +kernel⟩
theorem b_effect_of (T : Txt P w K mg) (C_effect_after : FnC P w K mg base 8 "effect_after" 3 d_effect_after)  {f : Addr} {cdv : Value} {B : Around} {fr : List Env} {s : Shared} {H : Hp} {E : XK} (bd : Bd (cxOf (CXk 9 P w) P w K mg base N_effect_of "effect_of" (defScope s_effect_of) f cdv B fr s H E) (wE E) 8)
    (hp : PassesOwn (model P w) (B.deeper (envOfC "effect_of" (defScope s_effect_of) s.heap.objs.size f cdv)) (envOfC "effect_of" (defScope s_effect_of) s.heap.objs.size f cdv) (cxOf (CXk 9 P w) P w K mg base N_effect_of "effect_of" (defScope s_effect_of) f cdv B fr s H E).xe) :
    DSs (cxOf (CXk 9 P w) P w K mg base N_effect_of "effect_of" (defScope s_effect_of) f cdv B fr s H E) (wE E) (defBody s_effect_of) m_effect_of :=
  (dss_cons (st 2 bd (de_bin op_pMul (de_tup (da_cons (de_gs (by rfl) T.g_SAME) da_nil)) (de_b call_pLen (by rfl) T.m_len (by rfl) (da_cons (vr 0) da_nil))))
  (dss_cons (ds_for hp bd.calm (di_seq (vr 1)) (gn 3 bd) (dss_one (st 2 bd (de_call bd C_effect_after (by decide) (by rfl) nn_effect_after (da_cons (vr 0) (da_cons (vr 2) (da_cons (vr 3) da_nil)))))))
  (dss_one (ds_ret (vr 2)))))
theorem g_effect_of (T : Txt P w K mg) (C_effect_after : FnC P w K mg base 8 "effect_after" 3 d_effect_after)  {f : Addr} {fd : FuncData} (F : Fun K "effect_of" "effect_of" s_effect_of f fd) : FnG P w K mg base 9 f fd ["panel", "row"] (spD K 2 d_effect_of) :=
  fnG_of F sc_effect_of (by decide) fun _ _ _ _ _ _ bd hp => b_effect_of T C_effect_after bd hp
theorem sc_free_buttons : FnScope N_free_buttons ["panel", "effect"] (defScope s_free_buttons) := ⟨rfl, rfl, rfl, by decide +kernel, rfl, by decide +kernel, by decide +kernel⟩
theorem b_free_buttons (T : Txt P w K mg)   {f : Addr} {cdv : Value} {B : Around} {fr : List Env} {s : Shared} {H : Hp} {E : XK} (bd : Bd (cxOf (CXk 7 P w) P w K mg base N_free_buttons "free_buttons" (defScope s_free_buttons) f cdv B fr s H E) (wE E) 6)
    (hp : PassesOwn (model P w) (B.deeper (envOfC "free_buttons" (defScope s_free_buttons) s.heap.objs.size f cdv)) (envOfC "free_buttons" (defScope s_free_buttons) s.heap.objs.size f cdv) (cxOf (CXk 7 P w) P w K mg base N_free_buttons "free_buttons" (defScope s_free_buttons) f cdv B fr s H E).xe) :
    DSs (cxOf (CXk 7 P w) P w K mg base N_free_buttons "free_buttons" (defScope s_free_buttons) f cdv B fr s H E) (wE E) (defBody s_free_buttons) m_free_buttons :=
  (dss_cons (st 2 bd (de_frz (dl_lc (own := [("button", 3), ("word", 4)]) bd.calm bd.nd (di_enum (by rfl) T.m_enumerate (vr 1)) (blkOk_by (own := [("button", 3), ("word", 4)]) (N := N_free_buttons) (sc := defScope s_free_buttons) (by decide +kernel)) (by decide) (fun _ _ _ _ _ => (dg_tup bd.blk.calm (dgs_cons (gn 3 bd.blk) (dgs_cons (gn 4 bd.blk) dgs_nil)))) (fun _ _ _ _ _ => (dts1 (dt_cmp (op_pEq bd.blk.u64) (vr 4) (de_gs (by rfl) T.g_SAME)))) (fun _ _ _ _ _ => (vr 3)))))
  (dss_one (ds_ret (de_frz (dl_lc (own := [("button", 3)]) bd.calm bd.nd (di_range1 (by rfl) T.m_range (de_b call_pLen (by rfl) T.m_len (by rfl) (da_cons (vr 0) da_nil))) (blkOk_by (own := [("button", 3)]) (N := N_free_buttons) (sc := defScope s_free_buttons) (by decide +kernel)) (by decide) (fun _ _ _ _ _ => (gn 3 bd.blk)) (fun _ _ _ _ _ => (dts1 (dt_not (dt_tru (de_b (call_pAny bd.blk.calm) (by rfl) T.m_any (by rfl) (da_cons (de_frz (dl_lc (own := [("one", 5)]) bd.blk.calm bd.blk.nd (di_seq (de_tup (da_cons (vr 3) (da_star (de_idx (vr 0) (vr 3)) da_nil)))) (blk_in (own := [("one", 5)]) (N := N_free_buttons) (sc := defScope s_free_buttons) rfl rfl (by decide +kernel)) (by decide) (fun _ _ _ _ _ => (gn 5 bd.blk.blk)) (fun _ _ _ _ _ => dts_nil) (fun _ _ _ _ _ => (de_cmp (op_pIn bd.blk.blk.u65) (vr 5) (vr 2))))) da_nil)))))) (fun _ _ _ _ _ => (vr 3)))))))
theorem g_free_buttons (T : Txt P w K mg)   {f : Addr} {fd : FuncData} (F : Fun K "free_buttons" "free_buttons" s_free_buttons f fd) : FnG P w K mg base 7 f fd ["panel", "effect"] (spD K 2 d_free_buttons) :=
  fnG_of F sc_free_buttons (by decide) fun _ _ _ _ _ _ bd hp => b_free_buttons T  bd hp
theorem sc_is_effect_form : FnScope N_is_effect_form ["panel", "value"] (defScope s_is_effect_form) := ⟨rfl, rfl, rfl, by decide +kernel, rfl, by decide +kernel, by decide +kernel⟩
theorem b_is_effect_form (T : Txt P w K mg)   {f : Addr} {cdv : Value} {B : Around} {fr : List Env} {s : Shared} {H : Hp} {E : XK} (bd : Bd (cxOf (CXk 7 P w) P w K mg base N_is_effect_form "is_effect_form" (defScope s_is_effect_form) f cdv B fr s H E) (wE E) 6)
    (hp : PassesOwn (model P w) (B.deeper (envOfC "is_effect_form" (defScope s_is_effect_form) s.heap.objs.size f cdv)) (envOfC "is_effect_form" (defScope s_is_effect_form) s.heap.objs.size f cdv) (cxOf (CXk 7 P w) P w K mg base N_is_effect_form "is_effect_form" (defScope s_is_effect_form) f cdv B fr s H E).xe) :
    DSs (cxOf (CXk 7 P w) P w K mg base N_is_effect_form "is_effect_form" (defScope s_is_effect_form) f cdv B fr s H E) (wE E) (defBody s_is_effect_form) m_is_effect_form :=
  (dss_cons (ds_if (dt_w (dw_or (dt_not (dt_tru (de_isi (by rfl) T.m_isinstance (by rfl) T.m_tuple rfl (vr 1)))) (dw_or1 (dt_cmp (op_pNe bd.u64) (de_b call_pLen (by rfl) T.m_len (by rfl) (da_cons (vr 1) da_nil)) (de_b call_pLen (by rfl) T.m_len (by rfl) (da_cons (vr 0) da_nil)))))) (dss_one (ds_ret de_bl)) dss_nil)
  (dss_one (ds_ret (de_b (call_pAll bd.calm) (by rfl) T.m_all (by rfl) (da_cons (de_frz (dl_lc (own := [("word", 2)]) bd.calm bd.nd (di_seq (vr 1)) (blkOk_by (own := [("word", 2)]) (N := N_is_effect_form) (sc := defScope s_is_effect_form) (by decide +kernel)) (by decide) (fun _ _ _ _ _ => (gn 2 bd.blk)) (fun _ _ _ _ _ => dts_nil) (fun _ _ _ _ _ => (de_and (de_isi (by rfl) T.m_isinstance (by rfl) T.m_str rfl (vr 2)) (de_one (de_cmp (op_pIn bd.blk.u65) (vr 2) (de_tup (da_cons (de_gs (by rfl) T.g_ON) (da_cons (de_gs (by rfl) T.g_OFF) (da_cons (de_gs (by rfl) T.g_SAME) da_nil)))))))))) da_nil)))))
theorem g_is_effect_form (T : Txt P w K mg)   {f : Addr} {fd : FuncData} (F : Fun K "is_effect_form" "is_effect_form" s_is_effect_form f fd) : FnG P w K mg base 7 f fd ["panel", "value"] (spD K 2 d_is_effect_form) :=
  fnG_of F sc_is_effect_form (by decide) fun _ _ _ _ _ _ bd hp => b_is_effect_form T  bd hp
theorem sc_ordered : FnScope N_ordered ["panel", "buttons"] (defScope s_ordered) := ⟨rfl, rfl, rfl, by decide +kernel, rfl, by decide +kernel, by decide +kernel⟩
theorem b_ordered (T : Txt P w K mg)   {f : Addr} {cdv : Value} {B : Around} {fr : List Env} {s : Shared} {H : Hp} {E : XK} (bd : Bd (cxOf (CXk 7 P w) P w K mg base N_ordered "ordered" (defScope s_ordered) f cdv B fr s H E) (wE E) 6)
    (hp : PassesOwn (model P w) (B.deeper (envOfC "ordered" (defScope s_ordered) s.heap.objs.size f cdv)) (envOfC "ordered" (defScope s_ordered) s.heap.objs.size f cdv) (cxOf (CXk 7 P w) P w K mg base N_ordered "ordered" (defScope s_ordered) f cdv B fr s H E).xe) :
    DSs (cxOf (CXk 7 P w) P w K mg base N_ordered "ordered" (defScope s_ordered) f cdv B fr s H E) (wE E) (defBody s_ordered) m_ordered :=
  (dss_cons (ds_asg (de_tup (da_cons (de_new (dl_bT call_pList (by rfl) T.m_list (by rfl) (da_cons (vr 1) da_nil))) (da_cons (de_new (dl_disp da_nil)) da_nil))) (dg_tup bd.calm (dgs_cons (gn 2 bd) (dgs_cons (gn 3 bd) dgs_nil))))
  (dss_cons (ds_while hp (dt_cmp (op_pNe bd.u64) (vr 2) (de_frz (dl_disp da_nil))) (dss_cons (ds_setLc (i := 4) (own := [("button", 5)]) true bd.calm bd.nd rfl rfl (sw_true rfl rfl rfl (by decide +kernel)) (di_seq (vr 2)) (blkOk_by (own := [("button", 5)]) (N := N_ordered) (sc := defScope s_ordered) (by decide +kernel)) (by decide) (fun _ _ _ _ _ => (gn 5 bd.blk)) (fun _ _ _ _ _ => (dts1 (dt_not (dt_tru (de_b (call_pAny bd.blk.calm) (by rfl) T.m_any (by rfl) (da_cons (de_frz (dl_lc (own := [("other", 6)]) bd.blk.calm bd.blk.nd (di_seq (vr 2)) (blk_in (own := [("other", 6)]) (N := N_ordered) (sc := defScope s_ordered) rfl rfl (by decide +kernel)) (by decide) (fun _ _ _ _ _ => (gn 6 bd.blk.blk)) (fun _ _ _ _ _ => dts_nil) (fun _ _ _ _ _ => (de_cmp (op_pIn bd.blk.blk.u65) (vr 5) (de_idx (vr 0) (vr 6)))))) da_nil)))))) (fun _ _ _ _ _ => (vr 5)))
    (dss_cons (ds_if (dt_cmp (op_pEq bd.u64) (vr 4) (de_frz (dl_disp da_nil))) (dss_one (ds_ret de_non)) dss_nil)
    (dss_cons (ds_expr (de_m PySem.F.plainAttrs_list PySem.F.slot_list_append PySem.F.type_list_append mt_pAppend (vr 3) (da_cons (de_idx (vr 4) de_int) da_nil)))
    (dss_one (ds_expr (de_m PySem.F.plainAttrs_list PySem.F.slot_list_remove PySem.F.type_list_remove (mt_pRemove) (vr 2) (da_cons (de_idx (vr 4) de_int) da_nil))))))))
  (dss_fz (dss_one (ds_ret (vr 3))))))
theorem g_ordered (T : Txt P w K mg)   {f : Addr} {fd : FuncData} (F : Fun K "ordered" "ordered" s_ordered f fd) : FnG P w K mg base 7 f fd ["panel", "buttons"] (spD K 2 d_ordered) :=
  fnG_of F sc_ordered (by decide) fun _ _ _ _ _ _ bd hp => b_ordered T  bd hp
theorem sc_gather : FnScope N_gather ["panel", "effect", "free", "pressed"] (defScope s_gather) := ⟨rfl, rfl, rfl, by decide +kernel, rfl, by decide +kernel, by decide +kernel⟩
theorem b_gather (T : Txt P w K mg)   {f : Addr} {cdv : Value} {B : Around} {fr : List Env} {s : Shared} {H : Hp} {E : XK} (bd : Bd (cxOf (CXk 7 P w) P w K mg base N_gather "gather" (defScope s_gather) f cdv B fr s H E) (wE E) 6)
    (hp : PassesOwn (model P w) (B.deeper (envOfC "gather" (defScope s_gather) s.heap.objs.size f cdv)) (envOfC "gather" (defScope s_gather) s.heap.objs.size f cdv) (cxOf (CXk 7 P w) P w K mg base N_gather "gather" (defScope s_gather) f cdv B fr s H E).xe) :
    DSs (cxOf (CXk 7 P w) P w K mg base N_gather "gather" (defScope s_gather) f cdv B fr s H E) (wE E) (defBody s_gather) m_gather :=
  (dss_cons (ds_asg (de_tup (da_cons (de_new (dl_disp da_nil)) (da_cons (de_new (dl_disp da_nil)) da_nil))) (dg_tup bd.calm (dgs_cons (gn 4 bd) (dgs_cons (gn 5 bd) dgs_nil))))
  (dss_cons (st 6 bd (de_new (dl_bT call_pList (by rfl) T.m_list (by rfl) (da_cons (vr 3) da_nil))))
  (dss_cons (ds_while hp (dt_cmp (op_pNe bd.u64) (vr 6) (de_frz (dl_disp da_nil))) (dss_cons (st 7 bd (de_m PySem.F.plainAttrs_list PySem.F.slot_list_pop PySem.F.type_list_pop mt_pPopAt (vr 6) (da_cons de_int da_nil)))
    (dss_cons (ds_setLc (i := 8) (own := [("one", 9)]) true bd.calm bd.nd rfl rfl (sw_true rfl rfl rfl (by decide +kernel)) (di_seq (de_idx (vr 0) (vr 7))) (blkOk_by (own := [("one", 9)]) (N := N_gather) (sc := defScope s_gather) (by decide +kernel)) (by decide) (fun _ _ _ _ _ => (gn 9 bd.blk)) (fun _ _ _ _ _ => (dts1 (dt_w (dw_and (dt_cmp (op_pEq bd.blk.u64) (de_idx (vr 1) (vr 9)) (de_gs (by rfl) T.g_OFF)) (dw_and1 (dt_cmp (op_pNotIn bd.blk.u65) (vr 9) (vr 4))))))) (fun _ _ _ _ _ => (vr 9)))
    (dss_cons (ds_expr (de_m PySem.F.plainAttrs_list PySem.F.slot_list_extend PySem.F.type_list_extend mt_pExtend (vr 4) (da_cons (vr 8) da_nil)))
    (dss_cons (ds_expr (de_m PySem.F.plainAttrs_list PySem.F.slot_list_extend PySem.F.type_list_extend mt_pExtend (vr 6) (da_cons (de_frz (dl_lc (own := [("one", 9)]) bd.calm bd.nd (di_seq (vr 8)) (blkOk_by (own := [("one", 9)]) (N := N_gather) (sc := defScope s_gather) (by decide +kernel)) (by decide) (fun _ _ _ _ _ => (gn 9 bd.blk)) (fun _ _ _ _ _ => (dts1 (dt_cmp (op_pIn bd.blk.u65) (vr 9) (vr 2)))) (fun _ _ _ _ _ => (vr 9)))) da_nil)))
    (dss_one (ds_expr (de_m PySem.F.plainAttrs_list PySem.F.slot_list_extend PySem.F.type_list_extend mt_pExtend (vr 5) (da_cons (de_frz (dl_lc (own := [("one", 9)]) bd.calm bd.nd (di_seq (vr 8)) (blkOk_by (own := [("one", 9)]) (N := N_gather) (sc := defScope s_gather) (by decide +kernel)) (by decide) (fun _ _ _ _ _ => (gn 9 bd.blk)) (fun _ _ _ _ _ => (dts1 (dt_cmp (op_pIn bd.blk.u65) (vr 9) (vr 2)))) (fun _ _ _ _ _ => (vr 9)))) da_nil)))))))))
  (dss_fz (dss_fz (dss_one (ds_ret (de_tup (da_cons (vr 4) (da_cons (vr 5) da_nil))))))))))
theorem g_gather (T : Txt P w K mg)   {f : Addr} {fd : FuncData} (F : Fun K "gather" "gather" s_gather f fd) : FnG P w K mg base 7 f fd ["panel", "effect", "free", "pressed"] (spD K 4 d_gather) :=
  fnG_of F sc_gather (by decide) fun _ _ _ _ _ _ bd hp => b_gather T  bd hp
theorem sc_row_for : FnScope N_row_for ["panel", "value"] (defScope s_row_for) := ⟨rfl, rfl, rfl, by decide +kernel, rfl, by decide +kernel, by decide +kernel⟩
theorem b_row_for (T : Txt P w K mg) (C_free_buttons : FnC P w K mg base 7 "free_buttons" 2 d_free_buttons) (C_is_effect_form : FnC P w K mg base 7 "is_effect_form" 2 d_is_effect_form) (C_ordered : FnC P w K mg base 7 "ordered" 2 d_ordered) (C_gather : FnC P w K mg base 7 "gather" 4 d_gather)  {f : Addr} {cdv : Value} {B : Around} {fr : List Env} {s : Shared} {H : Hp} {E : XK} (bd : Bd (cxOf (CXk 8 P w) P w K mg base N_row_for "row_for" (defScope s_row_for) f cdv B fr s H E) (wE E) 7)
    (hp : PassesOwn (model P w) (B.deeper (envOfC "row_for" (defScope s_row_for) s.heap.objs.size f cdv)) (envOfC "row_for" (defScope s_row_for) s.heap.objs.size f cdv) (cxOf (CXk 8 P w) P w K mg base N_row_for "row_for" (defScope s_row_for) f cdv B fr s H E).xe) :
    DSs (cxOf (CXk 8 P w) P w K mg base N_row_for "row_for" (defScope s_row_for) f cdv B fr s H E) (wE E) (defBody s_row_for) m_row_for :=
  (dss_cons (ds_if (dt_not (dt_tru (de_call bd C_is_effect_form (by decide) (by rfl) nn_is_effect_form (da_cons (vr 0) (da_cons (vr 1) da_nil))))) (dss_one (ds_ret de_non)) dss_nil)
  (dss_cons (st 2 bd (de_call bd C_free_buttons (by decide) (by rfl) nn_free_buttons (da_cons (vr 0) (da_cons (vr 1) da_nil))))
  (dss_cons (ds_setLc (i := 3) (own := [("button", 4), ("word", 5)]) true bd.calm bd.nd rfl rfl (sw_true rfl rfl rfl (by decide +kernel)) (di_enum (by rfl) T.m_enumerate (vr 1)) (blkOk_by (own := [("button", 4), ("word", 5)]) (N := N_row_for) (sc := defScope s_row_for) (by decide +kernel)) (by decide) (fun _ _ _ _ _ => (dg_tup bd.blk.calm (dgs_cons (gn 4 bd.blk) (dgs_cons (gn 5 bd.blk) dgs_nil)))) (fun _ _ _ _ _ => (dts1 (dt_cmp (op_pEq bd.blk.u64) (vr 5) (de_gs (by rfl) T.g_ON)))) (fun _ _ _ _ _ => (vr 4)))
  (dss_cons (st 6 bd (de_call bd C_ordered (by decide) (by rfl) nn_ordered (da_cons (vr 0) (da_cons (vr 3) da_nil))))
  (dss_cons (ds_if (dt_w (dw_or (dt_cmp op_pIs (vr 6) de_non) (dw_or1 (dt_not (dt_tru (de_b (call_pAll bd.calm) (by rfl) T.m_all (by rfl) (da_cons (de_frz (dl_lc (own := [("button", 4)]) bd.calm bd.nd (di_seq (vr 3)) (blkOk_by (own := [("button", 4)]) (N := N_row_for) (sc := defScope s_row_for) (by decide +kernel)) (by decide) (fun _ _ _ _ _ => (gn 4 bd.blk)) (fun _ _ _ _ _ => dts_nil) (fun _ _ _ _ _ => (de_cmp (op_pIn bd.blk.u65) (vr 4) (vr 2))))) da_nil))))))) (dss_one (ds_ret de_non)) dss_nil)
  (dss_cons (ds_asg (de_call bd C_gather (by decide) (by rfl) nn_gather (da_cons (vr 0) (da_cons (vr 1) (da_cons (vr 2) (da_cons (vr 6) da_nil))))) (dg_tup bd.calm (dgs_cons (gn 7 bd) (dgs_cons (gn 8 bd) dgs_nil))))
  (dss_one (ds_ret (de_if (dt_cmp (op_pEq bd.u64) (de_b call_pLen (by rfl) T.m_len (by rfl) (da_cons (vr 7) da_nil)) (de_mT PySem.F.slot_tuple_count PySem.F.type_tuple_count (mt_pCountT bd.u70) (vr 1) (da_cons (de_gs (by rfl) T.g_OFF) da_nil))) (de_tup (da_star (de_frz (dl_revL (vr 8))) (da_star (vr 6) da_nil))) de_non)))))))))
theorem g_row_for (T : Txt P w K mg) (C_free_buttons : FnC P w K mg base 7 "free_buttons" 2 d_free_buttons) (C_is_effect_form : FnC P w K mg base 7 "is_effect_form" 2 d_is_effect_form) (C_ordered : FnC P w K mg base 7 "ordered" 2 d_ordered) (C_gather : FnC P w K mg base 7 "gather" 4 d_gather)  {f : Addr} {fd : FuncData} (F : Fun K "row_for" "row_for" s_row_for f fd) : FnG P w K mg base 8 f fd ["panel", "value"] (spD K 2 d_row_for) :=
  fnG_of F sc_row_for (by decide) fun _ _ _ _ _ _ bd hp => b_row_for T C_free_buttons C_is_effect_form C_ordered C_gather bd hp
theorem sc_all_effects : FnScope N_all_effects ["panel"] (defScope s_all_effects) := ⟨rfl, rfl, rfl, by decide +kernel, rfl, by decide +kernel, by decide +kernel⟩
theorem b_all_effects (T : Txt P w K mg) (C_effect_after : FnC P w K mg base 8 "effect_after" 3 d_effect_after)  {f : Addr} {cdv : Value} {B : Around} {fr : List Env} {s : Shared} {H : Hp} {E : XK} (bd : Bd (cxOf (CXk 9 P w) P w K mg base N_all_effects "all_effects" (defScope s_all_effects) f cdv B fr s H E) (wE E) 8)
    (hp : PassesOwn (model P w) (B.deeper (envOfC "all_effects" (defScope s_all_effects) s.heap.objs.size f cdv)) (envOfC "all_effects" (defScope s_all_effects) s.heap.objs.size f cdv) (cxOf (CXk 9 P w) P w K mg base N_all_effects "all_effects" (defScope s_all_effects) f cdv B fr s H E).xe) :
    DSs (cxOf (CXk 9 P w) P w K mg base N_all_effects "all_effects" (defScope s_all_effects) f cdv B fr s H E) (wE E) (defBody s_all_effects) m_all_effects :=
  (dss_cons (ds_if (dt_cmp op_pGt (de_b call_pLen (by rfl) T.m_len (by rfl) (da_cons (vr 0) da_nil)) (de_gi (by rfl) T.g_SMALL_BUTTONS)) (dss_one ds_never) dss_nil)
  (dss_cons (st 1 bd (de_newD1W T.hz bd.u65 (de_bin op_pMul (de_tup (da_cons (de_gs (by rfl) T.g_SAME) da_nil)) (de_b call_pLen (by rfl) T.m_len (by rfl) (da_cons (vr 0) da_nil))) de_bl))
  (dss_cons (st 2 bd (de_new (dl_bT (call_pListDW bd.calm) (by rfl) T.m_list (by rfl) (da_cons (vr 1) da_nil))))
  (dss_cons (ds_while hp (dt_cmp (op_pNe bd.u64) (vr 2) (de_frz (dl_disp da_nil))) (dss_cons (st 3 bd (de_m0 PySem.F.plainAttrs_list PySem.F.slot_list_pop PySem.F.type_list_pop mt_pPop (vr 2)))
    (dss_one (ds_for hp bd.calm (di_range1 (by rfl) T.m_range (de_b call_pLen (by rfl) T.m_len (by rfl) (da_cons (vr 0) da_nil))) (gn 4 bd) (dss_cons (st 5 bd (de_call bd C_effect_after (by decide) (by rfl) nn_effect_after (da_cons (vr 0) (da_cons (vr 3) (da_cons (vr 4) da_nil)))))
      (dss_one (ds_if (dt_cmp (op_pNotInDW T.hz bd.u65) (vr 5) (vr 1)) (dss_cons (ds_dputW T.hz bd.u65 (vr 1) (vr 5) de_bl)
        (dss_one (ds_expr (de_m PySem.F.plainAttrs_list PySem.F.slot_list_append PySem.F.type_list_append mt_pAppend (vr 2) (da_cons (vr 5) da_nil))))) dss_nil)))))))
  (dss_one (ds_ret (de_bT call_pTuple (by rfl) T.m_tuple (by rfl) (da_cons (de_frz (dl_b (call_pSortedDW bd.calm bd.u70) (by rfl) T.m_sorted (by rfl) (da_cons (vr 1) da_nil))) da_nil))))))))
theorem g_all_effects (T : Txt P w K mg) (C_effect_after : FnC P w K mg base 8 "effect_after" 3 d_effect_after)  {f : Addr} {fd : FuncData} (F : Fun K "all_effects" "all_effects" s_all_effects f fd) : FnG P w K mg base 9 f fd ["panel"] (spD K 1 d_all_effects) :=
  fnG_of F sc_all_effects (by decide) fun _ _ _ _ _ _ bd hp => b_all_effects T C_effect_after bd hp
theorem sc__law_draws : FnScope N__law_draws ["_law_script"] (defScope s__law_draws) := ⟨rfl, rfl, rfl, by decide +kernel, rfl, by decide +kernel, by decide +kernel⟩
theorem b__law_draws (T : Txt P w K mg)   {f : Addr} {cdv : Value} {B : Around} {fr : List Env} {s : Shared} {H : Hp} {E : XK} (bd : Bd (cxOf (CXk 7 P w) P w K mg base N__law_draws "_law_draws" (defScope s__law_draws) f cdv B fr s H E) (wE E) 6)
    (hp : PassesOwn (model P w) (B.deeper (envOfC "_law_draws" (defScope s__law_draws) s.heap.objs.size f cdv)) (envOfC "_law_draws" (defScope s__law_draws) s.heap.objs.size f cdv) (cxOf (CXk 7 P w) P w K mg base N__law_draws "_law_draws" (defScope s__law_draws) f cdv B fr s H E).xe) :
    DSs (cxOf (CXk 7 P w) P w K mg base N__law_draws "_law_draws" (defScope s__law_draws) f cdv B fr s H E) (wE E) (defBody s__law_draws) m__law_draws :=
  (dss_cons (st 1 bd (de_frz (dl_bin op_pCat (de_frz (dl_bT call_pList (by rfl) T.m_list (by rfl) (da_cons (de_frz (dl_slL (vr 0) do_none (do_some de_int))) da_nil))) (de_frz (dl_bin op_pRepL (de_frz (dl_disp (da_cons de_int da_nil))) (de_bT call_pInt (by rfl) T.m_int (by rfl) (da_cons (de_cmp (op_pEq bd.u64) (de_b call_pLen (by rfl) T.m_len (by rfl) (da_cons (vr 0) da_nil)) de_int) da_nil)))))))
  (dss_one (ds_ret (de_new (dl_disp (da_cons (vr 1) (da_cons de_int (da_cons (de_new (dl_lc (own := [("_law_cell", 2)]) bd.calm bd.nd (di_seq (vr 1)) (blkOk_by (own := [("_law_cell", 2)]) (N := N__law_draws) (sc := defScope s__law_draws) (by decide +kernel)) (by decide) (fun _ _ _ _ _ => (gn 2 bd.blk)) (fun _ _ _ _ _ => dts_nil) (fun _ _ _ _ _ => (de_bin op_pMul (vr 2) (de_bT call_pInt (by rfl) T.m_int (by rfl) (da_cons (de_cmp op_pGe (vr 2) (de_bin op_pPow de_int de_int)) da_nil)))))) da_nil))))))))
theorem g__law_draws (T : Txt P w K mg)   {f : Addr} {fd : FuncData} (F : Fun K "_law_draws" "_law_draws" s__law_draws f fd) : FnG P w K mg base 7 f fd ["_law_script"] (spD K 1 d__law_draws) :=
  fnG_of F sc__law_draws (by decide) fun _ _ _ _ _ _ bd hp => b__law_draws T  bd hp
theorem sc__law_next : FnScope N__law_next ["_law_drawn", "_law_many"] (defScope s__law_next) := ⟨rfl, rfl, rfl, by decide +kernel, rfl, by decide +kernel, by decide +kernel⟩
theorem b__law_next (T : Txt P w K mg)   {f : Addr} {cdv : Value} {B : Around} {fr : List Env} {s : Shared} {H : Hp} {E : XK} (bd : Bd (cxOf (CXk 7 P w) P w K mg base N__law_next "_law_next" (defScope s__law_next) f cdv B fr s H E) (wE E) 6)
    (hp : PassesOwn (model P w) (B.deeper (envOfC "_law_next" (defScope s__law_next) s.heap.objs.size f cdv)) (envOfC "_law_next" (defScope s__law_next) s.heap.objs.size f cdv) (cxOf (CXk 7 P w) P w K mg base N__law_next "_law_next" (defScope s__law_next) f cdv B fr s H E).xe) :
    DSs (cxOf (CXk 7 P w) P w K mg base N__law_next "_law_next" (defScope s__law_next) f cdv B fr s H E) (wE E) (defBody s__law_next) m__law_next :=
  (dss_cons (ds_asg (vr 0) (dg_lst bd.calm (dgs_cons (gn 2 bd) (dgs_cons (gn 3 bd) (dgs_cons (gn 4 bd) dgs_nil)))))
  (dss_cons (st 5 bd (de_bin op_pMod (vr 3) (de_b call_pLen (by rfl) T.m_len (by rfl) (da_cons (vr 2) da_nil))))
  (dss_cons (ds_asg (de_bin op_pAdd (vr 3) de_int) (dg_sub (vr 0) de_int))
  (dss_cons (ds_if (dt_cmp op_pGt (de_idx (vr 4) (vr 5)) de_int) (dss_cons (st 6 bd (de_bin op_pMod (de_idx (vr 4) (vr 5)) (vr 1)))
    (dss_cons (ds_asg (de_bin op_pDiv (de_idx (vr 4) (vr 5)) (vr 1)) (dg_sub (vr 4) (vr 5)))
    (dss_one (ds_ret (vr 6))))) dss_nil)
  (dss_cons (st 7 bd (de_bin op_pMod (de_bin op_pPow (de_bin op_pAdd (de_bin op_pAdd (de_bin op_pMod (de_idx (vr 2) (vr 5)) de_int) (de_bin op_pMul de_int (vr 3))) de_int) de_int) de_int))
  (dss_cons (st 8 bd (de_bin op_pMod (de_bin op_pPow (de_bin op_pAdd (de_bin op_pAdd (vr 7) (de_bin op_pMul (de_bin op_pMul de_int (vr 3)) (vr 3))) de_int) de_int) de_int))
  (dss_one (ds_ret (de_bin op_pMod (de_bin op_pMod (de_bin op_pAdd (de_bin op_pMul (vr 8) de_int) (vr 7)) de_int) (vr 1))))))))))
theorem g__law_next (T : Txt P w K mg)   {f : Addr} {fd : FuncData} (F : Fun K "_law_next" "_law_next" s__law_next f fd) : FnG P w K mg base 7 f fd ["_law_drawn", "_law_many"] (spD K 2 d__law_next) :=
  fnG_of F sc__law_next (by decide) fun _ _ _ _ _ _ bd hp => b__law_next T  bd hp
theorem sc__law_panel : FnScope N__law_panel ["_law_drawn", "_law_most"] (defScope s__law_panel) := ⟨rfl, rfl, rfl, by decide +kernel, rfl, by decide +kernel, by decide +kernel⟩
theorem b__law_panel (T : Txt P w K mg) (C__law_next : FnC P w K mg base 7 "_law_next" 2 d__law_next)  {f : Addr} {cdv : Value} {B : Around} {fr : List Env} {s : Shared} {H : Hp} {E : XK} (bd : Bd (cxOf (CXk 8 P w) P w K mg base N__law_panel "_law_panel" (defScope s__law_panel) f cdv B fr s H E) (wE E) 7)
    (hp : PassesOwn (model P w) (B.deeper (envOfC "_law_panel" (defScope s__law_panel) s.heap.objs.size f cdv)) (envOfC "_law_panel" (defScope s__law_panel) s.heap.objs.size f cdv) (cxOf (CXk 8 P w) P w K mg base N__law_panel "_law_panel" (defScope s__law_panel) f cdv B fr s H E).xe) :
    DSs (cxOf (CXk 8 P w) P w K mg base N__law_panel "_law_panel" (defScope s__law_panel) f cdv B fr s H E) (wE E) (defBody s__law_panel) m__law_panel :=
  (dss_cons (st 2 bd (de_idx (de_frz (dl_disp (da_cons (de_bin op_pAdd de_int (de_call bd C__law_next (by decide) (by rfl) nn__law_next (da_cons (vr 0) (da_cons (vr 1) da_nil)))) (da_cons (vr 1) da_nil)))) (de_bT call_pInt (by rfl) T.m_int (by rfl) (da_cons (de_cmp (op_pEq bd.u64) (de_call bd C__law_next (by decide) (by rfl) nn__law_next (da_cons (vr 0) (da_cons de_int da_nil))) de_int) da_nil))))
  (dss_cons (ds_asg (de_tup (da_cons (de_call bd C__law_next (by decide) (by rfl) nn__law_next (da_cons (vr 0) (da_cons de_int da_nil))) (da_cons (de_new (dl_disp da_nil)) da_nil))) (dg_tup bd.calm (dgs_cons (gn 3 bd) (dgs_cons (gn 4 bd) dgs_nil))))
  (dss_cons (ds_for hp bd.calm (di_range1 (by rfl) T.m_range (vr 2)) (gn 5 bd) (dss_cons (ds_setLc (i := 6) (own := [("_law_other", 7)]) true bd.calm bd.nd rfl rfl (sw_true rfl rfl rfl (by decide +kernel)) (di_range1 (by rfl) T.m_range (vr 2)) (blkOk_by (own := [("_law_other", 7)]) (N := N__law_panel) (sc := defScope s__law_panel) (by decide +kernel)) (by decide) (fun _ _ _ _ _ => (gn 7 bd.blk)) (fun _ _ _ _ _ => (dts1 (dt_cmp (op_pNe bd.blk.u64) (vr 7) (vr 5)))) (fun _ _ _ _ _ => (vr 7)))
    (dss_one (ds_expr (de_m PySem.F.plainAttrs_list PySem.F.slot_list_append PySem.F.type_list_append mt_pAppend (vr 4) (da_cons (de_bT call_pTuple (by rfl) T.m_tuple (by rfl) (da_cons (de_frz (dl_lc (own := [("_law_other", 7)]) bd.calm bd.nd (di_seq (vr 6)) (blkOk_by (own := [("_law_other", 7)]) (N := N__law_panel) (sc := defScope s__law_panel) (by decide +kernel)) (by decide) (fun _ _ _ _ _ => (gn 7 bd.blk)) (fun _ _ _ _ _ => (dts1 (dt_cmp (op_pLt bd.blk.u65) (de_call bd.blk C__law_next (by decide) (by rfl) nn__law_next (da_cons (vr 0) (da_cons de_int da_nil))) (vr 3)))) (fun _ _ _ _ _ => (vr 7)))) da_nil)) da_nil))))))
  (dss_fz (dss_one (ds_ret (de_bT call_pTuple (by rfl) T.m_tuple (by rfl) (da_cons (vr 4) da_nil))))))))
theorem g__law_panel (T : Txt P w K mg) (C__law_next : FnC P w K mg base 7 "_law_next" 2 d__law_next)  {f : Addr} {fd : FuncData} (F : Fun K "_law_panel" "_law_panel" s__law_panel f fd) : FnG P w K mg base 8 f fd ["_law_drawn", "_law_most"] (spD K 2 d__law_panel) :=
  fnG_of F sc__law_panel (by decide) fun _ _ _ _ _ _ bd hp => b__law_panel T C__law_next bd hp
theorem sc__law_row : FnScope N__law_row ["_law_drawn", "_law_n", "_law_most"] (defScope s__law_row) := ⟨rfl, rfl, rfl, by decide +kernel, rfl, by decide +kernel, by decide +kernel⟩
theorem b__law_row (T : Txt P w K mg) (C__law_next : FnC P w K mg base 7 "_law_next" 2 d__law_next)  {f : Addr} {cdv : Value} {B : Around} {fr : List Env} {s : Shared} {H : Hp} {E : XK} (bd : Bd (cxOf (CXk 8 P w) P w K mg base N__law_row "_law_row" (defScope s__law_row) f cdv B fr s H E) (wE E) 7)
    (hp : PassesOwn (model P w) (B.deeper (envOfC "_law_row" (defScope s__law_row) s.heap.objs.size f cdv)) (envOfC "_law_row" (defScope s__law_row) s.heap.objs.size f cdv) (cxOf (CXk 8 P w) P w K mg base N__law_row "_law_row" (defScope s__law_row) f cdv B fr s H E).xe) :
    DSs (cxOf (CXk 8 P w) P w K mg base N__law_row "_law_row" (defScope s__law_row) f cdv B fr s H E) (wE E) (defBody s__law_row) m__law_row :=
  (dss_one (ds_ret (de_bT call_pTuple (by rfl) T.m_tuple (by rfl) (da_cons (de_frz (dl_lc (own := [("_law_press", 3)]) bd.calm bd.nd (di_range1 (by rfl) T.m_range (de_call bd C__law_next (by decide) (by rfl) nn__law_next (da_cons (vr 0) (da_cons (de_bin op_pAdd (vr 2) de_int) da_nil)))) (blkOk_by (own := [("_law_press", 3)]) (N := N__law_row) (sc := defScope s__law_row) (by decide +kernel)) (by decide) (fun _ _ _ _ _ => (gn 3 bd.blk)) (fun _ _ _ _ _ => dts_nil) (fun _ _ _ _ _ => (de_call bd.blk C__law_next (by decide) (by rfl) nn__law_next (da_cons (vr 0) (da_cons (vr 1) da_nil)))))) da_nil))))
theorem g__law_row (T : Txt P w K mg) (C__law_next : FnC P w K mg base 7 "_law_next" 2 d__law_next)  {f : Addr} {fd : FuncData} (F : Fun K "_law_row" "_law_row" s__law_row f fd) : FnG P w K mg base 8 f fd ["_law_drawn", "_law_n", "_law_most"] (spD K 3 d__law_row) :=
  fnG_of F sc__law_row (by decide) fun _ _ _ _ _ _ bd hp => b__law_row T C__law_next bd hp
theorem sc__law_words : FnScope N__law_words ["_law_drawn", "_law_n"] (defScope s__law_words) := ⟨rfl, rfl, rfl, by decide +kernel, rfl, by decide +kernel, by decide +kernel⟩
theorem b__law_words (T : Txt P w K mg) (C__law_next : FnC P w K mg base 7 "_law_next" 2 d__law_next)  {f : Addr} {cdv : Value} {B : Around} {fr : List Env} {s : Shared} {H : Hp} {E : XK} (bd : Bd (cxOf (CXk 8 P w) P w K mg base N__law_words "_law_words" (defScope s__law_words) f cdv B fr s H E) (wE E) 7)
    (hp : PassesOwn (model P w) (B.deeper (envOfC "_law_words" (defScope s__law_words) s.heap.objs.size f cdv)) (envOfC "_law_words" (defScope s__law_words) s.heap.objs.size f cdv) (cxOf (CXk 8 P w) P w K mg base N__law_words "_law_words" (defScope s__law_words) f cdv B fr s H E).xe) :
    DSs (cxOf (CXk 8 P w) P w K mg base N__law_words "_law_words" (defScope s__law_words) f cdv B fr s H E) (wE E) (defBody s__law_words) m__law_words :=
  (dss_one (ds_ret (de_bT call_pTuple (by rfl) T.m_tuple (by rfl) (da_cons (de_frz (dl_lc (own := [("_law_button", 2)]) bd.calm bd.nd (di_range1 (by rfl) T.m_range (vr 1)) (blkOk_by (own := [("_law_button", 2)]) (N := N__law_words) (sc := defScope s__law_words) (by decide +kernel)) (by decide) (fun _ _ _ _ _ => (gn 2 bd.blk)) (fun _ _ _ _ _ => dts_nil) (fun _ _ _ _ _ => (de_idx (de_frz (dl_disp (da_cons de_str (da_cons de_str (da_cons de_str da_nil))))) (de_call bd.blk C__law_next (by decide) (by rfl) nn__law_next (da_cons (vr 0) (da_cons de_int da_nil))))))) da_nil))))
theorem g__law_words (T : Txt P w K mg) (C__law_next : FnC P w K mg base 7 "_law_next" 2 d__law_next)  {f : Addr} {fd : FuncData} (F : Fun K "_law_words" "_law_words" s__law_words f fd) : FnG P w K mg base 8 f fd ["_law_drawn", "_law_n"] (spD K 2 d__law_words) :=
  fnG_of F sc__law_words (by decide) fun _ _ _ _ _ _ bd hp => b__law_words T C__law_next bd hp
theorem sc_way_back : FnScope N_way_back ["panel", "start", "allowed"] (defScope s_way_back) := ⟨rfl, rfl, rfl, by decide +kernel, rfl, by decide +kernel, by decide +kernel⟩
theorem b_way_back (T : Txt P w K mg)   {f : Addr} {cdv : Value} {B : Around} {fr : List Env} {s : Shared} {H : Hp} {E : XK} (bd : Bd (cxOf (CXk 7 P w) P w K mg base N_way_back "way_back" (defScope s_way_back) f cdv B fr s H E) (wE E) 6)
    (hp : PassesOwn (model P w) (B.deeper (envOfC "way_back" (defScope s_way_back) s.heap.objs.size f cdv)) (envOfC "way_back" (defScope s_way_back) s.heap.objs.size f cdv) (cxOf (CXk 7 P w) P w K mg base N_way_back "way_back" (defScope s_way_back) f cdv B fr s H E).xe) :
    DSs (cxOf (CXk 7 P w) P w K mg base N_way_back "way_back" (defScope s_way_back) f cdv B fr s H E) (wE E) (defBody s_way_back) m_way_back :=
  (dss_cons (ds_par (i := 3) (j := 4) bd.calm bd.nd rfl rfl (by decide) rfl rfl (da_cons (de_new (dl_disp (da_cons (de_tup (da_cons (vr 1) da_nil)) da_nil))) (da_cons (de_new (dl_disp (da_cons (vr 1) da_nil))) da_nil)) (by rfl))
  (dss_cons (ds_while hp (dt_cmp (op_pNe bd.u64) (vr 3) (de_frz (dl_disp da_nil))) (dss_cons (st 5 bd (de_m PySem.F.plainAttrs_list PySem.F.slot_list_pop PySem.F.type_list_pop mt_pPopAt (vr 3) (da_cons de_int da_nil)))
    (dss_one (ds_for hp bd.calm (di_seq (de_idx (vr 0) (de_idx (vr 5) (de_neg de_int)))) (gn 6 bd) (dss_cons (ds_if (dt_cmp (op_pEq bd.u64) (vr 6) (vr 1)) (dss_one (ds_ret (vr 5))) dss_nil)
      (dss_one (ds_if (dt_w (dw_and (dt_cmp (op_pIn bd.u65) (vr 6) (vr 2)) (dw_and1 (dt_cmp (op_pNotIn bd.u65) (vr 6) (vr 4))))) (dss_cons (ds_expr (de_m PySem.F.plainAttrs_list PySem.F.slot_list_append PySem.F.type_list_append mt_pAppend (vr 4) (da_cons (vr 6) da_nil)))
        (dss_one (ds_expr (de_m PySem.F.plainAttrs_list PySem.F.slot_list_append PySem.F.type_list_append mt_pAppend (vr 3) (da_cons (de_tup (da_star (vr 5) (da_cons (vr 6) da_nil))) da_nil))))) dss_nil)))))))
  (dss_one (ds_ret de_non))))
theorem g_way_back (T : Txt P w K mg)   {f : Addr} {fd : FuncData} (F : Fun K "way_back" "way_back" s_way_back f fd) : FnG P w K mg base 7 f fd ["panel", "start", "allowed"] (spD K 3 d_way_back) :=
  fnG_of F sc_way_back (by decide) fun _ _ _ _ _ _ bd hp => b_way_back T  bd hp
theorem sc_find_round : FnScope N_find_round ["panel", "state"] (defScope s_find_round) := ⟨rfl, rfl, rfl, by decide +kernel, rfl, by decide +kernel, by decide +kernel⟩
theorem b_find_round (T : Txt P w K mg) (C_way_back : FnC P w K mg base 7 "way_back" 3 d_way_back)  {f : Addr} {cdv : Value} {B : Around} {fr : List Env} {s : Shared} {H : Hp} {E : XK} (bd : Bd (cxOf (CXk 8 P w) P w K mg base N_find_round "find_round" (defScope s_find_round) f cdv B fr s H E) (wE E) 7)
    (hp : PassesOwn (model P w) (B.deeper (envOfC "find_round" (defScope s_find_round) s.heap.objs.size f cdv)) (envOfC "find_round" (defScope s_find_round) s.heap.objs.size f cdv) (cxOf (CXk 8 P w) P w K mg base N_find_round "find_round" (defScope s_find_round) f cdv B fr s H E).xe) :
    DSs (cxOf (CXk 8 P w) P w K mg base N_find_round "find_round" (defScope s_find_round) f cdv B fr s H E) (wE E) (defBody s_find_round) m_find_round :=
  (dss_cons (ds_for hp bd.calm (di_enum (by rfl) T.m_enumerate (vr 1)) (dg_tup bd.calm (dgs_cons (gn 2 bd) (dgs_cons (gn 3 bd) dgs_nil))) (dss_cons (st 4 bd (de_call bd C_way_back (by decide) (by rfl) nn_way_back (da_cons (vr 0) (da_cons (vr 3) (da_cons (de_slT (vr 1) (do_some (vr 2)) do_none) da_nil)))))
    (dss_one (ds_if (dt_cmp op_pIsNot (vr 4) de_non) (dss_one (ds_ret (vr 4))) dss_nil))))
  (dss_one (ds_ret de_non)))
theorem g_find_round (T : Txt P w K mg) (C_way_back : FnC P w K mg base 7 "way_back" 3 d_way_back)  {f : Addr} {fd : FuncData} (F : Fun K "find_round" "find_round" s_find_round f fd) : FnG P w K mg base 8 f fd ["panel", "state"] (spD K 2 d_find_round) :=
  fnG_of F sc_find_round (by decide) fun _ _ _ _ _ _ bd hp => b_find_round T C_way_back bd hp
theorem sc__law_gathered : FnScope N__law_gathered ["_law_panel_here", "_law_words_here"] (defScope s__law_gathered) := ⟨rfl, rfl, rfl, by decide +kernel, rfl, by decide +kernel, by decide +kernel⟩
theorem b__law_gathered (T : Txt P w K mg)   {f : Addr} {cdv : Value} {B : Around} {fr : List Env} {s : Shared} {H : Hp} {E : XK} (bd : Bd (cxOf (CXk 7 P w) P w K mg base N__law_gathered "_law_gathered" (defScope s__law_gathered) f cdv B fr s H E) (wE E) 6)
    (hp : PassesOwn (model P w) (B.deeper (envOfC "_law_gathered" (defScope s__law_gathered) s.heap.objs.size f cdv)) (envOfC "_law_gathered" (defScope s__law_gathered) s.heap.objs.size f cdv) (cxOf (CXk 7 P w) P w K mg base N__law_gathered "_law_gathered" (defScope s__law_gathered) f cdv B fr s H E).xe) :
    DSs (cxOf (CXk 7 P w) P w K mg base N__law_gathered "_law_gathered" (defScope s__law_gathered) f cdv B fr s H E) (wE E) (defBody s__law_gathered) m__law_gathered :=
  (dss_cons (ds_par (i := 2) (j := 3) bd.calm bd.nd rfl rfl (by decide) rfl rfl (da_cons (de_new (dl_disp da_nil)) (da_cons (de_new (dl_lc (own := [("_law_button", 4), ("_law_word", 5)]) bd.calm bd.nd (di_enum (by rfl) T.m_enumerate (vr 1)) (blkOk_by (own := [("_law_button", 4), ("_law_word", 5)]) (N := N__law_gathered) (sc := defScope s__law_gathered) (by decide +kernel)) (by decide) (fun _ _ _ _ _ => (dg_tup bd.blk.calm (dgs_cons (gn 4 bd.blk) (dgs_cons (gn 5 bd.blk) dgs_nil)))) (fun _ _ _ _ _ => (dts1 (dt_cmp (op_pEq bd.blk.u64) (vr 5) de_str))) (fun _ _ _ _ _ => (vr 4)))) da_nil)) (by rfl))
  (dss_cons (st 6 bd de_int)
  (dss_cons (ds_while hp (dt_cmp (op_pLt bd.u65) (vr 6) (de_b call_pLen (by rfl) T.m_len (by rfl) (da_cons (vr 3) da_nil))) (dss_cons (ds_for hp bd.calm (di_seq (de_idx (vr 0) (de_idx (vr 3) (vr 6)))) (gn 7 bd) (dss_one (ds_if (dt_w (dw_and (dt_cmp (op_pEq bd.u64) (de_idx (vr 1) (vr 7)) de_str) (dw_and1 (dt_cmp (op_pNotIn bd.u65) (vr 7) (vr 2))))) (dss_cons (ds_expr (de_m PySem.F.plainAttrs_list PySem.F.slot_list_append PySem.F.type_list_append mt_pAppend (vr 2) (da_cons (vr 7) da_nil)))
        (dss_one (ds_if (dt_cmp (op_pNotIn bd.u65) de_str (de_frz (dl_lc (own := [("_law_one", 8)]) bd.calm bd.nd (di_seq (de_idx (vr 0) (vr 7))) (blkOk_by (own := [("_law_one", 8)]) (N := N__law_gathered) (sc := defScope s__law_gathered) (by decide +kernel)) (by decide) (fun _ _ _ _ _ => (gn 8 bd.blk)) (fun _ _ _ _ _ => dts_nil) (fun _ _ _ _ _ => (de_idx (vr 1) (vr 8)))))) (dss_one (ds_expr (de_m PySem.F.plainAttrs_list PySem.F.slot_list_append PySem.F.type_list_append mt_pAppend (vr 3) (da_cons (vr 7) da_nil)))) dss_nil))) dss_nil)))
    (dss_one (st 6 bd (de_bin op_pAdd (vr 6) de_int)))))
  (dss_fz (dss_one (ds_ret (vr 2)))))))
theorem g__law_gathered (T : Txt P w K mg)   {f : Addr} {fd : FuncData} (F : Fun K "_law_gathered" "_law_gathered" s__law_gathered f fd) : FnG P w K mg base 7 f fd ["_law_panel_here", "_law_words_here"] (spD K 2 d__law_gathered) :=
  fnG_of F sc__law_gathered (by decide) fun _ _ _ _ _ _ bd hp => b__law_gathered T  bd hp
theorem sc__law_holds : FnScope N__law_holds ["_law_panel_here", "_law_words_here"] (defScope s__law_holds) := ⟨rfl, rfl, rfl, by decide +kernel, rfl, by decide +kernel, by decide +kernel⟩
theorem b__law_holds (T : Txt P w K mg) (C_find_round : FnC P w K mg base 8 "find_round" 2 d_find_round) (C__law_gathered : FnC P w K mg base 7 "_law_gathered" 2 d__law_gathered)  {f : Addr} {cdv : Value} {B : Around} {fr : List Env} {s : Shared} {H : Hp} {E : XK} (bd : Bd (cxOf (CXk 9 P w) P w K mg base N__law_holds "_law_holds" (defScope s__law_holds) f cdv B fr s H E) (wE E) 8)
    (hp : PassesOwn (model P w) (B.deeper (envOfC "_law_holds" (defScope s__law_holds) s.heap.objs.size f cdv)) (envOfC "_law_holds" (defScope s__law_holds) s.heap.objs.size f cdv) (cxOf (CXk 9 P w) P w K mg base N__law_holds "_law_holds" (defScope s__law_holds) f cdv B fr s H E).xe) :
    DSs (cxOf (CXk 9 P w) P w K mg base N__law_holds "_law_holds" (defScope s__law_holds) f cdv B fr s H E) (wE E) (defBody s__law_holds) m__law_holds :=
  (dss_cons (st 2 bd (de_bT call_pTuple (by rfl) T.m_tuple (by rfl) (da_cons (de_frz (dl_lc (own := [("_law_button", 3), ("_law_word", 4)]) bd.calm bd.nd (di_enum (by rfl) T.m_enumerate (vr 1)) (blkOk_by (own := [("_law_button", 3), ("_law_word", 4)]) (N := N__law_holds) (sc := defScope s__law_holds) (by decide +kernel)) (by decide) (fun _ _ _ _ _ => (dg_tup bd.blk.calm (dgs_cons (gn 3 bd.blk) (dgs_cons (gn 4 bd.blk) dgs_nil)))) (fun _ _ _ _ _ => (dts1 (dt_cmp (op_pEq bd.blk.u64) (vr 4) de_str))) (fun _ _ _ _ _ => (vr 3)))) da_nil)))
  (dss_cons (ds_if (dt_cmp op_pIsNot (de_call bd C_find_round (by decide) (by rfl) nn_find_round (da_cons (vr 0) (da_cons (vr 2) da_nil))) de_non) (dss_one (ds_ret de_bl)) dss_nil)
  (dss_cons (ds_for hp bd.calm (di_seq (vr 2)) (gn 3 bd) (dss_one (ds_if (dt_cmp (op_pIn bd.u65) de_str (de_frz (dl_lc (own := [("_law_other", 5)]) bd.calm bd.nd (di_seq (de_idx (vr 0) (vr 3))) (blkOk_by (own := [("_law_other", 5)]) (N := N__law_holds) (sc := defScope s__law_holds) (by decide +kernel)) (by decide) (fun _ _ _ _ _ => (gn 5 bd.blk)) (fun _ _ _ _ _ => dts_nil) (fun _ _ _ _ _ => (de_idx (vr 1) (vr 5)))))) (dss_one (ds_ret de_bl)) dss_nil)))
  (dss_one (ds_ret (de_cmp (op_pEq bd.u64) (de_b call_pLen (by rfl) T.m_len (by rfl) (da_cons (de_call bd C__law_gathered (by decide) (by rfl) nn__law_gathered (da_cons (vr 0) (da_cons (vr 1) da_nil))) da_nil)) (de_mT PySem.F.slot_tuple_count PySem.F.type_tuple_count (mt_pCountT bd.u70) (vr 1) (da_cons de_str da_nil))))))))
theorem g__law_holds (T : Txt P w K mg) (C_find_round : FnC P w K mg base 8 "find_round" 2 d_find_round) (C__law_gathered : FnC P w K mg base 7 "_law_gathered" 2 d__law_gathered)  {f : Addr} {fd : FuncData} (F : Fun K "_law_holds" "_law_holds" s__law_holds f fd) : FnG P w K mg base 9 f fd ["_law_panel_here", "_law_words_here"] (spD K 2 d__law_holds) :=
  fnG_of F sc__law_holds (by decide) fun _ _ _ _ _ _ bd hp => b__law_holds T C_find_round C__law_gathered bd hp
theorem sc__law_all_words : FnScope N__law_all_words ["_law_n"] (defScope s__law_all_words) := ⟨rfl, rfl, rfl, by decide +kernel, rfl, by decide +kernel, by decide +kernel⟩
theorem b__law_all_words (T : Txt P w K mg)   {f : Addr} {cdv : Value} {B : Around} {fr : List Env} {s : Shared} {H : Hp} {E : XK} (bd : Bd (cxOf (CXk 7 P w) P w K mg base N__law_all_words "_law_all_words" (defScope s__law_all_words) f cdv B fr s H E) (wE E) 6)
    (hp : PassesOwn (model P w) (B.deeper (envOfC "_law_all_words" (defScope s__law_all_words) s.heap.objs.size f cdv)) (envOfC "_law_all_words" (defScope s__law_all_words) s.heap.objs.size f cdv) (cxOf (CXk 7 P w) P w K mg base N__law_all_words "_law_all_words" (defScope s__law_all_words) f cdv B fr s H E).xe) :
    DSs (cxOf (CXk 7 P w) P w K mg base N__law_all_words "_law_all_words" (defScope s__law_all_words) f cdv B fr s H E) (wE E) (defBody s__law_all_words) m__law_all_words :=
  (dss_cons (st 1 bd (de_frz (dl_disp (da_cons (de_tup da_nil) da_nil))))
  (dss_cons (ds_for hp bd.calm (di_range1 (by rfl) T.m_range (vr 0)) (gn 2 bd) (dss_cons (st 3 bd (de_new (dl_disp da_nil)))
    (dss_cons (ds_for hp bd.calm (di_seq (vr 1)) (gn 4 bd) (dss_one (ds_expr (de_m PySem.F.plainAttrs_list PySem.F.slot_list_extend PySem.F.type_list_extend mt_pExtend (vr 3) (da_cons (de_frz (dl_lc (own := [("_law_word", 5)]) bd.calm bd.nd (di_seq (de_tup (da_cons de_str (da_cons de_str (da_cons de_str da_nil))))) (blkOk_by (own := [("_law_word", 5)]) (N := N__law_all_words) (sc := defScope s__law_all_words) (by decide +kernel)) (by decide) (fun _ _ _ _ _ => (gn 5 bd.blk)) (fun _ _ _ _ _ => dts_nil) (fun _ _ _ _ _ => (de_bin op_pAdd (vr 4) (de_tup (da_cons (vr 5) da_nil)))))) da_nil)))))
    (dss_fz (dss_one (st 1 bd (vr 3)))))))
  (dss_one (ds_ret (vr 1)))))
theorem g__law_all_words (T : Txt P w K mg)   {f : Addr} {fd : FuncData} (F : Fun K "_law_all_words" "_law_all_words" s__law_all_words f fd) : FnG P w K mg base 7 f fd ["_law_n"] (spD K 1 d__law_all_words) :=
  fnG_of F sc__law_all_words (by decide) fun _ _ _ _ _ _ bd hp => b__law_all_words T  bd hp
theorem sc_law : FnScope N_law ["_law_script"] (defScope s_law) := ⟨rfl, rfl, rfl, by decide +kernel, rfl, by decide +kernel, by decide +kernel⟩
theorem b_law (T : Txt P w K mg) (C_effect_of : FnC P w K mg base 9 "effect_of" 2 d_effect_of) (C_row_for : FnC P w K mg base 8 "row_for" 2 d_row_for) (C_all_effects : FnC P w K mg base 9 "all_effects" 1 d_all_effects) (C__law_draws : FnC P w K mg base 7 "_law_draws" 1 d__law_draws) (C__law_panel : FnC P w K mg base 8 "_law_panel" 2 d__law_panel) (C__law_row : FnC P w K mg base 8 "_law_row" 3 d__law_row) (C__law_words : FnC P w K mg base 8 "_law_words" 2 d__law_words) (C__law_holds : FnC P w K mg base 9 "_law_holds" 2 d__law_holds) (C__law_all_words : FnC P w K mg base 7 "_law_all_words" 1 d__law_all_words)  {f : Addr} {cdv : Value} {B : Around} {fr : List Env} {s : Shared} {H : Hp} {E : XK} (bd : Bd (cxOf (CXk 10 P w) P w K mg base N_law "law" (defScope s_law) f cdv B fr s H E) (wE E) 9)
    (hp : PassesOwn (model P w) (B.deeper (envOfC "law" (defScope s_law) s.heap.objs.size f cdv)) (envOfC "law" (defScope s_law) s.heap.objs.size f cdv) (cxOf (CXk 10 P w) P w K mg base N_law "law" (defScope s_law) f cdv B fr s H E).xe) :
    DSs (cxOf (CXk 10 P w) P w K mg base N_law "law" (defScope s_law) f cdv B fr s H E) (wE E) (defBody s_law) m_law :=
  (dss_cons (st 1 bd (de_call bd C__law_draws (by decide) (by rfl) nn__law_draws (da_cons (vr 0) da_nil)))
  (dss_cons (ds_for hp bd.calm (di_range1 (by rfl) T.m_range de_int) (gn 2 bd) (dss_cons (st 3 bd (de_call bd C__law_panel (by decide) (by rfl) nn__law_panel (da_cons (vr 1) (da_cons de_int da_nil))))
    (dss_cons (ds_setLc (i := 4) (own := [("_law_words_here", 5)]) true bd.calm bd.nd rfl rfl (sw_true rfl rfl rfl (by decide +kernel)) (di_seq (de_call bd C__law_all_words (by decide) (by rfl) nn__law_all_words (da_cons (de_b call_pLen (by rfl) T.m_len (by rfl) (da_cons (vr 3) da_nil)) da_nil))) (blkOk_by (own := [("_law_words_here", 5)]) (N := N_law) (sc := defScope s_law) (by decide +kernel)) (by decide) (fun _ _ _ _ _ => (gn 5 bd.blk)) (fun _ _ _ _ _ => (dts1 (dt_tru (de_call bd.blk C__law_holds (by decide) (by rfl) nn__law_holds (da_cons (vr 3) (da_cons (vr 5) da_nil)))))) (fun _ _ _ _ _ => (vr 5)))
    (dss_cons (ds_if (dt_cmp (op_pNe bd.u64) (de_call bd C_all_effects (by decide) (by rfl) nn_all_effects (da_cons (vr 3) da_nil)) (de_bT call_pTuple (by rfl) T.m_tuple (by rfl) (da_cons (vr 4) da_nil))) (dss_one (ds_ret de_bl)) dss_nil)
    (dss_cons (ds_setLc (i := 6) (own := [("_law_words_here", 5)]) true bd.calm bd.nd rfl rfl (sw_true rfl rfl rfl (by decide +kernel)) (di_seq (de_call bd C__law_all_words (by decide) (by rfl) nn__law_all_words (da_cons (de_b call_pLen (by rfl) T.m_len (by rfl) (da_cons (vr 3) da_nil)) da_nil))) (blkOk_by (own := [("_law_words_here", 5)]) (N := N_law) (sc := defScope s_law) (by decide +kernel)) (by decide) (fun _ _ _ _ _ => (gn 5 bd.blk)) (fun _ _ _ _ _ => (dts1 (dt_cmp op_pIsNot (de_call bd.blk C_row_for (by decide) (by rfl) nn_row_for (da_cons (vr 3) (da_cons (vr 5) da_nil))) de_non))) (fun _ _ _ _ _ => (vr 5)))
    (dss_one (ds_if (dt_cmp (op_pNe bd.u64) (vr 6) (vr 4)) (dss_one (ds_ret de_bl)) dss_nil)))))))
  (dss_cons (ds_for hp bd.calm (di_range1 (by rfl) T.m_range de_int) (gn 2 bd) (dss_cons (st 3 bd (de_call bd C__law_panel (by decide) (by rfl) nn__law_panel (da_cons (vr 1) (da_cons (de_bin op_pAdd de_int (vr 2)) da_nil))))
    (dss_cons (ds_setLc (i := 7) (own := [("_law_k", 8)]) false bd.calm bd.nd rfl rfl (sw_true rfl rfl rfl (by decide +kernel)) (di_range1 (by rfl) T.m_range de_int) (blkOk_by (own := [("_law_k", 8)]) (N := N_law) (sc := defScope s_law) (by decide +kernel)) (by decide) (fun _ _ _ _ _ => (gn 8 bd.blk)) (fun _ _ _ _ _ => dts_nil) (fun _ _ _ _ _ => (de_call bd.blk C__law_words (by decide) (by rfl) nn__law_words (da_cons (vr 1) (da_cons (de_b call_pLen (by rfl) T.m_len (by rfl) (da_cons (vr 3) da_nil)) da_nil)))))
    (dss_cons (ds_expr (de_m PySem.F.plainAttrs_list PySem.F.slot_list_append PySem.F.type_list_append mt_pAppend (vr 7) (da_cons (de_call bd C_effect_of (by decide) (by rfl) nn_effect_of (da_cons (vr 3) (da_cons (de_call bd C__law_row (by decide) (by rfl) nn__law_row (da_cons (vr 1) (da_cons (de_b call_pLen (by rfl) T.m_len (by rfl) (da_cons (vr 3) da_nil)) (da_cons de_int da_nil)))) da_nil))) da_nil)))
    (dss_fz (dss_cons (ds_for hp bd.calm (di_seq (vr 7)) (gn 5 bd) (dss_one (ds_if (dt_cmp (op_pNe bd.u64) (de_cmp op_pIsNot (de_call bd C_row_for (by decide) (by rfl) nn_row_for (da_cons (vr 3) (da_cons (vr 5) da_nil))) de_non) (de_call bd C__law_holds (by decide) (by rfl) nn__law_holds (da_cons (vr 3) (da_cons (vr 5) da_nil)))) (dss_one (ds_ret de_bl)) dss_nil)))
    (dss_one (ds_if (dt_not (dt_tru (de_call bd C__law_holds (by decide) (by rfl) nn__law_holds (da_cons (vr 3) (da_cons (de_idx (vr 7) (de_neg de_int)) da_nil))))) (dss_one (ds_ret de_bl)) dss_nil))))))))
  (dss_one (ds_ret de_bl)))))
theorem g_law (T : Txt P w K mg) (C_effect_of : FnC P w K mg base 9 "effect_of" 2 d_effect_of) (C_row_for : FnC P w K mg base 8 "row_for" 2 d_row_for) (C_all_effects : FnC P w K mg base 9 "all_effects" 1 d_all_effects) (C__law_draws : FnC P w K mg base 7 "_law_draws" 1 d__law_draws) (C__law_panel : FnC P w K mg base 8 "_law_panel" 2 d__law_panel) (C__law_row : FnC P w K mg base 8 "_law_row" 3 d__law_row) (C__law_words : FnC P w K mg base 8 "_law_words" 2 d__law_words) (C__law_holds : FnC P w K mg base 9 "_law_holds" 2 d__law_holds) (C__law_all_words : FnC P w K mg base 7 "_law_all_words" 1 d__law_all_words)  {f : Addr} {fd : FuncData} (F : Fun K "law" "law" s_law f fd) : FnG P w K mg base 10 f fd ["_law_script"] (spD K 1 d_law) :=
  fnG_of F sc_law (by decide) fun _ _ _ _ _ _ bd hp => b_law T C_effect_of C_row_for C_all_effects C__law_draws C__law_panel C__law_row C__law_words C__law_holds C__law_all_words bd hp
theorem all_mk (hz : HzOk P w) {h : Heap} {f0 f1 f2 f3 f4 f5 f6 f7 f8 f9 f10 f11 f12 f13 f14 f15 f16 f17 f18 f19 : Addr} (X : K.In h) (G : h.Ns mainGlobals mg) {fa : Addr} (hfa : mg "law" = some (.ref fa))
    {od0 an0 od1 an1 od2 an2 od3 an3 od4 an4 od5 an5 od6 an6 od7 an7 od8 an8 od9 an9 od10 an10 od11 an11 od12 an12 od13 an13 od14 an14 od15 an15 od16 an16 od17 an17 od18 an18 od19 an19 : Option Addr} {sl0 sl1 sl2 sl3 sl4 sl5 sl6 sl7 sl8 sl9 sl10 sl11 sl12 sl13 sl14 sl15 sl16 sl17 sl18 sl19 : Array (Option Value)} {oc0 kV0 dc0 pm0 cd0 ct0 oc1 kV1 dc1 pm1 cd1 ct1 oc2 kV2 dc2 pm2 cd2 ct2 oc3 kV3 dc3 pm3 cd3 ct3 oc4 kV4 dc4 pm4 cd4 ct4 oc5 kV5 dc5 pm5 cd5 ct5 oc6 kV6 dc6 pm6 cd6 ct6 oc7 kV7 dc7 pm7 cd7 ct7 oc8 kV8 dc8 pm8 cd8 ct8 oc9 kV9 dc9 pm9 cd9 ct9 oc10 kV10 dc10 pm10 cd10 ct10 oc11 kV11 dc11 pm11 cd11 ct11 oc12 kV12 dc12 pm12 cd12 ct12 oc13 kV13 dc13 pm13 cd13 ct13 oc14 kV14 dc14 pm14 cd14 ct14 oc15 kV15 dc15 pm15 cd15 ct15 oc16 kV16 dc16 pm16 cd16 ct16 oc17 kV17 dc17 pm17 cd17 ct17 oc18 kV18 dc18 pm18 cd18 ct18 oc19 kV19 dc19 pm19 cd19 ct19 : Value}
    (a0 : PySem.W.nsIn K mainGlobals "changed_word" = some (some (.ref f0))) (l0 : K.lookup f0 = some ⟨oc0, od0, .func (PySem.W.fnOf "changed_word" "changed_word" (defArgs s_changed_word) (defBody s_changed_word) (defScope s_changed_word) .none kV0 dc0 pm0 an0 cd0 ct0), sl0⟩) (c0 : PySem.W.codeIn K cd0 "changed_word" = true) (k0 : PySem.W.keepIn K (.ref f0) = true)
    (a1 : PySem.W.nsIn K mainGlobals "effect_after" = some (some (.ref f1))) (l1 : K.lookup f1 = some ⟨oc1, od1, .func (PySem.W.fnOf "effect_after" "effect_after" (defArgs s_effect_after) (defBody s_effect_after) (defScope s_effect_after) .none kV1 dc1 pm1 an1 cd1 ct1), sl1⟩) (c1 : PySem.W.codeIn K cd1 "effect_after" = true) (k1 : PySem.W.keepIn K (.ref f1) = true)
    (a2 : PySem.W.nsIn K mainGlobals "effect_of" = some (some (.ref f2))) (l2 : K.lookup f2 = some ⟨oc2, od2, .func (PySem.W.fnOf "effect_of" "effect_of" (defArgs s_effect_of) (defBody s_effect_of) (defScope s_effect_of) .none kV2 dc2 pm2 an2 cd2 ct2), sl2⟩) (c2 : PySem.W.codeIn K cd2 "effect_of" = true) (k2 : PySem.W.keepIn K (.ref f2) = true)
    (a3 : PySem.W.nsIn K mainGlobals "free_buttons" = some (some (.ref f3))) (l3 : K.lookup f3 = some ⟨oc3, od3, .func (PySem.W.fnOf "free_buttons" "free_buttons" (defArgs s_free_buttons) (defBody s_free_buttons) (defScope s_free_buttons) .none kV3 dc3 pm3 an3 cd3 ct3), sl3⟩) (c3 : PySem.W.codeIn K cd3 "free_buttons" = true) (k3 : PySem.W.keepIn K (.ref f3) = true)
    (a4 : PySem.W.nsIn K mainGlobals "is_effect_form" = some (some (.ref f4))) (l4 : K.lookup f4 = some ⟨oc4, od4, .func (PySem.W.fnOf "is_effect_form" "is_effect_form" (defArgs s_is_effect_form) (defBody s_is_effect_form) (defScope s_is_effect_form) .none kV4 dc4 pm4 an4 cd4 ct4), sl4⟩) (c4 : PySem.W.codeIn K cd4 "is_effect_form" = true) (k4 : PySem.W.keepIn K (.ref f4) = true)
    (a5 : PySem.W.nsIn K mainGlobals "ordered" = some (some (.ref f5))) (l5 : K.lookup f5 = some ⟨oc5, od5, .func (PySem.W.fnOf "ordered" "ordered" (defArgs s_ordered) (defBody s_ordered) (defScope s_ordered) .none kV5 dc5 pm5 an5 cd5 ct5), sl5⟩) (c5 : PySem.W.codeIn K cd5 "ordered" = true) (k5 : PySem.W.keepIn K (.ref f5) = true)
    (a6 : PySem.W.nsIn K mainGlobals "gather" = some (some (.ref f6))) (l6 : K.lookup f6 = some ⟨oc6, od6, .func (PySem.W.fnOf "gather" "gather" (defArgs s_gather) (defBody s_gather) (defScope s_gather) .none kV6 dc6 pm6 an6 cd6 ct6), sl6⟩) (c6 : PySem.W.codeIn K cd6 "gather" = true) (k6 : PySem.W.keepIn K (.ref f6) = true)
    (a7 : PySem.W.nsIn K mainGlobals "row_for" = some (some (.ref f7))) (l7 : K.lookup f7 = some ⟨oc7, od7, .func (PySem.W.fnOf "row_for" "row_for" (defArgs s_row_for) (defBody s_row_for) (defScope s_row_for) .none kV7 dc7 pm7 an7 cd7 ct7), sl7⟩) (c7 : PySem.W.codeIn K cd7 "row_for" = true) (k7 : PySem.W.keepIn K (.ref f7) = true)
    (a8 : PySem.W.nsIn K mainGlobals "all_effects" = some (some (.ref f8))) (l8 : K.lookup f8 = some ⟨oc8, od8, .func (PySem.W.fnOf "all_effects" "all_effects" (defArgs s_all_effects) (defBody s_all_effects) (defScope s_all_effects) .none kV8 dc8 pm8 an8 cd8 ct8), sl8⟩) (c8 : PySem.W.codeIn K cd8 "all_effects" = true) (k8 : PySem.W.keepIn K (.ref f8) = true)
    (a9 : PySem.W.nsIn K mainGlobals "_law_draws" = some (some (.ref f9))) (l9 : K.lookup f9 = some ⟨oc9, od9, .func (PySem.W.fnOf "_law_draws" "_law_draws" (defArgs s__law_draws) (defBody s__law_draws) (defScope s__law_draws) .none kV9 dc9 pm9 an9 cd9 ct9), sl9⟩) (c9 : PySem.W.codeIn K cd9 "_law_draws" = true) (k9 : PySem.W.keepIn K (.ref f9) = true)
    (a10 : PySem.W.nsIn K mainGlobals "_law_next" = some (some (.ref f10))) (l10 : K.lookup f10 = some ⟨oc10, od10, .func (PySem.W.fnOf "_law_next" "_law_next" (defArgs s__law_next) (defBody s__law_next) (defScope s__law_next) .none kV10 dc10 pm10 an10 cd10 ct10), sl10⟩) (c10 : PySem.W.codeIn K cd10 "_law_next" = true) (k10 : PySem.W.keepIn K (.ref f10) = true)
    (a11 : PySem.W.nsIn K mainGlobals "_law_panel" = some (some (.ref f11))) (l11 : K.lookup f11 = some ⟨oc11, od11, .func (PySem.W.fnOf "_law_panel" "_law_panel" (defArgs s__law_panel) (defBody s__law_panel) (defScope s__law_panel) .none kV11 dc11 pm11 an11 cd11 ct11), sl11⟩) (c11 : PySem.W.codeIn K cd11 "_law_panel" = true) (k11 : PySem.W.keepIn K (.ref f11) = true)
    (a12 : PySem.W.nsIn K mainGlobals "_law_row" = some (some (.ref f12))) (l12 : K.lookup f12 = some ⟨oc12, od12, .func (PySem.W.fnOf "_law_row" "_law_row" (defArgs s__law_row) (defBody s__law_row) (defScope s__law_row) .none kV12 dc12 pm12 an12 cd12 ct12), sl12⟩) (c12 : PySem.W.codeIn K cd12 "_law_row" = true) (k12 : PySem.W.keepIn K (.ref f12) = true)
    (a13 : PySem.W.nsIn K mainGlobals "_law_words" = some (some (.ref f13))) (l13 : K.lookup f13 = some ⟨oc13, od13, .func (PySem.W.fnOf "_law_words" "_law_words" (defArgs s__law_words) (defBody s__law_words) (defScope s__law_words) .none kV13 dc13 pm13 an13 cd13 ct13), sl13⟩) (c13 : PySem.W.codeIn K cd13 "_law_words" = true) (k13 : PySem.W.keepIn K (.ref f13) = true)
    (a14 : PySem.W.nsIn K mainGlobals "way_back" = some (some (.ref f14))) (l14 : K.lookup f14 = some ⟨oc14, od14, .func (PySem.W.fnOf "way_back" "way_back" (defArgs s_way_back) (defBody s_way_back) (defScope s_way_back) .none kV14 dc14 pm14 an14 cd14 ct14), sl14⟩) (c14 : PySem.W.codeIn K cd14 "way_back" = true) (k14 : PySem.W.keepIn K (.ref f14) = true)
    (a15 : PySem.W.nsIn K mainGlobals "find_round" = some (some (.ref f15))) (l15 : K.lookup f15 = some ⟨oc15, od15, .func (PySem.W.fnOf "find_round" "find_round" (defArgs s_find_round) (defBody s_find_round) (defScope s_find_round) .none kV15 dc15 pm15 an15 cd15 ct15), sl15⟩) (c15 : PySem.W.codeIn K cd15 "find_round" = true) (k15 : PySem.W.keepIn K (.ref f15) = true)
    (a16 : PySem.W.nsIn K mainGlobals "_law_gathered" = some (some (.ref f16))) (l16 : K.lookup f16 = some ⟨oc16, od16, .func (PySem.W.fnOf "_law_gathered" "_law_gathered" (defArgs s__law_gathered) (defBody s__law_gathered) (defScope s__law_gathered) .none kV16 dc16 pm16 an16 cd16 ct16), sl16⟩) (c16 : PySem.W.codeIn K cd16 "_law_gathered" = true) (k16 : PySem.W.keepIn K (.ref f16) = true)
    (a17 : PySem.W.nsIn K mainGlobals "_law_holds" = some (some (.ref f17))) (l17 : K.lookup f17 = some ⟨oc17, od17, .func (PySem.W.fnOf "_law_holds" "_law_holds" (defArgs s__law_holds) (defBody s__law_holds) (defScope s__law_holds) .none kV17 dc17 pm17 an17 cd17 ct17), sl17⟩) (c17 : PySem.W.codeIn K cd17 "_law_holds" = true) (k17 : PySem.W.keepIn K (.ref f17) = true)
    (a18 : PySem.W.nsIn K mainGlobals "_law_all_words" = some (some (.ref f18))) (l18 : K.lookup f18 = some ⟨oc18, od18, .func (PySem.W.fnOf "_law_all_words" "_law_all_words" (defArgs s__law_all_words) (defBody s__law_all_words) (defScope s__law_all_words) .none kV18 dc18 pm18 an18 cd18 ct18), sl18⟩) (c18 : PySem.W.codeIn K cd18 "_law_all_words" = true) (k18 : PySem.W.keepIn K (.ref f18) = true)
    (a19 : PySem.W.nsIn K mainGlobals "law" = some (some (.ref f19))) (l19 : K.lookup f19 = some ⟨oc19, od19, .func (PySem.W.fnOf "law" "law" (defArgs s_law) (defBody s_law) (defScope s_law) .none kV19 dc19 pm19 an19 cd19 ct19), sl19⟩) (c19 : PySem.W.codeIn K cd19 "law" = true) (k19 : PySem.W.keepIn K (.ref f19) = true)
    (z_all : PySem.W.nsIn K mainGlobals "all" = some none)
    (z_any : PySem.W.nsIn K mainGlobals "any" = some none)
    (z_enumerate : PySem.W.nsIn K mainGlobals "enumerate" = some none)
    (z_int : PySem.W.nsIn K mainGlobals "int" = some none)
    (z_isinstance : PySem.W.nsIn K mainGlobals "isinstance" = some none)
    (z_len : PySem.W.nsIn K mainGlobals "len" = some none)
    (z_list : PySem.W.nsIn K mainGlobals "list" = some none)
    (z_range : PySem.W.nsIn K mainGlobals "range" = some none)
    (z_sorted : PySem.W.nsIn K mainGlobals "sorted" = some none)
    (z_str : PySem.W.nsIn K mainGlobals "str" = some none)
    (z_tuple : PySem.W.nsIn K mainGlobals "tuple" = some none)
    {t0 : Tok} (y_SMALL_BUTTONS : PySem.W.nsIn K mainGlobals "SMALL_BUTTONS" = some (some (.int 7 t0)))
    {t1 : Tok} (y_OFF : PySem.W.nsIn K mainGlobals "OFF" = some (some (.str ("off" : Str) t1)))
    {t2 : Tok} (y_ON : PySem.W.nsIn K mainGlobals "ON" = some (some (.str ("on" : Str) t2)))
    {t3 : Tok} (y_SAME : PySem.W.nsIn K mainGlobals "SAME" = some (some (.str ("same" : Str) t3)))
    : ∃ fd : FuncData, (∀ (s : Shared) (v : Value), BindsTo s fd ⟨[v], []⟩ [("_law_script", v)]) ∧ ∀ base : Heap, K.In base → base.Ns mainGlobals mg → FnG P w K mg base 10 fa fd ["_law_script"] (spD K 1 d_law) := by
  have e := hfa.symm.trans (PySem.W.mg_of X G a19)
  cases e
  have T : Txt P w K mg := ⟨PySem.W.mg_none_of X G z_all, PySem.W.mg_none_of X G z_any, PySem.W.mg_none_of X G z_enumerate, PySem.W.mg_none_of X G z_int, PySem.W.mg_none_of X G z_isinstance, PySem.W.mg_none_of X G z_len, PySem.W.mg_none_of X G z_list, PySem.W.mg_none_of X G z_range, PySem.W.mg_none_of X G z_sorted, PySem.W.mg_none_of X G z_str, PySem.W.mg_none_of X G z_tuple, hz, ⟨_, PySem.W.mg_of X G y_SMALL_BUTTONS⟩, ⟨_, PySem.W.mg_of X G y_OFF⟩, ⟨_, PySem.W.mg_of X G y_ON⟩, ⟨_, PySem.W.mg_of X G y_SAME⟩⟩
  have F0 := fun_mk (st := s_changed_word) l0 c0 k0
  have b0 := F0.binds (ps := ["panel", "pressed", "button", "word"]) fun _ _ _ _ _ _ us hl => match us, hl with | [_, _, _, _], _ => rfl
  have F1 := fun_mk (st := s_effect_after) l1 c1 k1
  have b1 := F1.binds (ps := ["panel", "effect", "pressed"]) fun _ _ _ _ _ _ us hl => match us, hl with | [_, _, _], _ => rfl
  have F2 := fun_mk (st := s_effect_of) l2 c2 k2
  have b2 := F2.binds (ps := ["panel", "row"]) fun _ _ _ _ _ _ us hl => match us, hl with | [_, _], _ => rfl
  have F3 := fun_mk (st := s_free_buttons) l3 c3 k3
  have b3 := F3.binds (ps := ["panel", "effect"]) fun _ _ _ _ _ _ us hl => match us, hl with | [_, _], _ => rfl
  have F4 := fun_mk (st := s_is_effect_form) l4 c4 k4
  have b4 := F4.binds (ps := ["panel", "value"]) fun _ _ _ _ _ _ us hl => match us, hl with | [_, _], _ => rfl
  have F5 := fun_mk (st := s_ordered) l5 c5 k5
  have b5 := F5.binds (ps := ["panel", "buttons"]) fun _ _ _ _ _ _ us hl => match us, hl with | [_, _], _ => rfl
  have F6 := fun_mk (st := s_gather) l6 c6 k6
  have b6 := F6.binds (ps := ["panel", "effect", "free", "pressed"]) fun _ _ _ _ _ _ us hl => match us, hl with | [_, _, _, _], _ => rfl
  have F7 := fun_mk (st := s_row_for) l7 c7 k7
  have b7 := F7.binds (ps := ["panel", "value"]) fun _ _ _ _ _ _ us hl => match us, hl with | [_, _], _ => rfl
  have F8 := fun_mk (st := s_all_effects) l8 c8 k8
  have b8 := F8.binds (ps := ["panel"]) fun _ _ _ _ _ _ us hl => match us, hl with | [_], _ => rfl
  have F9 := fun_mk (st := s__law_draws) l9 c9 k9
  have b9 := F9.binds (ps := ["_law_script"]) fun _ _ _ _ _ _ us hl => match us, hl with | [_], _ => rfl
  have F10 := fun_mk (st := s__law_next) l10 c10 k10
  have b10 := F10.binds (ps := ["_law_drawn", "_law_many"]) fun _ _ _ _ _ _ us hl => match us, hl with | [_, _], _ => rfl
  have F11 := fun_mk (st := s__law_panel) l11 c11 k11
  have b11 := F11.binds (ps := ["_law_drawn", "_law_most"]) fun _ _ _ _ _ _ us hl => match us, hl with | [_, _], _ => rfl
  have F12 := fun_mk (st := s__law_row) l12 c12 k12
  have b12 := F12.binds (ps := ["_law_drawn", "_law_n", "_law_most"]) fun _ _ _ _ _ _ us hl => match us, hl with | [_, _, _], _ => rfl
  have F13 := fun_mk (st := s__law_words) l13 c13 k13
  have b13 := F13.binds (ps := ["_law_drawn", "_law_n"]) fun _ _ _ _ _ _ us hl => match us, hl with | [_, _], _ => rfl
  have F14 := fun_mk (st := s_way_back) l14 c14 k14
  have b14 := F14.binds (ps := ["panel", "start", "allowed"]) fun _ _ _ _ _ _ us hl => match us, hl with | [_, _, _], _ => rfl
  have F15 := fun_mk (st := s_find_round) l15 c15 k15
  have b15 := F15.binds (ps := ["panel", "state"]) fun _ _ _ _ _ _ us hl => match us, hl with | [_, _], _ => rfl
  have F16 := fun_mk (st := s__law_gathered) l16 c16 k16
  have b16 := F16.binds (ps := ["_law_panel_here", "_law_words_here"]) fun _ _ _ _ _ _ us hl => match us, hl with | [_, _], _ => rfl
  have F17 := fun_mk (st := s__law_holds) l17 c17 k17
  have b17 := F17.binds (ps := ["_law_panel_here", "_law_words_here"]) fun _ _ _ _ _ _ us hl => match us, hl with | [_, _], _ => rfl
  have F18 := fun_mk (st := s__law_all_words) l18 c18 k18
  have b18 := F18.binds (ps := ["_law_n"]) fun _ _ _ _ _ _ us hl => match us, hl with | [_], _ => rfl
  have F19 := fun_mk (st := s_law) l19 c19 k19
  refine ⟨PySem.W.fnOf "law" "law" (defArgs s_law) (defBody s_law) (defScope s_law) .none kV19 dc19 pm19 an19 cd19 ct19, fun s v => .of_eq rfl, fun base _ _ => ?_⟩
  have C_changed_word : FnC P w K mg base 7 "changed_word" 4 d_changed_word := ⟨_, _, _, g_changed_word T  F0, PySem.W.mg_of X G a0, k0, b0⟩
  have C_effect_after : FnC P w K mg base 8 "effect_after" 3 d_effect_after := ⟨_, _, _, g_effect_after T C_changed_word F1, PySem.W.mg_of X G a1, k1, b1⟩
  have C_effect_of : FnC P w K mg base 9 "effect_of" 2 d_effect_of := ⟨_, _, _, g_effect_of T C_effect_after F2, PySem.W.mg_of X G a2, k2, b2⟩
  have C_free_buttons : FnC P w K mg base 7 "free_buttons" 2 d_free_buttons := ⟨_, _, _, g_free_buttons T  F3, PySem.W.mg_of X G a3, k3, b3⟩
  have C_is_effect_form : FnC P w K mg base 7 "is_effect_form" 2 d_is_effect_form := ⟨_, _, _, g_is_effect_form T  F4, PySem.W.mg_of X G a4, k4, b4⟩
  have C_ordered : FnC P w K mg base 7 "ordered" 2 d_ordered := ⟨_, _, _, g_ordered T  F5, PySem.W.mg_of X G a5, k5, b5⟩
  have C_gather : FnC P w K mg base 7 "gather" 4 d_gather := ⟨_, _, _, g_gather T  F6, PySem.W.mg_of X G a6, k6, b6⟩
  have C_row_for : FnC P w K mg base 8 "row_for" 2 d_row_for := ⟨_, _, _, g_row_for T C_free_buttons C_is_effect_form C_ordered C_gather F7, PySem.W.mg_of X G a7, k7, b7⟩
  have C_all_effects : FnC P w K mg base 9 "all_effects" 1 d_all_effects := ⟨_, _, _, g_all_effects T C_effect_after F8, PySem.W.mg_of X G a8, k8, b8⟩
  have C__law_draws : FnC P w K mg base 7 "_law_draws" 1 d__law_draws := ⟨_, _, _, g__law_draws T  F9, PySem.W.mg_of X G a9, k9, b9⟩
  have C__law_next : FnC P w K mg base 7 "_law_next" 2 d__law_next := ⟨_, _, _, g__law_next T  F10, PySem.W.mg_of X G a10, k10, b10⟩
  have C__law_panel : FnC P w K mg base 8 "_law_panel" 2 d__law_panel := ⟨_, _, _, g__law_panel T C__law_next F11, PySem.W.mg_of X G a11, k11, b11⟩
  have C__law_row : FnC P w K mg base 8 "_law_row" 3 d__law_row := ⟨_, _, _, g__law_row T C__law_next F12, PySem.W.mg_of X G a12, k12, b12⟩
  have C__law_words : FnC P w K mg base 8 "_law_words" 2 d__law_words := ⟨_, _, _, g__law_words T C__law_next F13, PySem.W.mg_of X G a13, k13, b13⟩
  have C_way_back : FnC P w K mg base 7 "way_back" 3 d_way_back := ⟨_, _, _, g_way_back T  F14, PySem.W.mg_of X G a14, k14, b14⟩
  have C_find_round : FnC P w K mg base 8 "find_round" 2 d_find_round := ⟨_, _, _, g_find_round T C_way_back F15, PySem.W.mg_of X G a15, k15, b15⟩
  have C__law_gathered : FnC P w K mg base 7 "_law_gathered" 2 d__law_gathered := ⟨_, _, _, g__law_gathered T  F16, PySem.W.mg_of X G a16, k16, b16⟩
  have C__law_holds : FnC P w K mg base 9 "_law_holds" 2 d__law_holds := ⟨_, _, _, g__law_holds T C_find_round C__law_gathered F17, PySem.W.mg_of X G a17, k17, b17⟩
  have C__law_all_words : FnC P w K mg base 7 "_law_all_words" 1 d__law_all_words := ⟨_, _, _, g__law_all_words T  F18, PySem.W.mg_of X G a18, k18, b18⟩
  exact g_law T C_effect_of C_row_for C_all_effects C__law_draws C__law_panel C__law_row C__law_words C__law_holds C__law_all_words F19
end
end Lw
namespace Lw
open PySem PySem.Spec PyProof.Rows L2 Dn
theorem all_f [HzC] {w : World} {K : PySem.W.Frag} {h : Heap} {mg : Str → Option Value} {fa : Addr} (X : K.In h) (G : h.Ns mainGlobals mg) (hfa : mg "law" = some (.ref fa)) (c : Dn.SaysQ fcts fdfs hds w.params K) (hz : HzOk (PySem.Challenge.rw_pressrelease_k19_whole_conditions_of_eff).prog w) :
    ∃ fd : FuncData, (∀ (s : Shared) (v : Value), BindsTo s fd ⟨[v], []⟩ [("_law_script", v)]) ∧ ∀ base : Heap, K.In base → base.Ns mainGlobals mg → FnG (PySem.Challenge.rw_pressrelease_k19_whole_conditions_of_eff).prog w K mg base 10 fa fd ["_law_script"] (spD K 1 d_law) := by
  obtain ⟨oc0, od0, sl0, kV0, dc0, pm0, an0, cd0, ct0, l0, c0, k0, i0⟩ := Dn.fnq_of (c.def_ 0) (c.fact 0)
  obtain ⟨oc1, od1, sl1, kV1, dc1, pm1, an1, cd1, ct1, l1, c1, k1, i1⟩ := Dn.fnq_of (c.def_ 1) (c.fact 1)
  obtain ⟨oc2, od2, sl2, kV2, dc2, pm2, an2, cd2, ct2, l2, c2, k2, i2⟩ := Dn.fnq_of (c.def_ 2) (c.fact 2)
  obtain ⟨oc3, od3, sl3, kV3, dc3, pm3, an3, cd3, ct3, l3, c3, k3, i3⟩ := Dn.fnq_of (c.def_ 3) (c.fact 3)
  obtain ⟨oc4, od4, sl4, kV4, dc4, pm4, an4, cd4, ct4, l4, c4, k4, i4⟩ := Dn.fnq_of (c.def_ 4) (c.fact 4)
  obtain ⟨oc5, od5, sl5, kV5, dc5, pm5, an5, cd5, ct5, l5, c5, k5, i5⟩ := Dn.fnq_of (c.def_ 5) (c.fact 5)
  obtain ⟨oc6, od6, sl6, kV6, dc6, pm6, an6, cd6, ct6, l6, c6, k6, i6⟩ := Dn.fnq_of (c.def_ 6) (c.fact 6)
  obtain ⟨oc7, od7, sl7, kV7, dc7, pm7, an7, cd7, ct7, l7, c7, k7, i7⟩ := Dn.fnq_of (c.def_ 7) (c.fact 7)
  obtain ⟨oc8, od8, sl8, kV8, dc8, pm8, an8, cd8, ct8, l8, c8, k8, i8⟩ := Dn.fnq_of (c.def_ 8) (c.fact 8)
  obtain ⟨oc9, od9, sl9, kV9, dc9, pm9, an9, cd9, ct9, l9, c9, k9, i9⟩ := Dn.fnq_of (c.def_ 9) (c.fact 9)
  obtain ⟨oc10, od10, sl10, kV10, dc10, pm10, an10, cd10, ct10, l10, c10, k10, i10⟩ := Dn.fnq_of (c.def_ 10) (c.fact 10)
  obtain ⟨oc11, od11, sl11, kV11, dc11, pm11, an11, cd11, ct11, l11, c11, k11, i11⟩ := Dn.fnq_of (c.def_ 11) (c.fact 11)
  obtain ⟨oc12, od12, sl12, kV12, dc12, pm12, an12, cd12, ct12, l12, c12, k12, i12⟩ := Dn.fnq_of (c.def_ 12) (c.fact 12)
  obtain ⟨oc13, od13, sl13, kV13, dc13, pm13, an13, cd13, ct13, l13, c13, k13, i13⟩ := Dn.fnq_of (c.def_ 13) (c.fact 13)
  obtain ⟨oc14, od14, sl14, kV14, dc14, pm14, an14, cd14, ct14, l14, c14, k14, i14⟩ := Dn.fnq_of (c.def_ 14) (c.fact 14)
  obtain ⟨oc15, od15, sl15, kV15, dc15, pm15, an15, cd15, ct15, l15, c15, k15, i15⟩ := Dn.fnq_of (c.def_ 15) (c.fact 15)
  obtain ⟨oc16, od16, sl16, kV16, dc16, pm16, an16, cd16, ct16, l16, c16, k16, i16⟩ := Dn.fnq_of (c.def_ 16) (c.fact 16)
  obtain ⟨oc17, od17, sl17, kV17, dc17, pm17, an17, cd17, ct17, l17, c17, k17, i17⟩ := Dn.fnq_of (c.def_ 17) (c.fact 17)
  obtain ⟨oc18, od18, sl18, kV18, dc18, pm18, an18, cd18, ct18, l18, c18, k18, i18⟩ := Dn.fnq_of (c.def_ 18) (c.fact 18)
  obtain ⟨oc19, od19, sl19, kV19, dc19, pm19, an19, cd19, ct19, l19, c19, k19, i19⟩ := Dn.fnq_of (c.def_ 19) (c.fact 19)
  obtain ⟨ty_SMALL_BUTTONS, y_SMALL_BUTTONS⟩ := Dn.int_of (c.fact 51)
  obtain ⟨ty_OFF, y_OFF⟩ := Dn.str_of (c.fact 52)
  obtain ⟨ty_ON, y_ON⟩ := Dn.str_of (c.fact 53)
  obtain ⟨ty_SAME, y_SAME⟩ := Dn.str_of (c.fact 54)
  exact all_mk (P := (PySem.Challenge.rw_pressrelease_k19_whole_conditions_of_eff).prog) (w := w) hz X G hfa (of_decide_eq_true (c.fact 20)) l0 c0 k0 (of_decide_eq_true (c.fact 21)) l1 c1 k1 (of_decide_eq_true (c.fact 22)) l2 c2 k2 (of_decide_eq_true (c.fact 23)) l3 c3 k3 (of_decide_eq_true (c.fact 24)) l4 c4 k4 (of_decide_eq_true (c.fact 25)) l5 c5 k5 (of_decide_eq_true (c.fact 26)) l6 c6 k6 (of_decide_eq_true (c.fact 27)) l7 c7 k7 (of_decide_eq_true (c.fact 28)) l8 c8 k8 (of_decide_eq_true (c.fact 29)) l9 c9 k9 (of_decide_eq_true (c.fact 30)) l10 c10 k10 (of_decide_eq_true (c.fact 31)) l11 c11 k11 (of_decide_eq_true (c.fact 32)) l12 c12 k12 (of_decide_eq_true (c.fact 33)) l13 c13 k13 (of_decide_eq_true (c.fact 34)) l14 c14 k14 (of_decide_eq_true (c.fact 35)) l15 c15 k15 (of_decide_eq_true (c.fact 36)) l16 c16 k16 (of_decide_eq_true (c.fact 37)) l17 c17 k17 (of_decide_eq_true (c.fact 38)) l18 c18 k18 (of_decide_eq_true (c.fact 39)) l19 c19 k19 (of_decide_eq_true (c.fact 40)) (of_decide_eq_true (c.fact 41)) (of_decide_eq_true (c.fact 42)) (of_decide_eq_true (c.fact 43)) (of_decide_eq_true (c.fact 44)) (of_decide_eq_true (c.fact 45)) (of_decide_eq_true (c.fact 46)) (of_decide_eq_true (c.fact 47)) (of_decide_eq_true (c.fact 48)) (of_decide_eq_true (c.fact 49)) (of_decide_eq_true (c.fact 50)) y_SMALL_BUTTONS y_OFF y_ON y_SAME
end Lw
open PySem PySem.W PySem.Calls PyProof.Rows in
set_option maxRecDepth 100000 in
set_option maxHeartbeats 0 in
theorem PySem.Challenge.cw_pressrelease_k19_whole_conditions_of_eff_holds : PySem.Challenge.rw_pressrelease_k19_whole_conditions_of_eff.Holds := by
  w_on; o_law
  refine HandSHeadRun.head_any (r := OpenLaw.row PySem.Challenge.rw_pressrelease_k19_whole_conditions_of_eff) (q := view (OpenLaw.row PySem.Challenge.rw_pressrelease_k19_whole_conditions_of_eff).prog [29]) (H := Dn.hookQ Lw.fcts Lw.fdfs Lw.hds) (ob := Dn.obQ Lw.fcts Lw.fdfs Lw.hds) (M := 9000) (loose := Lw.lse) (d := HandSHeadRun.topDef (OpenLaw.row PySem.Challenge.rw_pressrelease_k19_whole_conditions_of_eff).prog 29) (kwd := []) Dn.obQ_eq
    (by kernel_rfl) (fun s => by kernel_rfl) Lw.run_all (by kernel_rfl) (by kernel_rfl) (by kernel_rfl) (by rfl) (by first | assumption | decide +kernel) (by decide +kernel) ⟨rfl, rfl, rfl, rfl, rfl, by decide +kernel⟩ ?hw ?hc
  case hw => w_witness2
  case hc =>
    refine Dn.walkQ (l := PySem.Challenge.rw_pressrelease_k19_whole_conditions_of_eff) (k := 10) (spec := Lw.d_law) (x := "_law_script") rfl (by kernel_rfl) ⟨rfl, by decide, by decide⟩ Lw.law_true ?F
    intro w mg fa h Y G hmg0
    obtain ⟨K, KX, c⟩ := Y
    have hmg : mg ("law" : PySem.Str) = some (.ref fa) := by
      have e : (HandSHeadRun.topDef (OpenLaw.row PySem.Challenge.rw_pressrelease_k19_whole_conditions_of_eff).prog 29).name = ("law" : PySem.Str) := by kernel_rfl
      rw [← e]
      exact hmg0
    letI : Dn.HzC := ⟨(PySem.strKind (OpenLaw.row PySem.Challenge.rw_pressrelease_k19_whole_conditions_of_eff).prog w).hash⟩
    obtain ⟨fd, hb, hF⟩ := Lw.all_f (w := w) KX G hmg c (fun _ => rfl)
    exact ⟨_, K, fd, KX, hb, hF⟩
