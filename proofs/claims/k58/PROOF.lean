import PyProof.Rows.All
import Wide.All
import OpenK.AllK
import Wide.FinOn
import HandS.ForMost
import HandS.Flow
import HandS.Deep
import HandS.ForExc
import HandS.ExcInit
import HandS.TryMany
import HandS.Star
import HandS.TupMul
import HandS.TupAny
import HandS.TupLe
import HandS.EndBits
import KE.SortData
import KE.DataCmp
import PyProof.ReprRoads
import KE.DataEq
import KE.KRevSl
import HandS.IsInst
import KE.GoesMore
import KE.GoesEnum
import HandS.WordsExc
import HandS.SetFor
import HandS.Style
import HandS.Conv
import PyProof.ReprBulk
import KE.DataFind
import HandS.Strs
import HandS.TupSets
import KE.DataMinMax
import HandS.FStr
import HandS.Text
import PyProof.Rows.TupDisplay
import HandS.Dict
import KE.KDictSum
import HandS.ExcOwn
import HandS.ExcIs
import HandS.ExcField
import HandS.Zip0
import HandS.Zip
import HandS.ExcValue
import KE.KDictZip
import KE.KDictItemsList
import KE.KExcInit
import PyProof.FactsAll.set_1
import PyProof.FactsAll.subtypes_5
import PyProof.NeKinds
import HandS.Property
import HandS.Defaults
import HandS.MethStar
import PyProof.RulesMatch
import KE.KCallOwn
import KE.KStar
import OpenK.KOps
import OpenK.KMore
import HandS.Finally
import HandS.Iter
import KE.IntTextLaws
import PyProof.Rows.StrSplitJoin
import PyProof.Rows.StrSplitAre
import PyProof.Rows.StrItems
import PyProof.StrLawsIn
import HandS.GenList
import KE.KSuper
import KE.RegKSuper
import HandS.ClsMeth
import KE.KUnpack
import HandS.OwnEq
import PySem.Challenge.RW_pressrelease_k58_whole_known_from_all_fi
set_option Elab.async false
set_option linter.all false
set_option maxRecDepth 100000
set_option maxHeartbeats 4000000
set_option autoImplicit false
namespace Dn
open PySem PySem.Spec PyProof.Rows L2
inductive D where
  | non | bl (b : Bool) | int (i : Int) | str (s : Str) | tup (xs : List D) | lst (xs : List D) | scr (xs : List D) | ref (l : Nat) | adr (a : Addr) | fd (ks : List (List Int)) (xs : List D) | exo (a dd : Addr) (f : Str) (d : D) | obj (nm : Str) (ks : List Str) (xs : List D) | sd (kvs : List (Str × Option Int))
inductive MO where
  | lst (xs : List D) | dct (ks : List (List Int)) (xs : List D) | ins (nm : Str) (fs : List (Str × D)) | gone
abbrev Sto := List MO
abbrev Rho := List (Option D)
structure Xc where
  nm : Str
  fld : Option (Str × D)
inductive Out (α : Type) where
  | ok (a : α) (st : Sto) | exc (x : Xc) (st : Sto) | bad
abbrev M (α : Type) := Sto → Out α
def Out.bind {α β : Type} (r : Out α) (f : α → Sto → Out β) : Out β :=
  match r with
  | .ok a st => f a st
  | .exc x st => .exc x st
  | .bad => .bad
@[simp] theorem Out.bind_ok {α β : Type} (a : α) (st : Sto) (f : α → Sto → Out β) : (Out.ok a st).bind f = f a st := rfl
@[simp] theorem Out.bind_exc {α β : Type} (x : Xc) (st : Sto) (f : α → Sto → Out β) : (Out.exc x st : Out α).bind f = .exc x st := rfl
@[simp] theorem Out.bind_bad {α β : Type} (f : α → Sto → Out β) : (Out.bad : Out α).bind f = .bad := rfl
theorem nodup_at {α : Type} {l : List α} (h : l.Nodup) {i j : Nat} {x : α} (a : l[i]? = some x) (b : l[j]? = some x) : i = j := by
  obtain ⟨h1, e1⟩ := List.getElem?_eq_some_iff.mp a
  obtain ⟨h2, e2⟩ := List.getElem?_eq_some_iff.mp b
  exact (List.getElem_inj h).mp (e1.trans e2.symm)
def SqP (K : PySem.W.Frag) (F : Hp) (a : Addr) (xs : List V) : Prop :=
  (∃ o : Obj, o.dict = none ∧ F a = some (.frz o (.tup xs))) ∨
    ∃ (o : Obj) (its : Array Value) (n : Nat), K.lookup a = some o ∧ o.cls = .type "tuple" ∧ o.dict = none ∧ o.data = .seq its n ∧ its.size ≤ sizeLine ∧ Vals xs its.toList
def hzI (ks : List Int) : Int := reduceHash (Builtin.Tuple.tupleHashOf (ks.map hashInt))
def entI (x : List Int × Addr × Value) : DictEntry := ⟨hzI x.1, .ref x.2.1, x.2.2⟩
def DctH (a : Addr) (xs : List (List Int × Addr × Value)) (h : Heap) : Prop := ∃ o es ep, h.get? a = some o ∧ o.ExactDict ∧ o.data = .dict es ep ∧ es.toList = xs.map entI ∧ (xs.map (·.1)).Nodup
def DctO (a : Addr) (xs : List (List Int × Addr × Value)) : HO := .ext (DctH a xs)
def KeysT (K : PySem.W.Frag) (F : Hp) (ks : List (List Int)) (xs : List (List Int × Addr × Value)) : Prop := xs.map (·.1) = ks ∧ ∀ x ∈ xs, SqP K F x.2.1 (x.1.map V.int)
def oV : Option Int → V
  | none => .non
  | some i => .int i
def sdK (kvs : List (Str × Option Int)) : List (Key × V) := kvs.map fun p => (Sum.inr p.1, oV p.2)
mutual
def Rep (K : PySem.W.Frag) (F : Hp) (ι : List Addr) : D → V → Prop
  | .non, v => v = .non
  | .bl b, v => v = .bl b
  | .int i, v => v = .int i
  | .str s, v => v = .str s
  | .tup xs, v => ∃ a vs, v = .ref a ∧ SqP K F a vs ∧ Reps K F ι xs vs
  | .lst xs, v => ∃ a vs, v = .ref a ∧ F a = some (.lst vs) ∧ Reps K F ι xs vs
  | .scr xs, v => ∃ a vs, v = .ref a ∧ SqL K F a vs ∧ Reps K F ι xs vs
  | .ref l, v => ∃ a, v = .ref a ∧ ι[l]? = some a
  | .adr a, v => v = .ref a
  | .fd ks ds, v => ∃ a xs ws, v = .ref a ∧ (a == sysModules) = false ∧ F a = some (DctO a xs) ∧ KeysT K F ks xs ∧ Vals ws (xs.map (·.2.2)) ∧ Reps K F ι ds ws
  | .exo a dd f d, v => v = .ref a ∧ ∃ u, F dd = some (.xd [(f, u)]) ∧ Rep K F ι d u
  | .obj nm ks ds, v => ∃ a C dx gs, v = .ref a ∧ PySem.W.nsIn K mainGlobals nm = some (some (.ref C)) ∧ F a = some (.ins C dx gs) ∧ gs.map (·.1) = ks ∧ Reps K F ι ds (gs.map (·.2))
  | .sd kvs, v => ∃ a, v = .ref a ∧ F a = some (.dK (sdK kvs))
def Reps (K : PySem.W.Frag) (F : Hp) (ι : List Addr) : List D → List V → Prop
  | [], vs => vs = []
  | d :: ds, vs => ∃ v r, vs = v :: r ∧ Rep K F ι d v ∧ Reps K F ι ds r
end
def Fz : HO → Prop
  | .tup _ => True
  | .lst _ => True
  | .frz _ (.lst _) => True
  | .frz _ (.tup _) => True
  | .ext _ => True
  | .xd _ => True
  | .ins _ _ _ => True
  | .dK _ => True
  | _ => False
def RepF (K : PySem.W.Frag) (F : Hp) (ι : List Addr) : List (Str × D) → List (Str × V) → Prop := Paired fun p q => p.1 = q.1 ∧ Rep K F ι p.2 q.2
def ObjR (K : PySem.W.Frag) (F : Hp) (ι : List Addr) (H : Hp) (a : Addr) : MO → Prop
  | .lst xs => ∃ vs, H a = some (.lst vs) ∧ Reps K F ι xs vs
  | .dct ks ds => ∃ xs ws, (a == sysModules) = false ∧ H a = some (DctO a xs) ∧ KeysT K F ks xs ∧ Vals ws (xs.map (·.2.2)) ∧ Reps K F ι ds ws
  | .gone => True
  | .ins nm fs => ∃ C dx gs, PySem.W.nsIn K mainGlobals nm = some (some (.ref C)) ∧ H a = some (.ins C dx gs) ∧ RepF K F ι fs gs
structure Sim (K : PySem.W.Frag) (F : Hp) (ι : List Addr) (st : Sto) (H : Hp) : Prop where
  sub : ∀ a o, F a = some o → H a = some o
  kind : ∀ a o, F a = some o → Fz o
  len : ι.length = st.length
  nd : ι.Nodup
  free : ∀ (l : Nat) (a : Addr), ι[l]? = some a → st[l]? ≠ some .gone → F a = none
  there : ∀ a, a ∈ ι → H a ≠ none
  obj : ∀ (l : Nat) (m : MO) (a : Addr), st[l]? = some m → ι[l]? = some a → ObjR K F ι H a m
structure Ext (F : Hp) (ι : List Addr) (H F' : Hp) (ι' : List Addr) (H' : Hp) : Prop where
  f : ∀ a o, F a = some o → F' a = some o
  i : ∀ (l : Nat) (a : Addr), ι[l]? = some a → ι'[l]? = some a
  keep : ∀ a o, H a = some o → a ∉ ι → H' a = some o
  there : ∀ a, H' a = none → H a = none
  newF : ∀ a o, F' a = some o → F a = some o ∨ H a = none ∨ a ∈ ι
  newI : ∀ a, a ∈ ι' → a ∈ ι ∨ H a = none
  long : ι.length ≤ ι'.length
section
variable {K : PySem.W.Frag} {F F' F'' : Hp} {ι ι' ι'' : List Addr} {H H' H'' : Hp} {st st' : Sto}
theorem Ext.refl : Ext F ι H F ι H := ⟨fun _ _ h => h, fun _ _ h => h, fun _ _ h _ => h, fun _ h => h, fun _ _ h => .inl h, fun _ h => .inl h, Nat.le_refl _⟩
theorem Ext.trans (a : Ext F ι H F' ι' H') (b : Ext F' ι' H' F'' ι'' H'') : Ext F ι H F'' ι'' H'' := by
  refine ⟨fun x o h => b.f x o (a.f x o h), fun l x h => b.i l x (a.i l x h), fun x o h n => b.keep x o (a.keep x o h n) fun m => ?_, fun x h => a.there x (b.there x h), fun x o h => ?_, fun x h => ?_, Nat.le_trans a.long b.long⟩
  · rcases a.newI x m with q | q
    · exact n q
    · rw [h] at q
      cases q
  · rcases b.newF x o h with q | q | q
    · exact a.newF x o q
    · exact .inr (.inl (a.there x q))
    · rcases a.newI x q with q | q
      · exact .inr (.inr q)
      · exact .inr (.inl q)
  · rcases b.newI x h with q | q
    · exact a.newI x q
    · exact .inr (a.there x q)
theorem Rd.mono {a : Addr} {u : HO} (h : Rd F a u) (f : ∀ a o, F a = some o → F' a = some o) : Rd F' a u := by
  rcases h with h | ⟨o, h⟩
  · exact .inl (f _ _ h)
  · exact .inr ⟨o, f _ _ h⟩
theorem SqP.mono {a : Addr} {vs : List V} (h : SqP K F a vs) (f : ∀ a o, F a = some o → F' a = some o) : SqP K F' a vs := by
  rcases h with ⟨o, h1, h2⟩ | h
  · exact .inl ⟨o, h1, f _ _ h2⟩
  · exact .inr h
theorem SqP.sqT {a : Addr} {vs : List V} (h : SqP K F a vs) : SqT K F a vs := by
  rcases h with ⟨o, _, h2⟩ | ⟨o, its, n, h1, h2, _, h3, h4, h5⟩
  · exact .inl (.inr ⟨o, h2⟩)
  · exact .inr ⟨o, its, n, h1, h2, h3, h4, h5⟩
theorem SqT.mono {a : Addr} {vs : List V} (h : SqT K F a vs) (f : ∀ a o, F a = some o → F' a = some o) : SqT K F' a vs := by
  rcases h with h | h
  · exact .inl (Rd.mono h f)
  · exact .inr h
theorem SqL.mono {a : Addr} {vs : List V} (h : SqL K F a vs) (f : ∀ a o, F a = some o → F' a = some o) : SqL K F' a vs := by
  rcases h with h | h
  · exact .inl (Rd.mono h f)
  · exact .inr h
theorem KeysT.mono {ks : List (List Int)} {xs : List (List Int × Addr × Value)} (h : KeysT K F ks xs) (f : ∀ a o, F a = some o → F' a = some o) : KeysT K F' ks xs := ⟨h.1, fun x hx => (h.2 x hx).mono f⟩
mutual
theorem Rep.mono (f : ∀ a o, F a = some o → F' a = some o) (i : ∀ (l : Nat) (a : Addr), ι[l]? = some a → ι'[l]? = some a) : ∀ (d : D) (v : V), Rep K F ι d v → Rep K F' ι' d v
  | .non, _, h => by simpa only [Rep] using h
  | .bl _, _, h => by simpa only [Rep] using h
  | .int _, _, h => by simpa only [Rep] using h
  | .str _, _, h => by simpa only [Rep] using h
  | .adr _, _, h => by simpa only [Rep] using h
  | .tup xs, v, h => by
    simp only [Rep] at h ⊢
    obtain ⟨a, vs, e, q, r⟩ := h
    exact ⟨a, vs, e, SqP.mono q f, Reps.mono f i xs vs r⟩
  | .lst xs, v, h => by
    simp only [Rep] at h ⊢
    obtain ⟨a, vs, e, q, r⟩ := h
    exact ⟨a, vs, e, f _ _ q, Reps.mono f i xs vs r⟩
  | .scr xs, v, h => by
    simp only [Rep] at h ⊢
    obtain ⟨a, vs, e, q, r⟩ := h
    exact ⟨a, vs, e, SqL.mono q f, Reps.mono f i xs vs r⟩
  | .ref l, v, h => by
    simp only [Rep] at h ⊢
    obtain ⟨a, e, q⟩ := h
    exact ⟨a, e, i l a q⟩
  | .fd ks ds, v, h => by
    simp only [Rep] at h ⊢
    obtain ⟨a, xs, ws, e, z, q, kt, vr, r⟩ := h
    exact ⟨a, xs, ws, e, z, f _ _ q, kt.mono f, vr, Reps.mono f i ds ws r⟩
  | .exo a dd g d, v, h => by
    simp only [Rep] at h ⊢
    obtain ⟨e, u, q, r⟩ := h
    exact ⟨e, u, f _ _ q, Rep.mono f i d u r⟩
  | .obj nm ks ds, v, h => by
    simp only [Rep] at h ⊢
    obtain ⟨a, C, dx, gs, e, z, q, kk, r⟩ := h
    exact ⟨a, C, dx, gs, e, z, f _ _ q, kk, Reps.mono f i ds _ r⟩
  | .sd kvs, v, h => by
    simp only [Rep] at h ⊢
    obtain ⟨a, e, q⟩ := h
    exact ⟨a, e, f _ _ q⟩
theorem Reps.mono (f : ∀ a o, F a = some o → F' a = some o) (i : ∀ (l : Nat) (a : Addr), ι[l]? = some a → ι'[l]? = some a) : ∀ (ds : List D) (vs : List V), Reps K F ι ds vs → Reps K F' ι' ds vs
  | [], _, h => by simpa only [Reps] using h
  | d :: ds, vs, h => by
    simp only [Reps] at h ⊢
    obtain ⟨v, r, e, h1, h2⟩ := h
    exact ⟨v, r, e, Rep.mono f i d v h1, Reps.mono f i ds r h2⟩
end
theorem Rep.ext {d : D} {v : V} (h : Rep K F ι d v) (e : Ext F ι H F' ι' H') : Rep K F' ι' d v := Rep.mono e.f e.i d v h
theorem Reps.ext {ds : List D} {vs : List V} (h : Reps K F ι ds vs) (e : Ext F ι H F' ι' H') : Reps K F' ι' ds vs := Reps.mono e.f e.i ds vs h
theorem RepF.ext {fs : List (Str × D)} {gs : List (Str × V)} (h : RepF K F ι fs gs) (e : Ext F ι H F' ι' H') : RepF K F' ι' fs gs := Paired.mapP h fun _ _ q => ⟨q.1, q.2.ext e⟩
theorem Reps.nil : Reps K F ι [] [] := by simp only [Reps]
theorem Reps.cons {d : D} {v : V} {ds : List D} {vs : List V} (h : Rep K F ι d v) (r : Reps K F ι ds vs) : Reps K F ι (d :: ds) (v :: vs) := by
  simp only [Reps]
  exact ⟨v, vs, rfl, h, r⟩
theorem Reps.length : ∀ {ds : List D} {vs : List V}, Reps K F ι ds vs → ds.length = vs.length
  | [], _, h => by simp only [Reps] at h; subst h; rfl
  | _ :: ds, _, h => by
    simp only [Reps] at h
    obtain ⟨v, r, e, _, h2⟩ := h
    subst e
    rw [List.length_cons, List.length_cons, Reps.length h2]
theorem Reps.get : ∀ {ds : List D} {vs : List V} {i : Nat} {d : D}, Reps K F ι ds vs → ds[i]? = some d → ∃ v, vs[i]? = some v ∧ Rep K F ι d v
  | [], _, _, _, _, e => by simp at e
  | d :: ds, _, 0, _, h, e => by
    simp only [Reps] at h
    obtain ⟨v, r, rfl, h1, _⟩ := h
    simp at e
    subst e
    exact ⟨v, rfl, h1⟩
  | d :: ds, _, i + 1, _, h, e => by
    simp only [Reps] at h
    obtain ⟨v, r, rfl, _, h2⟩ := h
    obtain ⟨u, q1, q2⟩ := Reps.get (i := i) h2 (by simpa using e)
    exact ⟨u, by simpa using q1, q2⟩
theorem Reps.append : ∀ {ds es : List D} {vs ws : List V}, Reps K F ι ds vs → Reps K F ι es ws → Reps K F ι (ds ++ es) (vs ++ ws)
  | [], _, _, _, h, g => by simp only [Reps] at h; subst h; exact g
  | d :: ds, _, _, _, h, g => by
    simp only [Reps] at h
    obtain ⟨v, r, rfl, h1, h2⟩ := h
    exact Reps.cons h1 (Reps.append h2 g)
theorem Reps.snoc {ds : List D} {vs : List V} {d : D} {v : V} (h : Reps K F ι ds vs) (g : Rep K F ι d v) : Reps K F ι (ds ++ [d]) (vs ++ [v]) := h.append (Reps.cons g Reps.nil)
theorem Reps.mem {ds : List D} {vs : List V} (h : Reps K F ι ds vs) : ∀ d, d ∈ ds → ∃ v, v ∈ vs ∧ Rep K F ι d v := fun d hd => by
  obtain ⟨i, hi⟩ := List.getElem?_of_mem hd
  obtain ⟨v, q1, q2⟩ := h.get hi
  exact ⟨v, List.mem_of_getElem? q1, q2⟩
theorem Reps.at {ds : List D} {vs : List V} {i : Nat} {d : D} {v : V} (h : Reps K F ι ds vs) (a : ds[i]? = some d) (b : vs[i]? = some v) : Rep K F ι d v := by
  obtain ⟨u, q1, q2⟩ := h.get a
  rw [b] at q1
  cases q1
  exact q2
theorem Sim.sqT (S : Sim K F ι st H) {a : Addr} {vs : List V} (h : SqP K F a vs) : SqT K H a vs := (h.mono S.sub).sqT
theorem Sim.sqL (S : Sim K F ι st H) {a : Addr} {vs : List V} (h : SqL K F a vs) : SqL K H a vs := SqL.mono h S.sub
theorem Ext.frozen {p : Addr} {o : HO} (hp : H p = none) (hF : ∀ a o, F a = some o → H a = some o) : Ext F ι H (upd F p o) ι (upd H p o) := by
  have ne : ∀ a o', F a = some o' → a ≠ p := fun a o' h e => by
    have := hF a o' h
    rw [e, hp] at this
    cases this
  refine ⟨fun a o' h => ?_, fun _ _ h => h, fun a o' h _ => ?_, fun a h => ?_, fun a o' h => ?_, fun _ h => .inl h, Nat.le_refl _⟩
  · rw [upd_ne (ne a o' h)]; exact h
  · rw [upd_ne (ne_of_none h hp)]; exact h
  · by_cases e : a = p
    · subst e; exact hp
    · rw [upd_ne e] at h; exact h
  · by_cases e : a = p
    · subst e; exact .inr (.inl hp)
    · rw [upd_ne e] at h; exact .inl h
theorem ObjR.mono {a : Addr} {m : MO} (h : ObjR K F ι H a m) (f : ∀ a o, F a = some o → F' a = some o) (i : ∀ (l : Nat) (a : Addr), ι[l]? = some a → ι'[l]? = some a) (k : H' a = H a) : ObjR K F' ι' H' a m := by
  cases m with
  | lst xs =>
    obtain ⟨vs, e, r⟩ := h
    exact ⟨vs, k.trans e, Reps.mono f i _ _ r⟩
  | dct ks ds =>
    obtain ⟨xs, ws, z, q, kt, vr, r⟩ := h
    exact ⟨xs, ws, z, k.trans q, kt.mono f, vr, Reps.mono f i _ _ r⟩
  | gone => trivial
  | ins C fs =>
    obtain ⟨C, dx, gs, z, e, r⟩ := h
    exact ⟨C, dx, gs, z, k.trans e, Paired.mapP r fun _ _ q => ⟨q.1, Rep.mono f i _ _ q.2⟩⟩
theorem Sim.frozen (S : Sim K F ι st H) {p : Addr} {o : HO} (hp : H p = none) (hz : Fz o) : Sim K (upd F p o) ι st (upd H p o) := by
  have X : Ext F ι H (upd F p o) ι (upd H p o) := Ext.frozen hp S.sub
  have np : ∀ a, a ∈ ι → a ≠ p := fun a h e => S.there a h (by rw [e]; exact hp)
  refine ⟨fun a u h => ?_, fun a u h => ?_, S.len, S.nd, fun l a h hg => ?_, fun a h => ?_, fun l m a h1 h2 => ?_⟩
  · by_cases e : a = p
    · subst e; rw [upd_same] at h ⊢; exact h
    · rw [upd_ne e] at h ⊢; exact S.sub a u h
  · by_cases e : a = p
    · subst e; rw [upd_same] at h; cases h; exact hz
    · rw [upd_ne e] at h; exact S.kind a u h
  · rw [upd_ne (np a (List.mem_of_getElem? h))]; exact S.free l a h hg
  · rw [upd_ne (np a h)]; exact S.there a h
  · exact (S.obj l m a h1 h2).mono X.f X.i (upd_ne (np a (List.mem_of_getElem? h2)))
theorem Sim.laid (S : Sim K F ι st H) {p : Addr} {o : HO} (hp : H p = none) : Sim K F ι st (upd H p o) := by
  have np : ∀ a, a ∈ ι → a ≠ p := fun a h e => S.there a h (by rw [e]; exact hp)
  refine ⟨fun a u h => ?_, S.kind, S.len, S.nd, S.free, fun a h => ?_, fun l m a h1 h2 => ?_⟩
  · rw [upd_ne (ne_of_none (S.sub a u h) hp)]; exact S.sub a u h
  · rw [upd_ne (np a h)]; exact S.there a h
  · exact (S.obj l m a h1 h2).mono (fun _ _ h => h) (fun _ _ h => h) (upd_ne (np a (List.mem_of_getElem? h2)))
theorem Ext.laid {p : Addr} {o : HO} (hp : H p = none) : Ext F ι H F ι (upd H p o) := by
  refine ⟨fun _ _ h => h, fun _ _ h => h, fun a u h _ => ?_, fun a h => ?_, fun _ _ h => .inl h, fun _ h => .inl h, Nat.le_refl _⟩
  · rw [upd_ne (ne_of_none h hp)]; exact h
  · by_cases e : a = p
    · subst e; exact hp
    · rw [upd_ne e] at h; exact h
theorem Sim.freeze (S : Sim K F ι st H) {p : Addr} {o : HO} (hp : H p = some o) (hF : F p = none) (hi : p ∉ ι) (hz : Fz o) : Sim K (upd F p o) ι st H := by
  refine ⟨fun a u h => ?_, fun a u h => ?_, S.len, S.nd, fun l a h hg => ?_, S.there, fun l m a h1 h2 => ?_⟩
  · by_cases e : a = p
    · subst e; rw [upd_same] at h; rw [hp]; exact h
    · rw [upd_ne e] at h; exact S.sub a u h
  · by_cases e : a = p
    · subst e; rw [upd_same] at h; cases h; exact hz
    · rw [upd_ne e] at h; exact S.kind a u h
  · rw [upd_ne (fun e => hi (by rw [← e]; exact List.mem_of_getElem? h))]; exact S.free l a h hg
  · exact (S.obj l m a h1 h2).mono (fun a u h => by rw [upd_ne (fun e => by rw [e, hF] at h; cases h)]; exact h) (fun _ _ h => h) rfl
theorem Ext.freeze {p : Addr} {o : HO} (x : Ext F ι H F' ι' H') (hF : F' p = none) (hp : H p = none) : Ext F ι H (upd F' p o) ι' H' := by
  refine ⟨fun a u h => ?_, x.i, x.keep, x.there, fun a u h => ?_, x.newI, x.long⟩
  · have h' := x.f a u h
    rw [upd_ne (fun e => by rw [e, hF] at h'; cases h')]
    exact h'
  · by_cases e : a = p
    · subst e; exact .inr (.inl hp)
    · rw [upd_ne e] at h; exact x.newF a u h
theorem Sim.locate (S : Sim K F ι st H) {p : Addr} {m : MO} (hp : H p ≠ none) (hF : F p = none) (hi : p ∉ ι) (ho : ObjR K F (ι ++ [p]) H p m) : Sim K F (ι ++ [p]) (st ++ [m]) H := by
  have mo : ∀ (l : Nat) (a : Addr), ι[l]? = some a → (ι ++ [p])[l]? = some a := fun l a h => by
    rw [List.getElem?_append_left (List.getElem?_eq_some_iff.mp h).1]; exact h
  refine ⟨S.sub, S.kind, by simp [S.len], ?_, fun l a h hg => ?_, fun a h => ?_, fun l m' a h1 h2 => ?_⟩
  · rw [List.nodup_append]
    refine ⟨S.nd, by simp, fun a ha b hb e => ?_⟩
    have : b = p := by simpa using hb
    subst this
    subst e
    exact hi ha
  · by_cases hl : l < st.length
    · rw [List.getElem?_append_left hl] at hg
      rw [List.getElem?_append_left (by rw [S.len]; exact hl)] at h
      exact S.free l a h hg
    · rw [List.getElem?_append_right (by rw [S.len]; omega)] at h
      have : a = p := by
        have := List.mem_of_getElem? h
        simpa using this
      subst this; exact hF
  · rcases List.mem_append.mp h with h | h
    · exact S.there a h
    · have : a = p := by simpa using h
      subst this; exact hp
  · by_cases hl : l < st.length
    · rw [List.getElem?_append_left hl] at h1
      rw [List.getElem?_append_left (by rw [S.len]; exact hl)] at h2
      exact (S.obj l m' a h1 h2).mono (fun _ _ h => h) mo rfl
    · have e : l = st.length := by
        have := (List.getElem?_eq_some_iff.mp h1).1
        simp at this
        omega
      subst e
      rw [List.getElem?_append_right (Nat.le_refl _)] at h1
      rw [List.getElem?_append_right (by rw [S.len]; exact Nat.le_refl _)] at h2
      simp [S.len] at h1 h2
      subst h1 h2
      exact ho
theorem Ext.locate {p : Addr} (x : Ext F ι H F' ι' H') (hp : H p = none) : Ext F ι H F' (ι' ++ [p]) H' := by
  refine ⟨x.f, fun l a h => ?_, x.keep, x.there, x.newF, fun a h => ?_, by simp; exact Nat.le_succ_of_le x.long⟩
  · have h' := x.i l a h
    rw [List.getElem?_append_left (List.getElem?_eq_some_iff.mp h').1]; exact h'
  · rcases List.mem_append.mp h with h | h
    · exact x.newI a h
    · have : a = p := by simpa using h
      subst this; exact .inr hp
theorem Sim.write (S : Sim K F ι st H) {l : Nat} {p : Addr} {m : MO} {o : HO} (hl : ι[l]? = some p) (hgo : st[l]? ≠ some .gone) (ho : ObjR K F ι (upd H p o) p m) : Sim K F ι (st.set l m) (upd H p o) := by
  have hp : p ∈ ι := List.mem_of_getElem? hl
  have nf : ∀ a u, F a = some u → a ≠ p := fun a u h e => by
    rw [e, S.free l p hl hgo] at h; cases h
  refine ⟨fun a u h => ?_, S.kind, by simp [S.len], S.nd, fun k a h hg => ?_, fun a h => ?_, fun k m' a h1 h2 => ?_⟩
  · rw [upd_ne (nf a u h)]; exact S.sub a u h
  · by_cases e : k = l
    · subst e
      rw [hl] at h
      cases h
      exact S.free k p hl hgo
    · rw [List.getElem?_set_ne (Ne.symm e)] at hg
      exact S.free k a h hg
  · by_cases e : a = p
    · subst e; rw [upd_same]; simp
    · rw [upd_ne e]; exact S.there a h
  · by_cases e : k = l
    · subst e
      rw [hl] at h2
      cases h2
      have hk : k < st.length := by
        have := (List.getElem?_eq_some_iff.mp h1).1
        simpa using this
      rw [List.getElem?_set_self hk] at h1
      cases h1
      exact ho
    · rw [List.getElem?_set_ne (Ne.symm e)] at h1
      refine (S.obj k m' a h1 h2).mono (fun _ _ h => h) (fun _ _ h => h) (upd_ne fun q => e ?_)
      subst q
      exact nodup_at S.nd h2 hl
theorem Ext.write {l : Nat} {p : Addr} {o : HO} (hl : ι[l]? = some p) (hp : H p ≠ none) : Ext F ι H F ι (upd H p o) := by
  have hm : p ∈ ι := List.mem_of_getElem? hl
  refine ⟨fun _ _ h => h, fun _ _ h => h, fun a u h n => ?_, fun a h => ?_, fun _ _ h => .inl h, fun _ h => .inl h, Nat.le_refl _⟩
  · rw [upd_ne (fun e => n (by rw [e]; exact hm))]; exact h
  · by_cases e : a = p
    · subst e; rw [upd_same] at h; cases h
    · rw [upd_ne e] at h; exact h
theorem Sim.retireO (S : Sim K F ι st H) {l : Nat} {p : Addr} {o : HO} (hl : ι[l]? = some p) (hp : H p = some o) (hz : Fz o) : Sim K (upd F p o) ι (st.set l .gone) H := by
  refine ⟨fun a u h => ?_, fun a u h => ?_, by simp [S.len], S.nd, fun k a h hg => ?_, S.there, fun k m' a h1 h2 => ?_⟩
  · by_cases e : a = p
    · subst e; rw [upd_same] at h; rw [hp]; exact h
    · rw [upd_ne e] at h; exact S.sub a u h
  · by_cases e : a = p
    · subst e; rw [upd_same] at h; cases h; exact hz
    · rw [upd_ne e] at h; exact S.kind a u h
  · by_cases e : k = l
    · subst e
      refine absurd ?_ hg
      have hk : k < st.length := by rw [← S.len]; exact (List.getElem?_eq_some_iff.mp h).1
      rw [List.getElem?_set_self hk]
    · rw [List.getElem?_set_ne (Ne.symm e)] at hg
      rw [upd_ne fun q => e (by subst q; exact nodup_at S.nd h hl)]
      exact S.free k a h hg
  · by_cases e : k = l
    · subst e
      have hk : k < st.length := by
        have := (List.getElem?_eq_some_iff.mp h1).1
        simpa using this
      rw [List.getElem?_set_self hk] at h1
      cases h1
      trivial
    · rw [List.getElem?_set_ne (Ne.symm e)] at h1
      by_cases eg : m' = .gone
      · subst eg; trivial
      · refine (S.obj k m' a h1 h2).mono (fun b u hb => ?_) (fun _ _ h => h) rfl
        by_cases eb : b = p
        · subst eb
          have := S.sub b u hb
          rw [hp] at this
          cases this
          rw [upd_same]
        · rw [upd_ne eb]; exact hb
theorem Sim.retire (S : Sim K F ι st H) {l : Nat} {p : Addr} {vs : List V} (hl : ι[l]? = some p) (hp : H p = some (.lst vs)) : Sim K (upd F p (.lst vs)) ι (st.set l .gone) H := S.retireO hl hp trivial
theorem Ext.retireO (S : Sim K F ι st H) {l : Nat} {p : Addr} {o : HO} (hl : ι[l]? = some p) (hp : H p = some o) : Ext F ι H (upd F p o) ι H := by
  refine ⟨fun a u h => ?_, fun _ _ h => h, fun a u h _ => h, fun a h => h, fun a u h => ?_, fun _ h => .inl h, Nat.le_refl _⟩
  · by_cases e : a = p
    · subst e
      have := S.sub a u h
      rw [hp] at this
      cases this
      rw [upd_same]
    · rw [upd_ne e]; exact h
  · by_cases e : a = p
    · subst e; exact .inr (.inr (List.mem_of_getElem? hl))
    · rw [upd_ne e] at h; exact .inl h
theorem Ext.retire (S : Sim K F ι st H) {l : Nat} {p : Addr} {vs : List V} (hl : ι[l]? = some p) (hp : H p = some (.lst vs)) : Ext F ι H (upd F p (.lst vs)) ι H := Ext.retireO S hl hp
end
end Dn
namespace Dn
open PySem PySem.Spec PyProof.Rows L2
def XcR (K : PySem.W.Frag) (F : Hp) (ι : List Addr) (H : Hp) (x : Xc) (cls : Value) (dd : Option Addr) : Prop :=
  PySem.W.nsIn K mainGlobals x.nm = some (some cls) ∧ match x.fld with
    | none => dd = none
    | some (f, d) => ∃ a v, dd = some a ∧ F a = some (.xd [(f, v)]) ∧ Rep K F ι d v
structure REnv (K : PySem.W.Frag) (F : Hp) (ι : List Addr) (ρ : Rho) (σ : L2.St) : Prop where
  len : ρ.length = σ.length
  at_ : ∀ (i : Nat) (d : D), ρ[i]? = some (some d) → ∃ v, σ[i]? = some (some v) ∧ Rep K F ι d v
def post {α β : Type} (K : PySem.W.Frag) (W : WX) (σ : L2.St) (F : Hp) (ι : List Addr) (H : Hp) (P : Hp → Hp → List Addr → Hp → α → β → Prop) (r : Out α) (Q : β → Hp → Prop) : Prop :=
  match r with
  | .ok a st' => ∀ F' ι' H' b, Ext F ι H F' ι' H' → Sim K F' ι' st' H' → P H F' ι' H' a b → Q b H'
  | .exc x st' => ∀ F' ι' H' cls dd, Ext F ι H F' ι' H' → Sim K F' ι' st' H' → XcR K F' ι' H' x cls dd → W cls dd σ H'
  | .bad => False
def pV (K : PySem.W.Frag) : Hp → Hp → List Addr → Hp → D → V → Prop := fun _ F ι _ d v => Rep K F ι d v
def pA (K : PySem.W.Frag) : Hp → Hp → List Addr → Hp → List D → List V → Prop := fun _ F ι _ d v => Reps K F ι d v
def pB : Hp → Hp → List Addr → Hp → Bool → Bool → Prop := fun _ _ _ _ b c => b = c
def pL (K : PySem.W.Frag) : Hp → Hp → List Addr → Hp → List D → V → Prop := fun H0 F ι H ds v => ∃ a vs, v = .ref a ∧ H a = some (.lst vs) ∧ F a = none ∧ a ∉ ι ∧ H0 a = none ∧ Reps K F ι ds vs
def Back {α β : Type} (P : Hp → Hp → List Addr → Hp → α → β → Prop) : Prop := ∀ H0 H1 F ι H a b, (∀ x, H1 x = none → H0 x = none) → P H1 F ι H a b → P H0 F ι H a b
theorem back_V {K : PySem.W.Frag} : Back (pV K) := fun _ _ _ _ _ _ _ _ h => h
theorem back_A {K : PySem.W.Frag} : Back (pA K) := fun _ _ _ _ _ _ _ _ h => h
theorem back_B : Back pB := fun _ _ _ _ _ _ _ _ h => h
theorem back_L {K : PySem.W.Frag} : Back (pL K) := fun _ _ _ _ _ _ _ f ⟨a, vs, e, h, hF, hi, h0, r⟩ => ⟨a, vs, e, h, hF, hi, f a h0, r⟩
section
variable {α β γ δ : Type} {K : PySem.W.Frag} {W : WX} {σ : L2.St} {F F1 : Hp} {ι ι1 : List Addr} {H H1 : Hp} {P : Hp → Hp → List Addr → Hp → α → β → Prop} {P' : Hp → Hp → List Addr → Hp → γ → δ → Prop} {Q : δ → Hp → Prop} {Q' : β → Hp → Prop}
theorem post_ext (bk : Back P') {r : Out γ} (h : post K W σ F ι H P' r Q) (x : Ext F ι H F1 ι1 H1) : post K W σ F1 ι1 H1 P' r Q := by
  cases r with
  | ok a st => exact fun F' ι' H' b y S p => h F' ι' H' b (x.trans y) S (bk _ _ _ _ _ _ _ x.there p)
  | exc e st => exact fun F' ι' H' c d y S p => h F' ι' H' c d (x.trans y) S p
  | bad => exact h
theorem post_seq (bk : Back P') {r : Out α} {f : α → Sto → Out γ} (h : post K W σ F ι H P' (r.bind f) Q)
    (k : ∀ a st1 F1 ι1 H1 b, r = .ok a st1 → Ext F ι H F1 ι1 H1 → Sim K F1 ι1 st1 H1 → P H F1 ι1 H1 a b → post K W σ F1 ι1 H1 P' (f a st1) Q → Q' b H1) : post K W σ F ι H P r Q' := by
  cases r with
  | ok a st => exact fun F' ι' H' b y S p => k a st F' ι' H' b rfl y S p (post_ext bk h y)
  | exc e st => exact h
  | bad => exact h
theorem REnv.ext {ρ : Rho} (h : REnv K F ι ρ σ) (x : Ext F ι H F1 ι1 H1) : REnv K F1 ι1 ρ σ := ⟨h.len, fun i d e => let ⟨v, a, r⟩ := h.at_ i d e; ⟨v, a, r.ext x⟩⟩
theorem REnv.set {ρ : Rho} (h : REnv K F ι ρ σ) {d : D} {v : V} (r : Rep K F ι d v) (i : Nat) : REnv K F ι (ρ.set i (some d)) (σ.set i (some v)) := by
  refine ⟨by simp [h.len], fun j e q => ?_⟩
  by_cases hj : i = j
  · subst hj
    by_cases hl : i < ρ.length
    · rw [List.getElem?_set_self hl] at q
      cases q
      exact ⟨v, by rw [List.getElem?_set_self (by rw [← h.len]; exact hl)], r⟩
    · rw [List.getElem?_eq_none (by simpa using hl)] at q
      cases q
  · rw [List.getElem?_set_ne hj] at q
    rw [List.getElem?_set_ne hj]
    exact h.at_ j e q
def wipeD (ρ : Rho) : List Nat → Rho
  | [] => ρ
  | v :: vs => (wipeD ρ vs).set v none
theorem REnv.wipe {ρ : Rho} (h : REnv K F ι ρ σ) : ∀ vs : List Nat, REnv K F ι (wipeD ρ vs) (wipe σ vs)
  | [] => h
  | v :: vs => by
    have ih := h.wipe vs
    show REnv K F ι ((wipeD ρ vs).set v none) ((L2.wipe σ vs).set v none)
    refine ⟨by simp [ih.len], fun j e q => ?_⟩
    by_cases hj : v = j
    · subst hj
      by_cases hl : v < (wipeD ρ vs).length
      · rw [List.getElem?_set_self hl] at q; cases q
      · rw [List.getElem?_eq_none (by simpa using hl)] at q; cases q
    · rw [List.getElem?_set_ne hj] at q
      rw [List.getElem?_set_ne hj]
      exact ih.at_ j e q
end
def wN : WX := fun _ _ _ _ => False
def nox {α : Type} (r : Out α) : Out α := match r with
  | .ok a st => .ok a st
  | _ => .bad
@[simp] theorem nox_ok {α : Type} (a : α) (st : Sto) : nox (.ok a st) = .ok a st := rfl
@[simp] theorem nox_bad {α : Type} : nox (.bad : Out α) = .bad := rfl
def tG {α β : Type} (K : PySem.W.Frag) (W : WX) (P : Hp → Hp → List Addr → Hp → α → β → Prop) (m : Rho → M α) : L2.St → Hp → (β → Hp → Prop) → Prop := fun σ H Q =>
  ∃ F ι ρ st, Sim K F ι st H ∧ REnv K F ι ρ σ ∧ post K W σ F ι H P (m ρ st) Q
abbrev tV (K : PySem.W.Frag) (W : WX) (m : Rho → M D) : TE := tG K W (pV K) m
abbrev tL (K : PySem.W.Frag) (W : WX) (m : Rho → M (List D)) : TE := tG K W (pL K) m
abbrev tA (K : PySem.W.Frag) (W : WX) (m : Rho → M (List D)) : TA := tG K W (pA K) m
abbrev tT (K : PySem.W.Frag) (W : WX) (m : Rho → M Bool) : TT := tG K W pB m
def DE (X : Cx) (W : WX) (e : Expr) (m : Rho → M D) : Prop := PE X e (tV X.K W m)
def DL (X : Cx) (W : WX) (e : Expr) (m : Rho → M (List D)) : Prop := PE X e (tL X.K W m)
def DA (X : Cx) (W : WX) (es : List Expr) (m : Rho → M (List D)) : Prop := PA X es (tA X.K W m)
def DT (X : Cx) (W : WX) (e : Expr) (m : Rho → M Bool) : Prop := PT X e (tT X.K W m)
theorem PE.weak {X : Cx} {e : Expr} {t t' : TE} (h : PE X e t) (w : ∀ σ H Q, t' σ H Q → t σ H Q) : PE X e t' := ⟨fun pins s σ H Q I q => h.run pins s σ H Q I (w σ H Q q)⟩
theorem PT.weak {X : Cx} {e : Expr} {t t' : TT} (h : PT X e t) (w : ∀ σ H Q, t' σ H Q → t σ H Q) : PT X e t' := ⟨fun pins s σ H Q I q => h.run pins s σ H Q I (w σ H Q q)⟩
theorem PA.weak {X : Cx} {e : List Expr} {t t' : TA} (h : PA X e t) (w : ∀ σ H Q, t' σ H Q → t σ H Q) : PA X e t' := ⟨fun pos pins s σ H Q I q => h.run pos pins s σ H Q I (w σ H Q q)⟩
theorem PS.weak {X : Cx} {e : Stmt} {t t' : TS} (h : PS X e t) (w : ∀ D σ H, t' D σ H → t D σ H) : PS X e t' := ⟨fun pins s σ H D I q => h.run pins s σ H D I (w D σ H q)⟩
theorem PSs.weak {X : Cx} {e : List Stmt} {t t' : TS} (h : PSs X e t) (w : ∀ D σ H, t' D σ H → t D σ H) : PSs X e t' := ⟨fun pins s σ H D I q => h.run pins s σ H D I (w D σ H q)⟩
theorem tG_seq {α β γ δ : Type} {K : PySem.W.Frag} {W : WX} {P : Hp → Hp → List Addr → Hp → α → β → Prop} {P' : Hp → Hp → List Addr → Hp → γ → δ → Prop} (bk : Back P') {m : Rho → M α} {σ : L2.St} {F : Hp} {ι : List Addr} {H : Hp} {ρ : Rho} {st : Sto} {f : α → Sto → Out γ} {Q : δ → Hp → Prop} {Q' : β → Hp → Prop}
    (S : Sim K F ι st H) (R : REnv K F ι ρ σ) (h : post K W σ F ι H P' ((m ρ st).bind f) Q)
    (k : ∀ a st1 F1 ι1 H1 b, Ext F ι H F1 ι1 H1 → Sim K F1 ι1 st1 H1 → REnv K F1 ι1 ρ σ → P H F1 ι1 H1 a b → post K W σ F1 ι1 H1 P' (f a st1) Q → Q' b H1) : tG K W P m σ H Q' :=
  ⟨F, ι, ρ, st, S, R, post_seq bk h fun a st1 F1 ι1 H1 b _ x S1 p q => k a st1 F1 ι1 H1 b x S1 (R.ext x) p q⟩
def lift {α : Type} (o : Option α) : M α := fun st => match o with
  | some a => .ok a st
  | none => .bad
@[simp] theorem lift_some {α : Type} (a : α) (st : Sto) : lift (some a) st = .ok a st := rfl
@[simp] theorem lift_none {α : Type} (st : Sto) : (lift none st : Out α) = .bad := rfl
def mVar (i : Nat) : Rho → M D := fun ρ st => match ρ[i]? with
  | some (some d) => .ok d st
  | _ => .bad
def mLit (d : D) : Rho → M D := fun _ st => .ok d st
section
variable {X : Cx} {W : WX} {pos : Pos}
theorem de_var {i : Nat} {x : Str} (hN : X.N[i]? = some x) (hv : Vis X.env.scope x) (hd : (x == ("__debug__" : Str)) = false := by decide) (hcd : (x == ("__classdict__" : Str)) = false := by decide) : DE X W (.Name x pos) (mVar i) := by
  refine PE.weak (pe_var hN hv hd hcd) fun σ H Q ⟨F, ι, ρ, st, S, R, h⟩ => ?_
  unfold mVar at h
  split at h
  · rename_i d e
    obtain ⟨v, q, r⟩ := R.at_ i d e
    exact ⟨v, q, h F ι H v Ext.refl S r⟩
  · exact h.elim
theorem de_c {e : Expr} {v : V} {d : D} (h : PE X e (tC v)) (r : ∀ F ι, Rep X.K F ι d v) : DE X W e (mLit d) :=
  PE.weak h fun σ H Q ⟨F, ι, ρ, st, S, R, q⟩ => q F ι H v Ext.refl S (r F ι)
theorem de_int {i : Int} {j} : DE X W (.Constant (.int i) j pos) (mLit (.int i)) := de_c pe_int fun _ _ => by simp only [Rep]
theorem de_bl {b : Bool} {j} : DE X W (.Constant (.bool b) j pos) (mLit (.bl b)) := de_c pe_bl fun _ _ => by simp only [Rep]
theorem de_non {j} : DE X W (.Constant .none j pos) (mLit .non) := de_c pe_non fun _ _ => by simp only [Rep]
theorem de_str {x : Str} {j} : DE X W (.Constant (.str x) j pos) (mLit (.str x)) := de_c pe_str fun _ _ => by simp only [Rep]
theorem de_gint {x : Str} {i : Int} {t : Tok} (hg : Gl X x) (hm : X.mg x = some (.int i t)) (hd : (x == ("__debug__" : Str)) = false := by decide) : DE X W (.Name x pos) (mLit (.int i)) := de_c (pe_glob hg hm (v := .int i) ⟨t, rfl⟩ hd) fun _ _ => by simp only [Rep]
theorem de_gstr {x : Str} {i : Str} {t : Tok} (hg : Gl X x) (hm : X.mg x = some (.str i t)) (hd : (x == ("__debug__" : Str)) = false := by decide) : DE X W (.Name x pos) (mLit (.str i)) := de_c (pe_glob hg hm (v := .str i) ⟨t, rfl⟩ hd) fun _ _ => by simp only [Rep]
def mNil : Rho → M (List D) := fun _ st => .ok [] st
def mCons (m : Rho → M D) (r : Rho → M (List D)) : Rho → M (List D) := fun ρ st => (m ρ st).bind fun d st1 => (r ρ st1).bind fun ds st2 => .ok (d :: ds) st2
theorem da_nil : DA X W [] mNil := PA.weak pa_nil fun σ H Q ⟨F, ι, ρ, st, S, R, q⟩ => q F ι H [] Ext.refl S Reps.nil
theorem da_cons {e : Expr} {es : List Expr} {m : Rho → M D} {r : Rho → M (List D)} (h : DE X W e m) (hr : DA X W es r) (hs : starEach (e :: es) X.env = (false, eval e X.env) :: starEach es X.env := by rfl) : DA X W (e :: es) (mCons m r) := by
  refine PA.weak (pa_cons h hr hs) fun σ H Q ⟨F, ι, ρ, st, S, R, q⟩ => ?_
  refine tG_seq back_A S R q fun d st1 F1 ι1 H1 v x1 S1 R1 r1 q1 => ?_
  exact tG_seq back_A S1 R1 q1 fun ds st2 F2 ι2 H2 vs x2 S2 R2 r2 q2 => q2 F2 ι2 H2 _ Ext.refl S2 (Reps.cons (r1.ext x2) r2)
abbrev SZ : Nat := 100000
theorem sz_le {n : Nat} (h : n ≤ SZ) : n ≤ sizeLine := Nat.le_trans h (by decide)
theorem sz_lt {n : Nat} (h : n ≤ SZ) : n < sizeLine := Nat.lt_of_le_of_lt h (by decide)
theorem fin_tup {X : Cx} {pins : List (Addr × Obj)} {σ : L2.St} {H : Hp} {s : Shared} {Q : VK} {ys : List V} {its : List Value} {t' : Nat} (I : Inv X pins σ H s) (r : Vals ys its) (z : ys.length ≤ sizeLine)
    (q : ∀ (p : Addr) (o : Obj), o.dict = none → H p = none → Q (.ref p) (upd H p (.frz o (.tup ys)))) : EP X pins σ Q (.ref s.heap.objs.size) { s with heap := s.heap.push { cls := .type "tuple", data := .seq its.toArray }, toks := t' } := by
  have hn := I.hok.fresh (Nat.le_refl _)
  have hg : (s.heap.push { cls := .type "tuple", data := .seq its.toArray }).get? s.heap.objs.size = some { cls := .type "tuple", data := .seq its.toArray } := Heap.get?_push_size _ rfl
  have ok : ObjOk X.prog X.w (upd H s.heap.objs.size (.frz { cls := .type "tuple", data := .seq its.toArray } (.tup ys))) (s.heap.push { cls := .type "tuple", data := .seq its.toArray }) s.heap.objs.size (.frz { cls := .type "tuple", data := .seq its.toArray } (.tup ys)) :=
    ⟨hg, z, its, r, ⟨_, hg, rfl, _, rfl⟩⟩
  exact ⟨.ref s.heap.objs.size, _, I.laid (t' := t') (fun b u e => Heap.get?_push_of_some _ e) (Nat.le_refl _) ok, rfl, q _ _ rfl hn⟩
def tTupP (t : TA) : TE := fun σ H Q => t σ H fun xs H1 => xs.length ≤ sizeLine ∧ ∀ (p : Addr) (o : Obj), o.dict = none → H1 p = none → Q (.ref p) (upd H1 p (.frz o (.tup xs)))
theorem pe_tupP {X : Cx} {es : List Expr} {x1} {pos : Pos} {t : TA} (h : PA X es t) : PE X (.Tuple es x1 pos) (tTupP t) := by
  refine ⟨fun pins s σ H Q I hq => wpAny_Tuple_spliced (thn (h.run pos pins s σ H _ I hq) fun us s1 ⟨xs, H1, I1, r, z, q⟩ => ?_)⟩
  exact ⟨by rw [← r.length]; exact z, fin_tup (t' := s1.toks) I1 r z q⟩
def mTup (a : Rho → M (List D)) : Rho → M D := fun ρ st => (a ρ st).bind fun xs st1 => if xs.length ≤ SZ then .ok (.tup xs) st1 else .bad
theorem de_tup {es : List Expr} {x1} {a : Rho → M (List D)} (h : DA X W es a) : DE X W (.Tuple es x1 pos) (mTup a) := by
  refine PE.weak (pe_tupP h) fun σ H Q ⟨F, ι, ρ, st, S, R, q⟩ => ?_
  refine tG_seq back_V S R q fun xs st1 F1 ι1 H1 vs x1 S1 R1 r1 q1 => ?_
  split at q1
  · rename_i hz
    refine ⟨by rw [← Reps.length r1]; exact sz_le hz, fun p o ho hp => ?_⟩
    refine q1 (upd F1 p (.frz o (.tup vs))) ι1 _ _ (Ext.frozen hp S1.sub) (S1.frozen hp trivial) ?_
    show Rep _ _ _ _ _
    simp only [Rep]
    exact ⟨p, vs, rfl, .inl ⟨o, ho, upd_same⟩, Reps.ext r1 (Ext.frozen (H := H1) hp S1.sub)⟩
  · exact q1.elim
def lDisp (a : Rho → M (List D)) : Rho → M (List D) := fun ρ st => (a ρ st).bind fun xs st1 => if xs.length ≤ SZ then .ok xs st1 else .bad
theorem pL_new {K : PySem.W.Frag} {F : Hp} {ι : List Addr} {H : Hp} {st : Sto} {p : Addr} {ds : List D} {vs : List V} (S : Sim K F ι st H) (hp : H p = none) (r : Reps K F ι ds vs) : pL K H F ι (upd H p (.lst vs)) ds (.ref p) := by
  refine ⟨p, vs, rfl, upd_same, ?_, fun h => S.there p h hp, hp, r⟩
  cases e : F p with
  | none => rfl
  | some o =>
    have := S.sub p o e
    rw [hp] at this
    cases this
theorem dl_disp {es : List Expr} {a : Rho → M (List D)} (h : DA X W es a) : DL X W (.List es pos) (lDisp a) := by
  refine PE.weak (pe_lst h) fun σ H Q ⟨F, ι, ρ, st, S, R, q⟩ => ?_
  refine tG_seq back_L S R q fun xs st1 F1 ι1 H1 vs x1 S1 R1 r1 q1 => ?_
  split at q1
  · rename_i hz
    refine ⟨by rw [← Reps.length r1]; exact sz_le hz, fun p hp => ?_⟩
    exact q1 F1 ι1 _ _ (Ext.laid hp) (S1.laid hp) (pL_new S1 hp r1)
  · exact q1.elim
def mFrz (l : Rho → M (List D)) : Rho → M D := fun ρ st => (l ρ st).bind fun xs st1 => .ok (.lst xs) st1
def mNew (l : Rho → M (List D)) : Rho → M D := fun ρ st => (l ρ st).bind fun xs st1 => .ok (.ref st1.length) (st1 ++ [.lst xs])
theorem frz_of {K : PySem.W.Frag} {W : WX} {l : Rho → M (List D)} {σ : L2.St} {H : Hp} {Q : VK} (h : tV K W (mFrz l) σ H Q) : tL K W l σ H Q := by
  obtain ⟨F, ι, ρ, st, S, R, q⟩ := h
  refine ⟨F, ι, ρ, st, S, R, ?_⟩
  unfold mFrz at q
  generalize l ρ st = r at q ⊢
  cases r with
  | ok xs st1 =>
    intro F' ι' H' b x S' ⟨a, vs, e, h, hF, hi, h0, rr⟩
    subst e
    have x' := x.freeze (o := .lst vs) hF h0
    refine q (upd F' a (.lst vs)) ι' H' (.ref a) x' (S'.freeze h hF hi trivial) ?_
    show Rep _ _ _ _ _
    simp only [Rep]
    refine ⟨a, vs, rfl, upd_same, Reps.mono (fun b o hb => ?_) (fun _ _ h => h) _ _ rr⟩
    rw [upd_ne (fun e => by rw [e, hF] at hb; cases hb)]
    exact hb
  | exc _ _ => exact q
  | bad => exact q
theorem de_frz {e : Expr} {l : Rho → M (List D)} (h : DL X W e l) : DE X W e (mFrz l) := PE.weak h fun _ _ _ q => frz_of q
theorem new_of {K : PySem.W.Frag} {W : WX} {l : Rho → M (List D)} {σ : L2.St} {H : Hp} {Q : VK} (h : tV K W (mNew l) σ H Q) : tL K W l σ H Q := by
  obtain ⟨F, ι, ρ, st, S, R, q⟩ := h
  refine ⟨F, ι, ρ, st, S, R, ?_⟩
  unfold mNew at q
  generalize l ρ st = r at q ⊢
  cases r with
  | ok xs st1 =>
    intro F' ι' H' b x S' ⟨a, vs, e, h, hF, hi, h0, rr⟩
    subst e
    have mo : ∀ (l : Nat) (b : Addr), ι'[l]? = some b → (ι' ++ [a])[l]? = some b := fun l b h => by
      rw [List.getElem?_append_left (List.getElem?_eq_some_iff.mp h).1]; exact h
    refine q F' (ι' ++ [a]) H' (.ref a) (x.locate h0) (S'.locate (m := .lst xs) (by rw [h]; simp) hF hi ⟨vs, h, Reps.mono (fun _ _ h => h) mo _ _ rr⟩) ?_
    show Rep _ _ _ _ _
    simp only [Rep]
    exact ⟨a, rfl, by rw [← S'.len, List.getElem?_append_right (Nat.le_refl _)]; simp⟩
  | exc _ _ => exact q
  | bad => exact q
theorem de_new {e : Expr} {l : Rho → M (List D)} (h : DL X W e l) : DE X W e (mNew l) := PE.weak h fun _ _ _ q => new_of q
end
end Dn
namespace Dn
open PySem PySem.Spec PyProof.Rows L2
mutual
def isP : D → Bool
  | .non => true | .bl _ => true | .int _ => true | .str _ => true
  | .tup xs => isPs xs | .lst xs => isPs xs
  | .scr _ => false | .ref _ => false | .adr _ => false | .fd _ _ => false | .exo _ _ _ _ => false | .obj _ _ _ => false | .sd _ => false
def isPs : List D → Bool
  | [] => true
  | d :: ds => isP d && isPs ds
end
mutual
def toP : D → PyData
  | .non => .none | .bl b => .bool b | .int i => .int i | .str s => .str s
  | .tup xs => .tuple (toPs xs) | .lst xs => .list (toPs xs)
  | .scr _ => .none | .ref _ => .none | .adr _ => .none | .fd _ _ => .none | .exo _ _ _ _ => .none | .obj _ _ _ => .none | .sd kvs => .dict (kvs.map fun p => (.str p.1, match p.2 with | none => .none | some i => .int i))
def toPs : List D → List PyData
  | [] => []
  | d :: ds => toP d :: toPs ds
end
theorem toPs_map : ∀ ds : List D, toPs ds = ds.map toP
  | [] => rfl
  | d :: ds => by rw [toPs, List.map_cons, toPs_map ds]
mutual
theorem dp_of {K : PySem.W.Frag} {F H : Hp} {ι : List Addr} (sub : ∀ a o, F a = some o → H a = some o) : ∀ (d : D) (v : V), isP d = true → Rep K F ι d v → Dp K H v (toP d)
  | .non, v, _, r => by simp only [Rep] at r; subst r; simp only [toP]; exact .non
  | .bl b, v, _, r => by simp only [Rep] at r; subst r; simp only [toP]; exact .bl b
  | .int b, v, _, r => by simp only [Rep] at r; subst r; simp only [toP]; exact .int b
  | .str b, v, _, r => by simp only [Rep] at r; subst r; simp only [toP]; exact .str b
  | .tup xs, v, p, r => by
    simp only [Rep] at r
    obtain ⟨a, vs, e, q, r⟩ := r
    subst e
    simp only [toP]
    exact .tup (SqP.mono q sub).sqT (dps_of sub xs vs (by simpa only [isP] using p) r)
  | .lst xs, v, p, r => by
    simp only [Rep] at r
    obtain ⟨a, vs, e, q, r⟩ := r
    subst e
    simp only [toP]
    exact .lst (SqL.of (sub _ _ q)) (dps_of sub xs vs (by simpa only [isP] using p) r)
  | .scr _, _, p, _ => by simp [isP] at p
  | .ref _, _, p, _ => by simp [isP] at p
  | .adr _, _, p, _ => by simp [isP] at p
  | .fd _ _, _, p, _ => by simp [isP] at p
  | .exo _ _ _ _, _, p, _ => by simp [isP] at p
  | .obj _ _ _, _, p, _ => by simp [isP] at p
  | .sd _, _, p, _ => by simp [isP] at p
theorem dps_of {K : PySem.W.Frag} {F H : Hp} {ι : List Addr} (sub : ∀ a o, F a = some o → H a = some o) : ∀ (ds : List D) (vs : List V), isPs ds = true → Reps K F ι ds vs → DpAll K H vs (toPs ds)
  | [], vs, _, r => by simp only [Reps] at r; subst r; simp only [toPs]; exact .nil
  | d :: ds, vs, p, r => by
    simp only [Reps] at r
    obtain ⟨v, rs, e, r1, r2⟩ := r
    subst e
    simp only [isPs, Bool.and_eq_true] at p
    simp only [toPs]
    exact .cons (dp_of sub d v p.1 r1) (dps_of sub ds rs p.2 r2)
end
def lstOf (st : Sto) : D → Option (List D)
  | .lst xs => some xs
  | .ref l => match st[l]? with
    | some (.lst xs) => some xs
    | _ => none
  | _ => none
def seqOf (st : Sto) : D → Option (List D)
  | .tup xs => some xs
  | .scr xs => some xs
  | d => lstOf st d
@[simp] theorem lstOf_lst (st : Sto) (xs : List D) : lstOf st (.lst xs) = some xs := rfl
@[simp] theorem seqOf_tup (st : Sto) (xs : List D) : seqOf st (.tup xs) = some xs := rfl
@[simp] theorem seqOf_lst (st : Sto) (xs : List D) : seqOf st (.lst xs) = some xs := rfl
@[simp] theorem seqOf_scr (st : Sto) (xs : List D) : seqOf st (.scr xs) = some xs := rfl
theorem seqOf_ref {st : Sto} {l : Nat} {xs : List D} (h : st[l]? = some (.lst xs)) : seqOf st (.ref l) = some xs := by simp [seqOf, lstOf, h]
def dat (st : Sto) (d : D) : Option PyData := match d with
  | .ref l => match st[l]? with
    | some (.lst xs) => if isPs xs = true then some (.list (toPs xs)) else none
    | _ => none
  | d => if isP d = true then some (toP d) else none
section
variable {K : PySem.W.Frag} {F H : Hp} {ι : List Addr} {st : Sto}
theorem Sim.lst (S : Sim K F ι st H) {d : D} {v : V} {xs : List D} (r : Rep K F ι d v) (h : lstOf st d = some xs) : ∃ a vs, v = .ref a ∧ H a = some (.lst vs) ∧ Reps K F ι xs vs := by
  unfold lstOf at h
  split at h
  · cases h
    simp only [Rep] at r
    obtain ⟨a, vs, e, q, r⟩ := r
    exact ⟨a, vs, e, S.sub _ _ q, r⟩
  · rename_i l
    split at h
    · rename_i ys e
      cases h
      simp only [Rep] at r
      obtain ⟨a, e2, q⟩ := r
      obtain ⟨vs, h1, h2⟩ := S.obj l _ a e q
      exact ⟨a, vs, e2, h1, h2⟩
    · cases h
  · cases h
theorem Sim.seq (S : Sim K F ι st H) {d : D} {v : V} {xs : List D} (r : Rep K F ι d v) (h : seqOf st d = some xs) : ∃ a vs, v = .ref a ∧ (SqL K H a vs ∨ SqT K H a vs) ∧ Reps K F ι xs vs := by
  unfold seqOf at h
  split at h
  · cases h
    simp only [Rep] at r
    obtain ⟨a, vs, e, q, r⟩ := r
    exact ⟨a, vs, e, .inr (S.sqT q), r⟩
  · cases h
    simp only [Rep] at r
    obtain ⟨a, vs, e, q, r⟩ := r
    exact ⟨a, vs, e, .inl (S.sqL q), r⟩
  · obtain ⟨a, vs, e, q, r⟩ := S.lst r h
    exact ⟨a, vs, e, .inl (SqL.of q), r⟩
theorem Sim.dp (S : Sim K F ι st H) {d : D} {v : V} {p : PyData} (r : Rep K F ι d v) (h : dat st d = some p) : Dp K H v p := by
  unfold dat at h
  split at h
  · rename_i l
    split at h
    · rename_i xs e
      split at h
      · rename_i hp
        cases h
        simp only [Rep] at r
        obtain ⟨a, e2, q⟩ := r
        subst e2
        obtain ⟨vs, h1, h2⟩ := S.obj l _ a e q
        exact .lst (SqL.of h1) (dps_of S.sub xs vs hp h2)
      · cases h
    · cases h
  · split at h
    · rename_i hp
      cases h
      exact dp_of S.sub _ _ hp r
    · cases h
end
def rP (K : PySem.W.Frag) (p : Sto → D → D → Option D) : R2 := fun x y H Q => ∃ F ι st a b d, Sim K F ι st H ∧ Rep K F ι a x ∧ Rep K F ι b y ∧ p st a b = some d ∧
  ∀ F' H' v, Ext F ι H F' ι H' → Sim K F' ι st H' → Rep K F' ι d v → Q v H'
def mOp (p : Sto → D → D → Option D) (m1 m2 : Rho → M D) : Rho → M D := fun ρ st => (m1 ρ st).bind fun a st1 => (m2 ρ st1).bind fun b st2 => lift (p st2 a b) st2
def rPL (K : PySem.W.Frag) (p : Sto → D → D → Option (List D)) : R2 := fun x y H Q => ∃ F ι st a b ds, Sim K F ι st H ∧ Rep K F ι a x ∧ Rep K F ι b y ∧ p st a b = some ds ∧
  ∀ H' v, Ext F ι H F ι H' → Sim K F ι st H' → pL K H F ι H' ds v → Q v H'
def lOp (p : Sto → D → D → Option (List D)) (m1 m2 : Rho → M D) : Rho → M (List D) := fun ρ st => (m1 ρ st).bind fun a st1 => (m2 ρ st1).bind fun b st2 => lift (p st2 a b) st2
section
variable {X : Cx} {W : WX} {pos : Pos} {a b : Expr} {m1 m2 : Rho → M D}
theorem tOp_of {K : PySem.W.Frag} {p : Sto → D → D → Option D} {σ : L2.St} {H : Hp} {Q : VK} (h : tV K W (mOp p m1 m2) σ H Q) : tOp (rP K p) (tV K W m1) (tV K W m2) σ H Q := by
  obtain ⟨F, ι, ρ, st, S, R, q⟩ := h
  refine tG_seq back_V S R q fun d1 st1 F1 ι1 H1 v1 x1 S1 R1 r1 q1 => ?_
  refine tG_seq back_V S1 R1 q1 fun d2 st2 F2 ι2 H2 v2 x2 S2 R2 r2 q2 => ?_
  cases e : p st2 d1 d2 with
  | none => rw [e] at q2; exact q2.elim
  | some d =>
    rw [e] at q2
    exact ⟨F2, ι2, st2, d1, d2, d, S2, Rep.ext r1 x2, r2, e, fun F' H' v x S' r => q2 F' ι2 H' v x S' r⟩
theorem tOpL_of {K : PySem.W.Frag} {p : Sto → D → D → Option (List D)} {σ : L2.St} {H : Hp} {Q : VK} (h : tL K W (lOp p m1 m2) σ H Q) : tOp (rPL K p) (tV K W m1) (tV K W m2) σ H Q := by
  obtain ⟨F, ι, ρ, st, S, R, q⟩ := h
  refine tG_seq back_L S R q fun d1 st1 F1 ι1 H1 v1 x1 S1 R1 r1 q1 => ?_
  refine tG_seq back_L S1 R1 q1 fun d2 st2 F2 ι2 H2 v2 x2 S2 R2 r2 q2 => ?_
  cases e : p st2 d1 d2 with
  | none => rw [e] at q2; exact q2.elim
  | some d =>
    rw [e] at q2
    exact ⟨F2, ι2, st2, d1, d2, d, S2, Rep.ext r1 x2, r2, e, fun H' v x S' r => q2 F2 ι2 H' v x S' r⟩
theorem de_bin {op : Operator} {p : Sto → D → D → Option D} (ho : OpR X (binaryOp op) (rP X.K p)) (ha : DE X W a m1) (hb : DE X W b m2) : DE X W (.BinOp a op b pos) (mOp p m1 m2) :=
  PE.weak (pe_op ho ha hb) fun _ _ _ h => tOp_of h
theorem dl_bin {op : Operator} {p : Sto → D → D → Option (List D)} (ho : OpR X (binaryOp op) (rPL X.K p)) (ha : DE X W a m1) (hb : DE X W b m2) : DL X W (.BinOp a op b pos) (lOp p m1 m2) :=
  PE.weak (pe_op ho ha hb) fun _ _ _ h => tOpL_of h
theorem op_ints {f : Value → Value → Sem Value} {C : Int → Int → Prop} [∀ i j, Decidable (C i j)] {g : Int → Int → Int} {p : Sto → D → D → Option D} (ho : OpR X f (rI C fun i j => .int (g i j)))
    (hp : ∀ st a b d, p st a b = some d → ∃ i j, a = .int i ∧ b = .int j ∧ C i j ∧ d = .int (g i j)) : OpR X f (rP X.K p) := by
  intro pins s σ H x y v u Q I rx ry ⟨F, ι, st, a, b, d, S, ra, rb, e, q⟩
  obtain ⟨i, j, e1, e2, hc, e3⟩ := hp st a b d e
  subst e1 e2 e3
  simp only [Rep] at ra rb
  subst ra rb
  exact ho pins s σ H _ _ v u Q I rx ry ⟨i, j, rfl, rfl, hc, q F H _ Ext.refl S (by simp only [Rep])⟩
def pSub : Sto → D → D → Option D := fun _ a b => match a, b with
  | .int i, .int j => some (.int (i - j))
  | _, _ => none
noncomputable def pDiv : Sto → D → D → Option D := fun _ a b => match a, b with
  | .int i, .int j => @ite _ (0 < j ∧ j < 1073741824) (Classical.propDecidable _) (some (.int (i / j))) (none)
  | _, _ => none
def pMod : Sto → D → D → Option D := fun _ a b => match a, b with
  | .int i, .int j => if 0 < j then some (.int (i % j)) else none
  | _, _ => none
noncomputable def pPow : Sto → D → D → Option D := fun _ a b => match a, b with
  | .int i, .int j => @ite _ (0 ≤ j ∧ j ≤ 1000000 ∧ i.natAbs < 2 ^ 64) (Classical.propDecidable _) (some (.int (i ^ j.toNat))) (none)
  | _, _ => none
def pNeg : Sto → D → Option D := fun _ a => match a with
  | .int i => some (.int (-i))
  | _ => none
theorem op_pSub : OpR X (binaryOp .Sub) (rP X.K pSub) := by
  refine op_ints (C := fun _ _ => True) (g := fun i j => i - j) (fun pins s σ H x y v u Q I rx ry ⟨i, j, e1, e2, _, q⟩ => op_sub pins s σ H x y v u Q I rx ry ⟨i, j, e1, e2, q⟩) fun st a b d e => ?_
  unfold pSub at e
  split at e
  · cases e; exact ⟨_, _, rfl, rfl, trivial, rfl⟩
  · cases e
theorem op_pDiv : OpR X (binaryOp .FloorDiv) (rP X.K pDiv) := by
  refine op_ints (C := fun i j => 0 < j ∧ j < 1073741824) (g := fun i j => i / j) (op_fdiv) fun st a b d e => ?_
  unfold pDiv at e
  split at e
  · split at e
    · rename_i h; cases e; exact ⟨_, _, rfl, rfl, h, rfl⟩
    · cases e
  · cases e
theorem op_pMod : OpR X (binaryOp .Mod) (rP X.K pMod) := by
  refine op_ints (C := fun i j => 0 < j) (g := fun i j => i % j) (op_mod) fun st a b d e => ?_
  unfold pMod at e
  split at e
  · split at e
    · rename_i h; cases e; exact ⟨_, _, rfl, rfl, h, rfl⟩
    · cases e
  · cases e
theorem op_pPow : OpR X (binaryOp .Pow) (rP X.K pPow) := by
  refine op_ints (C := fun i j => 0 ≤ j ∧ j ≤ 1000000 ∧ i.natAbs < 2 ^ 64) (g := fun i j => i ^ j.toNat) (op_pow) fun st a b d e => ?_
  unfold pPow at e
  split at e
  · split at e
    · rename_i h; cases e; exact ⟨_, _, rfl, rfl, h, rfl⟩
    · cases e
  · cases e
def mUn (p : Sto → D → Option D) (m : Rho → M D) : Rho → M D := fun ρ st => (m ρ st).bind fun a st1 => lift (p st1 a) st1
theorem de_neg (ha : DE X W a m1) : DE X W (.UnaryOp .USub a pos) (mUn pNeg m1) := by
  refine PE.weak (pe_un un_neg ha) fun σ H Q ⟨F, ι, ρ, st, S, R, q⟩ => ?_
  refine tG_seq back_V S R q fun d1 st1 F1 ι1 H1 v1 x1 S1 R1 r1 q1 => ?_
  unfold pNeg at q1
  split at q1
  · rename_i i
    have r : Rep X.K F1 ι1 (.int i) v1 := r1
    simp only [Rep] at r
    exact ⟨i, r, q1 F1 ι1 H1 _ Ext.refl S1 (by show Rep _ _ _ _ _; simp only [Rep])⟩
  · exact q1.elim
def pAdd : Sto → D → D → Option D := fun _ a b => match a, b with
  | .int i, .int j => some (.int (i + j))
  | .int i, .bl k => some (.int (i + b2i k))
  | .str x, .str y => if x.length + y.length ≤ sizeLine then some (.str (x ++ y)) else none
  | .tup xs, .tup ys => if xs.length + ys.length ≤ SZ then some (.tup (xs ++ ys)) else none
  | _, _ => none
theorem new_tup {K : PySem.W.Frag} {F : Hp} {ι : List Addr} {H : Hp} {st : Sto} {xs : List D} {vs : List V} {Q : VK} (S : Sim K F ι st H) (r : Reps K F ι xs vs) (q : ∀ F' H' v, Ext F ι H F' ι H' → Sim K F' ι st H' → Rep K F' ι (.tup xs) v → Q v H') :
    ∀ (p : Addr) (o : Obj), o.dict = none → H p = none → Q (.ref p) (upd H p (.frz o (.tup vs))) := fun p o ho hp => by
  refine q (upd F p (.frz o (.tup vs))) _ _ (Ext.frozen hp S.sub) (S.frozen hp trivial) ?_
  simp only [Rep]
  exact ⟨p, vs, rfl, .inl ⟨o, ho, upd_same⟩, Reps.ext r (Ext.frozen (H := H) hp S.sub)⟩
theorem same_tup {K : PySem.W.Frag} {F : Hp} {ι : List Addr} {H : Hp} {st : Sto} {xs ys : List D} {v : V} {Q : VK} (S : Sim K F ι st H) (r : Rep K F ι (.tup xs) v) (e : xs = ys) (q : ∀ F' H' v, Ext F ι H F' ι H' → Sim K F' ι st H' → Rep K F' ι (.tup ys) v → Q v H') : Q v H :=
  q F H v Ext.refl S (by rw [← e]; exact r)
def rCatP (K : PySem.W.Frag) : R2 := fun x y H Q => ∃ a b xs ys, x = .ref a ∧ y = .ref b ∧ SqT K H a xs ∧ SqT K H b ys ∧ xs.length + ys.length ≤ sizeLine ∧
  (xs = [] → Q (.ref b) H) ∧ (xs ≠ [] → ys = [] → Q (.ref a) H) ∧ (xs ≠ [] → ys ≠ [] → ∀ (p : Addr) (o : Obj), o.dict = none → H p = none → Q (.ref p) (upd H p (.frz o (.tup (xs ++ ys)))))
theorem op_catP : OpR X (binaryOp .Add) (rCatP X.K) := by
  intro pins s σ H x y v u Q I rx ry ⟨a, b, xs, ys, e1, e2, ha, hb, hz, q0, q1, q2⟩
  subst e1 e2
  by_cases hx : xs = []
  · exact op_catA pins s σ H _ _ v u Q I rx ry ⟨a, b, xs, ys, rfl, rfl, ha, hb, hz, q0, q1, fun h => absurd hx h⟩
  · by_cases hy : ys = []
    · exact op_catA pins s σ H _ _ v u Q I rx ry ⟨a, b, xs, ys, rfl, rfl, ha, hb, hz, q0, q1, fun _ h => absurd hy h⟩
    · cases rx
      cases ry
      obtain ⟨i1, r1, p1, _⟩ := I.tuple ha
      obtain ⟨i2, r2, p2, _⟩ := I.tuple hb
      refine HT.cat_tup p1 p2 (fun z => hx (r1.nil_iff.mp z)) (fun z => absurd (r2.nil_iff.mp z) hy) (fun z => ?_) (by rw [← r1.length, ← r2.length]; exact hz)
      exact fin_tup (t' := s.toks) I (r1.append r2) (by rw [List.length_append]; exact hz) (q2 hx hy)
theorem op_pAdd : OpR X (binaryOp .Add) (rP X.K pAdd) := by
  intro pins s σ H x y v u Q I rx ry ⟨F, ι, st, a, b, d, S, ra, rb, e, q⟩
  unfold pAdd at e
  split at e
  · cases e
    simp only [Rep] at ra rb
    subst ra rb
    exact op_add pins s σ H _ _ v u Q I rx ry ⟨_, _, rfl, rfl, q F H _ Ext.refl S (by simp only [Rep])⟩
  · cases e
    simp only [Rep] at ra rb
    subst ra rb
    exact op_add_ib pins s σ H _ _ v u Q I rx ry ⟨_, _, rfl, rfl, q F H _ Ext.refl S (by simp only [Rep])⟩
  · split at e
    · rename_i hz
      cases e
      simp only [Rep] at ra rb
      subst ra rb
      exact op_add_str pins s σ H _ _ v u Q I rx ry ⟨_, _, rfl, rfl, hz, q F H _ Ext.refl S (by simp only [Rep])⟩
    · cases e
  · split at e
    · rename_i xs ys hz
      cases e
      have ra' := ra
      have rb' := rb
      simp only [Rep] at ra rb
      obtain ⟨a1, vs1, e1, h1, r1⟩ := ra
      obtain ⟨a2, vs2, e2, h2, r2⟩ := rb
      subst e1 e2
      refine op_catP pins s σ H _ _ v u Q I rx ry ⟨a1, a2, vs1, vs2, rfl, rfl, S.sqT h1, S.sqT h2, ?_, fun h => ?_, fun h h' => ?_, fun _ _ => new_tup S (r1.append r2) q⟩
      · rw [← r1.length, ← r2.length]; exact sz_le hz
      · subst h
        have : xs = [] := List.eq_nil_of_length_eq_zero r1.length
        subst this
        exact same_tup S rb' rfl q
      · subst h'
        have : ys = [] := List.eq_nil_of_length_eq_zero r2.length
        subst this
        exact same_tup S ra' (by simp) q
    · cases e
  · cases e
def pCat : Sto → D → D → Option (List D) := fun st a b => match lstOf st a, lstOf st b with
  | some xs, some ys => if xs.length + ys.length ≤ SZ then some (xs ++ ys) else none
  | _, _ => none
theorem op_pCat : OpR X (binaryOp .Add) (rPL X.K pCat) := by
  intro pins s σ H x y v u Q I rx ry ⟨F, ι, st, a, b, d, S, ra, rb, e, q⟩
  unfold pCat at e
  split at e
  · rename_i xs ys e1 e2
    split at e
    · rename_i hz
      cases e
      obtain ⟨a1, vs1, q1, h1, r1⟩ := S.lst ra e1
      obtain ⟨a2, vs2, q2, h2, r2⟩ := S.lst rb e2
      subst q1 q2
      exact op_cat pins s σ H _ _ v u Q I rx ry ⟨a1, a2, vs1, vs2, rfl, rfl, h1, h2, by rw [← r1.length, ← r2.length]; exact sz_le hz, fun p hp => q _ _ (Ext.laid hp) (S.laid hp) (pL_new S hp (r1.append r2))⟩
    · cases e
  · cases e
theorem Reps.rep {K : PySem.W.Frag} {F : Hp} {ι : List Addr} {xs : List D} {vs : List V} (h : Reps K F ι xs vs) : ∀ k : Nat, Reps K F ι (List.replicate k xs).flatten (List.replicate k vs).flatten
  | 0 => Reps.nil
  | k + 1 => by
    rw [List.replicate_succ, List.replicate_succ, List.flatten_cons, List.flatten_cons]
    exact h.append (Reps.rep h k)
def pRepL : Sto → D → D → Option (List D) := fun st a b => match lstOf st a, b with
  | some xs, .int k => if xs.length * k.toNat ≤ SZ ∧ -1000000 ≤ k ∧ k ≤ 1000000 then some (List.replicate k.toNat xs).flatten else none
  | _, _ => none
theorem op_pRepL : OpR X (binaryOp .Mult) (rPL X.K pRepL) := by
  intro pins s σ H x y v u Q I rx ry ⟨F, ι, st, a, b, d, S, ra, rb, e, q⟩
  unfold pRepL at e
  split at e
  · rename_i xs k e1
    split at e
    · rename_i hz
      cases e
      obtain ⟨a1, vs1, q1, h1, r1⟩ := S.lst ra e1
      simp only [Rep] at rb
      subst q1 rb
      exact op_rep pins s σ H _ _ v u Q I rx ry ⟨a1, k, vs1, rfl, rfl, h1, by omega, by omega, by rw [← r1.length]; exact sz_le hz.1, fun p hp => q _ _ (Ext.laid hp) (S.laid hp) (pL_new S hp (r1.rep _))⟩
    · cases e
  · cases e
end
end Dn
namespace Dn
open PySem PySem.Spec PyProof.Rows L2
theorem tuple_mul_same (l : Addr) (items : Array Value) (n : Nat) (dd : Option Addr) (sl : Array (Option Value)) (x : Int) (u : Tok) (c0 : (decide (x < -(2 ^ 63)) || decide (x ≥ 2 ^ 63)) = false) (c1 : (items.isEmpty || x == 1) = true) :
    Meets (Builtin.«tuple.__mul__» ⟨[.ref l, .int x u], []⟩) (fun _ R s => s.heap.get? l = some { cls := .type "tuple", dict := dd, data := .seq items n, slots := sl } ∧
      R (.ok (.ret (Value.ref l))) s) :=
  .of_wp fun prog w A R s h => by
    obtain ⟨hp, g, d, tk, os⟩ := s
    obtain ⟨hl, h⟩ := h
    have f1 := AutoSeq1.idx_int
    wp_walk using wpAny_loadPart' hl
    repeat (first
      | (refine wpAny_ite_false (decide_eq_false (by rw [c0]; exact Bool.false_ne_true)) ?_; wp_walk using wpAny_loadPart' hl)
      | (refine wpAny_ite_true (decide_eq_true (by rw [c1])) ?_; wp_walk using wpAny_loadPart' hl))
    exact ⟨_, rfl, h⟩
theorem tuple_mul_nil (l : Addr) (items : Array Value) (n : Nat) (dd : Option Addr) (sl : Array (Option Value)) (x : Int) (u : Tok) (c0 : (decide (x < -(2 ^ 63)) || decide (x ≥ 2 ^ 63)) = false) (c1 : (items.isEmpty || x == 1) = false) (c2 : (decide (x ≤ 0) || items.isEmpty) = true) :
    Meets (Builtin.«tuple.__mul__» ⟨[.ref l, .int x u], []⟩) (fun _ R s => s.heap.get? l = some { cls := .type "tuple", dict := dd, data := .seq items n, slots := sl } ∧
      R (.ok (.ret (Value.ref s.heap.objs.size))) { s with heap := s.heap.push { cls := Value.type "tuple", data := Data.seq #[] }, toks := s.toks }) :=
  .of_wp fun prog w A R s h => by
    obtain ⟨hp, g, d, tk, os⟩ := s
    obtain ⟨hl, h⟩ := h
    have f1 := AutoSeq1.idx_int
    wp_walk using wpAny_loadPart' hl
    repeat (first
      | (refine wpAny_ite_false (decide_eq_false (by rw [c0]; exact Bool.false_ne_true)) ?_; wp_walk using wpAny_loadPart' hl)
      | (refine wpAny_ite_false (decide_eq_false (by rw [c1]; exact Bool.false_ne_true)) ?_; wp_walk using wpAny_loadPart' hl)
      | (refine wpAny_ite_true (decide_eq_true (by rw [c2])) ?_; wp_walk using wpAny_loadPart' hl))
    exact ⟨_, rfl, h⟩
section
variable {X : Cx} {W : WX} {pos : Pos} {a b c : Expr} {m1 m2 m3 : Rho → M D}
theorem op_repP : OpR X (binaryOp .Mult) (fun x y H Q => ∃ l k xs, x = .ref l ∧ y = .int k ∧ SqT X.K H l xs ∧ xs ≠ [] ∧ 2 ≤ k ∧ k ≤ 1000 ∧ xs.length ≤ 1000 ∧ ∀ (p : Addr) (o : Obj), o.dict = none → H p = none → Q (.ref p) (upd H p (.frz o (.tup (List.replicate k.toNat xs).flatten)))) := by
  intro pins s σ H x y v u Q I rx ry ⟨l, k, xs, e1, e2, hT, hne, h1, h2, hz, q⟩
  subst e1 e2
  cases rx
  obtain ⟨t, rfl⟩ := ry
  obtain ⟨its, r, ⟨⟨C, dd, dt, sl⟩, ho, hc, n, hd⟩, hs⟩ := I.tuple hT
  simp only at hc hd
  subst hc hd
  have hlen : its.length = xs.length := r.length.symm
  have hin : its ≠ [] := fun e => hne (List.eq_nil_of_length_eq_zero (by rw [← hlen, e]; rfl))
  have hie : its.toArray.isEmpty = false := by
    cases its with
    | nil => exact absurd rfl hin
    | cons _ _ => rfl
  have hsz : its.toArray.size = xs.length := by rw [List.size_toArray, hlen]
  have hmul : ((its.toArray.size : Nat) : Int) * k ≤ 1000000 := by
    rw [hsz]
    have := Int.mul_le_mul_of_nonneg_right (show ((xs.length : Nat) : Int) ≤ 1000 by omega) (show 0 ≤ k by omega)
    omega
  have hnat : k.toNat * xs.length ≤ 1000000 := Nat.le_trans (Nat.mul_le_mul (show k.toNat ≤ 1000 by omega) hz) (by decide)
  have hflat : (List.replicate k.toNat its).flatten.length ≤ sizeLine := by
    rw [PyProof.Rows.lm_len_rep_flat, hlen, sizeLine_eq]
    omega
  have d0 : (decide (k < -(2 ^ 63)) || decide (k ≥ 2 ^ 63)) = false := by
    rw [Bool.or_eq_false_iff]
    exact ⟨decide_eq_false (by omega), decide_eq_false (by omega)⟩
  have d1 : (its.toArray.isEmpty || k == 1) = false := by
    rw [Bool.or_eq_false_iff]
    exact ⟨hie, beq_eq_false_iff_ne.mpr (by omega)⟩
  have d2 : (decide (k ≤ 0) || its.toArray.isEmpty) = false := by
    rw [Bool.or_eq_false_iff]
    exact ⟨decide_eq_false (by omega), hie⟩
  have d4 : Builtin.Tuple.tupleTooMany (((its.toArray.size : Nat) : Int) * k) = false := by
    unfold Builtin.Tuple.tupleTooMany
    exact decide_eq_false (by rw [sizeLine_eq]; omega)
  refine wpAny_binaryOp_repeat_ref (T := "tuple") (U := "int") (by decide) ⟨_, ho, rfl⟩ (fun s' => typeIs_int s' k t) noFill_tuple_mul PySem.F.fills_int_mul PySem.F.slot_int_rmul repeat_tuple PySem.F.slot_int_index.lookup
    (call_meets PySem.F.slot_int_rmul (typeIs_int s k t) PySem.F.entry_int_rmul (PySem.F.args_int_rmul_2 _ _) (int_rmul_tuple k t l its.toArray n dd sl) ⟨ho, rfl, ⟨_, ho, rfl⟩,
      call_meets PySem.F.slot_tuple_mul ⟨_, ho, rfl⟩ PySem.F.entry_tuple_mul (PySem.F.args_tuple_mul_2 _ _) (tuple_mulW l its.toArray n dd sl k t d0 d1 d2 (by omega) d4 (by rw [size_rep, List.size_toArray]; exact hflat)) ⟨ho, ?_⟩⟩)
  rw [size_rep]
  exact fin_tup (t' := s.toks) I (r.rep k.toNat) (by rw [PyProof.Rows.lm_len_rep_flat, sizeLine_eq]; omega) q
noncomputable def pMul : Sto → D → D → Option D := fun _ a b => match a, b with
  | .int i, .int j => @ite _ (i.natAbs < 2 ^ 64 ∨ j.natAbs < 2 ^ 64) (Classical.propDecidable _) (some (.int (i * j))) (none)
  | .tup xs, .int k => if xs.length ≤ 1000 ∧ -1000 ≤ k ∧ k ≤ 1000 then some (.tup (List.replicate k.toNat xs).flatten) else none
  | _, _ => none
theorem op_pMul : OpR X (binaryOp .Mult) (rP X.K pMul) := by
  intro pins s σ H x y v u Q I rx ry ⟨F, ι, st, a, b, d, S, ra, rb, e, q⟩
  unfold pMul at e
  split at e
  · split at e
    · rename_i hc
      cases e
      simp only [Rep] at ra rb
      subst ra rb
      refine op_mul pins s σ H _ _ v u Q I rx ry ⟨_, _, rfl, rfl, ?_, q F H _ Ext.refl S (by simp only [Rep])⟩
      rcases hc with h | h
      · exact .inl (by omega)
      · exact .inr (by omega)
    · cases e
  · split at e
    · rename_i xs k hc
      cases e
      have ra' := ra
      simp only [Rep] at ra rb
      obtain ⟨a1, vs, e1, h1, r1⟩ := ra
      subst e1 rb
      have hT := S.sqT h1
      have hx := rx
      cases rx
      obtain ⟨t, rfl⟩ := ry
      obtain ⟨its, r, ⟨⟨cls, dd, data, sl⟩, ho, hc1, n, hd⟩, hs⟩ := I.tuple hT
      simp only at hc1 hd
      subst hc1 hd
      have hle : its.length = xs.length := r.length.symm.trans r1.length.symm
      have c0 : (decide (k < -(2 ^ 63)) || decide (k ≥ 2 ^ 63)) = false := by
        rw [decide_eq_false (by omega), decide_eq_false (by omega)] <;> rfl
      by_cases c1 : (its.toArray.isEmpty || k == 1) = true
      · refine wpAny_binaryOp_repeat_ref (T := "tuple") (U := "int") (by decide) ⟨_, ho, rfl⟩ (fun s' => typeIs_int s' k t) noFill_tuple_mul PySem.F.fills_int_mul PySem.F.slot_int_rmul repeat_tuple PySem.F.slot_int_index.lookup
          (call_meets PySem.F.slot_int_rmul (typeIs_int s k t) PySem.F.entry_int_rmul (PySem.F.args_int_rmul_2 _ _) (int_rmul_tuple k t a1 its.toArray n dd sl)
            ⟨ho, rfl, ⟨_, ho, rfl⟩, call_meets PySem.F.slot_tuple_mul ⟨_, ho, rfl⟩ PySem.F.entry_tuple_mul (PySem.F.args_tuple_mul_2 _ _) (tuple_mul_same a1 its.toArray n dd sl k t c0 c1) ⟨ho, ?_⟩⟩)
        refine ⟨.ref a1, H, I, rfl, q F H _ Ext.refl S ?_⟩
        have e2 : (List.replicate k.toNat xs).flatten = xs := by
          rw [Bool.or_eq_true] at c1
          rcases c1 with c1 | c1
          · have : its = [] := by simpa using c1
            have h0 : xs = [] := List.eq_nil_of_length_eq_zero (by rw [← hle, this]; rfl)
            subst h0
            simp
          · have : k = 1 := by simpa using c1
            subst this
            simp
        rw [e2]
        exact ra'
      · have c1 : (its.toArray.isEmpty || k == 1) = false := by simpa using c1
        by_cases c2 : (decide (k ≤ 0) || its.toArray.isEmpty) = true
        · refine wpAny_binaryOp_repeat_ref (T := "tuple") (U := "int") (by decide) ⟨_, ho, rfl⟩ (fun s' => typeIs_int s' k t) noFill_tuple_mul PySem.F.fills_int_mul PySem.F.slot_int_rmul repeat_tuple PySem.F.slot_int_index.lookup
            (call_meets PySem.F.slot_int_rmul (typeIs_int s k t) PySem.F.entry_int_rmul (PySem.F.args_int_rmul_2 _ _) (int_rmul_tuple k t a1 its.toArray n dd sl)
              ⟨ho, rfl, ⟨_, ho, rfl⟩, call_meets PySem.F.slot_tuple_mul ⟨_, ho, rfl⟩ PySem.F.entry_tuple_mul (PySem.F.args_tuple_mul_2 _ _) (tuple_mul_nil a1 its.toArray n dd sl k t c0 c1 c2) ⟨ho, ?_⟩⟩)
          have e2 : (List.replicate k.toNat xs).flatten = [] := by
            rw [Bool.or_eq_true] at c2
            rcases c2 with c2 | c2
            · have : k.toNat = 0 := by
                have := of_decide_eq_true c2
                omega
              rw [this]
              rfl
            · rw [Bool.or_eq_false_iff] at c1
              rw [c1.1] at c2
              cases c2
          rw [e2] at q
          exact fin_tup (t' := s.toks) I (ys := []) (its := []) .nil (Nat.zero_le _) (new_tup S Reps.nil q)
        · have h2 : 2 ≤ k := by
            simp only [Bool.or_eq_true, decide_eq_true_eq, not_or] at c2
            rw [Bool.or_eq_false_iff] at c1
            have : k ≠ 1 := by simpa using c1.2
            omega
          have hne : vs ≠ [] := by
            intro h0
            rw [Bool.or_eq_false_iff] at c1
            have h1 := c1.1
            subst h0
            cases r
            simp at h1
          exact op_repP pins s σ H _ _ _ _ Q I hx (show RelV (V.int k) (Value.int k t) from ⟨t, rfl⟩) ⟨a1, k, vs, rfl, rfl, hT, hne, h2, hc.2.2, by rw [← r1.length]; exact hc.1, new_tup S (r1.rep _) q⟩
    · cases e
  · cases e
def pEq : Sto → D → D → Option D := fun st a b => match a, b with
  | .str x, .str y => some (.bl ((x == y)))
  | a, b => match dat st a, dat st b with
  | some p, some q => if min p.depth q.depth ≤ 64 then some (.bl (PyData.eqv p q)) else none
  | _, _ => none
def pNe : Sto → D → D → Option D := fun st a b => match a, b with
  | .str x, .str y => some (.bl (!(x == y)))
  | a, b => match dat st a, dat st b with
  | some p, some q => if min p.depth q.depth ≤ 64 then some (.bl (!PyData.eqv p q)) else none
  | _, _ => none
mutual
theorem plain_toP : ∀ d : D, isP d = true → (toP d).plain = true
  | .non, _ => rfl
  | .bl _, _ => rfl
  | .int _, _ => rfl
  | .str _, _ => rfl
  | .tup xs, h => by
    simp only [isP] at h
    simp only [toP, PyData.plain]
    exact plain_toPs xs h
  | .lst xs, h => by
    simp only [isP] at h
    simp only [toP, PyData.plain]
    exact plain_toPs xs h
  | .scr _, h => by simp [isP] at h
  | .ref _, h => by simp [isP] at h
  | .adr _, h => by simp [isP] at h
  | .fd _ _, h => by simp [isP] at h
  | .exo _ _ _ _, h => by simp [isP] at h
  | .obj _ _ _, h => by simp [isP] at h
  | .sd _, h => by simp [isP] at h
theorem plain_toPs : ∀ ds : List D, isPs ds = true → PyData.plainAll (toPs ds) = true
  | [], _ => rfl
  | d :: ds, h => by
    simp only [isPs, Bool.and_eq_true] at h
    simp only [toPs, PyData.plainAll, plain_toP d h.1, plain_toPs ds h.2, Bool.and_self]
end
theorem dat_plain {st : Sto} {d : D} {p : PyData} (h : dat st d = some p) : p.plain = true := by
  unfold dat at h
  split at h
  · split at h
    · split at h
      · rename_i hp
        cases h
        simp only [PyData.plain]
        exact plain_toPs _ hp
      · cases h
    · cases h
  · split at h
    · rename_i hp
      cases h
      exact plain_toP _ hp
    · cases h
theorem op_pEq (hu : X.A.units + 64 < cLine) : OpR X (compareOp .Eq) (rP X.K pEq) := by
  intro pins s σ H x y v u Q I rx ry ⟨F, ι, st, a, b, d, S, ra, rb, e, q⟩
  unfold pEq at e
  split at e
  · rename_i x1 y1
    cases e
    have e1 : x = V.str x1 := by simpa only [Rep] using ra
    have e2 : y = V.str y1 := by simpa only [Rep] using rb
    subst e1
    subst e2
    refine op_eq pins s σ H _ _ v u Q I rx ry ⟨rfl, ?_⟩
    rw [dec_str]
    exact q F H _ Ext.refl S (by simp only [Rep])
  split at e
  · rename_i p1 p2 e1 e2
    split at e
    · rename_i hc
      cases e
      obtain ⟨as, r1⟩ := Dp.reads I p1 x v (S.dp ra e1) rx
      obtain ⟨bs, r2⟩ := Dp.reads I p2 y u (S.dp rb e2) ry
      exact SeqAt.eq_plain r1 r2 (dat_plain e1) (dat_plain e2) (by omega) ⟨.bl _, H, I, rfl, q F H _ Ext.refl S (by simp only [Rep])⟩
    · cases e
  · cases e
theorem op_pNe (hu : X.A.units + 64 < cLine) : OpR X (compareOp .NotEq) (rP X.K pNe) := by
  intro pins s σ H x y v u Q I rx ry ⟨F, ι, st, a, b, d, S, ra, rb, e, q⟩
  unfold pNe at e
  split at e
  · rename_i x1 y1
    cases e
    have e1 : x = V.str x1 := by simpa only [Rep] using ra
    have e2 : y = V.str y1 := by simpa only [Rep] using rb
    subst e1
    subst e2
    refine op_ne pins s σ H _ _ v u Q I rx ry ⟨rfl, ?_⟩
    rw [dec_str]
    exact q F H _ Ext.refl S (by simp only [Rep])
  split at e
  · rename_i p1 p2 e1 e2
    split at e
    · rename_i hc
      cases e
      obtain ⟨as, r1⟩ := Dp.reads I p1 x v (S.dp ra e1) rx
      obtain ⟨bs, r2⟩ := Dp.reads I p2 y u (S.dp rb e2) ry
      exact SeqAt.ne_plain r1 r2 (dat_plain e1) (dat_plain e2) (by omega) ⟨.bl _, H, I, rfl, q F H _ Ext.refl S (by simp only [Rep])⟩
    · cases e
  · cases e
def inD (st : Sto) (a b : D) : Option Bool := match b with
  | .str y => match a with
    | .str x => some (!(Builtin.Str.occurrences y x 0 y.length 1).isEmpty)
    | _ => none
  | b => match dat st a, dat st b with
    | some p, some (.list ds) => if p.depth ≤ 64 then some (ds.any fun z => PyData.eqv z p) else none
    | some p, some (.tuple ds) => if p.depth ≤ 64 then some (ds.any fun z => PyData.eqv z p) else none
    | _, _ => none
def pIn : Sto → D → D → Option D := fun st a b => (inD st a b).map fun k => .bl k
def pNotIn : Sto → D → D → Option D := fun st a b => (inD st a b).map fun k => .bl (!k)
theorem op_pIn (hu : X.A.units + 65 < cLine) : OpR X (compareOp .In) (rP X.K pIn) := by
  intro pins s σ H x y v u Q I rx ry ⟨F, ι, st, a, b, d, S, ra, rb, e, q⟩
  unfold pIn inD at e
  split at e
  · split at e
    · cases e
      simp only [Rep] at ra rb
      subst ra rb
      exact op_in_str pins s σ H _ _ v u Q I rx ry ⟨_, _, rfl, rfl, q F H _ Ext.refl S (by simp only [Rep])⟩
    · cases e
  · split at e
    · rename_i p ds e1 e2
      split at e
      · rename_i hc
        cases e
        obtain ⟨as, r1⟩ := Dp.reads I p x v (S.dp ra e1) rx
        obtain ⟨bs, r2⟩ := Dp.reads I (.list ds) y u (S.dp rb e2) ry
        exact SeqAt.in_list_data r2 r1 (by simpa only [PyData.plain] using dat_plain e2) (dat_plain e1) (by omega) ⟨.bl _, H, I, rfl, q F H _ Ext.refl S (by simp only [Rep])⟩
      · cases e
    · rename_i p ds e1 e2
      split at e
      · rename_i hc
        cases e
        obtain ⟨as, r1⟩ := Dp.reads I p x v (S.dp ra e1) rx
        obtain ⟨bs, r2⟩ := Dp.reads I (.tuple ds) y u (S.dp rb e2) ry
        exact SeqAt.in_tuple_data r2 r1 (by simpa only [PyData.plain] using dat_plain e2) (dat_plain e1) (by omega) ⟨.bl _, H, I, rfl, q F H _ Ext.refl S (by simp only [Rep])⟩
      · cases e
    · cases e
theorem op_pNotIn (hu : X.A.units + 65 < cLine) : OpR X (compareOp .NotIn) (rP X.K pNotIn) := by
  intro pins s σ H x y v u Q I rx ry ⟨F, ι, st, a, b, d, S, ra, rb, e, q⟩
  unfold pNotIn inD at e
  split at e
  · split at e
    · cases e
      simp only [Rep] at ra rb
      subst ra rb
      exact op_notin_str pins s σ H _ _ v u Q I rx ry ⟨_, _, rfl, rfl, q F H _ Ext.refl S (by simp only [Rep])⟩
    · cases e
  · split at e
    · rename_i p ds e1 e2
      split at e
      · rename_i hc
        cases e
        obtain ⟨as, r1⟩ := Dp.reads I p x v (S.dp ra e1) rx
        obtain ⟨bs, r2⟩ := Dp.reads I (.list ds) y u (S.dp rb e2) ry
        exact SeqAt.notIn_list_data r2 r1 (by simpa only [PyData.plain] using dat_plain e2) (dat_plain e1) (by omega) ⟨.bl _, H, I, rfl, q F H _ Ext.refl S (by simp only [Rep])⟩
      · cases e
    · rename_i p ds e1 e2
      split at e
      · rename_i hc
        cases e
        obtain ⟨as, r1⟩ := Dp.reads I p x v (S.dp ra e1) rx
        obtain ⟨bs, r2⟩ := Dp.reads I (.tuple ds) y u (S.dp rb e2) ry
        exact SeqAt.notIn_tuple_data r2 r1 (by simpa only [PyData.plain] using dat_plain e2) (dat_plain e1) (by omega) ⟨.bl _, H, I, rfl, q F H _ Ext.refl S (by simp only [Rep])⟩
      · cases e
    · cases e
def pLt : Sto → D → D → Option D := fun st a b => match a, b with
  | .int i, .int j => some (.bl (decide (i < j)))
  | .str x, .str y => some (.bl (decide (x.cps.toList < y.cps.toList)))
  | .tup xs, .tup ys => if isPs xs = true ∧ isPs ys = true ∧ PySem.W.alikeAll (toPs xs) (toPs ys) = true ∧ PyData.depth (toP (.tup xs)) ≤ 64 then some (.bl (PySem.W.dataLt (toP (.tup xs)) (toP (.tup ys)))) else none
  | _, _ => none
def pLe : Sto → D → D → Option D := fun _ a b => match a, b with
  | .int i, .int j => some (.bl (decide (i ≤ j)))
  | _, _ => none
def pGt : Sto → D → D → Option D := fun _ a b => match a, b with
  | .int i, .int j => some (.bl (decide (j < i)))
  | _, _ => none
def pGe : Sto → D → D → Option D := fun _ a b => match a, b with
  | .int i, .int j => some (.bl (decide (j ≤ i)))
  | _, _ => none
theorem op_cmpI {f : Value → Value → Sem Value} {g : Int → Int → Bool} {p : Sto → D → D → Option D} (ho : OpR X f (rI0 fun i j => .bl (g i j)))
    (hp : ∀ st a b d, p st a b = some d → ∃ i j, a = .int i ∧ b = .int j ∧ d = .bl (g i j)) : OpR X f (rP X.K p) := by
  intro pins s σ H x y v u Q I rx ry ⟨F, ι, st, a, b, d, S, ra, rb, e, q⟩
  obtain ⟨i, j, e1, e2, e3⟩ := hp st a b d e
  subst e1 e2 e3
  simp only [Rep] at ra rb
  subst ra rb
  exact ho pins s σ H _ _ v u Q I rx ry ⟨i, j, rfl, rfl, q F H _ Ext.refl S (by simp only [Rep])⟩
theorem op_pLt (hu : X.A.units + 65 < cLine) : OpR X (compareOp .Lt) (rP X.K pLt) := by
  intro pins s σ H x y v u Q I rx ry ⟨F, ι, st, a, b, d, S, ra, rb, e, q⟩
  unfold pLt at e
  split at e
  · cases e
    simp only [Rep] at ra rb
    subst ra rb
    exact op_lt pins s σ H _ _ v u Q I rx ry ⟨_, _, rfl, rfl, q F H _ Ext.refl S (by simp only [Rep])⟩
  · cases e
    simp only [Rep] at ra rb
    subst ra rb
    exact op_lt_str pins s σ H _ _ v u Q I rx ry ⟨_, _, rfl, rfl, q F H _ Ext.refl S (by simp only [Rep])⟩
  · split at e
    · rename_i xs ys hc
      cases e
      obtain ⟨h1, h2, h3, h4⟩ := hc
      obtain ⟨as, r1⟩ := Dp.reads I _ x v (dp_of S.sub (.tup xs) x (by simp only [isP]; exact h1) ra) rx
      obtain ⟨bs, r2⟩ := Dp.reads I _ y u (dp_of S.sub (.tup ys) y (by simp only [isP]; exact h2) rb) ry
      exact PySem.W.lt_data r1 r2 (by simp only [toP, PySem.W.alike]; exact h3) (by simp only [toP]; exact fun h => nomatch h) (by omega) ⟨.bl _, H, I, rfl, q F H _ Ext.refl S (by simp only [Rep])⟩
    · cases e
  · cases e
theorem op_pLe : OpR X (compareOp .LtE) (rP X.K pLe) := op_cmpI op_le fun st a b d e => by
  unfold pLe at e
  split at e
  · cases e; exact ⟨_, _, rfl, rfl, rfl⟩
  · cases e
theorem op_pGt : OpR X (compareOp .Gt) (rP X.K pGt) := op_cmpI op_gt fun st a b d e => by
  unfold pGt at e
  split at e
  · cases e; exact ⟨_, _, rfl, rfl, rfl⟩
  · cases e
theorem op_pGe : OpR X (compareOp .GtE) (rP X.K pGe) := op_cmpI op_ge fun st a b d e => by
  unfold pGe at e
  split at e
  · cases e; exact ⟨_, _, rfl, rfl, rfl⟩
  · cases e
def D.isNon : D → Bool
  | .non => true
  | _ => false
def pIsNot : Sto → D → D → Option D := fun _ a b => match b with
  | .non => some (.bl (!a.isNon))
  | _ => none
theorem isNon_of {K : PySem.W.Frag} {F : Hp} {ι : List Addr} {d : D} {v : V} (r : Rep K F ι d v) : decide (v = V.non) = d.isNon := by
  cases d <;> simp only [Rep] at r <;> first
    | (subst r; rfl)
    | (subst r; exact decide_eq_false (fun h => nomatch h))
    | (obtain ⟨_, _, e, _⟩ := r; subst e; exact decide_eq_false (fun h => nomatch h))
    | (obtain ⟨_, e, _⟩ := r; subst e; exact decide_eq_false (fun h => nomatch h))
    | (obtain ⟨_, _, _, e, _⟩ := r; subst e; exact decide_eq_false (fun h => nomatch h))
    | (obtain ⟨_, _, _, _, e, _⟩ := r; subst e; exact decide_eq_false (fun h => nomatch h))
    | (rw [r.1]; exact decide_eq_false (fun h => nomatch h))
theorem op_pIsNot : OpR X (compareOp .IsNot) (rP X.K pIsNot) := by
  intro pins s σ H x y v u Q I rx ry ⟨F, ι, st, a, b, d, S, ra, rb, e, q⟩
  unfold pIsNot at e
  split at e
  · cases e
    simp only [Rep] at rb
    subst rb
    exact op_notN pins s σ H _ _ v u Q I rx ry ⟨rfl, by rw [isNon_of ra]; exact q F H _ Ext.refl S (by simp only [Rep])⟩
  · cases e
theorem de_cmp {op : CmpOp} {p : Sto → D → D → Option D} (ho : OpR X (compareOp op) (rP X.K p)) (ha : DE X W a m1) (hb : DE X W b m2) (hm : behindInMarks op b = false := by rfl) : DE X W (.Compare a [op] [b] pos) (mOp p m1 m2) :=
  PE.weak (pe_cmpR ho ha hb hm) fun _ _ _ h => tOp_of h
def isB (m : Rho → M D) : Rho → M Bool := fun ρ st => (m ρ st).bind fun d st1 => match d with
  | .bl k => .ok k st1
  | _ => .bad
theorem isB_of {K : PySem.W.Frag} {m : Rho → M D} {σ : L2.St} {H : Hp} {Q : Bool → Hp → Prop} (h : tT K W (isB m) σ H Q) : tTest (tV K W m) σ H Q := by
  obtain ⟨F, ι, ρ, st, S, R, q⟩ := h
  refine tG_seq back_B S R q fun d1 st1 F1 ι1 H1 v1 x1 S1 R1 r1 q1 => ?_
  split at q1
  · have r : Rep K F1 ι1 (.bl _) v1 := r1
    simp only [Rep] at r
    exact ⟨_, r, q1 F1 ι1 H1 _ Ext.refl S1 rfl⟩
  · exact q1.elim
theorem dt_cmp {op : CmpOp} {p : Sto → D → D → Option D} (ho : OpR X (compareOp op) (rP X.K p)) (ha : DE X W a m1) (hb : DE X W b m2) (hm : behindInMarks op b = false := by rfl) : DT X W (.Compare a [op] [b] pos) (isB (mOp p m1 m2)) :=
  PT.weak (pt_cmpR ho ha hb hm) fun σ H Q h => by
    have q := isB_of h
    unfold tTest at q ⊢
    exact tOp_of q
def mChain (p p' : Sto → D → D → Option D) (m1 m2 m3 : Rho → M D) : Rho → M D := fun ρ st => (m1 ρ st).bind fun a st1 => (m2 ρ st1).bind fun b st2 => match p st2 a b with
  | some (.bl true) => (m3 ρ st2).bind fun c st3 => lift (p' st3 b c) st3
  | some (.bl false) => .ok (.bl false) st2
  | _ => .bad
theorem tChain_of {K : PySem.W.Frag} {p p' : Sto → D → D → Option D} {σ : L2.St} {H : Hp} {Q : VK} (h : tV K W (mChain p p' m1 m2 m3) σ H Q) : tChain (rP K p) (rP K p') (tV K W m1) (tV K W m2) (tV K W m3) σ H Q := by
  obtain ⟨F, ι, ρ, st, S, R, q⟩ := h
  refine tG_seq back_V S R q fun d1 st1 F1 ι1 H1 v1 x1 S1 R1 r1 q1 => ?_
  refine tG_seq back_V S1 R1 q1 fun d2 st2 F2 ι2 H2 v2 x2 S2 R2 r2 q2 => ?_
  split at q2
  · rename_i e
    refine ⟨F2, ι2, st2, d1, d2, .bl true, S2, Rep.ext r1 x2, r2, e, fun F3 H3 v x3 S3 r3 => ?_⟩
    simp only [Rep] at r3
    refine ⟨true, r3, ?_⟩
    rw [if_pos rfl]
    refine tG_seq back_V S3 (R2.ext x3) (post_ext back_V q2 x3) fun d3 st4 F4 ι4 H4 v4 x4 S4 R4 r4 q4 => ?_
    cases e' : p' st4 d2 d3 with
    | none => rw [e'] at q4; exact q4.elim
    | some d =>
      rw [e'] at q4
      exact ⟨F4, ι4, st4, d2, d3, d, S4, Rep.ext (Rep.ext r2 x3) x4, r4, e', fun F' H' v x S' r => q4 F' ι4 H' v x S' r⟩
  · rename_i e
    refine ⟨F2, ι2, st2, d1, d2, .bl false, S2, Rep.ext r1 x2, r2, e, fun F3 H3 v x3 S3 r3 => ?_⟩
    simp only [Rep] at r3
    refine ⟨false, r3, ?_⟩
    rw [if_neg (by decide)]
    exact q2 F3 ι2 H3 _ x3 S3 (by show Rep _ _ _ _ _; simp only [Rep])
  · exact q2.elim
theorem de_chain {op op' : CmpOp} {p p' : Sto → D → D → Option D} (ho : OpR X (compareOp op) (rP X.K p)) (ho' : OpR X (compareOp op') (rP X.K p')) (ha : DE X W a m1) (hb : DE X W b m2) (hc : DE X W c m3)
    (hm : lastMarks [op, op'] [b, c] = false := by with_unfolding_all rfl) : DE X W (.Compare a [op, op'] [b, c] pos) (mChain p p' m1 m2 m3) :=
  PE.weak (pe_chain ho ho' ha hb hc hm) fun _ _ _ h => tChain_of h
theorem dt_chain {op op' : CmpOp} {p p' : Sto → D → D → Option D} (ho : OpR X (compareOp op) (rP X.K p)) (ho' : OpR X (compareOp op') (rP X.K p')) (ha : DE X W a m1) (hb : DE X W b m2) (hc : DE X W c m3)
    (hm : lastMarks [op, op'] [b, c] = false := by with_unfolding_all rfl) : DT X W (.Compare a [op, op'] [b, c] pos) (isB (mChain p p' m1 m2 m3)) :=
  PT.weak (pt_chain ho ho' ha hb hc hm) fun σ H Q h => by
    have q := isB_of h
    unfold tTest at q ⊢
    exact tChain_of q
def D.truth (st : Sto) : D → Option Bool
  | .non => some false
  | .bl b => some b
  | .int i => some (i != 0)
  | .str s => if s.length ≤ sizeLine then some ((s.length : Int) != 0) else none
  | d => (seqOf st d).map fun xs => !xs.isEmpty
theorem isEmpty_reps {K : PySem.W.Frag} {F : Hp} {ι : List Addr} {xs : List D} {vs : List V} (r : Reps K F ι xs vs) : (!xs.isEmpty) = !vs.isEmpty := by
  have := r.length
  cases xs <;> cases vs <;> simp at this ⊢
theorem truth_of {K : PySem.W.Frag} {F : Hp} {ι : List Addr} {H : Hp} {st : Sto} {d : D} {v : V} {k : Bool} (S : Sim K F ι st H) (r : Rep K F ι d v) (h : d.truth st = some k) : TruV K v H k := by
  unfold D.truth at h
  split at h
  · cases h; simp only [Rep] at r; subst r; rfl
  · cases h; simp only [Rep] at r; subst r; rfl
  · cases h; simp only [Rep] at r; subst r; rfl
  · split at h
    · rename_i hz
      cases h; simp only [Rep] at r; subst r; exact ⟨hz, rfl⟩
    · cases h
  · cases e : seqOf st d with
    | none => rw [e] at h; cases h
    | some xs =>
      rw [e] at h
      cases h
      obtain ⟨a, vs, e1, hs, r1⟩ := S.seq r e
      subst e1
      show TruV K (V.ref a) H (!xs.isEmpty)
      rw [isEmpty_reps r1]
      rcases hs with hs | hs
      · exact .inl ⟨vs, hs, rfl⟩
      · exact .inr (.inl ⟨vs, hs, rfl⟩)
def mTru (m : Rho → M D) : Rho → M Bool := fun ρ st => (m ρ st).bind fun d st1 => lift (d.truth st1) st1
theorem dt_tru (ha : DE X W a m1) (he : ∀ whole, isTrue a X.env whole = (do let v ← whole; standAt a.pos; holding [v] (truthy v)) := by intro _; rfl) : DT X W a (mTru m1) := by
  refine PT.weak (pt_truth ha he) fun σ H Q ⟨F, ι, ρ, st, S, R, q⟩ => ?_
  refine tG_seq back_B S R q fun d1 st1 F1 ι1 H1 v1 x1 S1 R1 r1 q1 => ?_
  cases e : d1.truth st1 with
  | none => rw [e] at q1; exact q1.elim
  | some k =>
    rw [e] at q1
    exact ⟨k, truth_of S1 r1 e, q1 F1 ι1 H1 k Ext.refl S1 rfl⟩
def DW (X : Cx) (W : WX) (e : Expr) (m : Rho → M Bool) : Prop := PW X e (tT X.K W m)
theorem PW.weak {X : Cx} {e : Expr} {t t' : TT} (h : PW X e t) (w : ∀ σ H Q, t' σ H Q → t σ H Q) : PW X e t' := ⟨fun wh pins s σ H Q I q => h.run wh pins s σ H Q I (w σ H Q q)⟩
theorem dt_w {e : Expr} {m : Rho → M Bool} (h : DW X W e m) : DT X W e m := L2.PW.pt h
def bAnd (m1 m2 : Rho → M Bool) : Rho → M Bool := fun ρ st => (m1 ρ st).bind fun k st1 => if k = true then m2 ρ st1 else .ok false st1
def bOr (m1 m2 : Rho → M Bool) : Rho → M Bool := fun ρ st => (m1 ρ st).bind fun k st1 => if k = true then .ok true st1 else m2 ρ st1
def bNot (m1 : Rho → M Bool) : Rho → M Bool := fun ρ st => (m1 ρ st).bind fun k st1 => .ok (!k) st1
variable {b1 b2 : Rho → M Bool} {rest : List Expr}
theorem dw_and1 (ha : DT X W a b1) : DW X W (.BoolOp .And [a] pos) b1 := pw_and1 ha
theorem dw_or1 (ha : DT X W a b1) : DW X W (.BoolOp .Or [a] pos) b1 := pw_or1 ha
theorem dw_and (ha : DT X W a b1) (hb : DW X W (.BoolOp .And (b :: rest) pos) b2) : DW X W (.BoolOp .And (a :: b :: rest) pos) (bAnd b1 b2) := by
  refine PW.weak (pw_and ha hb) fun σ H Q ⟨F, ι, ρ, st, S, R, q⟩ => ?_
  refine tG_seq back_B S R q fun k st1 F1 ι1 H1 k' x1 S1 R1 r1 q1 => ?_
  have r1 : k = k' := r1
  subst r1
  cases k with
  | true => exact ⟨F1, ι1, ρ, st1, S1, R1, q1⟩
  | false => exact q1 F1 ι1 H1 false Ext.refl S1 rfl
theorem dw_or (ha : DT X W a b1) (hb : DW X W (.BoolOp .Or (b :: rest) pos) b2) : DW X W (.BoolOp .Or (a :: b :: rest) pos) (bOr b1 b2) := by
  refine PW.weak (pw_or ha hb) fun σ H Q ⟨F, ι, ρ, st, S, R, q⟩ => ?_
  refine tG_seq back_B S R q fun k st1 F1 ι1 H1 k' x1 S1 R1 r1 q1 => ?_
  have r1 : k = k' := r1
  subst r1
  cases k with
  | false => exact ⟨F1, ι1, ρ, st1, S1, R1, q1⟩
  | true => exact q1 F1 ι1 H1 true Ext.refl S1 rfl
theorem dt_not (ha : DT X W a b1) : DT X W (.UnaryOp .Not a pos) (bNot b1) := by
  refine PT.weak (pt_not ha) fun σ H Q ⟨F, ι, ρ, st, S, R, q⟩ => ?_
  refine tG_seq back_B S R q fun k st1 F1 ι1 H1 k' x1 S1 R1 r1 q1 => ?_
  have r1 : k = k' := r1
  subst r1
  exact q1 F1 ι1 H1 _ Ext.refl S1 rfl
def mAndV (m1 m2 : Rho → M D) : Rho → M D := fun ρ st => (m1 ρ st).bind fun d st1 => (lift (d.truth st1) st1).bind fun k st2 => if k = true then m2 ρ st2 else .ok d st2
def mOrV (m1 m2 : Rho → M D) : Rho → M D := fun ρ st => (m1 ρ st).bind fun d st1 => (lift (d.truth st1) st1).bind fun k st2 => if k = true then .ok d st2 else m2 ρ st2
def mNotV (m1 : Rho → M D) : Rho → M D := fun ρ st => (m1 ρ st).bind fun d st1 => (lift (d.truth st1) st1).bind fun k st2 => .ok (.bl (!k)) st2
theorem de_one {op : BoolOp} (h : DE X W a m1) : DE X W (.BoolOp op [a] pos) m1 := pe_one h
theorem de_and (ha : DE X W a m1) (hb : DE X W (.BoolOp .And (b :: rest) pos) m2) : DE X W (.BoolOp .And (a :: b :: rest) pos) (mAndV m1 m2) := by
  refine PE.weak (pe_andT ha hb) fun σ H Q ⟨F, ι, ρ, st, S, R, q⟩ => ?_
  refine tG_seq back_V S R q fun d1 st1 F1 ι1 H1 v1 x1 S1 R1 r1 q1 => ?_
  cases e : d1.truth st1 with
  | none => rw [e] at q1; exact q1.elim
  | some k =>
    rw [e] at q1
    refine ⟨k, truth_of S1 r1 e, ?_⟩
    cases k with
    | true => exact ⟨F1, ι1, ρ, st1, S1, R1, q1⟩
    | false => exact q1 F1 ι1 H1 _ Ext.refl S1 r1
theorem de_or (ha : DE X W a m1) (hb : DE X W (.BoolOp .Or (b :: rest) pos) m2) : DE X W (.BoolOp .Or (a :: b :: rest) pos) (mOrV m1 m2) := by
  refine PE.weak (pe_orT ha hb) fun σ H Q ⟨F, ι, ρ, st, S, R, q⟩ => ?_
  refine tG_seq back_V S R q fun d1 st1 F1 ι1 H1 v1 x1 S1 R1 r1 q1 => ?_
  cases e : d1.truth st1 with
  | none => rw [e] at q1; exact q1.elim
  | some k =>
    rw [e] at q1
    refine ⟨k, truth_of S1 r1 e, ?_⟩
    cases k with
    | false => exact ⟨F1, ι1, ρ, st1, S1, R1, q1⟩
    | true => exact q1 F1 ι1 H1 _ Ext.refl S1 r1
theorem de_not (ha : DE X W a m1) : DE X W (.UnaryOp .Not a pos) (mNotV m1) := by
  refine PE.weak (pe_notT ha) fun σ H Q ⟨F, ι, ρ, st, S, R, q⟩ => ?_
  refine tG_seq back_V S R q fun d1 st1 F1 ι1 H1 v1 x1 S1 R1 r1 q1 => ?_
  cases e : d1.truth st1 with
  | none => rw [e] at q1; exact q1.elim
  | some k =>
    rw [e] at q1
    exact ⟨k, truth_of S1 r1 e, q1 F1 ι1 H1 _ Ext.refl S1 (by show Rep _ _ _ _ _; simp only [Rep])⟩
def mIf (t : Rho → M Bool) (m1 m2 : Rho → M D) : Rho → M D := fun ρ st => (t ρ st).bind fun k st1 => if k = true then m1 ρ st1 else m2 ρ st1
theorem de_if (hc : DT X W c b1) (ha : DE X W a m1) (hb : DE X W b m2) : DE X W (.IfExp c a b pos) (mIf b1 m1 m2) := by
  refine PE.weak (pe_ifExp hc ha hb) fun σ H Q ⟨F, ι, ρ, st, S, R, q⟩ => ?_
  refine tG_seq back_V S R q fun k st1 F1 ι1 H1 k' x1 S1 R1 r1 q1 => ?_
  have r1 : k = k' := r1
  subst r1
  cases k with
  | true => exact ⟨F1, ι1, ρ, st1, S1, R1, q1⟩
  | false => exact ⟨F1, ι1, ρ, st1, S1, R1, q1⟩
end
end Dn
namespace Dn
open PySem PySem.Spec PyProof.Rows L2
section
variable {X : Cx} {W : WX} {pos p2 : Pos} {a b c : Expr} {m1 m2 m3 : Rho → M D}
theorem atI_reps {K : PySem.W.Frag} {F : Hp} {ι : List Addr} {xs : List D} {vs : List V} {i : Int} {d : D} (r : Reps K F ι xs vs) (h : atI xs i = some d) : ∃ v, atI vs i = some v ∧ Rep K F ι d v := by
  unfold atI at h ⊢
  rw [← r.length]
  cases e : ixN xs.length i with
  | none => rw [e] at h; cases h
  | some j =>
    rw [e] at h
    exact r.get h
def pIdx : Sto → D → D → Option D := fun st a i => match a, i with
  | .str z, .int i => if z.length ≤ sizeLine then (atI z.cps.toList i).map fun c => .str ⟨#[c]⟩ else none
  | a, .int i => (seqOf st a).bind fun xs => atI xs i
  | _, _ => none
theorem ix_pIdx : IxR X (rP X.K pIdx) := by
  intro value slice pins s σ H x y v u Q I rx ry ⟨F, ι, st, a, b, d, S, ra, rb, e, q⟩ hs
  unfold pIdx at e
  split at e
  · split at e
    · rename_i hz
      rename_i i
      simp only [Rep] at ra rb
      subst ra rb
      rename_i z
      cases e2 : atI z.cps.toList i with
      | none => rw [e2] at e; cases e
      | some cc =>
        rw [e2] at e
        cases e
        exact ix_seq value slice pins s σ H _ _ v u Q I rx ry (.inr (.inr ⟨_, _, cc, rfl, rfl, hz, e2, q F H _ Ext.refl S (by simp only [Rep])⟩)) hs
    · cases e
  · rename_i i hn
    cases e1 : seqOf st a with
    | none => rw [e1] at e; cases e
    | some xs =>
      rw [e1] at e
      have e : atI xs i = some d := e
      obtain ⟨p, vs, e2, h2, r⟩ := S.seq ra e1
      simp only [Rep] at rb
      subst e2 rb
      obtain ⟨w, hw, rw'⟩ := atI_reps r e
      rcases h2 with h2 | h2
      · exact ix_seq value slice pins s σ H _ _ v u Q I rx ry (.inl ⟨p, vs, i, w, rfl, rfl, h2, hw, q F H _ Ext.refl S rw'⟩) hs
      · exact ix_seq value slice pins s σ H _ _ v u Q I rx ry (.inr (.inl ⟨p, vs, i, w, rfl, rfl, h2, hw, q F H _ Ext.refl S rw'⟩)) hs
  · cases e
theorem de_idx (ha : DE X W a m1) (hb : DE X W b m2) (hs : PlainIx b := by intro _ _; rfl) : DE X W (.Subscript a b pos) (mOp pIdx m1 m2) :=
  PE.weak (pe_ix ix_pIdx ha hb hs) fun _ _ _ h => tOp_of h
def pO : Hp → Hp → List Addr → Hp → Option Int → Option Int → Prop := fun _ _ _ _ b c => b = c
theorem back_O : Back pO := fun _ _ _ _ _ _ _ _ h => h
def DO (X : Cx) (W : WX) (e : Option Expr) (m : Rho → M (Option Int)) : Prop := PO X e (tG X.K W pO m)
theorem PO.weak {X : Cx} {e : Option Expr} {t t' : TO} (h : PO X e t) (w : ∀ σ H Q, t' σ H Q → t σ H Q) : PO X e t' := ⟨fun pins s σ H Q I q => h.run pins s σ H Q I (w σ H Q q)⟩
def oNone : Rho → M (Option Int) := fun _ st => .ok none st
def oSome (m : Rho → M D) : Rho → M (Option Int) := fun ρ st => (m ρ st).bind fun d st1 => match d with
  | .int i => .ok (some i) st1
  | _ => .bad
theorem do_none : DO X W none oNone := PO.weak po_none fun σ H Q ⟨F, ι, ρ, st, S, R, q⟩ => q F ι H none Ext.refl S rfl
theorem do_some (ha : DE X W a m1) : DO X W (some a) (oSome m1) := by
  refine PO.weak (po_some ha) fun σ H Q ⟨F, ι, ρ, st, S, R, q⟩ => ?_
  refine tG_seq back_O S R q fun d1 st1 F1 ι1 H1 v1 x1 S1 R1 r1 q1 => ?_
  split at q1
  · have r : Rep X.K F1 ι1 (.int _) v1 := r1
    simp only [Rep] at r
    exact ⟨_, r, q1 F1 ι1 H1 _ Ext.refl S1 rfl⟩
  · exact q1.elim
def cutD {α : Type} (xs : List α) (lo hi : Option Int) : List α := (xs.drop (HT.sIx xs.length 0 lo)).take (HT.sIx xs.length xs.length hi - HT.sIx xs.length 0 lo)
theorem Reps.drop {K : PySem.W.Frag} {F : Hp} {ι : List Addr} : ∀ {xs : List D} {vs : List V} (n : Nat), Reps K F ι xs vs → Reps K F ι (xs.drop n) (vs.drop n)
  | _, _, 0, r => r
  | [], _, _ + 1, r => by simp only [Reps] at r; subst r; exact Reps.nil
  | d :: ds, _, n + 1, r => by
    simp only [Reps] at r
    obtain ⟨v, rs, e, _, r2⟩ := r
    subst e
    exact Reps.drop n r2
theorem Reps.take {K : PySem.W.Frag} {F : Hp} {ι : List Addr} : ∀ {xs : List D} {vs : List V} (n : Nat), Reps K F ι xs vs → Reps K F ι (xs.take n) (vs.take n)
  | _, _, 0, r => by simp; exact Reps.nil
  | [], _, _ + 1, r => by simp only [Reps] at r; subst r; exact Reps.nil
  | d :: ds, _, n + 1, r => by
    simp only [Reps] at r
    obtain ⟨v, rs, e, r1, r2⟩ := r
    subst e
    exact Reps.cons r1 (Reps.take n r2)
theorem cut_reps {K : PySem.W.Frag} {F : Hp} {ι : List Addr} {xs : List D} {vs : List V} (r : Reps K F ι xs vs) (lo hi : Option Int) : Reps K F ι (cutD xs lo hi) (cutV vs lo hi) := by
  unfold cutD cutV
  rw [← r.length]
  exact (r.drop _).take _
theorem cutD_whole {α : Type} {xs : List α} {lo hi : Option Int} (h : HT.sIx xs.length 0 lo = 0 ∧ HT.sIx xs.length xs.length hi = xs.length) : cutD xs lo hi = xs := by
  unfold cutD
  rw [h.1, h.2]
  simp
def rSlP (K : PySem.W.Frag) : V → Option Int → Option Int → Hp → VK → Prop := fun x lo hi H Q => ∃ a xs, x = .ref a ∧ SqT K H a xs ∧
  (HT.sIx xs.length 0 lo = 0 ∧ HT.sIx xs.length xs.length hi = xs.length → Q (.ref a) H) ∧ (¬ (HT.sIx xs.length 0 lo = 0 ∧ HT.sIx xs.length xs.length hi = xs.length) → ∀ (p : Addr) (o : Obj), o.dict = none → H p = none → Q (.ref p) (upd H p (.frz o (.tup (cutV xs lo hi)))))
theorem sl_tupP : SlR X (rSlP X.K) := by
  intro pins s σ H x v vl vu lo hi sl Q I rx hs pl pu ⟨a, xs, e, hx, q1, q2⟩
  subst e
  by_cases hw : HT.sIx xs.length 0 lo = 0 ∧ HT.sIx xs.length xs.length hi = xs.length
  · exact sl_tupA pins s σ H _ v vl vu lo hi sl Q I rx hs pl pu ⟨a, xs, rfl, hx, q1, fun h => absurd hw h⟩
  · cases rx
    obtain ⟨its, r, ht, hz⟩ := I.tuple hx
    have hn : its.toArray.size = xs.length := by rw [List.size_toArray, r.length]
    refine ⟨"tuple", _, PyProof.Rows.slot_tuple_getitem.lookup, ht.typeIs, HT.getItem_tuple_cut ht hs pl pu (by rw [hn]; exact hw) ?_ (by rw [hn]; exact hz)⟩
    rw [hn]
    exact fin_tup (t' := s.toks) I ((r.drop (HT.sIx xs.length 0 lo)).take (HT.sIx xs.length xs.length hi - HT.sIx xs.length 0 lo)) (Nat.le_trans (cutV_length xs lo hi) hz) (q2 hw)
def mSlT (m : Rho → M D) (l h : Rho → M (Option Int)) : Rho → M D := fun ρ st => (m ρ st).bind fun d st1 => (l ρ st1).bind fun lo st2 => (h ρ st2).bind fun hi st3 => match d with
  | .tup xs => .ok (.tup (cutD xs lo hi)) st3
  | _ => .bad
theorem de_slT {lo hi : Option Expr} {l h : Rho → M (Option Int)} (ha : DE X W a m1) (hl : DO X W lo l) (hh : DO X W hi h) : DE X W (.Subscript a (.Slice lo hi none p2) pos) (mSlT m1 l h) := by
  refine PE.weak (pe_slice sl_tupP ha hl hh) fun σ H Q ⟨F, ι, ρ, st, S, R, q⟩ => ?_
  refine tG_seq back_V S R q fun d st1 F1 ι1 H1 v1 x1 S1 R1 r1 q1 => ?_
  refine tG_seq back_V S1 R1 q1 fun lo st2 F2 ι2 H2 lo' x2 S2 R2 r2 q2 => ?_
  refine tG_seq back_V S2 R2 q2 fun hi st3 F3 ι3 H3 hi' x3 S3 R3 r3 q3 => ?_
  have r2 : lo = lo' := r2
  have r3 : hi = hi' := r3
  subst r2 r3
  split at q3
  · rename_i xs
    have r : Rep X.K F3 ι3 (.tup xs) v1 := (Rep.ext r1 x2).ext x3
    have r' := r
    simp only [Rep] at r
    obtain ⟨p, vs, e, hq, rr⟩ := r
    subst e
    have q3' : ∀ F' H' v, Ext F3 ι3 H3 F' ι3 H' → Sim X.K F' ι3 st3 H' → Rep X.K F' ι3 (.tup (cutD xs lo hi)) v → Q v H' := fun F' H' v x S' r => q3 F' ι3 H' v x S' r
    refine ⟨p, vs, rfl, S3.sqT hq, fun hw => ?_, fun hw => new_tup S3 (cut_reps rr lo hi) q3'⟩
    exact same_tup S3 r' (cutD_whole (by rw [rr.length]; exact hw)).symm q3'
  · exact q3.elim
def lSlL (m : Rho → M D) (l h : Rho → M (Option Int)) : Rho → M (List D) := fun ρ st => (m ρ st).bind fun d st1 => (l ρ st1).bind fun lo st2 => (h ρ st2).bind fun hi st3 => match d with
  | .scr xs => .ok (cutD xs lo hi) st3
  | d => (lift (lstOf st3 d) st3).bind fun xs st4 => .ok (cutD xs lo hi) st4
theorem dl_slL {lo hi : Option Expr} {l h : Rho → M (Option Int)} (ha : DE X W a m1) (hl : DO X W lo l) (hh : DO X W hi h) : DL X W (.Subscript a (.Slice lo hi none p2) pos) (lSlL m1 l h) := by
  refine PE.weak (pe_slice sl_list ha hl hh) fun σ H Q ⟨F, ι, ρ, st, S, R, q⟩ => ?_
  refine tG_seq back_L S R q fun d st1 F1 ι1 H1 v1 x1 S1 R1 r1 q1 => ?_
  refine tG_seq back_L S1 R1 q1 fun lo st2 F2 ι2 H2 lo' x2 S2 R2 r2 q2 => ?_
  refine tG_seq back_L S2 R2 q2 fun hi st3 F3 ι3 H3 hi' x3 S3 R3 r3 q3 => ?_
  have r2 : lo = lo' := r2
  have r3 : hi = hi' := r3
  subst r2 r3
  have r : Rep X.K F3 ι3 d v1 := (Rep.ext r1 x2).ext x3
  split at q3
  · rename_i xs
    simp only [Rep] at r
    obtain ⟨p, vs, e, hq, rr⟩ := r
    subst e
    exact ⟨p, vs, rfl, S3.sqL hq, fun n hn => q3 F3 ι3 _ _ (Ext.laid hn) (S3.laid hn) (pL_new S3 hn (cut_reps rr lo hi))⟩
  · cases e : lstOf st3 d with
    | none => rw [e] at q3; exact q3.elim
    | some xs =>
      rw [e] at q3
      obtain ⟨p, vs, e2, hq, rr⟩ := S3.lst r e
      subst e2
      exact ⟨p, vs, rfl, SqL.of hq, fun n hn => q3 F3 ι3 _ _ (Ext.laid hn) (S3.laid hn) (pL_new S3 hn (cut_reps rr lo hi))⟩
end
end Dn
namespace Dn
open PySem PySem.Spec PyProof.Rows L2
def rB (K : PySem.W.Frag) (p : Sto → List D → Option D) : List V → Hp → VK → Prop := fun vs H Q => ∃ F ι st ds d, Sim K F ι st H ∧ Reps K F ι ds vs ∧ p st ds = some d ∧
  ∀ F' H' v, Ext F ι H F' ι H' → Sim K F' ι st H' → Rep K F' ι d v → Q v H'
def rBL (K : PySem.W.Frag) (p : Sto → List D → Option (List D)) : List V → Hp → VK → Prop := fun vs H Q => ∃ F ι st ds xs, Sim K F ι st H ∧ Reps K F ι ds vs ∧ p st ds = some xs ∧
  ∀ H' v, Ext F ι H F ι H' → Sim K F ι st H' → pL K H F ι H' xs v → Q v H'
def mB (p : Sto → List D → Option D) (a : Rho → M (List D)) : Rho → M D := fun ρ st => (a ρ st).bind fun ds st1 => lift (p st1 ds) st1
def lB (p : Sto → List D → Option (List D)) (a : Rho → M (List D)) : Rho → M (List D) := fun ρ st => (a ρ st).bind fun ds st1 => lift (p st1 ds) st1
section
variable {X : Cx} {W : WX} {pos p2 p : Pos} {e : Expr} {es : List Expr} {bid T : String} {x : Str} {m1 m2 : Rho → M D} {am : Rho → M (List D)} {pf : Sto → List D → Option D} {pl : Sto → List D → Option (List D)}
theorem tCB_of {σ : L2.St} {H : Hp} {Q : VK} (h : tV X.K W (mB pf am) σ H Q) : tCB (rB X.K pf) (tA X.K W am) σ H Q := by
  obtain ⟨F, ι, ρ, st, S, R, q⟩ := h
  refine tG_seq back_V S R q fun ds st1 F1 ι1 H1 vs x1 S1 R1 r1 q1 => ?_
  cases e : pf st1 ds with
  | none => rw [e] at q1; exact q1.elim
  | some d =>
    rw [e] at q1
    exact ⟨F1, ι1, st1, ds, d, S1, r1, e, fun F' H' v x S' r => q1 F' ι1 H' v x S' r⟩
theorem tCBL_of {σ : L2.St} {H : Hp} {Q : VK} (h : tL X.K W (lB pl am) σ H Q) : tCB (rBL X.K pl) (tA X.K W am) σ H Q := by
  obtain ⟨F, ι, ρ, st, S, R, q⟩ := h
  refine tG_seq back_L S R q fun ds st1 F1 ι1 H1 vs x1 S1 R1 r1 q1 => ?_
  cases e : pl st1 ds with
  | none => rw [e] at q1; exact q1.elim
  | some d =>
    rw [e] at q1
    exact ⟨F1, ι1, st1, ds, d, S1, r1, e, fun H' v x S' r => q1 F1 ι1 H' v x S' r⟩
theorem de_b (hc : CallR X (.builtin bid) (rB X.K pf)) (hg : Gl X x) (hm : X.mg x = none) (hv : bootBuiltins x = some (.builtin bid)) (ha : DA X W (e :: es) am) (hn : x ≠ "__name__" := by decide) (hdb : (x == ("__debug__" : Str)) = false := by decide)
    (he : starEach (e :: es) X.env = (false, eval e X.env) :: starEach es X.env := by rfl) (hpl : (backTo pos (starEach es X.env)).any (·.1) = false := by rfl) : DE X W (.Call (.Name x p) (e :: es) [] pos) (mB pf am) :=
  PE.weak (pe_callB hc hg hm hv ha hn hdb he hpl) fun _ _ _ h => tCB_of h
theorem de_bT (hc : CallR X (.type T) (rB X.K pf)) (hg : Gl X x) (hm : X.mg x = none) (hv : bootBuiltins x = some (.type T)) (ha : DA X W (e :: es) am) (hn : x ≠ "__name__" := by decide) (hdb : (x == ("__debug__" : Str)) = false := by decide)
    (he : starEach (e :: es) X.env = (false, eval e X.env) :: starEach es X.env := by rfl) (hpl : (backTo pos (starEach es X.env)).any (·.1) = false := by rfl) : DE X W (.Call (.Name x p) (e :: es) [] pos) (mB pf am) :=
  PE.weak (pe_callTy hc hg hm hv ha hn hdb he hpl) fun _ _ _ h => tCB_of h
theorem dl_b (hc : CallR X (.builtin bid) (rBL X.K pl)) (hg : Gl X x) (hm : X.mg x = none) (hv : bootBuiltins x = some (.builtin bid)) (ha : DA X W (e :: es) am) (hn : x ≠ "__name__" := by decide) (hdb : (x == ("__debug__" : Str)) = false := by decide)
    (he : starEach (e :: es) X.env = (false, eval e X.env) :: starEach es X.env := by rfl) (hpl : (backTo pos (starEach es X.env)).any (·.1) = false := by rfl) : DL X W (.Call (.Name x p) (e :: es) [] pos) (lB pl am) :=
  PE.weak (pe_callB hc hg hm hv ha hn hdb he hpl) fun _ _ _ h => tCBL_of h
theorem Reps.one {K : PySem.W.Frag} {F : Hp} {ι : List Addr} {d : D} {vs : List V} (r : Reps K F ι [d] vs) : ∃ v, vs = [v] ∧ Rep K F ι d v := by
  simp only [Reps] at r
  obtain ⟨v, r', e, h, e2⟩ := r
  subst e2
  exact ⟨v, e, h⟩
theorem Reps.two {K : PySem.W.Frag} {F : Hp} {ι : List Addr} {d d' : D} {vs : List V} (r : Reps K F ι [d, d'] vs) : ∃ v v', vs = [v, v'] ∧ Rep K F ι d v ∧ Rep K F ι d' v' := by
  simp only [Reps] at r
  obtain ⟨v, r', e, h, v', r'', e', h', e2⟩ := r
  subst e2 e'
  exact ⟨v, v', e, h, h'⟩
def pLen : Sto → List D → Option D := fun st ds => match ds with
  | [.str z] => if z.length ≤ sizeLine then some (.int z.length) else none
  | [d] => (seqOf st d).map fun xs => .int xs.length
  | _ => none
theorem call_pLen : CallR X (.builtin "len") (rB X.K pLen) := by
  intro pins s σ H vs us Q I rv ⟨F, ι, st, ds, d, S, ra, e, q⟩
  unfold pLen at e
  split at e
  · split at e
    · rename_i hz
      cases e
      obtain ⟨v, e1, r⟩ := ra.one
      simp only [Rep] at r
      subst e1 r
      exact call_len_str pins s σ H _ us Q I rv ⟨_, rfl, hz, q F H _ Ext.refl S (by simp only [Rep])⟩
    · cases e
  · rename_i d' _
    cases e1 : seqOf st d' with
    | none => rw [e1] at e; cases e
    | some xs =>
      rw [e1] at e
      cases e
      obtain ⟨v, e2, r⟩ := ra.one
      obtain ⟨a, ys, e3, hs, rr⟩ := S.seq r e1
      subst e2 e3
      exact call_len_seq pins s σ H _ us Q I rv ⟨a, ys, rfl, hs, q F H _ Ext.refl S (by simp only [Rep]; rw [rr.length])⟩
  · cases e
def pAbs : Sto → List D → Option D := fun _ ds => match ds with
  | [.int i] => some (.int (if i < 0 then -i else i))
  | _ => none
theorem call_pAbs : CallR X (.builtin "abs") (rB X.K pAbs) := by
  intro pins s σ H vs us Q I rv ⟨F, ι, st, ds, d, S, ra, e, q⟩
  unfold pAbs at e
  split at e
  · cases e
    obtain ⟨v, e1, r⟩ := ra.one
    simp only [Rep] at r
    subst e1 r
    exact call_abs pins s σ H _ us Q I rv ⟨_, rfl, q F H _ Ext.refl S (by simp only [Rep])⟩
  · cases e
def pInt : Sto → List D → Option D := fun _ ds => match ds with
  | [.int i] => some (.int i)
  | [.bl k] => some (.int (if k then 1 else 0))
  | _ => none
theorem call_pInt : CallR X (.type "int") (rB X.K pInt) := by
  intro pins s σ H vs us Q I rv ⟨F, ι, st, ds, d, S, ra, e, q⟩
  unfold pInt at e
  split at e
  · cases e
    obtain ⟨v, e1, r⟩ := ra.one
    simp only [Rep] at r
    subst e1 r
    exact call_int1 pins s σ H _ us Q I rv (.inl ⟨_, rfl, q F H _ Ext.refl S (by simp only [Rep])⟩)
  · cases e
    obtain ⟨v, e1, r⟩ := ra.one
    simp only [Rep] at r
    subst e1 r
    exact call_int1 pins s σ H _ us Q I rv (.inr ⟨_, rfl, q F H _ Ext.refl S (by simp only [Rep])⟩)
  · cases e
def pMin2 : Sto → List D → Option D := fun _ ds => match ds with
  | [.int i, .int j] => some (.int (if j < i then j else i))
  | _ => none
theorem call_pMin2 (hc : X.calm = true) : CallR X (.builtin "min") (rB X.K pMin2) := by
  intro pins s σ H vs us Q I rv ⟨F, ι, st, ds, d, S, ra, e, q⟩
  unfold pMin2 at e
  split at e
  · cases e
    obtain ⟨v, v', e1, r, r'⟩ := ra.two
    simp only [Rep] at r r'
    subst e1 r r'
    exact call_min2 hc pins s σ H _ us Q I rv ⟨_, _, rfl, q F H _ Ext.refl S (by simp only [Rep])⟩
  · cases e
def blOf : List D → Option (List Bool)
  | [] => some []
  | .bl b :: r => (blOf r).map (b :: ·)
  | _ => none
theorem blOf_map : ∀ bs : List Bool, blOf (bs.map D.bl) = some bs
  | [] => rfl
  | b :: r => by rw [List.map_cons, blOf, blOf_map r]; rfl
theorem reps_bl {K : PySem.W.Frag} {F : Hp} {ι : List Addr} : ∀ {ds : List D} {bs : List Bool} {vs : List V}, Reps K F ι ds vs → blOf ds = some bs → vs = bs.map V.bl
  | [], _, _, r, h => by simp only [Reps] at r; cases h; subst r; rfl
  | .bl b :: ds, bs, vs, r, h => by
    simp only [Reps, Rep] at r
    obtain ⟨v, rs, e, e1, r2⟩ := r
    unfold blOf at h
    cases e2 : blOf ds with
    | none => rw [e2] at h; cases h
    | some cs =>
      rw [e2] at h
      cases h
      rw [e, e1, reps_bl r2 e2]
      rfl
  | .non :: _, _, _, _, h => by simp [blOf] at h
  | .int _ :: _, _, _, _, h => by simp [blOf] at h
  | .str _ :: _, _, _, _, h => by simp [blOf] at h
  | .tup _ :: _, _, _, _, h => by simp [blOf] at h
  | .lst _ :: _, _, _, _, h => by simp [blOf] at h
  | .scr _ :: _, _, _, _, h => by simp [blOf] at h
  | .ref _ :: _, _, _, _, h => by simp [blOf] at h
  | .adr _ :: _, _, _, _, h => by simp [blOf] at h
  | .fd _ _ :: _, _, _, _, h => by simp [blOf] at h
  | .exo _ _ _ _ :: _, _, _, _, h => by simp [blOf] at h
  | .obj _ _ _ :: _, _, _, _, h => by simp [blOf] at h
  | .sd _ :: _, _, _, _, h => by simp [blOf] at h
def pAll : Sto → List D → Option D := fun st ds => match ds with
  | [d] => ((lstOf st d).bind blOf).map fun bs => .bl (bs.all id)
  | _ => none
theorem call_pAll (hc : X.calm = true) : CallR X (.builtin "all") (rB X.K pAll) := by
  intro pins s σ H vs us Q I rv ⟨F, ι, st, ds, d, S, ra, e, q⟩
  unfold pAll at e
  split at e
  · rename_i d'
    cases e1 : lstOf st d' with
    | none => rw [e1] at e; cases e
    | some xs =>
      rw [e1] at e
      have e : (blOf xs).map (fun bs => D.bl (bs.all id)) = some d := e
      cases e2 : blOf xs with
      | none => rw [e2] at e; cases e
      | some bs =>
        rw [e2] at e
        cases e
        obtain ⟨v, e3, r⟩ := ra.one
        obtain ⟨a, ys, e4, hs, rr⟩ := S.lst r e1
        subst e3 e4
        have e5 := reps_bl rr e2
        subst e5
        exact cr_all hc pins s σ H _ us Q I rv ⟨a, bs, rfl, SqL.of hs, q F H _ Ext.refl S (by simp only [Rep])⟩
  · cases e
def pTuple : Sto → List D → Option D := fun st ds => match ds with
  | [.tup xs] => some (.tup xs)
  | [d] => (lstOf st d).map fun xs => .tup xs
  | _ => none
theorem call_tupP : CallR X (.type "tuple") (fun xs H Q => ∃ p ys, xs = [.ref p] ∧ SqL X.K H p ys ∧ ∀ (l : Addr) (o : Obj), o.dict = none → H l = none → Q (.ref l) (upd H l (.frz o (.tup ys)))) := by
  intro pins s σ H xs us Q I r ⟨p, ys, e, hq, q⟩
  subst e
  obtain ⟨u, rfl, rx⟩ := vals1 r
  cases rx
  obtain ⟨its, r', pl, hz⟩ := I.list hq
  have hl := r'.length
  refine call_tuple_list pl.isList (fun h' kp => ?_) (by rw [List.size_toArray]; omega)
  have I1 : Inv X pins σ H { s with heap := h' } := I.kept (t' := s.toks) kp
  exact fin_tup (t' := s.toks) I1 r' hz q
theorem call_pTuple : CallR X (.type "tuple") (rB X.K pTuple) := by
  intro pins s σ H vs us Q I rv ⟨F, ι, st, ds, d, S, ra, e, q⟩
  unfold pTuple at e
  split at e
  · cases e
    obtain ⟨v, e1, r⟩ := ra.one
    have r' := r
    simp only [Rep] at r
    obtain ⟨a, ys, e2, hs, rr⟩ := r
    subst e1 e2
    exact call_tuple_of pins s σ H _ us Q I rv ⟨a, ys, rfl, .inr ⟨S.sqT hs, q F H _ Ext.refl S r'⟩⟩
  · rename_i d' _
    cases e1 : lstOf st d' with
    | none => rw [e1] at e; cases e
    | some xs =>
      rw [e1] at e
      cases e
      obtain ⟨v, e3, r⟩ := ra.one
      obtain ⟨a, ys, e4, hs, rr⟩ := S.lst r e1
      subst e3 e4
      exact call_tupP pins s σ H _ us Q I rv ⟨a, ys, rfl, SqL.of hs, new_tup S rr q⟩
  · cases e
end
end Dn
namespace Dn
open PySem PySem.Spec PyProof.Rows L2
inductive SK where
  | l | t
def SqX (K : PySem.W.Frag) (H : Hp) : SK → Addr → List V → Prop
  | .l, a, xs => SqL K H a xs
  | .t, a, xs => SqT K H a xs
def IsSq (h : Heap) : SK → Addr → Array Value → Prop
  | .l, a, xs => h.IsList a xs
  | .t, a, xs => h.IsTuple a xs
def ItAt (h : Heap) : SK → Addr → Addr → Nat → Prop
  | .l, it, a, i => h.IsListIter it a i
  | .t, it, a, i => h.IsTupleIter it a i
def itObj (a : Addr) : SK → Obj
  | .l => { cls := .type "list_iterator", data := .fields #[.ref a, .int 0 0] }
  | .t => { cls := .type "tuple_iterator", data := .fields #[.ref a, .int 0 0] }
theorem begins_sq (k : SK) (a : Addr) (items : Array Value) : Begins (.ref a) (itObj a k) fun h => IsSq h k a items := by
  cases k with
  | l => exact begins_list a items
  | t => exact begins_tuple a items
theorem draws_sq {prog : Program} {w : World} {A : Around} (hh : A.handled = none) (k : SK) (it a : Addr) (hne : a ≠ it) (items : Array Value) :
    Draws prog w A it [it, a] items.size (fun i v => items[i]? = some v) (fun i h => ItAt h k it a i ∧ IsSq h k a items) := by
  cases k with
  | l => exact Draws.list hh it a hne items
  | t => exact Draws.tuple hh it a hne items
theorem ItAt.obj {h : Heap} {k : SK} {it a : Addr} {i : Nat} (x : ItAt h k it a i) : ∃ o n vs, h.get? it = some o ∧ o.cls = .type n ∧ o.data = .fields vs := by
  cases k with
  | l => obtain ⟨o, e, c, d⟩ := x; exact ⟨o, _, _, e, c, d⟩
  | t => obtain ⟨o, e, c, d⟩ := x; exact ⟨o, _, _, e, c, d⟩
theorem ItAt.at {h h' : Heap} {k : SK} {it a : Addr} {i : Nat} (x : ItAt h k it a i) (e : ∀ o, h.get? it = some o → h'.get? it = some o) : ItAt h' k it a i := by
  cases k with
  | l => exact Heap.IsListIter.at x e
  | t => exact Heap.IsTupleIter.at x e
theorem ItAt.start {h : Heap} {k : SK} {it a : Addr} (e : h.get? it = some (itObj a k)) : ItAt h k it a 0 := by
  cases k with
  | l => exact ⟨_, e, rfl, rfl⟩
  | t => exact ⟨_, e, rfl, rfl⟩
theorem _root_.L2.Inv.sqx {X : Cx} {pins : List (Addr × Obj)} {σ : L2.St} {H : Hp} {s : Shared} {k : SK} {a : Addr} {xs : List V} (I : Inv X pins σ H s) (h : SqX X.K H k a xs) : ∃ its : List Value, Vals xs its ∧ IsSq s.heap k a its.toArray ∧ a < s.heap.objs.size := by
  cases k with
  | l =>
    obtain ⟨its, r, p, _⟩ := I.list h
    exact ⟨its, r, p.isList, p.lt⟩
  | t =>
    obtain ⟨its, r, p, _⟩ := I.tuple h
    exact ⟨its, r, p, p.lt⟩
theorem _root_.L2.Inv.sqx_inj {X : Cx} {pins : List (Addr × Obj)} {σ : L2.St} {H : Hp} {s : Shared} {k : SK} {a : Addr} {xs ys : List V} (I : Inv X pins σ H s) (h : SqX X.K H k a xs) (h' : SqX X.K H k a ys) : xs = ys := by
  cases k with
  | l => exact I.list_inj h h'
  | t => exact I.tuple_inj h h'
def IteX (K : PySem.W.Frag) (k : SK) (a : Addr) : It :=
  ⟨fun i H => ∃ (xs : List V) (x : V), SqX K H k a xs ∧ xs[i]? = some x, fun i H v H' => ∃ (T : Addr) (x : V) (o : Obj), v = .ref T ∧ H T = none ∧ o.dict = none ∧ H' = upd H T (.frz o (.tup [.int (i : Nat), x])) ∧ ∀ xs, SqX K H k a xs → xs[i]? = some x, fun i H => ∃ xs : List V, SqX K H k a xs ∧ xs.length = i⟩
theorem turn_enumX {P : Program} {w : World} {K : PySem.W.Frag} {elts : List Expr} {kk : Nat} {tpos : Pos} (k : SK) (a e it : Addr) :
    Turn P w K (.Tuple elts kk tpos) (IteX K k a) [e, it] e (fun i h => (∃ old, IsEnum h e it ((i : Nat) : Int) old) ∧ ItAt h k it a i ∧ e ≠ it ∧ a ≠ it ∧ e ≠ a) where
  mem := by simp
  obj := fun i h st b hb => by
    obtain ⟨⟨old, he⟩, hi, _⟩ := st
    have e' : b = e ∨ b = it := by simpa using hb
    rcases e' with z | z
    · rw [z]; exact ⟨_, he, fun v q => nomatch q⟩
    · rw [z]
      obtain ⟨o, n, vs, ho, _, hd⟩ := hi.obj
      exact ⟨o, ho, fun v q => by rw [hd] at q; cases q⟩
  keep := fun i h h' st kp => let ⟨⟨old, he⟩, hi, hne⟩ := st; ⟨⟨old, kp e (by simp) _ he⟩, hi.at fun o q => kp it (by simp) o q, hne⟩
  item := by
    intro X hP hw hK hc i pins s σ H E I hf st hg
    subst hP hw hK
    obtain ⟨⟨old, he⟩, hit, hne, hai, hea⟩ := st
    obtain ⟨xs, x, hq, hx⟩ := hg
    obtain ⟨its, rv, p, hal⟩ := I.sqx hq
    obtain ⟨u, hu, ru⟩ := rv.get hx
    have hel : e < s.heap.objs.size := Heap.lt_size he
    have hil : it < s.heap.objs.size := by obtain ⟨_, _, _, q, _⟩ := hit.obj; exact Heap.lt_size q
    have hlt : i < its.toArray.size := by
      have := (List.getElem?_eq_some_iff.mp hu).1
      simpa using this
    refine wpAny_pyNext_enum_itemD (draws_sq (A := X.A.in1) (I.ok.hd hc) k it a hai its.toArray) he ⟨hit, p⟩ hlt hne (by simp [hne, hea]) fun y h' tk hy ho ⟨hit', p'⟩ hT hsz hk => ?_
    have ey : y = u := by
      have hu' : its.toArray[i]? = some u := by simpa using hu
      rw [hu'] at hy
      exact (Option.some.inj hy).symm
    subst ey
    refine ⟨_, rfl, wpAny_letOwnedTupleGo_enum (s := { s with heap := h', toks := tk + 1 }) ho fun h'' he' sb => ?_⟩
    have hT2 : h''.get? s.heap.objs.size = some { cls := .type "tuple", data := .seq #[.int i tk, y] } := (sb.2 _ (Nat.ne_of_gt hel)).trans hT
    have new : ObjOk X.prog X.w (upd H s.heap.objs.size (.frz { cls := .type "tuple", data := .seq #[.int i tk, y] } (.tup [.int (i : Nat), x]))) h'' s.heap.objs.size (.frz { cls := .type "tuple", data := .seq #[.int i tk, y] } (.tup [.int (i : Nat), x])) :=
      ⟨hT2, by show 2 ≤ sizeLine; decide, [.int i tk, y], .cons ⟨_, rfl⟩ (.cons ru .nil), ⟨_, hT2, rfl, _, rfl⟩⟩
    have I1 : Inv X pins σ (upd H s.heap.objs.size (.frz { cls := .type "tuple", data := .seq #[.int i tk, y] } (.tup [.int (i : Nat), x]))) { s with heap := h'', toks := tk + 1 } :=
      I.turnedNew (ch := [e, it]) (fun b ob hb q => (sb.2 b (fun z => hb (by simp [z]))).trans (hk b ob (fun z => hb (by simp [z])) (fun z => hb (by simp [z])) q)) hf (Nat.le_refl _) new
    refine ⟨.ref s.heap.objs.size, _, I1, rfl, ⟨_, x, _, rfl, I.hok.fresh (Nat.le_refl _), rfl, rfl, fun ys hy => by rw [I.sqx_inj hy hq]; exact hx⟩, ⟨⟨y, ?_⟩, hit'.at fun o q => (sb.2 it (Ne.symm hne)).trans q, hne, hai, hea⟩, fun b hb => ?_⟩
    · have e1 : ((i + 1 : Nat) : Int) = (i : Int) + 1 := by omega
      rw [e1]; exact he'
    · have hb' : b < s.heap.objs.size := by
        have e' : b = e ∨ b = it := by simpa using hb
        rcases e' with z | z
        · rw [z]; exact hel
        · rw [z]; exact hil
      rw [upd_ne (Nat.ne_of_lt hb')]
      exact (hf b hb).1
  done := by
    intro X hP hw hK hc i pins s σ H E I hf st hg
    subst hP hw hK
    obtain ⟨⟨old, he⟩, hit, hne, hai, hea⟩ := st
    obtain ⟨xs, hq, hx⟩ := hg
    obtain ⟨its, rv, p, hal⟩ := I.sqx hq
    obtain ⟨f0, f1, f2, f3, f4, f5⟩ := hf it (by simp)
    have hl := rv.length
    have en : i = its.toArray.size := by simp; omega
    exact wpAny_pyNext_enum_endD (draws_sq (A := X.A.in1) (I.ok.hd hc) k it a hai its.toArray) he ⟨by rw [← en]; exact hit, p⟩ fun h' eb => ⟨rfl, I.turned (t' := s.toks) (fun b o hb q => eb b o hb q) f0 f1 f3 f4 f5⟩
  self := fun A i s Q E st h => let ⟨⟨_, he⟩, _⟩ := st; wpAny_pyIter_enum he h
theorem meets_enumerate_newB1 {v : Value} {o : Obj} {H : Heap → Prop} (B : Begins v o H) :
    Meets (Builtin.«enumerate.__new__» ⟨[.type "enumerate", v], []⟩) (fun _ R s => H s.heap ∧
      R (.ok (.ret (.ref (s.heap.push o).objs.size))) { s with heap := (s.heap.push o).push { cls := .type "enumerate", data := .fields #[.none, .bool false, .ref s.heap.objs.size, rawInt 0, .none, .none] } }) :=
  .of_wp fun prog w A R s h => by
    obtain ⟨hp, g, d, tk, os⟩ := s; obtain ⟨h1, h⟩ := h
    have hsub := sub_enumerate
    have q1 : ∀ {A' : Around} {E : Value → Shared → Prop} {Q : Value → Shared → Prop}, Q (.ref hp.objs.size) ⟨hp.push o, g, d, tk, os⟩ → wpAny (model prog w) A' (pyIter v) Q E ⟨hp, g, d, tk, os⟩ :=
      fun q => B.iter prog w _ _ ⟨hp, g, d, tk, os⟩ _ h1 q
    wp_walk using q1
    refine wpAny_stack_any fun st => wpAny_pure ?_
    split
    · rename_i c _ _ _ _ _
      cases (c == Value.type "enumerate")
      · wp_walk using q1
        exact ⟨_, rfl, h⟩
      · wp_walk using q1
        exact ⟨_, rfl, h⟩
    · wp_walk using q1
      exact ⟨_, rfl, h⟩
theorem call_enumX {prog : Program} {w : World} {A : Around} {E : Value → Shared → Prop} {s : Shared} {v : Value} {o : Obj} {H : Heap → Prop} {Q : Value → Shared → Prop} (B : Begins v o H) (h1 : H s.heap)
    (h : ∀ h', IsEnum h' (s.heap.objs.size + 1) s.heap.objs.size 0 .none → h'.get? s.heap.objs.size = some o → h'.objs.size = s.heap.objs.size + 2 →
      (∀ b o, s.heap.get? b = some o → h'.get? b = some o) → Q (.ref (s.heap.objs.size + 1)) { s with heap := h' }) :
    wpAny (model prog w) A (call (.type "enumerate") [v]) Q E s := by
  refine callType_new PySem.F.called_enumerate (by decide) (PySem.F.typeCall_enumerate_1 _) (PySem.F.newCall_enumerate_1 _) (fun obj => PySem.F.args_object_init_2 obj _) PySem.F.entry_enumerate_new
    (meets_enumerate_newB1 B) ⟨h1, ?_⟩
  have hz : (s.heap.push o).objs.size = s.heap.objs.size + 1 := Heap.size_push ..
  show _ ∧ _
  rw [hz]
  have he : IsEnum ((s.heap.push o).push { cls := .type "enumerate", data := .fields #[.none, .bool false, .ref s.heap.objs.size, rawInt 0, .none, .none] }) (s.heap.objs.size + 1) s.heap.objs.size 0 .none := by
    have := Heap.get?_push_size (s.heap.push o) (o := { cls := .type "enumerate", data := .fields #[.none, .bool false, .ref s.heap.objs.size, rawInt 0, .none, .none] }) rfl
    rw [hz] at this; exact this
  refine ⟨⟨_, he, rfl⟩, h _ he (Heap.get?_push_of_some _ (Heap.get?_push_size _ B.free)) (by rw [Heap.size_push, hz]) fun b o x => Heap.get?_push_of_some _ (Heap.get?_push_of_some _ x)⟩
def iEnumX (K : PySem.W.Frag) (ta : TA) : TI := fun σ H R => ta σ H fun vs H1 => ∃ a k xs, vs = [.ref a] ∧ SqX K H1 k a xs ∧ R (IteX K k a) H1
theorem pi_enumX {X : Cx} {e : Expr} {ta : TA} {p pos tpos : Pos} {elts : List Expr} {kk : Nat} (hg : Gl X "enumerate") (hm : X.mg "enumerate" = none) (ha : PA X [e] ta) (hs : starEach [e] X.env = [(false, eval e X.env)] := by rfl) :
    PI X (.Tuple elts kk tpos) (.Call (.Name "enumerate" p) [e] [] pos) (iEnumX X.K ta) := by
  refine ⟨fun pins s σ H R I h => ?_⟩
  refine Call_ (ld_blt I hg hm boot_enumerate (PyProof.Rows.callWith_type1 (thn (ha.run pos pins s σ H _ I h) fun us s1 ⟨vs, H1, I1, r1, q1⟩ => ?_) hs rfl))
  obtain ⟨a, k, xs, ex, hq, q⟩ := q1
  subst ex
  cases r1 with
  | cons r rr =>
    cases rr
    cases r
    obtain ⟨its, rv, p', hal⟩ := I1.sqx hq
    refine call_enumX (begins_sq k a its.toArray) p' fun h' he hit hsz hk => wpAny_pyIter_enum he ?_
    have I2 : Inv X pins σ H1 { s1 with heap := h' } := I1.kept (t' := s1.toks) hk
    refine ⟨s1.heap.objs.size + 1, [s1.heap.objs.size + 1, s1.heap.objs.size], _, _, H1, rfl, I2, turn_enumX k a (s1.heap.objs.size + 1) s1.heap.objs.size, ⟨⟨.none, he⟩, ItAt.start hit, Nat.succ_ne_self _, Nat.ne_of_lt hal, Nat.ne_of_gt (Nat.lt_succ_of_lt hal)⟩, fun b hb => ?_, q⟩
    have e' : b = s1.heap.objs.size + 1 ∨ b = s1.heap.objs.size := by simpa using hb
    have hle : s1.heap.objs.size ≤ b := by
      rcases e' with z | z
      · rw [z]; exact Nat.le_add_right _ _
      · rw [z]; exact Nat.le_refl _
    exact I1.fpOk hle (I1.hok.fresh hle)
def ItzX (K : PySem.W.Frag) (k1 k2 : SK) (a b : Addr) : It :=
  ⟨fun i H => ∃ (xs ys : List V) (x y : V), SqX K H k1 a xs ∧ SqX K H k2 b ys ∧ xs[i]? = some x ∧ ys[i]? = some y,
    fun i H v H' => ∃ (T : Addr) (x y : V) (o : Obj), v = .ref T ∧ H T = none ∧ o.dict = none ∧ H' = upd H T (.frz o (.tup [x, y])) ∧ (∀ xs, SqX K H k1 a xs → xs[i]? = some x) ∧ ∀ ys, SqX K H k2 b ys → ys[i]? = some y,
    fun i H => ∃ xs ys : List V, SqX K H k1 a xs ∧ SqX K H k2 b ys ∧ i = min xs.length ys.length⟩
theorem turn_zipX {P : Program} {w : World} {K : PySem.W.Frag} {elts : List Expr} {kk : Nat} {tpos : Pos} (k1 k2 : SK) {a b z TI TO i1 i2 : Addr} (D : ZipSep2 z TI TO i1 i2 [i1, a] [i2, b]) (h1a : a ≠ i1) (h2b : b ≠ i2) :
    Turn P w K (.Tuple elts kk tpos) (ItzX K k1 k2 a b) [z, TI, TO, i1, i2] z (fun i h => IsZip h z TI TO .none ∧ IsTupOf2 h TI (.ref i1) (.ref i2) ∧ (∃ x y, IsTupOf2 h TO x y) ∧ ItAt h k1 i1 a i ∧ ItAt h k2 i2 b i) where
  mem := by simp
  obj := fun i h st c hc => by
    obtain ⟨hz, hTI, ⟨x, y, hTO⟩, h1, h2⟩ := st
    obtain ⟨o1, _, _, e1, _, d1⟩ := h1.obj
    obtain ⟨o2, _, _, e2, _, d2⟩ := h2.obj
    have e' : c = z ∨ c = TI ∨ c = TO ∨ c = i1 ∨ c = i2 := by simpa using hc
    rcases e' with q | q | q | q | q
    · rw [q]; exact ⟨_, hz, fun v q => nomatch q⟩
    · rw [q]; exact ⟨_, hTI, fun v q => nomatch q⟩
    · rw [q]; exact ⟨_, hTO, fun v q => nomatch q⟩
    · rw [q]; exact ⟨o1, e1, fun v q => by rw [d1] at q; cases q⟩
    · rw [q]; exact ⟨o2, e2, fun v q => by rw [d2] at q; cases q⟩
  keep := fun i h h' st k => by
    obtain ⟨hz, hTI, ⟨x, y, hTO⟩, h1, h2⟩ := st
    exact ⟨k z (by simp) _ hz, k TI (by simp) _ hTI, ⟨x, y, k TO (by simp) _ hTO⟩, h1.at fun o q => k i1 (by simp) o q, h2.at fun o q => k i2 (by simp) o q⟩
  item := by
    intro X hP hw hK hc i pins s σ H E I hf st hg
    subst hP hw hK
    obtain ⟨hz, hTI, ⟨x0, y0, hTO⟩, h1, h2⟩ := st
    obtain ⟨xs, ys, x, y, hqx, hqy, hx, hy⟩ := hg
    obtain ⟨its, rv, p, _⟩ := I.sqx hqx
    obtain ⟨its2, rv2, p2, _⟩ := I.sqx hqy
    obtain ⟨u, hu, ru⟩ := rv.get hx
    obtain ⟨u2, hu2, ru2⟩ := rv2.get hy
    have hzl : z < s.heap.objs.size := Heap.lt_size hz
    have hlt1 : i < its.toArray.size := by have := (List.getElem?_eq_some_iff.mp hu).1; simpa using this
    have hlt2 : i < its2.toArray.size := by have := (List.getElem?_eq_some_iff.mp hu2).1; simpa using this
    refine wpAny_pyNext_zipD2_item D (draws_sq (A := X.A.in1) (I.ok.hd hc) k1 i1 a h1a its.toArray) (draws_sq (A := X.A.in1) (I.ok.hd hc) k2 i2 b h2b its2.toArray) hz hTI hTO ⟨h1, p⟩ ⟨h2, p2⟩ hlt1 hlt2 fun w1 w2 h' tk y1 y2 z' TO' ⟨h1', _⟩ ⟨h2', _⟩ hT hsz hk => ?_
    have e1 : w1 = u := by
      have hu' : its.toArray[i]? = some u := by simpa using hu
      rw [hu'] at y1
      exact (Option.some.inj y1).symm
    have e2 : w2 = u2 := by
      have hu' : its2.toArray[i]? = some u2 := by simpa using hu2
      rw [hu'] at y2
      exact (Option.some.inj y2).symm
    subst e1 e2
    refine ⟨_, rfl, wpAny_letOwnedTupleGo_zip (s := { s with heap := h', toks := tk }) z' fun h'' z'' sb => ?_⟩
    have hT2 : h''.get? s.heap.objs.size = some { cls := .type "tuple", data := .seq #[w1, w2] } := (sb.2 _ (Nat.ne_of_gt hzl)).trans hT
    have new : ObjOk X.prog X.w (upd H s.heap.objs.size (.frz { cls := .type "tuple", data := .seq #[w1, w2] } (.tup [x, y]))) h'' s.heap.objs.size (.frz { cls := .type "tuple", data := .seq #[w1, w2] } (.tup [x, y])) :=
      ⟨hT2, by show 2 ≤ sizeLine; decide, [w1, w2], .cons ru (.cons ru2 .nil), ⟨_, hT2, rfl, _, rfl⟩⟩
    have I1 : Inv X pins σ (upd H s.heap.objs.size (.frz { cls := .type "tuple", data := .seq #[w1, w2] } (.tup [x, y]))) { s with heap := h'', toks := tk } :=
      I.turnedNew (ch := [z, TI, TO, i1, i2]) (fun c o hb q => (sb.2 c (fun q' => hb (by simp [q']))).trans (hk c o (fun q' => hb (by simp [q'])) (fun q' => hb (by simp [q'])) (fun q' => hb (by simp [q'])) (fun q' => hb (by simp [q'])) q)) hf (Nat.le_refl _) new
    refine ⟨.ref s.heap.objs.size, _, I1, rfl, ⟨_, x, y, _, rfl, I.hok.fresh (Nat.le_refl _), rfl, rfl, fun l hl => by rw [I.sqx_inj hl hqx]; exact hx, fun l hl => by rw [I.sqx_inj hl hqy]; exact hy⟩, ⟨z'', ?_, ⟨w1, w2, ?_⟩, ?_, ?_⟩, fun c hcm => ?_⟩
    · exact (sb.2 _ D.TIz).trans (hk _ _ D.TIz D.TITO D.TIi1 D.TIi2 hTI)
    · exact (sb.2 _ D.TOz).trans TO'
    · exact h1'.at fun o q => (sb.2 _ (fun e => D.zi1 e.symm)).trans q
    · exact h2'.at fun o q => (sb.2 _ (fun e => D.zi2 e.symm)).trans q
    · have hlt : c < s.heap.objs.size := by
        have e' : c = z ∨ c = TI ∨ c = TO ∨ c = i1 ∨ c = i2 := by simpa using hcm
        obtain ⟨o1, _, _, q1, _⟩ := h1.obj
        obtain ⟨o2, _, _, q2, _⟩ := h2.obj
        rcases e' with q | q | q | q | q
        · rw [q]; exact hzl
        · rw [q]; exact Heap.lt_size hTI
        · rw [q]; exact Heap.lt_size hTO
        · rw [q]; exact Heap.lt_size q1
        · rw [q]; exact Heap.lt_size q2
      rw [upd_ne (Nat.ne_of_lt hlt)]
      exact (hf c hcm).1
  done := by
    intro X hP hw hK hc i pins s σ H E I hf st hg
    subst hP hw hK
    obtain ⟨hz, hTI, ⟨x0, y0, hTO⟩, h1, h2⟩ := st
    obtain ⟨xs, ys, hqx, hqy, hend⟩ := hg
    obtain ⟨its, rv, p, _⟩ := I.sqx hqx
    obtain ⟨its2, rv2, p2, _⟩ := I.sqx hqy
    have l1 := rv.length
    have l2 := rv2.length
    exact wpAny_pyNext_zipD2_end (i := i) D (draws_sq (A := X.A.in1) (I.ok.hd hc) k1 i1 a h1a its.toArray) (draws_sq (A := X.A.in1) (I.ok.hd hc) k2 i2 b h2b its2.toArray) hz hTI hTO ⟨h1, p⟩ ⟨h2, p2⟩ (by simp; omega) (by simp; omega) (by simp; omega)
      fun h' tk hk => ⟨rfl, I.turnedL (t' := tk) (ch := [z, TI, TO, i1, i2]) (fun c o hb q =>
        hk c o (fun q' => hb (by simp [q'])) (fun q' => hb (by simp [q'])) (fun q' => hb (by simp [q'])) (fun q' => hb (by simp [q'])) q) hf⟩
  self := fun A i s Q E st h => wpAny_pyIter_zip st.1 h
def iZipX (K : PySem.W.Frag) (ta : TA) : TI := fun σ H R => ta σ H fun vs H1 => ∃ a b k1 k2 xs ys, vs = [.ref a, .ref b] ∧ SqX K H1 k1 a xs ∧ SqX K H1 k2 b ys ∧ R (ItzX K k1 k2 a b) H1
theorem pi_zipX {X : Cx} {e e2 : Expr} {ta : TA} {p pos tpos : Pos} {elts : List Expr} {kk : Nat} (hg : Gl X "zip") (hm : X.mg "zip" = none) (ha : PA X [e, e2] ta)
    (hs : starEach [e, e2] X.env = (false, eval e X.env) :: starEach [e2] X.env := by rfl) (hpl : (backTo pos (starEach [e2] X.env)).any (·.1) = false := by rfl) :
    PI X (.Tuple elts kk tpos) (.Call (.Name "zip" p) [e, e2] [] pos) (iZipX X.K ta) := by
  refine ⟨fun pins s σ H R I h => ?_⟩
  refine Call_ (ld_blt I hg hm PyProof.Rows.boot_zip (PyProof.Rows.callWith_type1 (thn (ha.run pos pins s σ H _ I h) fun us s1 ⟨vs, H1, I1, r1, q1⟩ => ?_) hs hpl))
  obtain ⟨a, b, k1, k2, xs, ys, ex, hqx, hqy, q⟩ := q1
  subst ex
  cases r1 with
  | cons r rr =>
    cases rr with
    | cons r' rr =>
      cases rr
      cases r
      cases r'
      obtain ⟨its, rv, p1, la⟩ := I1.sqx hqx
      obtain ⟨its2, rv2, p2, lb⟩ := I1.sqx hqy
      refine zip_begins2 (begins_sq k1 a its.toArray) (begins_sq k2 b its2.toArray) p1 p2 fun h' hz hTI hTO h1 h2 hsz hk => wpAny_pyIter_zip hz ?_
      have I2 : Inv X pins σ H1 { s1 with heap := h' } := I1.kept (t' := s1.toks) hk
      have sep : ZipSep2 (s1.heap.objs.size + 4) (s1.heap.objs.size + 2) (s1.heap.objs.size + 3) s1.heap.objs.size (s1.heap.objs.size + 1) [s1.heap.objs.size, a] [s1.heap.objs.size + 1, b] :=
        zip_sep2 (fun c hc => by have : c = a := by simpa using hc
                                 subst this; exact la) (fun c hc => by have : c = b := by simpa using hc
                                                                       subst this; exact lb)
      refine ⟨s1.heap.objs.size + 4, [s1.heap.objs.size + 4, s1.heap.objs.size + 2, s1.heap.objs.size + 3, s1.heap.objs.size, s1.heap.objs.size + 1], _, _, H1, rfl, I2,
        turn_zipX k1 k2 sep (Nat.ne_of_lt la) (Nat.ne_of_lt (Nat.lt_succ_of_lt lb)), ⟨hz, hTI, ⟨_, _, hTO⟩, ItAt.start h1, ItAt.start h2⟩, fun c hcm => ?_, q⟩
      have e' : c = s1.heap.objs.size + 4 ∨ c = s1.heap.objs.size + 2 ∨ c = s1.heap.objs.size + 3 ∨ c = s1.heap.objs.size ∨ c = s1.heap.objs.size + 1 := by simpa using hcm
      have hle : s1.heap.objs.size ≤ c := by
        rcases e' with z | z | z | z | z
        · rw [z]; exact Nat.le_add_right _ _
        · rw [z]; exact Nat.le_add_right _ _
        · rw [z]; exact Nat.le_add_right _ _
        · rw [z]; exact Nat.le_refl _
        · rw [z]; exact Nat.le_add_right _ _
      exact I1.fpOk hle (I1.hok.fresh hle)
end Dn
namespace Dn
open PySem PySem.Spec PyProof.Rows L2
def pR (K : PySem.W.Frag) (js : List Nat) (σ0 : L2.St) : Hp → Hp → List Addr → Hp → Rho → L2.St → Prop := fun _ F ι _ ρ σ => REnv K F ι ρ σ ∧ ∀ vs : List Nat, (∀ j, j ∈ js → j ∈ vs) → wipe σ vs = wipe σ0 vs
theorem back_R {K : PySem.W.Frag} {js : List Nat} {σ0 : L2.St} : Back (pR K js σ0) := fun _ _ _ _ _ _ _ _ h => h
def tGt (K : PySem.W.Frag) (js : List Nat) (gf : D → Rho → M Rho) : TG := fun v σ H Q => ∃ F ι ρ st d, Sim K F ι st H ∧ REnv K F ι ρ σ ∧ Rep K F ι d v ∧ post K wN σ F ι H (pR K js σ) (gf d ρ st) Q
def DG (X : Cx) (js : List Nat) (e : Expr) (gf : D → Rho → M Rho) : Prop := PG X e (tGt X.K js gf)
theorem PG.weak {X : Cx} {e : Expr} {t t' : TG} (h : PG X e t) (w : ∀ v σ H Q, t' v σ H Q → t v σ H Q) : PG X e t' := ⟨fun pins s σ H v u Q I r q => h.run pins s σ H v u Q I r (w v σ H Q q)⟩
theorem wipe_set {σ : L2.St} {i : Nat} {x : Option V} : ∀ {vs : List Nat}, i ∈ vs → wipe (σ.set i x) vs = wipe σ vs
  | v :: vs, h => by
    show (wipe (σ.set i x) vs).set v none = (wipe σ vs).set v none
    by_cases hm : i ∈ vs
    · rw [wipe_set hm]
    · have e : i = v := by
        rcases List.mem_cons.mp h with e | e
        · exact e
        · exact absurd e hm
      subst e
      have key : ∀ (vs : List Nat), i ∉ vs → wipe (σ.set i x) vs = (wipe σ vs).set i x := by
        intro vs
        induction vs with
        | nil => intro _; rfl
        | cons u us ih =>
          intro h
          have h1 : i ≠ u := fun e => h (by simp [e])
          have h2 : i ∉ us := fun e => h (List.mem_cons_of_mem _ e)
          show (wipe (σ.set i x) us).set u none = ((wipe σ us).set u none).set i x
          rw [ih h2, List.set_comm _ _ h1]
      rw [key vs hm, List.set_set]
def gN (i : Nat) : D → Rho → M Rho := fun d ρ st => .ok (ρ.set i (some d)) st
theorem dg_name {X : Cx} {pos : Pos} {i : Nat} {x : Str} (hN : X.N.Nodup) (hi : X.N[i]? = some x) (hx : Loc X.env.scope x) (hf : X.fn x = true ∨ X.env.scope.names.lookup x = some .local := by first | exact .inl rfl | exact .inr rfl | assumption) : DG X [i] (.Name x pos) (gN i) :=
  PG.weak (pg_name hN hi hx hf) fun v σ H Q ⟨F, ι, ρ, st, d, S, R, r, q⟩ =>
    q F ι H _ Ext.refl S ⟨R.set r i, fun vs h => wipe_set (h i (by simp))⟩
def tGts (K : PySem.W.Frag) (js : List Nat) (gf : List D → Rho → M Rho) : TGs := fun vs σ H Q => ∃ F ι ρ st ds, Sim K F ι st H ∧ REnv K F ι ρ σ ∧ Reps K F ι ds vs ∧ post K wN σ F ι H (pR K js σ) (gf ds ρ st) Q
def DGs (X : Cx) (js : List Nat) (es : List Expr) (gf : List D → Rho → M Rho) : Prop := PGs X es (tGts X.K js gf)
theorem PGs.weak {X : Cx} {e : List Expr} {t t' : TGs} (h : PGs X e t) (w : ∀ v σ H Q, t' v σ H Q → t v σ H Q) : PGs X e t' := ⟨fun pins s σ H v u Q I r q => h.run pins s σ H v u Q I r (w v σ H Q q)⟩
def gsNil : List D → Rho → M Rho := fun ds ρ st => match ds with
  | [] => .ok ρ st
  | _ => .bad
def gsCons (g : D → Rho → M Rho) (gs : List D → Rho → M Rho) : List D → Rho → M Rho := fun ds ρ st => match ds with
  | d :: r => (g d ρ st).bind fun ρ1 st1 => gs r ρ1 st1
  | [] => .bad
theorem dgs_nil {X : Cx} : DGs X [] [] gsNil := by
  refine PGs.weak pgs_nil fun vs σ H Q ⟨F, ι, ρ, st, ds, S, R, r, q⟩ => ?_
  unfold gsNil at q
  split at q
  · simp only [Reps] at r
    exact ⟨r, q F ι H σ Ext.refl S ⟨R, fun _ _ => rfl⟩⟩
  · exact q.elim
theorem dgs_cons {X : Cx} {e : Expr} {es : List Expr} {j1 j2 : List Nat} {g : D → Rho → M Rho} {gs : List D → Rho → M Rho} (h1 : DG X j1 e g) (h2 : DGs X j2 es gs)
    (hs : (assignEach (e :: es) X.env).map (·.2) = assign e X.env :: (assignEach es X.env).map (·.2) := by rfl) : DGs X (j1 ++ j2) (e :: es) (gsCons g gs) := by
  refine PGs.weak (pgs_cons h1 h2 hs) fun vs σ H Q ⟨F, ι, ρ, st, ds, S, R, r, q⟩ => ?_
  unfold gsCons at q
  split at q
  · rename_i d ds'
    simp only [Reps] at r
    obtain ⟨v, vr, e, r1, r2⟩ := r
    refine ⟨v, vr, e, F, ι, ρ, st, d, S, R, r1, ?_⟩
    refine post_seq back_R q fun ρ1 st1 F1 ι1 H1 σ1 _ x1 S1 ⟨R1, k1⟩ q1 => ?_
    refine ⟨F1, ι1, ρ1, st1, ds', S1, R1, Reps.ext r2 x1, ?_⟩
    generalize gs ds' ρ1 st1 = rr at q1
    cases rr with
    | ok ρ2 st2 => exact fun F' ι' H' σ' y S' ⟨R', k'⟩ => q1 F' ι' H' σ' y S' ⟨R', fun vs hv => (k' vs fun j hj => hv j (List.mem_append_right _ hj)).trans (k1 vs fun j hj => hv j (List.mem_append_left _ hj))⟩
    | exc x st2 => exact fun F' ι' H' c d y S' r => (q1 F' ι' H' c d y S' r : False).elim
    | bad => exact q1
  · exact q.elim
def gT (n : Nat) (gs : List D → Rho → M Rho) : D → Rho → M Rho := fun d ρ st => match d with
  | .tup xs => if xs.length = n then gs xs ρ st else .bad
  | _ => .bad
theorem dg_tup {X : Cx} {pos : Pos} {es : List Expr} {k n : Nat} {js : List Nat} {gs : List D → Rho → M Rho} (hc : X.calm = true) (h : DGs X js es gs)
    (hn : (assignEach es X.env).length = n := by rfl) (hst : (assignEach es X.env).findIdx? (·.1) = none := by rfl) : DG X js (.Tuple es k pos) (gT n gs) := by
  refine PG.weak (pg_tup hc h hn hst) fun v σ H Q ⟨F, ι, ρ, st, d, S, R, r, q⟩ => ?_
  unfold gT at q
  split at q
  · split at q
    · rename_i xs hl
      simp only [Rep] at r
      obtain ⟨a, vs, e, h, rr⟩ := r
      exact ⟨a, vs, e, S.sqT h, by rw [← rr.length]; exact hl, F, ι, ρ, st, xs, S, R, rr, q⟩
    · exact q.elim
  · exact q.elim
structure Src where
  items : List D
  held : List (Nat × List D)
def heldOk (held : List (Nat × List D)) (st : Sto) : Prop := ∀ p, p ∈ held → st[p.1]? = some (.lst p.2)
@[simp] theorem heldOk_nil (st : Sto) : heldOk [] st ↔ True := ⟨fun _ => trivial, fun _ _ h => by cases h⟩
@[simp] theorem heldOk_one (l : Nat) (xs : List D) (st : Sto) : heldOk [(l, xs)] st ↔ st[l]? = some (.lst xs) := by
  constructor
  · intro h; exact h (l, xs) (by simp)
  · intro h p hp
    have : p = (l, xs) := by simpa using hp
    subst this; exact h
structure Grow (F : Hp) (ι : List Addr) (F' : Hp) (ι' : List Addr) : Prop where
  f : ∀ a o, F a = some o → F' a = some o
  i : ∀ (l : Nat) (a : Addr), ι[l]? = some a → ι'[l]? = some a
theorem Ext.grow {F : Hp} {ι : List Addr} {H F' : Hp} {ι' : List Addr} {H' : Hp} (x : Ext F ι H F' ι' H') : Grow F ι F' ι' := ⟨x.f, x.i⟩
structure SrcIt (K : PySem.W.Frag) (F : Hp) (ι : List Addr) (src : Src) (J : It) : Prop where
  go : ∀ (i : Nat) F' ι' st' H', Grow F ι F' ι' → Sim K F' ι' st' H' → heldOk src.held st' → i < src.items.length → J.go i H'
  stop : ∀ F' ι' st' H', Grow F ι F' ι' → Sim K F' ι' st' H' → heldOk src.held st' → J.stop src.items.length H'
  yld : ∀ (i : Nat) F' ι' st' H' x H2 d, Grow F ι F' ι' → Sim K F' ι' st' H' → heldOk src.held st' → src.items[i]? = some d → J.yld i H' x H2 → ∃ F2, Ext F' ι' H' F2 ι' H2 ∧ Sim K F2 ι' st' H2 ∧ Rep K F2 ι' d x
def pI (K : PySem.W.Frag) : Hp → Hp → List Addr → Hp → Src → It → Prop := fun _ F ι _ src J => SrcIt K F ι src J
theorem back_I {K : PySem.W.Frag} : Back (pI K) := fun _ _ _ _ _ _ _ _ h => h
def DI (X : Cx) (W : WX) (tg iter : Expr) (ms : Rho → M Src) : Prop := PI X tg iter (tG X.K W (pI X.K) ms)
theorem PI.weak {X : Cx} {tg e : Expr} {t t' : TI} (h : PI X tg e t) (w : ∀ σ H Q, t' σ H Q → t σ H Q) : PI X tg e t' := ⟨fun pins s σ H Q I q => h.run pins s σ H Q I (w σ H Q q)⟩
def srcOf (st : Sto) : D → Option Src
  | .tup xs => some ⟨xs, []⟩
  | .lst xs => some ⟨xs, []⟩
  | .scr xs => some ⟨xs, []⟩
  | .ref l => match st[l]? with
    | some (.lst xs) => some ⟨xs, [(l, xs)]⟩
    | _ => none
  | _ => none
theorem src_sq {K : PySem.W.Frag} {F : Hp} {ι : List Addr} {d : D} {v : V} {st : Sto} {H : Hp} {src : Src} (S : Sim K F ι st H) (r : Rep K F ι d v) (h : srcOf st d = some src) :
    ∃ k a, v = .ref a ∧ (∃ vs, SqX K H k a vs) ∧ ∀ F' ι' st' H', Grow F ι F' ι' → Sim K F' ι' st' H' → heldOk src.held st' → ∃ vs, SqX K H' k a vs ∧ Reps K F' ι' src.items vs := by
  unfold srcOf at h
  split at h
  · cases h
    simp only [Rep] at r
    obtain ⟨a, vs, e, hq, rr⟩ := r
    exact ⟨.t, a, e, ⟨vs, S.sqT hq⟩, fun F' ι' st' H' g S' _ => ⟨vs, S'.sqT (SqP.mono hq g.f), Reps.mono g.f g.i _ _ rr⟩⟩
  · cases h
    simp only [Rep] at r
    obtain ⟨a, vs, e, hq, rr⟩ := r
    exact ⟨.l, a, e, ⟨vs, SqL.of (S.sub _ _ hq)⟩, fun F' ι' st' H' g S' _ => ⟨vs, SqL.of (S'.sub _ _ (g.f _ _ hq)), Reps.mono g.f g.i _ _ rr⟩⟩
  · cases h
    simp only [Rep] at r
    obtain ⟨a, vs, e, hq, rr⟩ := r
    exact ⟨.l, a, e, ⟨vs, S.sqL hq⟩, fun F' ι' st' H' g S' _ => ⟨vs, S'.sqL (SqL.mono hq g.f), Reps.mono g.f g.i _ _ rr⟩⟩
  · rename_i l
    split at h
    · rename_i xs e1
      cases h
      simp only [Rep] at r
      obtain ⟨a, e, hi⟩ := r
      obtain ⟨vs, hv, _⟩ := S.obj l _ a e1 hi
      refine ⟨.l, a, e, ⟨vs, SqL.of hv⟩, fun F' ι' st' H' g S' ho => ?_⟩
      obtain ⟨ws, hw, rw'⟩ := S'.obj l _ a (ho (l, xs) (by simp)) (g.i l a hi)
      exact ⟨ws, SqL.of hw, rw'⟩
    · cases h
  · cases h
def ItX (K : PySem.W.Frag) : SK → Addr → It
  | .l, a => Itl K a
  | .t, a => Itt K a
def iSqX (K : PySem.W.Frag) (tl : TE) : TI := fun σ H R => tl σ H fun x H1 => ∃ k a, x = .ref a ∧ (∃ xs, SqX K H1 k a xs) ∧ R (ItX K k a) H1
theorem pi_sqX {X : Cx} {tg l : Expr} {tl : TE} (hl : PE X l tl) : PI X tg l (iSqX X.K tl) := by
  refine ⟨fun pins s σ H R I h => ?_⟩
  refine thn (hl.run pins s σ H _ I h) fun v s1 ⟨x, H1, I1, r1, q1⟩ => ?_
  obtain ⟨k, a, e, ⟨xs, hq⟩, q⟩ := q1
  subst e
  cases r1
  have fp : ∀ b, b ∈ [s1.heap.objs.size] → FpOk X pins H1 b := fun b hb => by
    have e : b = s1.heap.objs.size := by simpa using hb
    subst e
    exact I1.fpOk (Nat.le_refl _) (I1.hok.fresh (Nat.le_refl _))
  cases k with
  | l =>
    obtain ⟨its, rv, p, hz⟩ := I1.list hq
    refine wpAny_pyIter_list p.isList ?_
    exact ⟨s1.heap.objs.size, [s1.heap.objs.size], _, _, H1, rfl, I1.kept (t' := s1.toks) fun b o e => Heap.get?_push_of_some _ e, turn_list a _, ⟨_, Heap.get?_push_size _ rfl, rfl, rfl⟩, fp, q⟩
  | t =>
    obtain ⟨its, rv, p, hz⟩ := I1.tuple hq
    refine wpAny_pyIter_tuple (show s1.heap.IsTuple a its.toArray from p) ?_
    exact ⟨s1.heap.objs.size, [s1.heap.objs.size], _, _, H1, rfl, I1.kept (t' := s1.toks) fun b o e => Heap.get?_push_of_some _ e, turn_tuple a _, ⟨_, Heap.get?_push_size _ rfl, rfl, rfl⟩, fp, q⟩
def iSeq (m : Rho → M D) : Rho → M Src := fun ρ st => (m ρ st).bind fun d st1 => lift (srcOf st1 d) st1
section
variable {X : Cx} {W : WX} {pos p2 p : Pos} {tg e e2 : Expr} {m1 m2 m3 : Rho → M D} {am : Rho → M (List D)}
theorem di_seq (h : DE X W e m1) : DI X W tg e (iSeq m1) := by
  refine PI.weak (pi_sqX h) fun σ H Q ⟨F, ι, ρ, st, S, R, q⟩ => ?_
  refine tG_seq back_I S R q fun d st1 F1 ι1 H1 v1 x1 S1 R1 r1 q1 => ?_
  cases e1 : srcOf st1 d with
  | none => rw [e1] at q1; exact q1.elim
  | some src =>
    rw [e1] at q1
    obtain ⟨k, a, e, hs, hk⟩ := src_sq S1 r1 e1
    refine ⟨k, a, e, hs, q1 F1 ι1 H1 (ItX X.K k a) Ext.refl S1 ⟨fun i F' ι' st' H' g S' ho hi => ?_, fun F' ι' st' H' g S' ho => ?_, fun i F' ι' st' H' x H2 d g S' ho hd y => ?_⟩⟩
    · obtain ⟨vs, hv, rv⟩ := hk F' ι' st' H' g S' ho
      obtain ⟨v, q, _⟩ := rv.get (List.getElem?_eq_getElem hi)
      cases k with
      | l => exact ⟨vs, v, hv, q⟩
      | t => exact ⟨vs, v, hv, q⟩
    · obtain ⟨vs, hv, rv⟩ := hk F' ι' st' H' g S' ho
      cases k with
      | l => exact ⟨vs, hv, Nat.le_of_eq rv.length.symm⟩
      | t => exact ⟨vs, hv, Nat.le_of_eq rv.length.symm⟩
    · obtain ⟨vs, hv, rv⟩ := hk F' ι' st' H' g S' ho
      cases k with
      | l =>
        obtain ⟨e, y⟩ := y
        subst e
        exact ⟨F', Ext.refl, S', rv.at hd (y vs hv)⟩
      | t =>
        obtain ⟨e, y⟩ := y
        subst e
        exact ⟨F', Ext.refl, S', rv.at hd (y vs hv)⟩
def rngD (lo : Int) (n : Nat) : List D := (List.range n).map fun i : Nat => .int (lo + (i : Int))
theorem rngD_length (lo : Int) (n : Nat) : (rngD lo n).length = n := by unfold rngD; simp
theorem rngD_get {lo : Int} {n i : Nat} {d : D} (h : (rngD lo n)[i]? = some d) : d = .int (lo + (i : Int)) := by
  unfold rngD at h
  rw [List.getElem?_map] at h
  cases e : (List.range n)[i]? with
  | none => rw [e] at h; cases h
  | some j =>
    rw [e] at h
    have := List.getElem?_eq_some_iff.mp e
    obtain ⟨h1, h2⟩ := this
    rw [List.getElem_range] at h2
    subst h2
    exact (Option.some.inj h).symm
theorem src_range {K : PySem.W.Frag} {F : Hp} {ι : List Addr} {lo : Int} {n : Nat} : SrcIt K F ι ⟨rngD lo n, []⟩ (Itr lo n) := by
  refine ⟨fun i F' ι' st' H' g S' ho hi => ?_, fun F' ι' st' H' g S' ho => ?_, fun i F' ι' st' H' x H2 d g S' ho hd y => ?_⟩
  · have hi' : i < (rngD lo n).length := hi
    rw [rngD_length] at hi'
    exact hi'
  · show n ≤ (rngD lo n).length
    rw [rngD_length]
    exact Nat.le_refl _
  · obtain ⟨e, y⟩ := y
    subst e y
    have hd' := rngD_get hd
    subst hd'
    exact ⟨F', Ext.refl, S', by simp only [Rep]⟩
noncomputable def rng1 : D → Option Src
  | .int j => @ite _ (-(2 ^ 62) ≤ j ∧ j < 2 ^ 62) (Classical.propDecidable _) (some ⟨rngD 0 j.toNat, []⟩) (none)
  | _ => none
noncomputable def iRng1D (m : Rho → M D) : Rho → M Src := fun ρ st => (m ρ st).bind fun d st1 => lift (rng1 d) st1
theorem di_range1 (hg : Gl X "range") (hm : X.mg "range" = none) (h : DE X W e m1) (hs : starEach [e] X.env = [(false, eval e X.env)] := by rfl) : DI X W tg (.Call (.Name "range" p) [e] [] pos) (iRng1D m1) := by
  have ha : PA X [e] (tCons (tV X.K W m1) tNil) := pa_cons h pa_nil hs
  refine PI.weak (pi_range1 hg hm ha hs) fun σ H Q ⟨F, ι, ρ, st, S, R, q⟩ => ?_
  refine tG_seq back_I S R q fun d st1 F1 ι1 H1 v1 x1 S1 R1 r1 q1 => ?_
  unfold rng1 at q1
  split at q1
  · rename_i j
    split at q1
    · rename_i hb
      have rv : Rep X.K F1 ι1 (.int j) v1 := r1
      simp only [Rep] at rv
      exact ⟨j, by rw [rv], hb.1, hb.2, q1 F1 ι1 H1 _ Ext.refl S1 src_range⟩
    · exact q1.elim
  · exact q1.elim
def enumD (n : Nat) : List D → List D
  | [] => []
  | d :: r => .tup [.int (n : Int), d] :: enumD (n + 1) r
theorem enumD_length : ∀ (xs : List D) (n : Nat), (enumD n xs).length = xs.length
  | [], _ => rfl
  | _ :: r, n => by rw [enumD, List.length_cons, List.length_cons, enumD_length r]
theorem enumD_get : ∀ {xs : List D} {n i : Nat} {d : D}, (enumD n xs)[i]? = some d → ∃ x, xs[i]? = some x ∧ d = .tup [.int ((n + i : Nat) : Int), x]
  | [], _, _, _, h => by simp [enumD] at h
  | x :: r, n, 0, d, h => by
    simp [enumD] at h
    exact ⟨x, rfl, h.symm⟩
  | x :: r, n, i + 1, d, h => by
    rw [enumD, List.getElem?_cons_succ] at h
    obtain ⟨y, h1, h2⟩ := enumD_get h
    exact ⟨y, by simpa using h1, by rw [h2]; congr 4; omega⟩
def iEnumD (m : Rho → M D) : Rho → M Src := fun ρ st => (m ρ st).bind fun d st1 => (lift (srcOf st1 d) st1).bind fun src st2 => .ok ⟨enumD 0 src.items, src.held⟩ st2
theorem new_pair {K : PySem.W.Frag} {F : Hp} {ι : List Addr} {st : Sto} {H : Hp} {T : Addr} {d1 d2 : D} {v1 v2 : V} {o : Obj} (S : Sim K F ι st H) (hT : H T = none) (ho : o.dict = none) (r1 : Rep K F ι d1 v1) (r2 : Rep K F ι d2 v2) :
    ∃ F2, Ext F ι H F2 ι (upd H T (.frz o (.tup [v1, v2]))) ∧ Sim K F2 ι st (upd H T (.frz o (.tup [v1, v2]))) ∧ Rep K F2 ι (.tup [d1, d2]) (.ref T) := by
  have x : Ext F ι H (upd F T (.frz o (.tup [v1, v2]))) ι (upd H T (.frz o (.tup [v1, v2]))) := Ext.frozen hT S.sub
  refine ⟨_, x, S.frozen hT trivial, ?_⟩
  simp only [Rep]
  exact ⟨T, [v1, v2], rfl, .inl ⟨o, ho, upd_same⟩, Reps.cons (r1.ext x) (Reps.cons (r2.ext x) Reps.nil)⟩
theorem di_enum {elts : List Expr} {kk : Nat} {tpos : Pos} (hg : Gl X "enumerate") (hm : X.mg "enumerate" = none) (h : DE X W e m1) (hs : starEach [e] X.env = [(false, eval e X.env)] := by rfl) : DI X W (.Tuple elts kk tpos) (.Call (.Name "enumerate" p) [e] [] pos) (iEnumD m1) := by
  have ha : PA X [e] (tCons (tV X.K W m1) tNil) := pa_cons h pa_nil hs
  refine PI.weak (pi_enumX hg hm ha hs) fun σ H Q ⟨F, ι, ρ, st, S, R, q⟩ => ?_
  refine tG_seq back_I S R q fun d st1 F1 ι1 H1 v1 x1 S1 R1 r1 q1 => ?_
  cases e1 : srcOf st1 d with
  | none => rw [e1] at q1; exact q1.elim
  | some src =>
    rw [e1] at q1
    obtain ⟨k, a, e, ⟨vs, hs⟩, hk⟩ := src_sq S1 r1 e1
    refine ⟨a, k, vs, by rw [e], hs, q1 F1 ι1 H1 (IteX X.K k a) Ext.refl S1 ⟨fun i F' ι' st' H' g S' ho hi => ?_, fun F' ι' st' H' g S' ho => ?_, fun i F' ι' st' H' x H2 d g S' ho hd y => ?_⟩⟩
    · obtain ⟨vs, hv, rv⟩ := hk F' ι' st' H' g S' ho
      have hi' : i < src.items.length := by
        have h0 : i < (enumD 0 src.items).length := hi
        rw [enumD_length] at h0
        exact h0
      obtain ⟨v, q, _⟩ := rv.get (List.getElem?_eq_getElem hi')
      exact ⟨vs, v, hv, q⟩
    · obtain ⟨vs, hv, rv⟩ := hk F' ι' st' H' g S' ho
      exact ⟨vs, hv, by rw [← rv.length]; exact (enumD_length _ _).symm⟩
    · obtain ⟨vs, hv, rv⟩ := hk F' ι' st' H' g S' ho
      obtain ⟨T, z, o, ex, hT, hd0, eH, y⟩ := y
      obtain ⟨w, hw, ed⟩ := enumD_get hd
      subst ex eH ed
      have e0 : ((0 + i : Nat) : Int) = (i : Int) := by omega
      rw [e0]
      exact new_pair S' hT hd0 (by simp only [Rep]) (rv.at hw (y vs hv))
def zipD : List D → List D → List D
  | x :: xs, y :: ys => .tup [x, y] :: zipD xs ys
  | _, _ => []
theorem zipD_length : ∀ (xs ys : List D), (zipD xs ys).length = min xs.length ys.length
  | x :: xs, y :: ys => by rw [zipD, List.length_cons, List.length_cons, List.length_cons, zipD_length xs ys]; omega
  | [], _ => by simp [zipD]
  | _ :: _, [] => by simp [zipD]
theorem zipD_get : ∀ {xs ys : List D} {i : Nat} {d : D}, (zipD xs ys)[i]? = some d → ∃ x y, xs[i]? = some x ∧ ys[i]? = some y ∧ d = .tup [x, y]
  | [], _, _, _, h => by simp [zipD] at h
  | _ :: _, [], _, _, h => by simp [zipD] at h
  | x :: xs, y :: ys, 0, d, h => by
    simp [zipD] at h
    exact ⟨x, y, rfl, rfl, h.symm⟩
  | x :: xs, y :: ys, i + 1, d, h => by
    rw [zipD, List.getElem?_cons_succ] at h
    obtain ⟨a, b, h1, h2, h3⟩ := zipD_get h
    exact ⟨a, b, by simpa using h1, by simpa using h2, h3⟩
def iZipD (m1 m2 : Rho → M D) : Rho → M Src := fun ρ st => (m1 ρ st).bind fun d1 st1 => (m2 ρ st1).bind fun d2 st2 => (lift (srcOf st2 d1) st2).bind fun s1 st3 => (lift (srcOf st3 d2) st3).bind fun s2 st4 => .ok ⟨zipD s1.items s2.items, s1.held ++ s2.held⟩ st4
theorem di_zip {elts : List Expr} {kk : Nat} {tpos : Pos} (hg : Gl X "zip") (hm : X.mg "zip" = none) (h : DE X W e m1) (h' : DE X W e2 m2) (hs : starEach [e, e2] X.env = (false, eval e X.env) :: starEach [e2] X.env := by rfl) (hs2 : starEach [e2] X.env = (false, eval e2 X.env) :: starEach [] X.env := by rfl) (hpl : (backTo pos (starEach [e2] X.env)).any (·.1) = false := by rfl) :
    DI X W (.Tuple elts kk tpos) (.Call (.Name "zip" p) [e, e2] [] pos) (iZipD m1 m2) := by
  have ha : PA X [e, e2] (tCons (tV X.K W m1) (tCons (tV X.K W m2) tNil)) := pa_cons h (pa_cons h' pa_nil hs2) hs
  refine PI.weak (pi_zipX hg hm ha hs hpl) fun σ H Q ⟨F, ι, ρ, st, S, R, q⟩ => ?_
  refine tG_seq back_I S R q fun d1 st1 F1 ι1 H1 v1 x1 S1 R1 r1 q1 => ?_
  refine tG_seq back_I S1 R1 q1 fun d2 st2 F2 ι2 H2 v2 x2 S2 R2 r2 q2 => ?_
  cases e1 : srcOf st2 d1 with
  | none => rw [e1] at q2; exact q2.elim
  | some s1 =>
    rw [e1] at q2
    have q2 : post X.K W σ F2 ι2 H2 (pI X.K) ((lift (srcOf st2 d2) st2).bind fun s2 st4 => .ok ⟨zipD s1.items s2.items, s1.held ++ s2.held⟩ st4) Q := q2
    cases e3 : srcOf st2 d2 with
    | none => rw [e3] at q2; exact q2.elim
    | some s2 =>
      rw [e3] at q2
      obtain ⟨k1, a1, ea1, ⟨vs1, hv1⟩, hk1⟩ := src_sq S2 (Rep.ext r1 x2) e1
      obtain ⟨k2, a2, ea2, ⟨vs2, hv2⟩, hk2⟩ := src_sq S2 r2 e3
      have sp : ∀ st', heldOk (s1.held ++ s2.held) st' → heldOk s1.held st' ∧ heldOk s2.held st' := fun st' ho => ⟨fun p hp => ho p (List.mem_append_left _ hp), fun p hp => ho p (List.mem_append_right _ hp)⟩
      refine ⟨a1, a2, k1, k2, vs1, vs2, by rw [ea1, ea2], hv1, hv2, q2 F2 ι2 H2 (ItzX X.K k1 k2 a1 a2) Ext.refl S2 ⟨fun i F' ι' st' H' g S' ho hi => ?_, fun F' ι' st' H' g S' ho => ?_, fun i F' ι' st' H' x H3 d g S' ho hd y => ?_⟩⟩
      · obtain ⟨w1, q1, rv1⟩ := hk1 F' ι' st' H' g S' (sp st' ho).1
        obtain ⟨w2, q2, rv2⟩ := hk2 F' ι' st' H' g S' (sp st' ho).2
        have hi' : i < min s1.items.length s2.items.length := by
          have h0 : i < (zipD s1.items s2.items).length := hi
          rw [zipD_length] at h0
          exact h0
        obtain ⟨u1, p1, _⟩ := rv1.get (List.getElem?_eq_getElem (show i < s1.items.length by omega))
        obtain ⟨u2, p2, _⟩ := rv2.get (List.getElem?_eq_getElem (show i < s2.items.length by omega))
        exact ⟨w1, w2, u1, u2, q1, q2, p1, p2⟩
      · obtain ⟨w1, q1, rv1⟩ := hk1 F' ι' st' H' g S' (sp st' ho).1
        obtain ⟨w2, q2, rv2⟩ := hk2 F' ι' st' H' g S' (sp st' ho).2
        exact ⟨w1, w2, q1, q2, by rw [← rv1.length, ← rv2.length]; exact zipD_length _ _⟩
      · obtain ⟨w1, q1, rv1⟩ := hk1 F' ι' st' H' g S' (sp st' ho).1
        obtain ⟨w2, q2, rv2⟩ := hk2 F' ι' st' H' g S' (sp st' ho).2
        obtain ⟨T, z1, z2, o, ex, hT, hd0, eH, y1, y2⟩ := y
        obtain ⟨b1, b2, hb1, hb2, ed⟩ := zipD_get hd
        subst ex eH ed
        exact new_pair S' hT hd0 (rv1.at hb1 (y1 w1 q1)) (rv2.at hb2 (y2 w2 q2))
end
end Dn
namespace Dn
open PySem PySem.Spec PyProof.Rows L2
theorem Ext.outF {F : Hp} {ι : List Addr} {H F' : Hp} {ι' : List Addr} {H' : Hp} (x : Ext F ι H F' ι' H') {p : Addr} (hH : H p ≠ none) (hF : F p = none) (hi : p ∉ ι) : F' p = none := by
  cases e : F' p with
  | none => rfl
  | some o =>
    rcases x.newF p o e with q | q | q
    · rw [hF] at q; cases q
    · exact absurd q hH
    · exact absurd q hi
theorem Ext.outI {F : Hp} {ι : List Addr} {H F' : Hp} {ι' : List Addr} {H' : Hp} (x : Ext F ι H F' ι' H') {p : Addr} (hH : H p ≠ none) (hi : p ∉ ι) : p ∉ ι' := fun h => by
  rcases x.newI p h with q | q
  · exact hi q
  · exact hH q
theorem Sim.outside {K : PySem.W.Frag} {F : Hp} {ι : List Addr} {st : Sto} {H : Hp} (S : Sim K F ι st H) {p : Addr} {o : HO} (hF : F p = none) (hi : p ∉ ι) : Sim K F ι st (upd H p o) := by
  have nf : ∀ a u, F a = some u → a ≠ p := fun a u h e => by rw [e, hF] at h; cases h
  have ni : ∀ a, a ∈ ι → a ≠ p := fun a h e => hi (by rw [← e]; exact h)
  refine ⟨fun a u h => by rw [upd_ne (nf a u h)]; exact S.sub a u h, S.kind, S.len, S.nd, S.free, fun a h => by rw [upd_ne (ni a h)]; exact S.there a h, fun l m a h1 h2 => ?_⟩
  exact (S.obj l m a h1 h2).mono (fun _ _ h => h) (fun _ _ h => h) (upd_ne (ni a (List.mem_of_getElem? h2)))
theorem Ext.outside {F : Hp} {ι : List Addr} {H F' : Hp} {ι' : List Addr} {H' : Hp} (x : Ext F ι H F' ι' H') {p : Addr} {o : HO} (h0 : H p = none) (h1 : H' p ≠ none) : Ext F ι H F' ι' (upd H' p o) := by
  refine ⟨x.f, x.i, fun a u h n => ?_, fun a h => ?_, x.newF, x.newI, x.long⟩
  · rw [upd_ne (ne_of_none h h0)]; exact x.keep a u h n
  · by_cases e : a = p
    · subst e; exact h0
    · rw [upd_ne e] at h; exact x.there a h
theorem wipe_idem (σ : L2.St) (vs : List Nat) : wipe (wipe σ vs) vs = wipe σ vs := by
  have key : ∀ (us : List Nat), (∀ u ∈ us, u ∈ vs) → ∀ τ : L2.St, wipe (wipe τ us) vs = wipe τ vs := by
    intro us
    induction us with
    | nil => intro _ τ; rfl
    | cons u us ih =>
      intro h τ
      show wipe ((wipe τ us).set u none) vs = _
      rw [wipe_set (h u (by simp)), ih (fun v hv => h v (List.mem_cons_of_mem _ hv))]
  exact key vs (fun _ h => h) σ
open Classical in
noncomputable def lcL (held : List (Nat × List D)) (f : D → Sto → Out (Option D)) : List D → Sto → Out (List D)
  | [], st => if heldOk held st then .ok [] st else .bad
  | d :: ds, st => if heldOk held st then (f d st).bind fun o st1 => (lcL held f ds st1).bind fun ys st2 => .ok (o.toList ++ ys) st2 else .bad
def lcF (gf : D → Rho → M Rho) (mt : Rho → M Bool) (me : Rho → M D) (ρ : Rho) : D → Sto → Out (Option D) := fun d st =>
  (gf d ρ st).bind fun ρ2 s2 => (mt ρ2 s2).bind fun b s3 => if b = true then (me ρ2 s3).bind fun y s4 => .ok (some y) s4 else .ok none s3
noncomputable def lLc (ms : Rho → M Src) (gf : D → Rho → M Rho) (mt : Rho → M Bool) (me : Rho → M D) (vs : List Nat) : Rho → M (List D) := fun ρ st =>
  (ms ρ st).bind fun src st1 => if src.items.length ≤ SZ then nox (lcL src.held (lcF gf mt me (wipeD ρ vs)) src.items st1) else .bad
theorem bind_ok {α β : Type} {r : Out α} {f : α → Sto → Out β} {b : β} {st : Sto} (h : r.bind f = .ok b st) : ∃ a st1, r = .ok a st1 ∧ f a st1 = .ok b st := by
  cases r with
  | ok a st1 => exact ⟨a, st1, rfl, h⟩
  | exc _ _ => cases h
  | bad => cases h
def DTs (X : Cx) (W : WX) (ifs : List Expr) (m : Rho → M Bool) : Prop := PTs X ifs (tT X.K W m)
def bYes : Rho → M Bool := fun _ st => .ok true st
theorem dts_nil {X : Cx} {W : WX} : DTs X W [] bYes := ⟨fun pins s σ H Q I ⟨F, ι, ρ, st, S, R, q⟩ => pts_nil.run pins s σ H Q I (q F ι H true Ext.refl S rfl)⟩
theorem dts_one {X : Cx} {W : WX} {c : Expr} {m : Rho → M Bool} (h : DT X W c m) : DTs X W [c] m := pts_one h
theorem post_ok {α β : Type} {K : PySem.W.Frag} {W : WX} {σ : L2.St} {F : Hp} {ι : List Addr} {H : Hp} {P : Hp → Hp → List Addr → Hp → α → β → Prop} {r : Out α} {a : α} {st : Sto} {Q : β → Hp → Prop} (e : r = .ok a st)
    (h : ∀ F' ι' H' b, Ext F ι H F' ι' H' → Sim K F' ι' st H' → P H F' ι' H' a b → Q b H') : post K W σ F ι H P r Q := by
  subst e
  exact h
theorem lc_of {K : PySem.W.Frag} {W : WX} {ms : Rho → M Src} {js : List Nat} {gf : D → Rho → M Rho} {mt : Rho → M Bool} {me : Rho → M D} {vs : List Nat} (hjs : ∀ j, j ∈ js → j ∈ vs) {σ : L2.St} {H : Hp} {Q : VK} (h : tL K W (lLc ms gf mt me vs) σ H Q) :
    tLc (tG K W (pI K) ms) (tGt K js gf) (tT K wN mt) (tV K wN me) vs σ H Q := by
  obtain ⟨F, ι, ρ, st, S, R, q⟩ := h
  refine tG_seq back_L S R q fun src st1 F1 ι1 H1 J x1 S1 R1 hJ q1 => ?_
  have hJ : SrcIt K F1 ι1 src J := hJ
  split at q1
  rotate_left
  · exact q1.elim
  rename_i hsz
  intro D hD
  cases er : lcL src.held (lcF gf mt me (wipeD ρ vs)) src.items st1 with
  | exc _ _ => rw [er] at q1; exact (q1 : False).elim
  | bad => rw [er] at q1; exact (q1 : False).elim
  | ok tot stf =>
    rw [er] at q1
    have q1 : ∀ F' ι' H' b, Ext F1 ι1 H1 F' ι' H' → Sim K F' ι' stf H' → pL K H1 F' ι' H' tot b → Q b H' := q1
    refine ⟨fun i m H' => m = src.items.length - i ∧ i ≤ src.items.length ∧ ∃ F' ι' st' acc av, Ext F1 ι1 H1 F' ι' H' ∧ Sim K F' ι' st' H' ∧ H' D = some (.lst av) ∧ F' D = none ∧ D ∉ ι' ∧ Reps K F' ι' acc av ∧ acc.length ≤ i ∧
      ∃ ys, lcL src.held (lcF gf mt me (wipeD ρ vs)) (src.items.drop i) st' = .ok ys stf ∧ acc ++ ys = tot, ⟨_, rfl, Nat.zero_le _, F1, ι1, st1, [], [], Ext.laid hD, S1.laid hD, upd_same, ?_, fun h => S1.there D h hD, Reps.nil, Nat.zero_le _, tot, er, rfl⟩, ?_⟩
    · cases e : F1 D with
      | none => rfl
      | some o =>
        have := S1.sub D o e
        rw [hD] at this
        cases this
    rintro i m H' ⟨rfl, hi, F', ι', st', acc, av, x', S', hv, hF', hi', ra, hla, ys, ey, et⟩
    by_cases hlt : i < src.items.length
    · right
      rw [List.drop_eq_getElem_cons hlt] at ey
      unfold lcL at ey
      split at ey
      rotate_left
      · cases ey
      rename_i ho
      obtain ⟨o, st2, e1, ey⟩ := bind_ok ey
      obtain ⟨ys', st3, e2, ey⟩ := bind_ok ey
      cases ey
      have g' : Grow F1 ι1 F' ι' := x'.grow
      refine ⟨hJ.go i F' ι' st' H' g' S' ho hlt, fun H'' => ∃ m', m' < src.items.length - i ∧ _, fun H'' h => h, fun x H2 y => ?_⟩
      obtain ⟨F2, x2, S2, r2⟩ := hJ.yld i F' ι' st' H' x H2 src.items[i] g' S' ho (by simp [hlt]) y
      unfold lcF at e1
      obtain ⟨ρ2, s2, e3, e1⟩ := bind_ok e1
      obtain ⟨b, s3, e4, e1⟩ := bind_ok e1
      have nH' : H' D ≠ none := by rw [hv]; simp
      refine ⟨F2, ι', wipeD ρ vs, st', _, S2, ((R1.ext x').ext x2).wipe vs, r2, post_ok e3 fun F3 ι3 H3 σ2 x3 S3 ⟨R3, hw⟩ => ?_⟩
      refine ⟨(hw vs hjs).trans (wipe_idem σ vs), F3, ι3, ρ2, s2, S3, R3, post_ok e4 fun F4 ι4 H4 b' x4 S4 eb => ?_⟩
      have eb : b = b' := eb
      subst eb
      have xx4 : Ext F' ι' H' F4 ι4 H4 := (x2.trans x3).trans x4
      cases b with
      | false =>
        rw [if_neg (by decide)] at e1 ⊢
        cases e1
        refine ⟨_, ?_, rfl, hlt, F4, ι4, _, acc, av, x'.trans xx4, S4, xx4.keep D _ hv hi', xx4.outF nH' hF' hi', xx4.outI nH' hi', ra.ext xx4, Nat.le_succ_of_le hla, ys', e2, et⟩
        omega
      | true =>
        rw [if_pos rfl] at e1 ⊢
        obtain ⟨yd, s4, e5, e1⟩ := bind_ok e1
        cases e1
        refine ⟨F4, ι4, ρ2, s3, S4, R3.ext x4, post_ok e5 fun F5 ι5 H5 yv x5 S5 r5 => ?_⟩
        have xx5 : Ext F' ι' H' F5 ι5 H5 := xx4.trans x5
        have hv5 := xx5.keep D _ hv hi'
        have hF5 := xx5.outF nH' hF' hi'
        have hi5 := xx5.outI nH' hi'
        refine ⟨av, hv5, by rw [← ra.length]; exact sz_lt (by omega), _, ?_, rfl, hlt, F5, ι5, _, acc ++ [yd], av ++ [yv], (x'.trans xx5).outside hD (by rw [hv5]; simp), S5.outside hF5 hi5, upd_same, hF5, hi5, (ra.ext xx5).snoc r5, ?_, ys', e2, ?_⟩
        · omega
        · rw [List.length_append]; simp; omega
        · rw [← et]; simp
    · left
      have e0 : i = src.items.length := by omega
      subst e0
      rw [List.drop_length] at ey
      unfold lcL at ey
      split at ey
      rotate_left
      · cases ey
      rename_i ho
      cases ey
      rw [List.append_nil] at et
      subst et
      exact ⟨hJ.stop F' ι' _ H' x'.grow S' ho, q1 F' ι' H' (.ref D) x' S' ⟨D, av, rfl, hv, hF', hi', hD, ra⟩⟩
section
variable {X : Cx} {W : WX} {pos spos py : Pos} {tg iter elt : Expr} {ifs : List Expr} {scope : Scope} {own : List (Str × Nat)} {ms : Rho → M Src} {js : List Nat} {gf : D → Rho → M Rho} {mt : Rho → M Bool} {me : Rho → M D}
theorem dl_lc (hc : X.calm = true) (hN : X.N.Nodup) (hi : DI X W tg iter ms) (ok : BlkOk X.N X.env.scope scope own) (hjs : ∀ j, j ∈ js → j ∈ own.map (·.2))
    (hg : ∀ (s : Shared) (H : Hp) (C : Addr) (cl : List (Str × Addr)) (fp : List Addr), DG (X.blk s H scope (compEnvC scope cl C X.env) fp) js tg gf) (ht : ∀ (s : Shared) (H : Hp) (C : Addr) (cl : List (Str × Addr)) (fp : List Addr), DTs (X.blk s H scope (compEnvC scope cl C X.env) fp) wN ifs mt)
    (he : ∀ (s : Shared) (H : Hp) (C : Addr) (cl : List (Str × Addr)) (fp : List Addr), DE (X.blk s H scope (compEnvC scope cl C X.env) fp) wN elt me) (hs : ∀ x, foldedSetIterable iter X.env x = pure x := by intro _; rfl) :
    DL X W (.ListComp elt [⟨tg, iter, ifs, 0⟩] scope pos) (lLc ms gf mt me (own.map (·.2))) :=
  PE.weak (pe_lc (g := tGt X.K js gf) (tt := tT X.K wN mt) (te := tV X.K wN me) hc hN hi ok hg ht he hs) fun _ _ _ h => lc_of hjs h
end
inductive Fl where
  | next (ρ : Rho) (st : Sto) | ret (d : D) (st : Sto) | brk (ρ : Rho) (st : Sto) | cnt (ρ : Rho) (st : Sto) | exc (x : Xc) (ρ : Rho) (st : Sto) | bad
def Out.fl {α : Type} (r : Out α) (ρ : Rho) (f : α → Sto → Fl) : Fl := match r with
  | .ok a st => f a st
  | .exc x st => .exc x ρ st
  | .bad => .bad
@[simp] theorem Out.fl_ok {α : Type} (a : α) (st : Sto) (ρ : Rho) (f : α → Sto → Fl) : (Out.ok a st).fl ρ f = f a st := rfl
@[simp] theorem Out.fl_exc {α : Type} (x : Xc) (st : Sto) (ρ : Rho) (f : α → Sto → Fl) : (Out.exc x st : Out α).fl ρ f = .exc x ρ st := rfl
@[simp] theorem Out.fl_bad {α : Type} (ρ : Rho) (f : α → Sto → Fl) : (Out.bad : Out α).fl ρ f = .bad := rfl
def sPost (K : PySem.W.Frag) (W : WX) (E : Ends) (F : Hp) (ι : List Addr) (H : Hp) (r : Fl) : Prop := match r with
  | .next ρ' st' => ∀ F' ι' H' σ', Ext F ι H F' ι' H' → Sim K F' ι' st' H' → REnv K F' ι' ρ' σ' → E.nx σ' H'
  | .brk ρ' st' => ∀ F' ι' H' σ', Ext F ι H F' ι' H' → Sim K F' ι' st' H' → REnv K F' ι' ρ' σ' → E.bk σ' H'
  | .cnt ρ' st' => ∀ F' ι' H' σ', Ext F ι H F' ι' H' → Sim K F' ι' st' H' → REnv K F' ι' ρ' σ' → E.ct σ' H'
  | .ret d st' => ∀ F' ι' H' v, Ext F ι H F' ι' H' → Sim K F' ι' st' H' → Rep K F' ι' d v → E.rt v H'
  | .exc x ρ' st' => ∀ F' ι' H' cls dd σ', Ext F ι H F' ι' H' → Sim K F' ι' st' H' → REnv K F' ι' ρ' σ' → XcR K F' ι' H' x cls dd → W cls dd σ' H'
  | .bad => False
theorem sPost_ext {K : PySem.W.Frag} {W : WX} {E : Ends} {F F1 : Hp} {ι ι1 : List Addr} {H H1 : Hp} {r : Fl} (h : sPost K W E F ι H r) (x : Ext F ι H F1 ι1 H1) : sPost K W E F1 ι1 H1 r := by
  cases r with
  | next ρ st => exact fun F' ι' H' σ' y => h F' ι' H' σ' (x.trans y)
  | brk ρ st => exact fun F' ι' H' σ' y => h F' ι' H' σ' (x.trans y)
  | cnt ρ st => exact fun F' ι' H' σ' y => h F' ι' H' σ' (x.trans y)
  | ret d st => exact fun F' ι' H' σ' y => h F' ι' H' σ' (x.trans y)
  | exc e ρ st => exact fun F' ι' H' c d σ' y => h F' ι' H' c d σ' (x.trans y)
  | bad => exact h
def tS (K : PySem.W.Frag) (W : WX) (m : Rho → Sto → Fl) : TS := fun E σ H => ∃ F ι ρ st, Sim K F ι st H ∧ REnv K F ι ρ σ ∧ sPost K W E F ι H (m ρ st)
def DS (X : Cx) (W : WX) (s : Stmt) (m : Rho → Sto → Fl) : Prop := PS X s (tS X.K W m)
def DSs (X : Cx) (W : WX) (s : List Stmt) (m : Rho → Sto → Fl) : Prop := PSs X s (tS X.K W m)
theorem fl_seq {α β : Type} {K : PySem.W.Frag} {W : WX} {P : Hp → Hp → List Addr → Hp → α → β → Prop} {m : Rho → M α} {E : Ends} {σ : L2.St} {F : Hp} {ι : List Addr} {H : Hp} {ρ : Rho} {st : Sto} {f : α → Sto → Fl} {Q' : β → Hp → Prop}
    (S : Sim K F ι st H) (R : REnv K F ι ρ σ) (h : sPost K W E F ι H ((m ρ st).fl ρ f))
    (k : ∀ a st1 F1 ι1 H1 b, Ext F ι H F1 ι1 H1 → Sim K F1 ι1 st1 H1 → REnv K F1 ι1 ρ σ → P H F1 ι1 H1 a b → sPost K W E F1 ι1 H1 (f a st1) → Q' b H1) : tG K W P m σ H Q' := by
  refine ⟨F, ι, ρ, st, S, R, ?_⟩
  cases e : m ρ st with
  | ok a st1 =>
    rw [e] at h
    exact fun F1 ι1 H1 b x S1 p => k a st1 F1 ι1 H1 b x S1 (R.ext x) p (sPost_ext h x)
  | exc y st1 =>
    rw [e] at h
    exact fun F1 ι1 H1 c d x S1 p => h F1 ι1 H1 c d σ x S1 (R.ext x) p
  | bad =>
    rw [e] at h
    exact h
section
variable {X : Cx} {W : WX} {pos : Pos} {st : Stmt} {rest : List Stmt} {s1 s2 : Rho → Sto → Fl}
def sNext : Rho → Sto → Fl := fun ρ st => .next ρ st
def Fl.seq (r : Fl) (k : Rho → Sto → Fl) : Fl := match r with
  | .next ρ st => k ρ st
  | r => r
def sSeq (s1 s2 : Rho → Sto → Fl) : Rho → Sto → Fl := fun ρ st => (s1 ρ st).seq s2
theorem dss_nil : DSs X W [] sNext := PSs.weak pss_nil fun E σ H ⟨F, ι, ρ, st, S, R, q⟩ => q F ι H σ Ext.refl S R
theorem dss_cons (h1 : DS X W st s1) (h2 : DSs X W rest s2) : DSs X W (st :: rest) (sSeq s1 s2) := by
  refine PSs.weak (pss_cons h1 h2) fun E σ H ⟨F, ι, ρ, st, S, R, q⟩ => ⟨F, ι, ρ, st, S, R, ?_⟩
  unfold sSeq Fl.seq at q
  generalize s1 ρ st = r at q
  cases r with
  | next ρ1 st1 => exact fun F' ι' H' σ' x S' R' => ⟨F', ι', ρ1, st1, S', R', sPost_ext q x⟩
  | ret d st1 => exact q
  | brk ρ1 st1 => exact q
  | cnt ρ1 st1 => exact q
  | exc x ρ1 st1 => exact q
  | bad => exact q
theorem dss_one (h1 : DS X W st s1) : DSs X W [st] s1 := pss_one h1
def sBrk : Rho → Sto → Fl := fun ρ st => .brk ρ st
def sCnt : Rho → Sto → Fl := fun ρ st => .cnt ρ st
variable {e c : Expr} {m : Rho → M D} {mt : Rho → M Bool}
def sDrop (m : Rho → M D) : Rho → Sto → Fl := fun ρ st => (m ρ st).fl ρ fun _ st1 => .next ρ st1
theorem ds_expr (he : DE X W e m) (hs : swapsWith e none pos.line X.env = pure false := by rfl) : DS X W (.Expr e pos) (sDrop m) :=
  PS.weak (ps_expr he hs) fun E σ H ⟨F, ι, ρ, st, S, R, q⟩ => fl_seq S R q fun a st1 F1 ι1 H1 b x1 S1 R1 r1 q1 => q1 F1 ι1 H1 σ Ext.refl S1 R1
def sRet (m : Rho → M D) : Rho → Sto → Fl := fun ρ st => (m ρ st).fl ρ fun d st1 => .ret d st1
theorem ds_ret (he : DE X W e m) : DS X W (.Return (some e) pos) (sRet m) :=
  PS.weak (ps_ret he) fun E σ H ⟨F, ι, ρ, st, S, R, q⟩ => fl_seq S R q fun a st1 F1 ι1 H1 b x1 S1 R1 r1 q1 => q1 F1 ι1 H1 b Ext.refl S1 r1
def sIf (t : Rho → M Bool) (s1 s2 : Rho → Sto → Fl) : Rho → Sto → Fl := fun ρ st => (t ρ st).fl ρ fun b st1 => if b = true then s1 ρ st1 else s2 ρ st1
theorem ds_if {p1 p2 : List Stmt} (hc : DT X W c mt) (h1 : DSs X W p1 s1) (h2 : DSs X W p2 s2) : DS X W (.If c p1 p2 pos) (sIf mt s1 s2) := by
  refine PS.weak (ps_if hc h1 h2) fun E σ H ⟨F, ι, ρ, st, S, R, q⟩ => fl_seq S R q fun a st1 F1 ι1 H1 b x1 S1 R1 r1 q1 => ?_
  have r1 : a = b := r1
  subst r1
  cases a with
  | true => exact ⟨F1, ι1, ρ, st1, S1, R1, q1⟩
  | false => exact ⟨F1, ι1, ρ, st1, S1, R1, q1⟩
def sAsg (gf : D → Rho → M Rho) (m : Rho → M D) : Rho → Sto → Fl := fun ρ st => (m ρ st).fl ρ fun d st1 => (nox (gf d ρ st1)).fl ρ fun ρ2 st2 => .next ρ2 st2
theorem ds_asg {tg : Expr} {js : List Nat} {gf : D → Rho → M Rho} (he : DE X W e m) (hg : DG X js tg gf) (hs : swapsWithSole [tg] e pos.line X.env = pure false := by rfl) (hw : swappedStores [tg] e X.env = pure none := by rfl)
    (h1 : (assignEach [tg] X.env).map (·.2) = [assign tg X.env] := by rfl) : DS X W (.Assign [tg] e pos) (sAsg gf m) := by
  refine PS.weak (ps_asg he hg hs hw h1) fun E σ H ⟨F, ι, ρ, st, S, R, q⟩ => fl_seq S R q fun a st1 F1 ι1 H1 b x1 S1 R1 r1 q1 => ?_
  refine ⟨F1, ι1, ρ, st1, a, S1, R1, r1, ?_⟩
  cases e1 : gf a ρ st1 with
  | ok ρ2 st2 =>
    rw [e1] at q1
    exact fun F' ι' H' σ' x S' r => q1 F' ι' H' σ' x S' r.1
  | exc _ _ => rw [e1] at q1; exact (q1 : False).elim
  | bad => rw [e1] at q1; exact (q1 : False).elim
theorem name_of {K : PySem.W.Frag} {i : Nat} {E : Ends} {σ : L2.St} {H : Hp} (h : tS K W (sAsg (gN i) m) E σ H) : tV K W m σ H fun x H1 => gName i x σ H1 E.nx := by
  obtain ⟨F, ι, ρ, st, S, R, q⟩ := h
  exact fl_seq S R q fun a st1 F1 ι1 H1 b x1 S1 R1 r1 q1 => q1 F1 ι1 H1 _ Ext.refl S1 (R1.set r1 i)
theorem ds_set {i : Nat} {x : Str} {pos' : Pos} (hN : X.N.Nodup) (hi : X.N[i]? = some x) (hx : Loc X.env.scope x) (he : DE X W e m) (hs : swapsWith e (some (.Name x pos')) pos.line X.env = pure false := by rfl) (hf : X.fn x = true ∨ X.env.scope.names.lookup x = some .local := by first | exact .inl rfl | exact .inr rfl | assumption) :
    DS X W (.Assign [.Name x pos'] e pos) (sAsg (gN i) m) :=
  PS.weak (ps_set hN hi hx he hs hf) fun E σ H h => name_of h
theorem ds_setLc {spos py : Pos} {tg iter elt : Expr} {ifs : List Expr} {scope : Scope} {own : List (Str × Nat)} {ms : Rho → M Src} {js : List Nat} {gf : D → Rho → M Rho} {mt : Rho → M Bool} {me : Rho → M D} {i : Nat} {y : Str} (fz : Bool) (hc : X.calm = true) (hN : X.N.Nodup) (hy : X.N[i]? = some y) (hyl : X.env.scope.names.lookup y = some .local)
    (hsw : swapsWith (.ListComp elt [⟨tg, iter, ifs, 0⟩] scope pos) (some (.Name y py)) spos.line X.env = pure true) (hi : DI X W tg iter ms) (ok : BlkOk X.N X.env.scope scope own) (hjs : ∀ j, j ∈ js → j ∈ own.map (·.2))
    (hg : ∀ (s : Shared) (H : Hp) (C : Addr) (cl : List (Str × Addr)) (fp : List Addr), DG (X.blk s H scope (compEnvC scope cl C X.env) fp) js tg gf) (ht : ∀ (s : Shared) (H : Hp) (C : Addr) (cl : List (Str × Addr)) (fp : List Addr), DTs (X.blk s H scope (compEnvC scope cl C X.env) fp) wN ifs mt)
    (he : ∀ (s : Shared) (H : Hp) (C : Addr) (cl : List (Str × Addr)) (fp : List Addr), DE (X.blk s H scope (compEnvC scope cl C X.env) fp) wN elt me) (hs : ∀ x, foldedSetIterable iter X.env x = pure x := by intro _; rfl) :
    DS X W (.Assign [.Name y py] (.ListComp elt [⟨tg, iter, ifs, 0⟩] scope pos) spos) (sAsg (gN i) ((if fz = true then mFrz else mNew) (lLc ms gf mt me (own.map (·.2))))) :=
  PS.weak (ps_setLc (g := tGt X.K js gf) (tt := tT X.K wN mt) (te := tV X.K wN me) hc hN hy hyl hsw hi ok hg ht he hs) fun E σ H h => lc_of hjs (by
    have q := name_of h
    cases fz with
    | true => exact frz_of q
    | false => exact new_of q)
def sPar (i j : Nat) (a : Rho → M (List D)) : Rho → Sto → Fl := fun ρ st => (a ρ st).fl ρ fun ds st1 => match ds with
  | [x, y] => .next ((ρ.set i (some x)).set j (some y)) st1
  | _ => .bad
theorem ds_par {i j : Nat} {x y : Str} {a b : Expr} {am : Rho → M (List D)} {px py pt : Pos} {kt k2 pt2} (hc : X.calm = true) (hN : X.N.Nodup) (hi : X.N[i]? = some x) (hj : X.N[j]? = some y) (hij : i ≠ j)
    (hx : X.env.scope.names.lookup x = some .local) (hy : X.env.scope.names.lookup y = some .local) (ha : DA X W [a, b] am)
    (hw : swappedStores [.Tuple [.Name x px, .Name y py] kt pt] (.Tuple [a, b] k2 pt2) X.env = pure (some [x, y]))
    (hs : swapsWithSole [.Tuple [.Name x px, .Name y py] kt pt] (.Tuple [a, b] k2 pt2) pos.line X.env = pure false := by rfl) :
    DS X W (.Assign [.Tuple [.Name x px, .Name y py] kt pt] (.Tuple [a, b] k2 pt2) pos) (sPar i j am) := by
  refine PS.weak (ps_par hc hN hi hj hij hx hy ha hw hs) fun E σ H ⟨F, ι, ρ, st, S, R, q⟩ => fl_seq S R q fun ds st1 F1 ι1 H1 vs x1 S1 R1 r1 q1 => ?_
  split at q1
  · rename_i d1 d2
    obtain ⟨v1, v2, e, r1, r2⟩ := Reps.two (show Reps X.K F1 ι1 [d1, d2] vs from r1)
    exact ⟨v1, v2, e, q1 F1 ι1 H1 _ Ext.refl S1 ((R1.set r1 i).set r2 j)⟩
  · exact q1.elim
open Classical in
noncomputable def forL (held : List (Nat × List D)) (body : D → Rho → Sto → Fl) : List D → Rho → Sto → Fl
  | [], ρ, st => if heldOk held st then .next ρ st else .bad
  | d :: ds, ρ, st => if heldOk held st then (match body d ρ st with
    | .next ρ' st' => forL held body ds ρ' st'
    | .cnt ρ' st' => forL held body ds ρ' st'
    | .brk ρ' st' => .next ρ' st'
    | r => r) else .bad
def forB (gf : D → Rho → M Rho) (mb : Rho → Sto → Fl) : D → Rho → Sto → Fl := fun d ρ st => (nox (gf d ρ st)).fl ρ fun ρ' st' => mb ρ' st'
noncomputable def sFor (ms : Rho → M Src) (gf : D → Rho → M Rho) (mb : Rho → Sto → Fl) : Rho → Sto → Fl := fun ρ st => (ms ρ st).fl ρ fun src st1 => forL src.held (forB gf mb) src.items ρ st1
theorem ds_for {tg iter : Expr} {body : List Stmt} {ms : Rho → M Src} {js : List Nat} {gf : D → Rho → M Rho} {mb : Rho → Sto → Fl} (hp : PassesOwn (model X.prog X.w) X.A X.env X.xe) (hc : X.calm = true) (hi : DI X W tg iter ms) (hg : DG X js tg gf) (hb : DSs X W body mb)
    (hs : ∀ x, foldedSetIterable iter X.env x = pure x := by intro _; rfl) : DS X W (.For tg iter body [] pos) (sFor ms gf mb) := by
  refine PS.weak (ps_for hp hc hi hg hb hs) fun E σ H ⟨F, ι, ρ, st, S, R, q⟩ => fl_seq S R q fun src st1 F1 ι1 H1 J x1 S1 R1 hJ q1 => ?_
  have hJ : SrcIt X.K F1 ι1 src J := hJ
  refine ⟨fun i m σ' H' => m = src.items.length - i ∧ i ≤ src.items.length ∧ ∃ F' ι' ρ' st', Ext F1 ι1 H1 F' ι' H' ∧ Sim X.K F' ι' st' H' ∧ REnv X.K F' ι' ρ' σ' ∧ sPost X.K W E F' ι' H' (forL src.held (forB gf mb) (src.items.drop i) ρ' st'),
    ⟨_, rfl, Nat.zero_le _, F1, ι1, ρ, st1, Ext.refl, S1, R1, q1⟩, ?_⟩
  rintro i m σ' H' ⟨rfl, hi, F', ι', ρ', st', x', S', R', q'⟩
  by_cases hlt : i < src.items.length
  · right
    rw [List.drop_eq_getElem_cons hlt] at q'
    unfold forL at q'
    split at q'
    rotate_left
    · exact q'.elim
    rename_i ho
    refine ⟨hJ.go i F' ι' st' H' x'.grow S' ho hlt, fun σ'' H'' => ∃ m', m' < src.items.length - i ∧ _, fun σ'' H'' h => h, fun x H2 y => ?_⟩
    obtain ⟨F2, x2, S2, r2⟩ := hJ.yld i F' ι' st' H' x H2 src.items[i] x'.grow S' ho (by simp [hlt]) y
    refine ⟨F2, ι', ρ', st', _, S2, R'.ext x2, r2, ?_⟩
    unfold forB at q'
    cases e1 : gf src.items[i] ρ' st' with
    | exc _ _ => rw [e1] at q'; exact (q' : False).elim
    | bad => rw [e1] at q'; exact (q' : False).elim
    | ok ρ2 st2 =>
      rw [e1] at q'
      intro F3 ι3 H3 σ3 x3 S3 R3
      refine ⟨F3, ι3, ρ2, st2, S3, R3.1, ?_⟩
      have xx : Ext F' ι' H' F3 ι3 H3 := x2.trans x3
      have q'' := sPost_ext q' xx
      simp only [nox_ok, Out.fl_ok] at q''
      cases e2 : mb ρ2 st2 with
      | next ρ4 st4 =>
        rw [e2] at q''
        intro F4 ι4 H4 σ4 x4 S4 R4
        exact ⟨src.items.length - (i + 1), by omega, rfl, hlt, F4, ι4, ρ4, st4, (x'.trans xx).trans x4, S4, R4, sPost_ext q'' x4⟩
      | cnt ρ4 st4 =>
        rw [e2] at q''
        intro F4 ι4 H4 σ4 x4 S4 R4
        exact ⟨src.items.length - (i + 1), by omega, rfl, hlt, F4, ι4, ρ4, st4, (x'.trans xx).trans x4, S4, R4, sPost_ext q'' x4⟩
      | brk ρ4 st4 => rw [e2] at q''; exact q''
      | ret d st4 => rw [e2] at q''; exact q''
      | exc x ρ4 st4 => rw [e2] at q''; exact q''
      | bad => rw [e2] at q''; exact q''
  · left
    have e0 : i = src.items.length := by omega
    subst e0
    rw [List.drop_length] at q'
    unfold forL at q'
    split at q'
    rotate_left
    · exact q'.elim
    rename_i ho
    exact ⟨hJ.stop F' ι' st' H' x'.grow S' ho, q' F' ι' H' σ' Ext.refl S' R'⟩
end
end Dn
namespace Dn
open PySem PySem.Spec PyProof.Rows L2
mutual
def D.low (n : Nat) : D → Bool
  | .tup xs => D.lows n xs
  | .lst xs => D.lows n xs
  | .scr xs => D.lows n xs
  | .ref l => decide (l < n)
  | .non => true
  | .bl _ => true
  | .int _ => true
  | .str _ => true
  | .adr _ => true
  | .fd _ xs => D.lows n xs
  | .exo _ _ _ d => D.low n d
  | .obj _ _ xs => D.lows n xs
  | .sd _ => true
def D.lows (n : Nat) : List D → Bool
  | [] => true
  | d :: ds => D.low n d && D.lows n ds
end
def MO.low (n : Nat) : MO → Bool
  | .lst xs => D.lows n xs
  | .dct _ xs => D.lows n xs
  | .gone => true
  | .ins _ fs => fs.all fun p => p.2.low n
section
variable {K : PySem.W.Frag} {F F' : Hp} {ι ι' : List Addr} {H H' : Hp} {st st' : Sto} {n : Nat}
mutual
theorem Rep.cut : ∀ (d : D) (v : V), Rep K F ι d v → d.low n = true → Rep K F (ι.take n) d v
  | .non, _, h, _ => by simpa only [Rep] using h
  | .bl _, _, h, _ => by simpa only [Rep] using h
  | .int _, _, h, _ => by simpa only [Rep] using h
  | .str _, _, h, _ => by simpa only [Rep] using h
  | .adr _, _, h, _ => by simpa only [Rep] using h
  | .tup xs, v, h, l => by
    simp only [Rep] at h ⊢
    simp only [D.low] at l
    obtain ⟨a, vs, e, q, r⟩ := h
    exact ⟨a, vs, e, q, Reps.cut xs vs r l⟩
  | .lst xs, v, h, l => by
    simp only [Rep] at h ⊢
    simp only [D.low] at l
    obtain ⟨a, vs, e, q, r⟩ := h
    exact ⟨a, vs, e, q, Reps.cut xs vs r l⟩
  | .scr xs, v, h, l => by
    simp only [Rep] at h ⊢
    simp only [D.low] at l
    obtain ⟨a, vs, e, q, r⟩ := h
    exact ⟨a, vs, e, q, Reps.cut xs vs r l⟩
  | .ref j, v, h, l => by
    simp only [Rep] at h ⊢
    simp only [D.low, decide_eq_true_eq] at l
    obtain ⟨a, e, q⟩ := h
    exact ⟨a, e, by rw [List.getElem?_take_of_lt l]; exact q⟩
  | .fd ks ds, v, h, l => by
    simp only [Rep] at h ⊢
    simp only [D.low] at l
    obtain ⟨a, xs, ws, e, z, q, kt, vr, r⟩ := h
    exact ⟨a, xs, ws, e, z, q, kt, vr, Reps.cut ds ws r l⟩
  | .exo a dd g d, v, h, l => by
    simp only [Rep] at h ⊢
    simp only [D.low] at l
    obtain ⟨e, u, q, r⟩ := h
    exact ⟨e, u, q, Rep.cut d u r l⟩
  | .obj nm ks ds, v, h, l => by
    simp only [Rep] at h ⊢
    simp only [D.low] at l
    obtain ⟨a, C, dx, gs, e, z, q, kk, r⟩ := h
    exact ⟨a, C, dx, gs, e, z, q, kk, Reps.cut ds _ r l⟩
  | .sd kvs, v, h, l => by
    simp only [Rep] at h ⊢
    exact h
theorem Reps.cut : ∀ (ds : List D) (vs : List V), Reps K F ι ds vs → D.lows n ds = true → Reps K F (ι.take n) ds vs
  | [], _, h, _ => by simpa only [Reps] using h
  | d :: ds, vs, h, l => by
    simp only [Reps] at h ⊢
    simp only [D.lows, Bool.and_eq_true] at l
    obtain ⟨v, r, e, h1, h2⟩ := h
    exact ⟨v, r, e, Rep.cut d v h1 l.1, Reps.cut ds r h2 l.2⟩
end
mutual
theorem Rep.isLow : ∀ (d : D) (v : V), Rep K F ι d v → d.low ι.length = true
  | .non, _, _ => by simp only [D.low]
  | .bl _, _, _ => by simp only [D.low]
  | .int _, _, _ => by simp only [D.low]
  | .str _, _, _ => by simp only [D.low]
  | .adr _, _, _ => by simp only [D.low]
  | .tup xs, v, h => by
    simp only [Rep] at h
    simp only [D.low]
    obtain ⟨a, vs, e, q, r⟩ := h
    exact Reps.isLow xs vs r
  | .lst xs, v, h => by
    simp only [Rep] at h
    simp only [D.low]
    obtain ⟨a, vs, e, q, r⟩ := h
    exact Reps.isLow xs vs r
  | .scr xs, v, h => by
    simp only [Rep] at h
    simp only [D.low]
    obtain ⟨a, vs, e, q, r⟩ := h
    exact Reps.isLow xs vs r
  | .ref j, v, h => by
    simp only [Rep] at h
    simp only [D.low, decide_eq_true_eq]
    obtain ⟨a, e, q⟩ := h
    exact (List.getElem?_eq_some_iff.mp q).1
  | .fd ks ds, v, h => by
    simp only [Rep] at h
    simp only [D.low]
    obtain ⟨a, xs, ws, e, z, q, kt, vr, r⟩ := h
    exact Reps.isLow ds ws r
  | .exo a dd g d, v, h => by
    simp only [Rep] at h
    simp only [D.low]
    obtain ⟨e, u, q, r⟩ := h
    exact Rep.isLow d u r
  | .obj nm ks ds, v, h => by
    simp only [Rep] at h
    simp only [D.low]
    obtain ⟨a, C, dx, gs, e, z, q, kk, r⟩ := h
    exact Reps.isLow ds _ r
  | .sd kvs, v, h => by simp only [D.low]
theorem Reps.isLow : ∀ (ds : List D) (vs : List V), Reps K F ι ds vs → D.lows ι.length ds = true
  | [], _, _ => by simp only [D.lows]
  | d :: ds, vs, h => by
    simp only [Reps] at h
    simp only [D.lows, Bool.and_eq_true]
    obtain ⟨v, r, e, h1, h2⟩ := h
    exact ⟨Rep.isLow d v h1, Reps.isLow ds r h2⟩
end
theorem RepF.cut {fs : List (Str × D)} {gs : List (Str × V)} (h : RepF K F ι fs gs) (l : (fs.all fun p => p.2.low n) = true) : RepF K F (ι.take n) fs gs := by
  induction h with
  | nil => exact .nil
  | cons a b ih =>
    simp only [List.all_cons, Bool.and_eq_true] at l
    exact .cons ⟨a.1, Rep.cut _ _ a.2 l.1⟩ (ih l.2)
theorem RepF.isLow {fs : List (Str × D)} {gs : List (Str × V)} (h : RepF K F ι fs gs) : (fs.all fun p => p.2.low ι.length) = true := by
  induction h with
  | nil => rfl
  | cons a b ih =>
    simp only [List.all_cons, Bool.and_eq_true]
    exact ⟨Rep.isLow _ _ a.2, ih⟩
theorem ObjR.cut {a : Addr} {m : MO} (h : ObjR K F ι H a m) (l : m.low n = true) : ObjR K F (ι.take n) H a m := by
  cases m with
  | lst xs =>
    obtain ⟨vs, e, r⟩ := h
    exact ⟨vs, e, Reps.cut _ _ r l⟩
  | dct ks ds =>
    obtain ⟨xs, ws, z, q, kt, vr, r⟩ := h
    exact ⟨xs, ws, z, q, kt, vr, Reps.cut _ _ r l⟩
  | gone => trivial
  | ins C fs =>
    obtain ⟨C, dx, gs, z, e, r⟩ := h
    exact ⟨C, dx, gs, z, e, RepF.cut r l⟩
theorem ObjR.isLow {a : Addr} {m : MO} (h : ObjR K F ι H a m) : m.low ι.length = true := by
  cases m with
  | lst xs =>
    obtain ⟨vs, e, r⟩ := h
    exact Reps.isLow _ _ r
  | dct ks ds =>
    obtain ⟨xs, ws, z, q, kt, vr, r⟩ := h
    exact Reps.isLow _ _ r
  | gone => rfl
  | ins C fs =>
    obtain ⟨C, dx, gs, z, e, r⟩ := h
    exact RepF.isLow r
theorem Sim.isLow (S : Sim K F ι st H) {l : Nat} {m : MO} (e : st[l]? = some m) : m.low st.length = true := by
  have hl : l < ι.length := by rw [S.len]; exact (List.getElem?_eq_some_iff.mp e).1
  rw [← S.len]
  exact (S.obj l m _ e (List.getElem?_eq_getElem hl)).isLow
theorem Sim.take (S : Sim K F ι st H) (h : ∀ (l : Nat) (m : MO), (st.take n)[l]? = some m → m.low n = true) : Sim K F (ι.take n) (st.take n) H := by
  refine ⟨S.sub, S.kind, by rw [List.length_take, List.length_take, S.len], S.nd.sublist (List.take_sublist _ _), fun l a q hg => ?_, fun a q => S.there a (List.mem_of_mem_take q), fun l m a e1 e2 => ?_⟩
  · have hl : l < n := by
      have := (List.getElem?_eq_some_iff.mp q).1
      rw [List.length_take] at this
      omega
    rw [List.getElem?_take_of_lt hl] at q hg
    exact S.free l a q hg
  have hl : l < n := by
    have := (List.getElem?_eq_some_iff.mp e1).1
    rw [List.length_take] at this
    omega
  refine ObjR.cut (S.obj l m a ?_ ?_) (h l m e1)
  · rw [← List.getElem?_take_of_lt hl]; exact e1
  · rw [← List.getElem?_take_of_lt hl]; exact e2
theorem Ext.take (x : Ext F ι H F' ι' H') (h : ι.length ≤ n) : Ext F ι H F' (ι'.take n) H' := by
  refine ⟨x.f, fun l a q => ?_, x.keep, x.there, x.newF, fun a q => x.newI a (List.mem_of_mem_take q), ?_⟩
  · have hl := (List.getElem?_eq_some_iff.mp q).1
    rw [List.getElem?_take_of_lt (by omega)]
    exact x.i l a q
  · rw [List.length_take]
    have := x.long
    omega
end
def lowS (n : Nat) (st : Sto) : Prop := ∀ (l : Nat) (m : MO), st[l]? = some m → m.low n = true
def Xc.low (n : Nat) (x : Xc) : Bool := match x.fld with
  | none => true
  | some p => p.2.low n
def MO.isIns : MO → Bool
  | .ins _ _ => true
  | _ => false
def Tidy (st0 st : Sto) : Prop := st0.length ≤ st.length ∧ (∀ (l : Nat) (m : MO), l < st0.length → st[l]? = some m → st0[l]? = some m ∨ m.low st0.length = true) ∧ ∀ (l : Nat) (m : MO), st0.length ≤ l → st[l]? = some m → m.isIns = false
open Classical in
noncomputable def clean (st0 : Sto) (r : Out D) : Out D := match r with
  | .ok d st => if d.low st0.length = true ∧ Tidy st0 st then .ok d (st.take st0.length) else .ok d st
  | .exc x st => if x.low st0.length = true ∧ Tidy st0 st then .exc x (st.take st0.length) else .exc x st
  | .bad => .bad
section
variable {K : PySem.W.Frag} {W : WX} {σ : L2.St} {F F' : Hp} {ι ι' : List Addr} {H H' : Hp} {st st' : Sto} {Q : VK}
theorem clean_low (S : Sim K F ι st H) (h : Tidy st st') : lowS st.length (st'.take st.length) := fun l m e => by
  have hl : l < st.length := by
    have := (List.getElem?_eq_some_iff.mp e).1
    rw [List.length_take] at this
    omega
  rw [List.getElem?_take_of_lt hl] at e
  rcases h.2.1 l m hl e with q | q
  · exact S.isLow q
  · exact q
theorem clean_ok {d : D} {v : V} (S : Sim K F ι st H) (x : Ext F ι H F' ι' H') (S' : Sim K F' ι' st' H') (r : Rep K F' ι' d v) (q : post K W σ F ι H (pV K) (clean st (.ok d st')) Q) : Q v H' := by
  unfold clean at q
  dsimp only at q
  split at q
  · rename_i h
    exact q F' (ι'.take st.length) H' v (x.take (by rw [S.len]; exact Nat.le_refl _)) (S'.take (clean_low S h.2)) (Rep.cut _ _ r h.1)
  · exact q F' ι' H' v x S' r
theorem clean_exc {e : Xc} {cls : Value} {dd : Option Addr} (S : Sim K F ι st H) (x : Ext F ι H F' ι' H') (S' : Sim K F' ι' st' H') (r : XcR K F' ι' H' e cls dd) (q : post K W σ F ι H (pV K) (clean st (.exc e st')) Q) : W cls dd σ H' := by
  unfold clean at q
  dsimp only at q
  split at q
  · rename_i h
    refine q F' (ι'.take st.length) H' cls dd (x.take (by rw [S.len]; exact Nat.le_refl _)) (S'.take (clean_low S h.2)) ⟨r.1, ?_⟩
    have h1 := h.1
    have r2 := r.2
    unfold Xc.low at h1
    split
    · rename_i e1
      rw [e1] at r2
      exact r2
    · rename_i f d e1
      rw [e1] at r2 h1
      obtain ⟨a, v, q1, q2, q3⟩ := r2
      exact ⟨a, v, q1, q2, Rep.cut _ _ q3 h1⟩
  · exact q F' ι' H' cls dd x S' r
end
def flOut (r : Fl) : Out D := match r with
  | .next _ st => .ok .non st
  | .ret d st => .ok d st
  | .exc x _ st => .exc x st
  | _ => .bad
def rho0 (n : Nat) (ds : List D) : Rho := ds.map some ++ List.replicate (n - ds.length) none
noncomputable def fnD (np nN : Nat) (body : Rho → Sto → Fl) : List D → M D := fun ds st => if ds.length = np then clean st (flOut (body (rho0 nN ds) st)) else .bad
def wE (E : XK) : WX := fun cls dd _ H => E cls dd H
def spD (K : PySem.W.Frag) (np : Nat) (spec : List D → M D) : Sp := fun vs H Q E => vs.length = np ∧ ∃ F ι st ds, Sim K F ι st H ∧ Reps K F ι ds vs ∧ post K (wE E) [] F ι H (pV K) (spec ds st) Q
structure FnG (P : Program) (w : World) (K : PySem.W.Frag) (mg : Str → Option Value) (base : Heap) (k : Nat) (f : Addr) (fd : FuncData) (ps : List Str) (sp : Sp) : Prop where
  len : ∀ vs H Q E, sp vs H Q E → vs.length = ps.length
  run : ∀ (B : Around) (fr : List Env) (s : Shared) (H : Hp) (ar : Args) (us : List Value) (vs : List V) (Q : VK) (E : XK), Room k B → (5 < k → B.guards = some []) → Env0 P w K mg base B fr s H → BindsTo s fd ar (ps.zip us) → Vals vs us → sp vs H Q E →
    codeAny (model P w) B (.call (.ref f) ar) (CR (L2.CX P w) fr P w H s Q E) s
structure Bd (X : Cx) (W : WX) (k : Nat) : Prop where
  room : Room k X.A
  gd : 5 < k → X.A.guards = some []
  calm : X.calm = true
  nd : X.N.Nodup
  tk : Takes X W
theorem REnv.start {K : PySem.W.Frag} {F : Hp} {ι : List Addr} {ds : List D} {vs : List V} {N : List Str} (r : Reps K F ι ds vs) (hl : ds.length ≤ N.length) : REnv K F ι (rho0 N.length ds) (start N vs) := by
  have e := r.length
  refine ⟨?_, fun i d h => ?_⟩
  · unfold rho0 L2.start
    simp only [List.length_append, List.length_map, List.length_replicate]
    omega
  · unfold rho0 at h
    have hi : i < ds.length := by
      by_cases hi : i < ds.length
      · exact hi
      · rw [List.getElem?_append_right (by simpa using hi), List.getElem?_replicate] at h
        split at h <;> cases h
    rw [List.getElem?_append_left (by simpa using hi), List.getElem?_map] at h
    cases e1 : ds[i]? with
    | none => rw [e1] at h; cases h
    | some d1 =>
      rw [e1] at h
      cases h
      obtain ⟨v, q1, q2⟩ := r.get e1
      refine ⟨v, ?_, q2⟩
      unfold L2.start
      rw [List.getElem?_append_left (by rw [List.length_map]; omega), List.getElem?_map, q1]
      rfl
theorem body_end {K : PySem.W.Frag} {E : XK} {Q : VK} {F : Hp} {ι : List Addr} {H : Hp} {st : Sto} {r : Fl} (S : Sim K F ι st H) (q : post K (wE E) [] F ι H (pV K) (clean st (flOut r)) Q) :
    sPost K (wE E) { nx := fun _ H' => Q .non H', rt := Q } F ι H r := by
  cases r with
  | next ρ st' => exact fun F' ι' H' σ' x S' R' => clean_ok (v := V.non) S x S' (by simp only [Rep]) q
  | ret d st' => exact fun F' ι' H' v x S' r' => clean_ok S x S' r' q
  | exc e ρ st' => exact fun F' ι' H' cls dd σ' x S' R' r' => clean_exc (σ := []) S x S' r' q
  | brk _ _ => exact (q : False).elim
  | cnt _ _ => exact (q : False).elim
  | bad => exact (q : False).elim
section
variable {P : Program} {w : World} {K : PySem.W.Frag} {mg : Str → Option Value} {base : Heap}
theorem fnG_of {x qual : Str} {stm : Stmt} {f : Addr} {fd : FuncData} {N ps : List Str} {k : Nat} {m : Rho → Sto → Fl} (Fn : Fun K x qual stm f fd) (SC : FnScope N ps (defScope stm)) (hN : ps.length ≤ N.length)
    (hb : ∀ (cdv : Value) (B : Around) (fr : List Env) (s : Shared) (H : Hp) (E : XK), Bd (cxOf (L2.CX P w) P w K mg base N qual (defScope stm) f cdv B fr s H E) (wE E) k →
      PassesOwn (model P w) (B.deeper (envOfC qual (defScope stm) s.heap.objs.size f cdv)) (envOfC qual (defScope stm) s.heap.objs.size f cdv) (cxOf (L2.CX P w) P w K mg base N qual (defScope stm) f cdv B fr s H E).xe →
      DSs (cxOf (L2.CX P w) P w K mg base N qual (defScope stm) f cdv B fr s H E) (wE E) (defBody stm) m) :
    FnG P w K mg base (k + 1) f fd ps (spD K ps.length (fnD ps.length N.length m)) := by
  obtain ⟨oc, od, kV, doc, pm, an, cdv, ct, osl, rfl, lk, hcd⟩ := Fn.ex
  refine ⟨fun vs H Q E h => h.1, fun B fr s H ar us vs Q E hr hgd e0 hbn rv hsp => ?_⟩
  have hl : vs.length = ps.length := hsp.1
  have hKs : K.In s.heap := e0.mod.kin.keeps fun b o e => (e0.bs b o e).1
  have hlim : s.heap.NoLimit := e0.mod.nolimit.keeps fun b o e => (e0.bs b o e).1
  refine codeAny_call_function hr.depth (hKs _ _ lk) rfl SC.co SC.gen rfl (PySem.W.codeRec_of hKs hcd) (hbn _ _ _ _ ?_)
  refine wpAny_newFunctionEnv_cells SC.kind (fun ⟨y, u⟩ hy => ?_) fun env he s1 ic => ?_
  · rcases SC.par y (List.of_mem_zip hy).1 with q | q
    · exact .inl q
    · exact .inr ⟨q, PySem.W.cellsFrom_some _ _ _ (.inl q)⟩
  subst he
  refine ⟨hlim.keeps ic.toInCall.keep, codeAny_func ?_⟩
  obtain ⟨_, F, ι, st, ds, S, rs, q⟩ := hsp
  have hds : ds.length = ps.length := by rw [rs.length]; exact hl
  have I := inv_start (CX := L2.CX P w) (E := E) (cd := cdv) SC hr.hd e0 hl rv ic
  have bd : Bd (cxOf (L2.CX P w) P w K mg base N qual (defScope stm) f cdv B fr s H E) (wE E) k :=
    ⟨hr.deeper _, fun h => hgd (by omega), rfl, SC.nd, takes_of (X := cxOf (L2.CX P w) P w K mg base N qual (defScope stm) f cdv B fr s H E) (E := E) (E₁ := fun e' s'' => L2.CX P w fr H s E e' s'') rfl rfl rfl rfl⟩
  have hown := passes_of (X := cxOf (L2.CX P w) P w K mg base N qual (defScope stm) f cdv B fr s H E) (K := fun e s'' => L2.CX P w fr H s E e s'') (E₁ := fun e' s'' => L2.CX P w fr H s E e' s'') rfl
  unfold fnD at q
  rw [if_pos hds] at q
  refine wpAny_mono ((hb cdv B fr s H E bd hown).run [] s1 (start N vs) H { nx := fun _ H' => Q .non H', rt := Q } I ⟨F, ι, rho0 N.length ds, st, S, REnv.start rs (by omega), body_end S q⟩) (fun fl s' hs => ?_) fun e s' hs => hs
  cases fl with
  | ret u =>
    obtain ⟨v, σ', H', J, r', qq⟩ := hs
    exact ⟨v, H', J.os, J.bare, J.base, J.hok, r', qq⟩
  | next =>
    obtain ⟨σ', H', J, qq⟩ := hs
    exact ⟨V.non, H', J.os, J.bare, J.base, J.hok, rfl, qq⟩
  | brk =>
    obtain ⟨_, _, _, qq⟩ := hs
    exact False.elim qq
  | cont =>
    obtain ⟨_, _, _, qq⟩ := hs
    exact False.elim qq
structure FnC (P : Program) (w : World) (K : PySem.W.Frag) (mg : Str → Option Value) (base : Heap) (k : Nat) (x : Str) (np : Nat) (spec : List D → M D) : Prop where
  ex : ∃ (f : Addr) (fd : FuncData) (ps : List Str), FnG P w K mg base k f fd ps (spD K np spec) ∧ mg x = some (.ref f) ∧ PySem.W.keepIn K (.ref f) = true ∧ Binds K fd ps []
end
section
variable {X : Cx} {W : WX} {k j : Nat} {x : Str} {np : Nat} {spec : List D → M D} {p pos : Pos} {e : Expr} {es : List Expr} {am : Rho → M (List D)}
theorem run_fnG {pins : List (Addr × Obj)} {σ : L2.St} {H : Hp} {s : Shared} {Q : VK} {us : List Value} {vs : List V} {f : Addr} {fd : FuncData} {ps : List Str} {sp : Sp} (F : FnG X.prog X.w X.K X.mg X.base k f fd ps sp) (hr : Room k X.A) (hgd : 5 < k → X.A.guards = some []) (hb : Binds X.K fd ps [])
    (tk : Takes X W) (I : Inv X pins σ H s) (r : Vals vs us) (h : sp vs H Q (fun cls dd H' => W cls dd σ H')) : wpAny (model X.prog X.w) X.A (call (.ref f) us) (EP X pins σ Q) X.xe s := by
  have hl : (us ++ []).length = ps.length := by rw [List.append_nil, ← r.length]; exact F.len _ _ _ _ h
  have bn := hb s us I.kIn hl
  rw [List.append_nil] at bn
  refine wpAny_call (codeAny_mono (F.run X.A X.stack s H ⟨us, []⟩ us vs Q _ hr hgd I.env0 bn r h) fun r s' hq => ?_)
  cases r with
  | error y => exact passAt tk σ pins H s y s' I hq
  | ok fl =>
    cases fl with
    | ret u => exact I.after hq
    | next => exact False.elim hq
    | brk => exact False.elim hq
    | cont => exact False.elim hq
def mCall (spec : List D → M D) (am : Rho → M (List D)) : Rho → M D := fun ρ st => (am ρ st).bind fun ds st1 => spec ds st1
theorem post_wE {α β : Type} {K : PySem.W.Frag} {σ : L2.St} {F : Hp} {ι : List Addr} {H : Hp} {R : Hp → Hp → List Addr → Hp → α → β → Prop} {r : Out α} {Q : β → Hp → Prop} (h : post K W σ F ι H R r Q) : post K (wE fun cls dd H' => W cls dd σ H') [] F ι H R r Q := by
  cases r with
  | ok a st => exact h
  | exc y st => exact h
  | bad => exact h
theorem spD_of {σ : L2.St} {F : Hp} {ι : List Addr} {H : Hp} {st : Sto} {ds : List D} {vs : List V} {Q : VK} {K : PySem.W.Frag} (S : Sim K F ι st H) (r : Reps K F ι ds vs) (hn : ds.length = np) (q : post K W σ F ι H (pV K) (spec ds st) Q) : spD K np spec vs H Q (fun cls dd H' => W cls dd σ H') :=
  ⟨by rw [← r.length]; exact hn, F, ι, st, ds, S, r, post_wE q⟩
def NeedN (np : Nat) (spec : List D → M D) : Prop := ∀ ds st, ds.length ≠ np → spec ds st = .bad
theorem needN_fnD {nN : Nat} {m : Rho → Sto → Fl} : NeedN np (fnD np nN m) := fun ds st h => by unfold fnD; rw [if_neg h]
theorem de_call (B : Bd X W j) (C : FnC X.prog X.w X.K X.mg X.base k x np spec) (hk : k ≤ j) (hg : Gl X x) (nn : NeedN np spec) (ha : DA X W (e :: es) am) (hdb : (x == ("__debug__" : Str)) = false := by decide)
    (he : starEach (e :: es) X.env = (false, eval e X.env) :: starEach es X.env := by rfl) (hpl : (backTo pos (starEach es X.env)).any (·.1) = false := by rfl) : DE X W (.Call (.Name x p) (e :: es) [] pos) (mCall spec am) := by
  obtain ⟨f, fd, ps, F, hm, kp, hb⟩ := C.ex
  refine ⟨fun pins s σ H Q I ⟨F0, ι, ρ, st, S, R, q⟩ => ?_⟩
  refine wpAny_Call_Name_kw (ld_glob I hg hm ?_ hdb)
  refine PySem.W.callWith_K (h₀ := X.base) I.ok.mod.kin kp (thn (ha.run pos pins s σ H (fun vs H1 => spD X.K np spec vs H1 Q (fun cls dd H' => W cls dd σ H')) I ?_) fun us s1 ⟨vs, H1, I1, r, qq⟩ => ⟨I1.kIn, ?_⟩) he hpl
  · refine tG_seq back_V S R q fun ds st1 F1 ι1 H1 vs x1 S1 R1 r1 q1 => ?_
    by_cases hn : ds.length = np
    · exact spD_of S1 r1 hn q1
    · rw [nn ds st1 hn] at q1
      exact (q1 : False).elim
  · exact run_fnG F (B.room.mono hk) (fun h => B.gd (by omega)) hb B.tk I1 r qq
end
end Dn
namespace Dn
open PySem PySem.Spec PyProof.Rows L2
section
variable {P : Program} {w : World} {K : PySem.W.Frag} {mg mb : Str → Option Value} {k : Nat} {fa p : Addr} {fd : FuncData} {x : Str} {sp : Sp} {t : Shared} {us : List Value} {ns : List Int}
theorem end_at (KX : K.In t.heap) (hns : t.heap.Ns mainGlobals mg) (hb : t.heap.Ns builtinsNs mb) (hbb : ∀ y : Str, y ≠ "__name__" → mb y = bootBuiltins y) (hlim : t.heap.NoLimit) (hg : t.gens = #[])
    (hp : t.heap.get? p = some { cls := .type "list", data := .seq us.toArray }) (hr : Room k callerA) (G : ∀ base : Heap, K.In base → base.Ns mainGlobals mg → FnG P w K mg base k fa fd [x] sp)
    (hbind : ∀ (s : Shared) (u : Value), BindsTo s fd ⟨[u], []⟩ [(x, u)]) {H : Hp} (hO : Only H) (hsp : sp [.ref p] H (fun v _ => v = .bl true) fun _ _ _ => False) (hok : HOk P w H t.heap) (one : ∀ c, H c ≠ none → c = p) (out : H p ≠ none → K.lookup p = none) :
    codeAny (model P w) callerA (.call (.ref fa) ⟨[.ref p], []⟩) (fun r t' => r = .ok (.ret (.bool true)) ∧ OldK t.heap t'.heap ∧ t'.os = t.os ∧ AllBare t'.gens) t := by
  have alone : ∀ {c : Addr} {o : Obj}, t.heap.get? c = some o → (∀ xs : Array Value, o.data ≠ .seq xs) → H c = none := fun {c o} e d => by
    cases q : H c with
    | none => rfl
    | some u =>
      obtain rfl : c = p := one c (by rw [q]; simp)
      rw [e] at hp
      cases hp
      exact absurd rfl (d us.toArray)
  have shown : ∀ {c : Addr} {f : Str → Option Value}, t.heap.Ns c f → (hidT t.heap H).Ns c f := fun {c f} ⟨o, es, n, e, d, r⟩ =>
    ⟨o, es, n, hidT_get e (alone e fun xs z => by rw [d] at z; cases z), d, r⟩
  have inB : K.In (hidT t.heap H) := fun c o e => hidT_get (KX c o e) (by
    cases q : H c with
    | none => rfl
    | some u =>
      obtain rfl : c = p := one c (by rw [q]; simp)
      have := out (by rw [q]; simp)
      rw [e] at this
      cases this)
  have M : Mod K mg (hidT t.heap H) := by
    refine ⟨inB, shown hns, ⟨mb, shown hb, hbb⟩, ?_⟩
    obtain ⟨f, h1, h2⟩ := hlim
    exact ⟨f, shown h1, h2⟩
  have E : Env0 P w K mg (hidT t.heap H) callerA [] t H := by
    refine ⟨rfl, M, fun c o e => of_hidT e, Nat.le_of_eq (hidT_size _ _), trivial, fun c hc => ?_, hok, .of_eq hg⟩
    cases (show c ∈ ([] : List Addr) from hc)
  refine codeAny_mono ((G _ inB (shown hns)).run callerA [] t H ⟨[.ref p], []⟩ [.ref p] [.ref p] _ _ hr (fun _ => rfl) E (hbind t (.ref p)) (.cons rfl .nil) hsp) fun r t' h => ?_
  cases r with
  | error e =>
    obtain ⟨_, _, _, _, _, _, _, _, _, _, _, _, z⟩ := h
    exact z.elim
  | ok fl =>
    cases fl with
    | next => exact False.elim h
    | brk => exact False.elim h
    | cont => exact False.elim h
    | ret u =>
      obtain ⟨v, H', os, bare, un, hok', rv, hv⟩ := h
      obtain rfl : v = .bl true := hv
      obtain rfl : u = Value.bool true := rv
      refine ⟨rfl, OldK.of_keep fun c o e => ?_, os, bare⟩
      rcases hO c with z | ⟨o2, xs, z⟩
      · refine un.keep c o e z (fun y => ?_) (by simp)
        cases (show c ∈ ([] : List Addr) from y)
      · have y1 := (hok c _ z).1
        have y2 := (hok' c _ (un.frzs c o2 _ z)).1
        rw [e] at y1
        cases y1
        exact y2
theorem end_law (KX : K.In t.heap) (hns : t.heap.Ns mainGlobals mg) (hb : t.heap.Ns builtinsNs mb) (hbb : ∀ y : Str, y ≠ "__name__" → mb y = bootBuiltins y) (hlim : t.heap.NoLimit) (hg : t.gens = #[])
    (hp : t.heap.get? p = some { cls := .type "list", data := .seq us.toArray }) (hi : IntsAre us ns) (hl : ns.length ≤ sizeLine) (hr : Room k callerA) (G : ∀ base : Heap, K.In base → base.Ns mainGlobals mg → FnG P w K mg base k fa fd [x] sp)
    (hbind : ∀ (s : Shared) (u : Value), BindsTo s fd ⟨[u], []⟩ [(x, u)]) (hsp : ∀ H : Hp, Only H → SqL K H p (ns.map V.int) → sp [.ref p] H (fun v _ => v = .bl true) fun _ _ _ => False) :
    codeAny (model P w) callerA (.call (.ref fa) ⟨[.ref p], []⟩) (fun r t' => r = .ok (.ret (.bool true)) ∧ OldK t.heap t'.heap ∧ t'.os = t.os ∧ AllBare t'.gens) t := by
  have rv := vals_ints hi
  have ln := hi.length
  cases hk : K.lookup p with
  | some o =>
    have e := KX p o hk
    rw [hp] at e
    cases e
    let H : Hp := fun _ => none
    have nH : ∀ c, H c = none := fun _ => rfl
    have hS : SqL K H p (ns.map V.int) := .inr ⟨_, us.toArray, _, hk, rfl, rfl, rfl, by rw [List.size_toArray, ln]; exact hl, by simpa using rv⟩
    have hk0 : HOk P w H t.heap := fun c u z => by
      rw [nH c] at z
      cases z
    exact end_at KX hns hb hbb hlim hg hp hr G hbind (H := H) (fun c => .inl rfl) (hsp H (fun c => .inl rfl) hS) hk0 (fun c z => absurd (nH c) z) fun z => absurd (nH p) z
  | none =>
    let o : Obj := { cls := .type "list", data := .seq us.toArray }
    let H : Hp := fun c => if c = p then some (.frz o (.lst (ns.map V.int))) else none
    have atP : H p = some (.frz o (.lst (ns.map V.int))) := if_pos rfl
    have offP : ∀ c, c ≠ p → H c = none := fun c h => if_neg h
    have only : Only H := fun c => by
      by_cases h : c = p
      · exact .inr ⟨o, ns.map V.int, by rw [h]; exact atP⟩
      · exact .inl (offP c h)
    refine end_at KX hns hb hbb hlim hg hp hr G hbind (H := H) only (hsp H only (.inl (.inr ⟨o, atP⟩))) (fun c u z => ?_) (fun c z => ?_) fun _ => hk
    · by_cases h : c = p
      · subst h
        rw [atP] at z
        cases z
        exact ⟨hp, by rw [List.length_map]; exact hl, us, _, rv, hp⟩
      · rw [offP c h] at z
        cases z
    · by_cases h : c = p
      · exact h
      · exact absurd (offP c h) z
end
theorem reps_ints {K : PySem.W.Frag} {F : Hp} {ι : List Addr} : ∀ ns : List Int, Reps K F ι (ns.map D.int) (ns.map V.int)
  | [] => Reps.nil
  | n :: ns => Reps.cons (by simp only [Rep]) (reps_ints ns)
theorem sp_start {K : PySem.W.Frag} {spec : List D → M D} {H : Hp} {a : Addr} {ns : List Int} {st' : Sto} (e : spec [.scr (ns.map D.int)] [] = .ok (.bl true) st') (hO : Only H) (hS : SqL K H a (ns.map V.int)) :
    spD K 1 spec [.ref a] H (fun v _ => v = .bl true) fun _ _ _ => False := by
  refine ⟨rfl, H, [], [], [.scr (ns.map D.int)], ?_, ?_, ?_⟩
  · refine ⟨fun _ _ h => h, fun b o h => ?_, rfl, List.nodup_nil, (fun l b h _ => nomatch h), (fun b h => nomatch h), (fun l m b h => nomatch h)⟩
    rcases hO b with q | ⟨o2, xs, q⟩
    · rw [q] at h; cases h
    · rw [q] at h; cases h; trivial
  · refine Reps.cons ?_ Reps.nil
    simp only [Rep]
    exact ⟨a, _, rfl, hS, reps_ints ns⟩
  · rw [e]
    intro F' ι' H' v x S r
    have r' : Rep K F' ι' (.bl true) v := r
    simpa only [Rep] using r'
theorem walkG {l : PySem.W.OpenLaw} {k : Nat} {q : Program} {loose : List Str} {XP : (Str → Option Value) → Heap → Prop} {YP : World → Heap → Prop} {d : DefRec} {K : Params → PySem.W.Frag} {spec : List D → M D} {x : Str}
    (hn : l.most = some 63) (hdf : d.params.defaults = []) (hr : Room k callerA)
    (hspec : ∀ ns : List Int, ns.length ≤ 63 → (∀ z ∈ ns, Builtin.Int.intBits z ≤ 1048576) → ∃ st', spec [.scr (ns.map D.int)] [] = .ok (.bl true) st')
    (hY : ∀ (w : World) (h : Heap), YP w h → (K w.params).In h)
    (G : ∀ (w : World) (mg : Str → Option Value) (fa : Addr) (h : Heap), (K w.params).In h → h.Ns mainGlobals mg → mg d.name = some (.ref fa) →
      ∃ fd : FuncData, (∀ (s : Shared) (u : Value), BindsTo s fd ⟨[u], []⟩ [(x, u)]) ∧ ∀ base : Heap, (K w.params).In base → base.Ns mainGlobals mg → FnG l.prog w (K w.params) mg base k fa fd [x] (spD (K w.params) 1 spec)) :
    PySem.W.WalkO q loose XP YP l.row.toRowW d [] (fun f vs => PySem.call f vs) := by
  refine Att.attach_callB hn hdf fun w s0 t mg mb fa o pm cd doc a vs ns Gr Y ho hd hcd hmg hobj hints hlen hbits hg => ?_
  have KX := hY w _ Y
  obtain ⟨fd, hb, hF⟩ := G w mg fa _ KX Gr.T.g hmg
  obtain ⟨st', e⟩ := hspec ns hlen hbits
  exact end_law KX Gr.T.g Gr.T.b Gr.T.builtins Gr.T.nolimit hg hobj hints (Nat.le_trans hlen (by decide)) hr hF hb fun H hO hS => sp_start e hO hS
end Dn
namespace Dn
open PySem PySem.Spec PyProof.Rows L2
def mStar (m : Rho → M D) (r : Rho → M (List D)) : Rho → M (List D) := fun ρ st => (m ρ st).bind fun d st1 => match seqOf st1 d with
  | some xs => (r ρ st1).bind fun ds st2 => .ok (xs ++ ds) st2
  | none => .bad
section
variable {X : Cx} {W : WX} {p : Pos} {e : Expr} {es : List Expr} {m : Rho → M D} {r : Rho → M (List D)}
theorem da_star (he : DE X W e m) (hr : DA X W es r) (hs : starEach (.Starred e p :: es) X.env = (true, eval e X.env) :: starEach es X.env := by rfl) : DA X W (.Starred e p :: es) (mStar m r) := by
  refine PA.weak (StX.pa_star he hr hs) fun σ H Q ⟨F, ι, ρ, st, S, R, q⟩ => ?_
  refine tG_seq back_A S R q fun d st1 F1 ι1 H1 v x1 S1 R1 r1 q1 => ?_
  cases e1 : seqOf st1 d with
  | none => rw [e1] at q1; exact (q1 : False).elim
  | some xs =>
    rw [e1] at q1
    obtain ⟨a, vs, ev, hq, rr⟩ := S1.seq r1 e1
    refine ⟨a, vs, ev, hq.symm, ?_⟩
    exact tG_seq back_A S1 R1 q1 fun ds st2 F2 ι2 H2 ws x2 S2 R2 r2 q2 => q2 F2 ι2 H2 _ Ext.refl S2 ((rr.ext x2).append r2)
end
def D.isTy (st : Sto) (T : String) : D → Prop
  | .str _ => T = "str"
  | .int _ => T = "int"
  | .lst _ => T = "list"
  | .scr _ => T = "list"
  | .ref l => T = "list" ∧ ∃ xs, st[l]? = some (.lst xs)
  | _ => False
open Classical in
noncomputable def mMeth (T : String) (p : D → List D → M D) (mo : Rho → M D) (am : Rho → M (List D)) : Rho → M D := fun ρ st =>
  (mo ρ st).bind fun o st1 => if o.isTy st1 T then (am ρ st1).bind fun ds st2 => nox (p o ds st2) else .bad
def rM (K : PySem.W.Frag) (p : D → List D → M D) : V → List V → Hp → VK → Prop := fun x xs H Q => ∃ F ι st d ds d' st', Sim K F ι st H ∧ Rep K F ι d x ∧ Reps K F ι ds xs ∧ p d ds st = .ok d' st' ∧
  ∀ F' ι' H' v, Ext F ι H F' ι' H' → Sim K F' ι' st' H' → Rep K F' ι' d' v → Q v H'
theorem Sim.tyV {K : PySem.W.Frag} {F : Hp} {ι : List Addr} {st : Sto} {H : Hp} {d : D} {v : V} {T : String} (S : Sim K F ι st H) (r : Rep K F ι d v) (h : d.isTy st T) : L2.tyV K T v H := by
  cases d with
  | str z => simp only [Rep] at r; subst r; exact h
  | int i => simp only [Rep] at r; subst r; exact h
  | lst xs =>
    simp only [Rep] at r
    obtain ⟨a, vs, rfl, q, rr⟩ := r
    exact .inl ⟨h, vs, .inl (.inl (S.sub _ _ q))⟩
  | scr xs =>
    simp only [Rep] at r
    obtain ⟨a, vs, rfl, q, rr⟩ := r
    exact .inl ⟨h, vs, S.sqL q⟩
  | ref l =>
    simp only [Rep] at r
    obtain ⟨a, rfl, q⟩ := r
    obtain ⟨hT, xs, e⟩ := h
    obtain ⟨vs, e2, _⟩ := S.obj l _ a e q
    exact .inl ⟨hT, vs, .inl (.inl e2)⟩
  | non => exact h.elim
  | bl _ => exact h.elim
  | tup _ => exact h.elim
  | adr _ => exact h.elim
  | fd _ _ => exact h.elim
  | exo _ _ _ _ => exact h.elim
  | obj _ _ _ => exact h.elim
  | sd _ => exact h.elim
section
variable {X : Cx} {W : WX} {apos cpos : Pos} {o e : Expr} {es : List Expr} {mo : Rho → M D} {am : Rho → M (List D)} {T id : String} {name : Str} {p : D → List D → M D}
theorem de_m (pa : PlainAttrs T) (slot : Slot T name id) (hty : typeOf (.builtin id) = pure (.type "method_descriptor")) (hm : MtR X id (rM X.K p)) (ho : DE X W o mo) (ha : DA X W (e :: es) am)
    (hbase : attributeBase o name X.env (eval o X.env) = eval o X.env := by rfl)
    (hfew : ((backTo cpos (starEach (e :: es) X.env)).all (fun x => !x.1) && (backToKw cpos (keywordEach [] X.env)).all (fun x => x.1.isSome)
      && decide ((e :: es).length + ([] : List Keyword).length + (if ([] : List Keyword).isEmpty then 0 else 1) < 30)) = true := by rfl)
    (hline : (apos.endLine == cpos.line) = true := by rfl) (hs : starEach (e :: es) X.env = (false, eval e X.env) :: starEach es X.env := by rfl) (hpl : (backTo cpos (starEach es X.env)).any (·.1) = false := by rfl) :
    DE X W (.Call (.Attribute o name apos) (e :: es) [] cpos) (mMeth T p mo am) := by
  refine PE.weak (pe_bm pa slot hty hm ho ha hbase hfew hline hs hpl) fun σ H Q ⟨F, ι, ρ, st, S, R, q⟩ => ?_
  refine tG_seq back_V S R q fun d st1 F1 ι1 H1 v x1 S1 R1 r1 q1 => ?_
  split at q1
  rotate_left
  · exact (q1 : False).elim
  rename_i hT
  refine ⟨S1.tyV r1 hT, ?_⟩
  refine tG_seq back_V S1 R1 q1 fun ds st2 F2 ι2 H2 vs x2 S2 R2 r2 q2 => ?_
  cases e1 : p d ds st2 with
  | ok d' st' =>
    rw [e1] at q2
    exact ⟨F2, ι2, st2, d, ds, d', st', S2, r1.ext x2, r2, e1, q2⟩
  | exc _ _ => rw [e1] at q2; exact (q2 : False).elim
  | bad => rw [e1] at q2; exact (q2 : False).elim
theorem de_m0 (pa : PlainAttrs T) (slot : Slot T name id) (hty : typeOf (.builtin id) = pure (.type "method_descriptor")) (hm : MtR X id (rM X.K p)) (ho : DE X W o mo)
    (hbase : attributeBase o name X.env (eval o X.env) = eval o X.env := by rfl) (hline : (apos.endLine == cpos.line) = true := by rfl) : DE X W (.Call (.Attribute o name apos) [] [] cpos) (mMeth T p mo mNil) := by
  refine PE.weak (pe_bm0 pa slot hty hm ho hbase hline) fun σ H Q ⟨F, ι, ρ, st, S, R, q⟩ => ?_
  refine tG_seq back_V S R q fun d st1 F1 ι1 H1 v x1 S1 R1 r1 q1 => ?_
  split at q1
  rotate_left
  · exact (q1 : False).elim
  rename_i hT
  refine ⟨S1.tyV r1 hT, ?_⟩
  change post _ _ _ _ _ _ _ (nox (p d [] st1)) Q at q1
  cases e1 : p d [] st1 with
  | ok d' st' =>
    rw [e1] at q1
    exact ⟨F1, ι1, st1, d, [], d', st', S1, r1, Reps.nil, e1, q1⟩
  | exc _ _ => rw [e1] at q1; exact (q1 : False).elim
  | bad => rw [e1] at q1; exact (q1 : False).elim
end
theorem Sim.mut {K : PySem.W.Frag} {F : Hp} {ι : List Addr} {st : Sto} {H : Hp} {l : Nat} {v : V} {xs : List D} (S : Sim K F ι st H) (r : Rep K F ι (.ref l) v) (h : st[l]? = some (.lst xs)) : ∃ a vs, v = .ref a ∧ ι[l]? = some a ∧ H a = some (.lst vs) ∧ Reps K F ι xs vs := by
  simp only [Rep] at r
  obtain ⟨a, rfl, q⟩ := r
  obtain ⟨vs, e2, rr⟩ := S.obj l _ a h q
  exact ⟨a, vs, rfl, q, e2, rr⟩
theorem write_lst {K : PySem.W.Frag} {F : Hp} {ι : List Addr} {st : Sto} {H : Hp} {l : Nat} {a : Addr} {vs ws : List V} {ys : List D} {xs : List D} (S : Sim K F ι st H) (hg : st[l]? = some (.lst xs)) (q : ι[l]? = some a) (h : H a = some (.lst vs)) (r : Reps K F ι ys ws) :
    Ext F ι H F ι (upd H a (.lst ws)) ∧ Sim K F ι (st.set l (.lst ys)) (upd H a (.lst ws)) :=
  ⟨Ext.write q (by rw [h]; simp), S.write q (by rw [hg]; simp) ⟨ws, upd_same, r⟩⟩
def onL (st : Sto) (d : D) (f : Nat → List D → Out D) : Out D := match d with
  | .ref l => match st[l]? with
    | some (.lst xs) => f l xs
    | _ => .bad
  | _ => .bad
theorem onL_ok {st st' : Sto} {d d' : D} {f : Nat → List D → Out D} (h : onL st d f = .ok d' st') : ∃ l xs, d = .ref l ∧ st[l]? = some (.lst xs) ∧ f l xs = .ok d' st' := by
  unfold onL at h
  split at h
  · split at h
    · rename_i l _ xs e
      exact ⟨l, xs, rfl, e, h⟩
    · cases h
  · cases h
theorem rep_non {K : PySem.W.Frag} {F : Hp} {ι : List Addr} : Rep K F ι .non .non := by simp only [Rep]
def pAppend : D → List D → M D := fun d ds st => onL st d fun l xs => match ds with
  | [y] => if xs.length < SZ then .ok .non (st.set l (.lst (xs ++ [y]))) else .bad
  | _ => .bad
def pPop : D → List D → M D := fun d ds st => onL st d fun l xs => match ds with
  | [] => match xs[xs.length - 1]? with
    | some y => .ok y (st.set l (.lst xs.dropLast))
    | none => .bad
  | _ => .bad
theorem Reps.take' {K : PySem.W.Frag} {F : Hp} {ι : List Addr} : ∀ {ds : List D} {vs : List V} (n : Nat), Reps K F ι ds vs → Reps K F ι (ds.take n) (vs.take n)
  | [], _, n, h => by simp only [Reps] at h; subst h; simp only [List.take_nil]; exact Reps.nil
  | d :: ds, _, 0, h => by simp only [List.take_zero]; exact Reps.nil
  | d :: ds, _, n + 1, h => by
    simp only [Reps] at h
    obtain ⟨v, r, rfl, h1, h2⟩ := h
    exact Reps.cons h1 (Reps.take' n h2)
theorem Reps.drop' {K : PySem.W.Frag} {F : Hp} {ι : List Addr} : ∀ {ds : List D} {vs : List V} (n : Nat), Reps K F ι ds vs → Reps K F ι (ds.drop n) (vs.drop n)
  | [], _, n, h => by simp only [Reps] at h; subst h; simp only [List.drop_nil]; exact Reps.nil
  | d :: ds, _, 0, h => h
  | d :: ds, _, n + 1, h => by
    simp only [Reps] at h
    obtain ⟨v, r, rfl, h1, h2⟩ := h
    exact Reps.drop' n h2
theorem Reps.erase {K : PySem.W.Frag} {F : Hp} {ι : List Addr} : ∀ {ds : List D} {vs : List V} (n : Nat), Reps K F ι ds vs → Reps K F ι (ds.eraseIdx n) (vs.eraseIdx n)
  | [], _, n, h => by simp only [Reps] at h; subst h; exact Reps.nil
  | d :: ds, _, 0, h => by
    simp only [Reps] at h
    obtain ⟨v, r, rfl, h1, h2⟩ := h
    exact h2
  | d :: ds, _, n + 1, h => by
    simp only [Reps] at h
    obtain ⟨v, r, rfl, h1, h2⟩ := h
    exact Reps.cons h1 (Reps.erase n h2)
theorem Reps.setAt {K : PySem.W.Frag} {F : Hp} {ι : List Addr} {d : D} {v : V} (hd : Rep K F ι d v) : ∀ {ds : List D} {vs : List V} (n : Nat), Reps K F ι ds vs → Reps K F ι (ds.set n d) (vs.set n v)
  | [], _, n, h => by simp only [Reps] at h; subst h; exact Reps.nil
  | e :: ds, _, 0, h => by
    simp only [Reps] at h
    obtain ⟨v, r, rfl, h1, h2⟩ := h
    exact Reps.cons hd h2
  | e :: ds, _, n + 1, h => by
    simp only [Reps] at h
    obtain ⟨v, r, rfl, h1, h2⟩ := h
    exact Reps.cons h1 (Reps.setAt hd n h2)
theorem Reps.dropL {K : PySem.W.Frag} {F : Hp} {ι : List Addr} {ds : List D} {vs : List V} (h : Reps K F ι ds vs) : Reps K F ι ds.dropLast vs.dropLast := by
  rw [List.dropLast_eq_take, List.dropLast_eq_take, h.length]
  exact Reps.take' _ h
theorem Reps.one' {K : PySem.W.Frag} {F : Hp} {ι : List Addr} {d : D} {vs : List V} (h : Reps K F ι [d] vs) : ∃ v, vs = [v] ∧ Rep K F ι d v := by
  simp only [Reps] at h
  obtain ⟨v, r, rfl, h1, rfl⟩ := h
  exact ⟨v, rfl, h1⟩
theorem mtM {X : Cx} {id : String} {r : V → List V → Hp → VK → Prop} {p : D → List D → M D} (h : MtR X id r) (w : ∀ x xs H Q, rM X.K p x xs H Q → r x xs H Q) : MtR X id (rM X.K p) := fun pins s σ H x xs v us Q I rx rxs q => h pins s σ H x xs v us Q I rx rxs (w _ _ _ _ q)
section
variable {X : Cx}
theorem mt_pAppend : MtR X "list.append" (rM X.K pAppend) := mtM mt_append fun x xs H Q ⟨F, ι, st, d, ds, d', st', S, rd, rds, e, q⟩ => by
  obtain ⟨l, ys, rfl, hl, e⟩ := onL_ok e
  split at e
  · split at e
    · rename_i y hz
      cases e
      obtain ⟨a, vs, rfl, q1, q2, q3⟩ := S.mut rd hl
      obtain ⟨v, rfl, rv⟩ := rds.one'
      obtain ⟨x1, S1⟩ := write_lst S hl q1 q2 (q3.snoc rv)
      exact ⟨a, vs, v, rfl, rfl, q2, by rw [← q3.length]; exact sz_lt (Nat.le_of_lt hz), q _ _ _ _ x1 S1 rep_non⟩
    · cases e
  · cases e
theorem mt_pPop : MtR X "list.pop" (rM X.K pPop) := mtM mt_pop fun x xs H Q ⟨F, ι, st, d, ds, d', st', S, rd, rds, e, q⟩ => by
  obtain ⟨l, ys, rfl, hl, e⟩ := onL_ok e
  split at e
  · split at e
    · rename_i y hy
      cases e
      obtain ⟨a, vs, rfl, q1, q2, q3⟩ := S.mut rd hl
      obtain ⟨v, hv, rv⟩ := q3.get hy
      obtain ⟨x1, S1⟩ := write_lst S hl q1 q2 q3.dropL
      simp only [Reps] at rds
      exact ⟨a, vs, v, rfl, rds, q2, by rw [← q3.length]; exact hv, q _ _ _ _ x1 S1 rv⟩
    · cases e
  · cases e
end
def gSubD (mo mi : Rho → M D) : D → Rho → M Rho := fun d ρ st => (mo ρ st).bind fun o st1 => (mi ρ st1).bind fun i st2 => match o, i with
  | .ref l, .int k => match st2[l]? with
    | some (.lst xs) => match ixN xs.length k with
      | some j => .ok ρ (st2.set l (.lst (xs.set j d)))
      | none => .bad
    | _ => .bad
  | _, _ => .bad
section
variable {X : Cx} {pos : Pos} {o i : Expr} {mo mi : Rho → M D}
theorem dg_sub (ho : DE X wN o mo) (hi : DE X wN i mi)
    (ha : ∀ v, assign (.Subscript o i pos) X.env v = (do
      let ov ← holding [v] (eval o X.env)
      let iv ← holding [v, ov] (eval i X.env)
      standAt pos
      holding [v, ov, iv] (setItem ov iv v)
      release [v, ov, iv] []) := by intro _; rfl) : DG X [] (.Subscript o i pos) (gSubD mo mi) := by
  refine PG.weak (pg_sub ho hi set_list ha) fun v σ H Q ⟨F, ι, ρ, st, d, S, R, r, q⟩ => ?_
  have bk : Back (pR X.K [] σ) := fun _ _ _ _ _ _ _ _ h => h
  refine tG_seq bk S R q fun od st1 F1 ι1 H1 ov x1 S1 R1 r1 q1 => ?_
  refine tG_seq bk S1 R1 q1 fun id st2 F2 ι2 H2 iv x2 S2 R2 r2 q2 => ?_
  split at q2
  · split at q2
    · split at q2
      · rename_i l k _ xs hl _ j hj
        obtain ⟨a, vs, rfl, e1, e2, e3⟩ := S2.mut (r1.ext x2) hl
        have r2 : iv = V.int k := by simpa only [pV, Rep] using r2
        subst r2
        obtain ⟨x3, S3⟩ := write_lst S2 hl e1 e2 (e3.setAt ((r.ext x1).ext x2) j)
        exact ⟨a, vs, k, j, rfl, rfl, e2, by rw [← e3.length]; exact hj, q2 _ _ _ _ x3 S3 ⟨R2.ext x3, fun vs _ => rfl⟩⟩
      · exact (q2 : False).elim
    · exact (q2 : False).elim
  · exact (q2 : False).elim
end
end Dn
namespace Dn
open PySem PySem.Spec PyProof.Rows L2
mutual
theorem reads_lt {h : Heap} : ∀ (d : PyData) (v : Value) (as : List Addr), PySem.W.alike d d = true → Reads h v d as → ∀ a ∈ as, a < h.objs.size
  | .none, _, _, _, r, a, ha => by cases r; cases ha
  | .bool _, _, _, _, r, a, ha => by cases r; cases ha
  | .int _, _, _, _, r, a, ha => by cases r; cases ha
  | .str _, _, _, _, r, a, ha => by cases r; cases ha
  | .list xs, _, _, hal, r, a, ha => by
    cases r with
    | list h1 h2 h3 h4 =>
      rcases List.mem_cons.mp ha with e | e
      · rw [e]; exact Heap.lt_size h1
      · exact readsAll_lt xs _ _ (by simpa [PySem.W.alike] using hal) h4 a e
  | .tuple xs, _, _, hal, r, a, ha => by
    cases r with
    | tuple h1 h2 h3 h4 => exact readsAll_lt xs _ _ (by simpa [PySem.W.alike] using hal) h4 a ha
  | .dict _, _, _, hal, _, _, _ => absurd hal (by simp [PySem.W.alike])
theorem readsAll_lt {h : Heap} : ∀ (ds : List PyData) (vs : List Value) (as : List Addr), PySem.W.alikeAll ds ds = true → ReadsAll h vs ds as → ∀ a ∈ as, a < h.objs.size
  | [], _, _, _, r, a, ha => by cases r; cases ha
  | d :: ds, _, _, hal, r, a, ha => by
    cases r with
    | cons h1 h2 =>
      rcases List.mem_append.mp ha with e | e
      · exact reads_lt d _ _ (PySem.W.alike_all_cons hal).1 h1 a e
      · exact readsAll_lt ds _ _ (PySem.W.alike_all_cons hal).2 h2 a e
end
theorem each_pairs {K : PySem.W.Frag} {F : Hp} {ι : List Addr} : ∀ {ds : List D} {vs : List V} {us : List Value}, Reps K F ι ds vs → Vals vs us → PySem.W.EachIs (fun u (p : D × V) => RelV p.2 u ∧ Rep K F ι p.1 p.2) us (ds.zip vs)
  | [], _, _, h, r => by
    simp only [Reps] at h
    subst h
    cases r
    exact .nil
  | d :: ds, _, _, h, r => by
    simp only [Reps] at h
    obtain ⟨v, ws, rfl, h1, h2⟩ := h
    cases r with
    | cons r1 r2 => exact .cons ⟨r1, h1⟩ (each_pairs h2 r2)
theorem pairs_each {K : PySem.W.Frag} {F : Hp} {ι : List Addr} : ∀ {bs : List (D × V)} {us : List Value}, PySem.W.EachIs (fun u (p : D × V) => RelV p.2 u ∧ Rep K F ι p.1 p.2) us bs → Reps K F ι (bs.map (·.1)) (bs.map (·.2)) ∧ Vals (bs.map (·.2)) us
  | [], _, h => by cases h; exact ⟨Reps.nil, .nil⟩
  | b :: bs, _, h => by
    cases h with
    | cons h1 h2 =>
      obtain ⟨a, c⟩ := pairs_each h2
      exact ⟨Reps.cons h1.2 a, .cons h1.1 c⟩
theorem zip_fst {K : PySem.W.Frag} {F : Hp} {ι : List Addr} {ds : List D} {vs : List V} (h : Reps K F ι ds vs) : (ds.zip vs).map (·.1) = ds := List.map_fst_zip (Nat.le_of_eq h.length)
theorem each_mem2 {α β : Type} {R : α → β → Prop} : ∀ {as : List α} {bs : List β}, PySem.W.EachIs R as bs → PySem.W.EachIs (fun a b => R a b ∧ b ∈ bs) as bs
  | _, _, .nil => .nil
  | _, _, .cons h t => .cons ⟨h, List.mem_cons_self⟩ ((each_mem2 t).mono fun _ _ q => ⟨q.1, List.mem_cons_of_mem _ q.2⟩)
section
open PySem.W PySem.Calls
variable {prog : Program} {w : World} {A : Around} {E : Value → Shared → Prop} {s : Shared}
theorem call_tuple_lt {Q : Value → Shared → Prop} {l b : Addr} {items items2 : Array Value} {e r : Nat → Bool} (hl : s.heap.IsTuple l items) (hb : s.heap.IsTuple b items2)
    (he : ∀ j (h1 : j < items.size) (h2 : j < items2.size), SeqAt.EqAt A.in1 s items[j] items2[j] (e j)) (hr : ∀ j (h1 : j < items.size) (h2 : j < items2.size), e j = false → SeqAt.RcLt A.in1 s items[j] items2[j] (r j))
    (h : Q (.bool (SeqAt.firstLt e r (decide (items.size < items2.size)) (List.range (min items.size items2.size)))) s) : wpAny (model prog w) A (call (.builtin "tuple.__lt__") [.ref l, .ref b]) Q E s := by
  obtain ⟨⟨cls, dd, data, sl⟩, ho, hc, n, hd⟩ := id hl
  obtain ⟨⟨cls2, dd2, data2, sl2⟩, ho2, hc2, n2, hd2⟩ := id hb
  simp only at hc hd hc2 hd2
  subst hc hd hc2 hd2
  exact call_meets F.slot_tuple_lt ⟨_, ho, rfl⟩ F.entry_tuple_lt (F.args_tuple_lt_2 _ _) (SeqAt.tuple_ltAt l b items items2 n n2 dd dd2 sl sl2 e r) ⟨ho, ho2, he, hr, h⟩
theorem oneLt_tuples {f : Bool} {xs ys : List PyData} {a b : Value} {as bs : List Addr} {Q : Bool → Shared → Prop} (ra : Reads s.heap a (.tuple xs) as) (rb : Reads s.heap b (.tuple ys) bs) (h : alike (.tuple xs) (.tuple ys) = true)
    (hu : A.units + min (PyData.depth (.tuple xs)) (PyData.depth (.tuple ys)) < cLine) (hq : Q (dataLt (.tuple xs) (.tuple ys)) s) : wpAny (model prog w) A (oneLt' f a b) Q E s := by
  cases f with
  | false => exact oneLt_alike (fun q => nomatch q) ra rb h (by simp) hu hq
  | true =>
    have hal : alikeAll xs ys = true := by simpa [alike] using h
    cases ra with
    | @tuple l o vs n _ as₁ h1 h2 h3 h4 =>
      cases rb with
      | @tuple l' o' vs' n' _ bs₁ k1 k2 k3 k4 =>
        have n1 : vs.size = xs.length := by simpa using SeqAt.ReadsAll.length _ _ _ h4
        have n2 : vs'.size = ys.length := by simpa using SeqAt.ReadsAll.length _ _ _ k4
        rw [dataLt_tuple, ← firstLt_toks xs ys hal, ← n1, ← n2] at hq
        rw [oneLt'_eq]
        simp only [if_true]
        refine wpAny_bind (wpAny_cRoomFor (SeqAt.room_here hu) ?_)
        refine wpAny_bind (wpAny_callSpecialIfBound?_slot (T := "tuple") ⟨_, h1, h2⟩ F.slot_tuple_lt (call_tuple_lt (e := SeqAt.pairEq xs ys) (r := fun j => dataLt (xs.getD j .none) (ys.getD j .none)) ⟨_, h1, h2, _, h3⟩ ⟨_, k1, k2, _, k3⟩ (fun j j1 j2 => ?_) (fun j j1 j2 hj => ?_) ?_))
        · have := eqAt_alikeAll xs ys A.in1 s vs.toList vs'.toList _ _ h4 k4 hal (SeqAt.room_in hu) j (by simpa using j1) (by simpa using j2)
          simpa using this
        · have := rcLt_alikeAll xs ys A.in1 s vs.toList vs'.toList _ _ h4 k4 hal (SeqAt.room_in hu) j (by simpa using j1) (by simpa using j2) hj
          simpa using this
        · exact wpAny_truthy_bool hq
def firstV (h : Heap) (v : Value) : Option Value := match v with
  | .ref a => match h.get? a with
    | some o => match o.data with
      | .seq xs _ => xs[0]?
      | _ => none
    | none => none
  | _ => none
theorem firsts_tuples : ∀ (vs : List Value) {Q : List (Option Value) → Shared → Prop}, (∀ v ∈ vs, ∃ a o xs n, v = .ref a ∧ s.heap.get? a = some o ∧ o.cls = .type "tuple" ∧ o.data = .seq xs n) → Q (vs.map (firstV s.heap)) s → wpAny (model prog w) A (vs.mapM firstOfTuple') Q E s
  | [], _, _, h => by rw [List.mapM_nil]; exact wpAny_pure h
  | v :: vs, Q, t, h => by
    obtain ⟨a, o, xs, n, rfl, ho, hc, hd⟩ := t v (by simp)
    have e : firstV s.heap (.ref a) = xs[0]? := by
      unfold firstV
      simp only [ho, hd]
    rw [List.mapM_cons]
    refine wpAny_bind ?_
    rw [kas_first_eq]
    refine wpAny_bind (Looks.here (show Looks (model prog w) s.heap (typeOf (.ref a)) o.cls from (Looks.ld ho).andThen .now) ?_)
    rw [hc, if_neg (by first | decide | simp)]
    refine wpAny_bind (listItems_at ho hd (wpAny_pure ?_))
    rw [← e]
    exact wpAny_bind (firsts_tuples vs (Q := fun bs s' => wpAny (model prog w) A (pure (firstV s.heap (.ref a) :: bs)) Q E s') (fun v hv => t v (by simp [hv])) (wpAny_pure h))
theorem kind_tuples {vs : List Value} {Q : SortKind → Shared → Prop} (h2 : 2 ≤ vs.length) (t : ∀ v ∈ vs, ∃ a o xs n, v = .ref a ∧ s.heap.get? a = some o ∧ o.cls = .type "tuple" ∧ o.data = .seq xs n) (hne : ((vs.map (firstV s.heap)).toArray.all (·.isSome)) = false)
    (h : Q (if ((vs.map (firstV s.heap))[0]?.bind id).isSome = true then general' else oneType') s) : wpAny (model prog w) A (keyKind' vs.toArray) Q E s := by
  obtain ⟨v₁, v₂, rest, rfl⟩ : ∃ v₁ v₂ rest, vs = v₁ :: v₂ :: rest := by
    match vs, h2 with
    | [], h2 => simp at h2
    | [_], h2 => simp at h2
    | v₁ :: v₂ :: rest, _ => exact ⟨v₁, v₂, rest, rfl⟩
  rw [keyKind'_eq, List.mapM_toArray, map_eq_pure_bind]
  refine wpAny_bind (wpAny_bind (firsts_tuples _ t (wpAny_pure ?_)))
  rw [if_neg (by rw [hne]; simp)]
  have hg : (((v₁ :: v₂ :: rest).map (firstV s.heap)).toArray[0]?.bind id) = (((v₁ :: v₂ :: rest).map (firstV s.heap))[0]?.bind id) := by simp
  rw [hg]
  by_cases hf : ((((v₁ :: v₂ :: rest).map (firstV s.heap))[0]?.bind id).isSome) = true
  · rw [if_pos hf] at h ⊢
    exact wpAny_pure h
  · rw [if_neg hf] at h ⊢
    rw [oneTypeOnly'_eq, List.mapM_toArray, map_eq_pure_bind]
    refine wpAny_bind (wpAny_bind (wpAny_bind (kas_mapM (r := Value.type "tuple") _ (fun v hv Q' hq => ?_) (wpAny_pure ?_))))
    · obtain ⟨a, o, xs, n, rfl, ho, hc, hd⟩ := t v hv
      exact Looks.here (show Looks (model prog w) s.heap (typeOf (.ref a)) (Value.type "tuple") from hc ▸ (Looks.ld ho).andThen .now) hq
    · have hall : ((List.map (fun _ => Value.type "tuple") (v₁ :: v₂ :: rest)).toArray.all fun x => x == Value.type "tuple") = true := by
        simp only [List.all_toArray, List.all_map, List.all_eq_true]
        intro _ _
        rfl
      have h0 : (List.map (fun _ => Value.type "tuple") (v₁ :: v₂ :: rest)).toArray[0]? = some (Value.type "tuple") := by simp
      rw [h0]
      simp only [hall, if_true]
      exact wpAny_pure (wpAny_pure h)
def SortableX (ds : List PyData) : Prop := (∀ d, d ∈ ds → ∃ xs, d = .tuple xs) ∨ ∀ d, d ∈ ds → d ≠ .none ∧ ∀ xs, d ≠ .tuple xs
theorem first_each {h : Heap} : ∀ {vs : List Value} {ds : List PyData}, EachIs (fun v d => ∃ as, Reads h v d as) vs ds → (∀ d, d ∈ ds → ∃ xs, d = .tuple xs) → ((vs.map (firstV h)).toArray.all (·.isSome)) = true → ∀ d, d ∈ ds → ∃ x r, d = .tuple (x :: r)
  | _, _, .nil, _, _, d, hd => nomatch hd
  | _, _, .cons (b := d0) ⟨as, r⟩ t, ht, ha, d, hd => by
    obtain ⟨xs, rfl⟩ := ht d0 (List.mem_cons_self ..)
    rw [List.map_cons] at ha
    simp only [List.all_toArray, List.all_cons, Bool.and_eq_true] at ha
    have ha' := ha
    rcases List.mem_cons.mp hd with rfl | hd
    · cases r with
      | @tuple a o ys n _ _ ho hc hdt hr =>
        have e : firstV h (.ref a) = ys[0]? := by
          unfold firstV
          simp only [ho, hdt]
        cases xs with
        | nil =>
          have hl : ys.toList.length = 0 := by simpa using SeqAt.ReadsAll.length _ _ _ hr
          have h1 := ha'.1
          rw [e] at h1
          have : ys[0]? = none := by
            rw [Array.getElem?_eq_none]
            simp at hl
            simp [hl]
          rw [this] at h1
          cases h1
        | cons x r => exact ⟨x, r, rfl⟩
    · exact first_each t (fun d hd => ht d (List.mem_cons_of_mem _ hd)) (by simp only [List.all_toArray]; exact ha'.2) d hd
theorem sortsAtX {vs : List Value} {ds : List PyData} (e : EachIs (fun v d => ∃ as, Reads s.heap v d as) vs ds) (hal : AllAlike ds) (hk : SortableX ds) (hu : ∀ d, d ∈ ds → A.units + d.depth < cLine) : SortsAt prog w A s (dataKind s.heap ds) vs := by
  rcases hk with ht | hn
  · by_cases ha : ((vs.map (firstV s.heap)).toArray.all (·.isSome)) = true
    · exact SortsAt.data e hal (.inl (first_each e ht ha)) hu
    · have room : ∀ {d d' : PyData}, d ∈ ds → A.units + min d.depth d'.depth < cLine := fun {d d'} hd => Nat.lt_of_le_of_lt (Nat.add_le_add_left (Nat.min_le_left _ _) _) (hu d hd)
      refine ⟨fun v hv => ?_, if ((vs.map (firstV s.heap))[0]?.bind id).isSome = true then general' else oneType', ?_, fun h2 E Q hq => ?_⟩
      · obtain ⟨d, hd, as, r⟩ := e.left v hv
        exact ⟨_, dataKind_some hal hd r⟩
      · intro E x y a b Q ha hb hq
        obtain ⟨d, as, hd, ra, rfl⟩ := dataKind_inv ha
        obtain ⟨d', as', hd', rb, rfl⟩ := dataKind_inv hb
        have hdd := hal d hd d' hd'
        have hroom := room (d' := d') hd
        obtain ⟨xs, rfl⟩ := ht d hd
        obtain ⟨ys, rfl⟩ := ht d' hd'
        have hq' : Q (dataLt (.tuple xs) (.tuple ys)) s := hq
        split
        · exact oneLt_tuples (f := false) ra rb hdd hroom hq'
        · rw [keyLt'_oneType]
          exact oneLt_tuples (f := true) ra rb hdd hroom hq'
      · refine kind_tuples (by simpa using h2) (fun v hv => ?_) (by simpa using ha) hq
        obtain ⟨d, hd, as, r⟩ := e.left v hv
        obtain ⟨xs, rfl⟩ := ht d hd
        cases r with
        | @tuple a o ys n _ _ ho hc hdt hr => exact ⟨a, o, ys, n, rfl, ho, hc, hdt⟩
  · exact SortsAt.data e hal (.inr hn) hu
theorem list_sort_dataX {β : Type} {R : Value → β → Prop} {enc : β → PyData} {vs : List Value} {bs : List β} {a : Addr} {n : Nat} {Q : Value → Shared → Prop} (ho : s.heap.get? a = some (seqObj "list" vs.toArray n)) (e : EachIs R vs bs) (er : EachIs (fun v b => ∃ as, Reads s.heap v (enc b) as ∧ a ∉ as) vs bs) (hal : AllAlike (bs.map enc)) (hk : SortableX (bs.map enc)) (hL : bs.length ≤ sizeLine)
    (hu : ∀ b, b ∈ bs → A.units + 1 + (enc b).depth < cLine) (h : ∀ out, out.length = bs.length → EachIs R out (bs.mergeSort (dataLe false enc)) → Q .none { s with heap := sortedHeap s.heap a vs (List.toArray out) }) :
    wpAny (model prog w) A (call (.builtin "list.sort") [.ref a]) Q E s := by
  have er' : EachIs (fun v b => ∃ as, Reads (sortingHeap s.heap a vs) v (enc b) as) vs bs := each_keepBut (h' := sortingHeap s.heap a vs) (fun _ _ hb q => sortingHeap_old hb q) (fun o q => by rw [ho] at q; rw [← Option.some.inj q]) hal er
  refine wpAny_call_entry slot_list_sort ⟨_, ho, rfl⟩ entry_list_sort (list_sort_vals (κ := dataKind (sortingHeap s.heap a vs) (bs.map enc)) ho (sortsAtX (s := { s with heap := sortingHeap s.heap a vs }) (each_map (R := fun v d => ∃ as, Reads (sortingHeap s.heap a vs) v d as) enc er') hal hk (bound_map hu)) (by rw [e.length]; exact hL) ⟨.none, rfl, ?_⟩) (args_list_sort _)
  exact h _ (by rw [sortVals_length false rfl]; exact e.length) (sortVals_data false e er' hal)
end
def sortD (ds : List D) : List D := ds.mergeSort (PySem.W.dataLe false toP)
open Classical in
noncomputable def pSorted : Sto → List D → Option (List D) := fun st ds => match ds with
  | [d] => match seqOf st d with
    | some xs => if xs.length ≤ SZ ∧ (∀ x ∈ xs, isP x = true ∧ (toP x).depth ≤ 50) ∧ PySem.W.AllAlike (xs.map toP) ∧ SortableX (xs.map toP) then some (sortD xs) else none
    | none => none
  | _ => none
section
variable {X : Cx} {K : PySem.W.Frag} {F : Hp} {ι : List Addr} {st : Sto} {H : Hp}
theorem rep_dp (S : Sim K F ι st H) {d : D} {v : V} (r : Rep K F ι d v) (h : isP d = true) : Dp K H v (toP d) := by
  refine S.dp r ?_
  unfold dat
  split
  · simp [isP] at h
  · rw [if_pos h]
theorem call_pSorted (hc : X.calm = true) (hu : X.A.units + 70 < cLine) : CallR X (.builtin "sorted") (rBL X.K pSorted) := by
  intro pins s σ H vs us Q I rv ⟨F, ι, st, ds, d, S, ra, e, q⟩
  unfold pSorted at e
  split at e
  rotate_left
  · cases e
  rename_i d1
  cases e1 : seqOf st d1 with
  | none => rw [e1] at e; cases e
  | some xs =>
    rw [e1] at e
    dsimp only at e
    split at e
    rotate_left
    · cases e
    rename_i hok
    obtain ⟨hsz, hp, hal, hso⟩ := hok
    obtain rfl : sortD xs = d := Option.some.inj e
    obtain ⟨v, rfl, rd⟩ := ra.one'
    obtain ⟨u, rfl, ru⟩ := rv.one
    obtain ⟨a, ws, rfl, hq, rr⟩ := S.seq rd e1
    cases ru
    -- the object
    obtain ⟨T, o, its, n, hT, ho, hcl, hd, rits, hz⟩ : ∃ (T : String) (o : Obj) (its : List Value) (n : Nat), (T = "list" ∨ T = "tuple") ∧ s.heap.get? a = some o ∧ o.cls = .type T ∧ o.data = .seq its.toArray n ∧ Vals ws its ∧ ws.length ≤ sizeLine := by
      rcases hq with hq | hq
      · obtain ⟨its, r, pl, hz⟩ := I.list hq
        obtain ⟨o, ho, hc, n, hd⟩ := pl.isList
        exact ⟨"list", o, its, n, .inl rfl, ho, hc, hd, r, hz⟩
      · obtain ⟨its, r, pl, hz⟩ := I.tuple hq
        obtain ⟨o, ho, hc, n, hd⟩ := pl
        exact ⟨"tuple", o, its, n, .inr rfl, ho, hc, hd, r, hz⟩
    have hl := rits.length
    refine Calls.call_function_entry PyProof.Rows.kind_sorted PyProof.Rows.plain_sorted PyProof.Rows.entry_sorted (PyProof.Rows.args_sorted1 _) ?_
    unfold Builtin.«sorted»
    refine wpAny_bind (m := checkCount "sorted" 1 1 _) (wpAny_pure ?_)
    refine wpAny_bind (wpAny_collect_seq a hT ho hcl hd (fun h' hk => ?_) (by rw [List.size_toArray]; omega))
    have I1 : Inv X pins σ H { s with heap := h' } := I.kept (t' := s.toks) hk
    have ei : its.toArray.toList = its := by simp
    rw [ei]
    refine wpAny_bind (wpAny_newList ?_ (by omega))
    have hoL : (h'.push (seqObj "list" its.toArray 0)).get? h'.objs.size = some (seqObj "list" its.toArray 0) := Heap.get?_push_size _ rfl
    have ee := each_pairs rr rits
    have er : PySem.W.EachIs (fun u (b : D × V) => ∃ as, Reads (h'.push (seqObj "list" its.toArray 0)) u (toP b.1) as ∧ h'.objs.size ∉ as) its (xs.zip ws) := by
      refine (each_mem2 ee).mono fun u b ⟨⟨h1, h2⟩, hb⟩ => ?_
      have hb1 : b.1 ∈ xs := (List.of_mem_zip (show (b.1, b.2) ∈ xs.zip ws from hb)).1
      obtain ⟨as, r⟩ := Dp.reads I1 _ _ _ (rep_dp S h2 (hp b.1 hb1).1) h1
      refine ⟨as, PyProof.Rows.Reads.keeps (fun _ _ => Heap.get?_push_of_some _) r, fun hm => ?_⟩
      have hal1 : PySem.W.alike (toP b.1) (toP b.1) = true := hal _ (List.mem_map.mpr ⟨b.1, hb1, rfl⟩) _ (List.mem_map.mpr ⟨b.1, hb1, rfl⟩)
      exact absurd (reads_lt _ _ _ hal1 r _ hm) (Nat.lt_irrefl _)
    have em : (xs.zip ws).map (fun b : D × V => toP b.1) = xs.map toP := by
      have e2 : (xs.zip ws).map (fun b : D × V => toP b.1) = ((xs.zip ws).map Prod.fst).map toP := by rw [List.map_map] <;> rfl
      rw [e2, zip_fst rr]
    show wpAny _ _ _ _ _ { s with heap := h'.push (seqObj "list" its.toArray 0) }
    refine wpAny_bind (wpAny_holding (list_sort_dataX (enc := fun b : D × V => toP b.1) (bs := xs.zip ws) hoL ee er (by rw [em]; exact hal) (by rw [em]; exact hso) ?_ ?_ fun out hout eout => ?_))
    · rw [List.length_zip]; omega
    · intro b hb
      have hb1 : b.1 ∈ xs := (List.of_mem_zip (show (b.1, b.2) ∈ xs.zip ws from hb)).1
      have := (hp b.1 hb1).2
      show X.A.units + 1 + 1 + (toP b.1).depth < cLine
      omega
    obtain ⟨rs, rvs⟩ := pairs_each eout
    have es : ((xs.zip ws).mergeSort (PySem.W.dataLe false fun b : D × V => toP b.1)).map (·.1) = sortD xs := by
      unfold sortD
      have e2 := List.map_mergeSort (r := PySem.W.dataLe false fun b : D × V => toP b.1) (s := PySem.W.dataLe false toP) (f := Prod.fst) (l := xs.zip ws) (fun a _ b _ => rfl)
      rw [zip_fst rr] at e2
      exact e2
    rw [es] at rs
    obtain ⟨e', he'⟩ := PyProof.Rows.sortedHeap_at (vs := its) (out := out.toArray) hoL
    have hlen2 : (((xs.zip ws).mergeSort (PySem.W.dataLe false fun b : D × V => toP b.1)).map (·.2)).length ≤ sizeLine := by
      rw [List.length_map, List.length_mergeSort, List.length_zip]; omega
    have hnew : H h'.objs.size = none := I1.hok.fresh (Nat.le_refl _)
    refine wpAny_pure ⟨_, rfl, .ref h'.objs.size, upd H h'.objs.size (.lst (((xs.zip ws).mergeSort (PySem.W.dataLe false fun b : D × V => toP b.1)).map (·.2))), I1.laid (t' := s.toks) (fun b u e => ?_) (Nat.le_refl _)
      (show ObjOk X.prog X.w _ _ _ (.lst _) from ⟨hlen2, out, e', rvs, he'⟩), rfl, q _ _ (Ext.laid hnew) (S.laid hnew) (pL_new S hnew rs)⟩
    have hb : b < h'.objs.size := Heap.lt_size e
    rw [PyProof.Rows.sortedHeap_old (Nat.ne_of_lt hb) (by rw [size_push']; exact Nat.lt_succ_of_lt hb)]
    exact Heap.get?_push_of_some _ e
end
end Dn
namespace Dn
open PySem PySem.Spec PyProof.Rows L2
section
variable {X : Cx} {W : WX} {k : Nat}
theorem takes_wN : Takes X wN := fun _ _ ⟨_, _, _, _, _, _, _, _, _, _, _, _, _, _, _, _, w⟩ => w.elim
theorem Bd.blk (b : Bd X W k) {s : Shared} {H : Hp} {scope : Scope} {cenv : Env} {fp : List Addr} : Bd (X.blk s H scope cenv fp) wN k := ⟨b.room, b.gd, b.calm, b.nd, takes_wN⟩
theorem Bd.u64 (b : Bd X W k) : X.A.units + 64 < cLine := by have := b.room.un; omega
theorem Bd.u65 (b : Bd X W k) : X.A.units + 65 < cLine := by have := b.room.un; omega
theorem Bd.u70 (b : Bd X W k) : X.A.units + 70 < cLine := by have := b.room.un; omega
theorem vr (i : Nat) {x : Str} {pos : Pos} (hN : X.N[i]? = some x := by rfl) (hv : Vis X.env.scope x := by first | exact Or.inl rfl | exact Or.inr (Or.inl rfl) | exact Or.inr (Or.inr rfl)) (hd : (x == ("__debug__" : Str)) = false := by decide)
    (hcd : (x == ("__classdict__" : Str)) = false := by decide) : DE X W (.Name x pos) (mVar i) := de_var hN hv hd hcd
theorem gn (i : Nat) {x : Str} {pos : Pos} (b : Bd X W k) (hi : X.N[i]? = some x := by rfl) (hx : Loc X.env.scope x := by first | exact Or.inl rfl | exact Or.inr rfl) (hf : X.fn x = true ∨ X.env.scope.names.lookup x = some .local := by first | exact .inl rfl | exact .inr rfl) : DG X [i] (.Name x pos) (gN i) :=
  dg_name b.nd hi hx hf
theorem st (i : Nat) {x : Str} {pos' pos : Pos} {e : Expr} {m : Rho → M D} (b : Bd X W k) (he : DE X W e m) (hi : X.N[i]? = some x := by rfl) (hx : Loc X.env.scope x := by first | exact Or.inl rfl | exact Or.inr rfl)
    (hs : swapsWith e (some (.Name x pos')) pos.line X.env = pure false := by rfl) (hf : X.fn x = true ∨ X.env.scope.names.lookup x = some .local := by first | exact .inl rfl | exact .inr rfl) : DS X W (.Assign [.Name x pos'] e pos) (sAsg (gN i) m) :=
  ds_set b.nd hi hx he hs hf
theorem dts1 {c : Expr} {m : Rho → M Bool} (h : DT X W c m) : DTs X W [c] m := dts_one h
def sPar3 (i j l : Nat) (a : Rho → M (List D)) : Rho → Sto → Fl := fun ρ st => (a ρ st).fl ρ fun ds st1 => match ds with
  | [x, y, z] => .next (((ρ.set i (some x)).set j (some y)).set l (some z)) st1
  | _ => .bad
end
end Dn
namespace Dn
open PySem PySem.Spec PyProof.Rows L2
theorem reps_rg {K : PySem.W.Frag} {F : Hp} {ι : List Addr} (lo hi : Int) : Reps K F ι (rngD lo (hi - lo).toNat) (rgV lo hi) := by
  unfold rngD rgV
  generalize (hi - lo).toNat = n
  generalize List.range n = l
  induction l with
  | nil => exact Reps.nil
  | cons x l ih =>
    rw [List.map_cons, List.map_cons]
    exact Reps.cons (by simp only [Rep]) ih
def rgOk (lo hi : Int) : Prop := -(2 ^ 62) ≤ lo ∧ lo < 2 ^ 62 ∧ -(2 ^ 62) ≤ hi ∧ hi < 2 ^ 62 ∧ (hi - lo).toNat ≤ SZ
theorem rgOk.ok {lo hi : Int} (h : rgOk lo hi) : RgOk lo hi := ⟨h.1, h.2.1, h.2.2.1, h.2.2.2.1, Nat.le_trans h.2.2.2.2 (by decide)⟩
noncomputable def lRange (lo hi : D) : Option (List D) := match lo, hi with
  | .int i, .int j => @ite _ (rgOk i j) (Classical.propDecidable _) (some (rngD i (j - i).toNat)) (none)
  | _, _ => none
noncomputable def lLstRg (m : Rho → M D) : Rho → M (List D) := fun ρ st => (m ρ st).bind fun d st1 => lift (lRange (.int 0) d) st1
theorem lRange_some {d1 d2 : D} {xs : List D} (h : lRange d1 d2 = some xs) : ∃ i j, d1 = .int i ∧ d2 = .int j ∧ rgOk i j ∧ xs = rngD i (j - i).toNat := by
  unfold lRange at h
  split at h
  · split at h
    · rename_i i j hr
      cases h
      exact ⟨i, j, rfl, rfl, hr, rfl⟩
    · cases h
  · cases h
section
variable {X : Cx} {W : WX} {p p2 pos pos2 : Pos} {a b : Expr} {m1 m2 : Rho → M D}
theorem rg_lst {σ : L2.St} {F : Hp} {ι : List Addr} {H : Hp} {st : Sto} {Q : VK} {lo hi : Int} (S : Sim X.K F ι st H) (q : post X.K W σ F ι H (pL X.K) (.ok (rngD lo (hi - lo).toNat) st) Q) : ∀ c, H c = none → Q (.ref c) (upd H c (.lst (rgV lo hi))) :=
  fun c hc => q F ι _ _ (Ext.laid hc) (S.laid hc) (pL_new S hc (reps_rg lo hi))
theorem dl_lstRg (hc : X.calm = true) (hg : Gl X "list") (hm : X.mg "list" = none) (hg2 : Gl X "range") (hm2 : X.mg "range" = none) (ha : DE X W a m1) (na : starEach [a] X.env = (false, eval a X.env) :: starEach [] X.env := by rfl)
    (nr : starEach [.Call (.Name "range" p2) [a] [] pos2] X.env = (false, eval (.Call (.Name "range" p2) [a] [] pos2) X.env) :: starEach [] X.env := by rfl) : DL X W (.Call (.Name "list" p) [.Call (.Name "range" p2) [a] [] pos2] [] pos) (lLstRg m1) := by
  refine PE.weak (pe_listRg hc hg hm (prg_1 hg2 hm2 ha na) nr) fun σ H Q ⟨F, ι, ρ, st, S, R, q⟩ => ?_
  refine tG_seq back_L S R q fun d st1 F1 ι1 H1 v x1 S1 R1 r1 q1 => ?_
  cases e : lRange (.int 0) d with
  | none => rw [e] at q1; exact (q1 : False).elim
  | some xs =>
    rw [e] at q1
    obtain ⟨i, j, ei, rfl, hr, rfl⟩ := lRange_some e
    cases ei
    have r1 : v = V.int j := by simpa only [pV, Rep] using r1
    exact ⟨j, r1, hr.ok, rg_lst S1 q1⟩
end
end Dn
namespace Dn
open PySem PySem.Spec PyProof.Rows L2
section
variable (ρ : Rho) (s : Sto)
@[simp] theorem mLit_ap (d : D) : mLit d ρ s = .ok d s := rfl
theorem mVar_ap (i : Nat) : mVar i ρ s = match ρ[i]? with | some (some d) => .ok d s | _ => .bad := rfl
@[simp] theorem mNil_ap : mNil ρ s = .ok [] s := rfl
@[simp] theorem mCons_ap (m : Rho → M D) (r : Rho → M (List D)) : mCons m r ρ s = (m ρ s).bind fun d s1 => (r ρ s1).bind fun ds s2 => .ok (d :: ds) s2 := rfl
@[simp] theorem mTup_ap (a : Rho → M (List D)) : mTup a ρ s = (a ρ s).bind fun xs s1 => if xs.length ≤ 100000 then .ok (.tup xs) s1 else .bad := rfl
@[simp] theorem lDisp_ap (a : Rho → M (List D)) : lDisp a ρ s = (a ρ s).bind fun xs s1 => if xs.length ≤ 100000 then .ok xs s1 else .bad := rfl
@[simp] theorem mFrz_ap (a : Rho → M (List D)) : mFrz a ρ s = (a ρ s).bind fun xs s1 => .ok (.lst xs) s1 := rfl
@[simp] theorem mNew_ap (a : Rho → M (List D)) : mNew a ρ s = (a ρ s).bind fun xs s1 => .ok (.ref s1.length) (s1 ++ [.lst xs]) := rfl
@[simp] theorem mOp_ap (p : Sto → D → D → Option D) (a b : Rho → M D) : mOp p a b ρ s = (a ρ s).bind fun x s1 => (b ρ s1).bind fun y s2 => lift (p s2 x y) s2 := rfl
@[simp] theorem lOp_ap (p : Sto → D → D → Option (List D)) (a b : Rho → M D) : lOp p a b ρ s = (a ρ s).bind fun x s1 => (b ρ s1).bind fun y s2 => lift (p s2 x y) s2 := rfl
@[simp] theorem mB_ap (p : Sto → List D → Option D) (a : Rho → M (List D)) : mB p a ρ s = (a ρ s).bind fun ds s1 => lift (p s1 ds) s1 := rfl
@[simp] theorem lB_ap (p : Sto → List D → Option (List D)) (a : Rho → M (List D)) : lB p a ρ s = (a ρ s).bind fun ds s1 => lift (p s1 ds) s1 := rfl
@[simp] theorem mCall_ap (f : List D → M D) (a : Rho → M (List D)) : mCall f a ρ s = (a ρ s).bind fun ds s1 => f ds s1 := rfl
@[simp] theorem mUn_ap (p : Sto → D → Option D) (a : Rho → M D) : mUn p a ρ s = (a ρ s).bind fun d s1 => lift (p s1 d) s1 := rfl
@[simp] theorem mStar_ap (m : Rho → M D) (r : Rho → M (List D)) : mStar m r ρ s = (m ρ s).bind fun d s1 => match seqOf s1 d with | some xs => (r ρ s1).bind fun ds s2 => .ok (xs ++ ds) s2 | none => .bad := rfl
@[simp] theorem isB_ap (m : Rho → M D) : isB m ρ s = (m ρ s).bind fun d s1 => match d with | .bl k => .ok k s1 | _ => .bad := rfl
@[simp] theorem mTru_ap (m : Rho → M D) : mTru m ρ s = (m ρ s).bind fun d s1 => lift (d.truth s1) s1 := rfl
@[simp] theorem bAnd_ap (a b : Rho → M Bool) : bAnd a b ρ s = (a ρ s).bind fun k s1 => if k = true then b ρ s1 else .ok false s1 := rfl
@[simp] theorem bOr_ap (a b : Rho → M Bool) : bOr a b ρ s = (a ρ s).bind fun k s1 => if k = true then .ok true s1 else b ρ s1 := rfl
@[simp] theorem bNot_ap (a : Rho → M Bool) : bNot a ρ s = (a ρ s).bind fun k s1 => .ok (!k) s1 := rfl
@[simp] theorem bYes_ap : bYes ρ s = .ok true s := rfl
@[simp] theorem mIf_ap (t : Rho → M Bool) (a b : Rho → M D) : mIf t a b ρ s = (t ρ s).bind fun k s1 => if k = true then a ρ s1 else b ρ s1 := rfl
@[simp] theorem oNone_ap : oNone ρ s = .ok none s := rfl
@[simp] theorem sSeq_ap (a b : Rho → Sto → Fl) : sSeq a b ρ s = (a ρ s).seq b := rfl
@[simp] theorem sAsg_ap (g : D → Rho → M Rho) (m : Rho → M D) : sAsg g m ρ s = (m ρ s).fl ρ fun d s1 => (nox (g d ρ s1)).fl ρ fun r s2 => .next r s2 := rfl
@[simp] theorem sRet_ap (m : Rho → M D) : sRet m ρ s = (m ρ s).fl ρ fun d s1 => .ret d s1 := rfl
@[simp] theorem sDrop_ap (m : Rho → M D) : sDrop m ρ s = (m ρ s).fl ρ fun _ s1 => .next ρ s1 := rfl
@[simp] theorem sIf_ap (t : Rho → M Bool) (a b : Rho → Sto → Fl) : sIf t a b ρ s = (t ρ s).fl ρ fun k s1 => if k = true then a ρ s1 else b ρ s1 := rfl
@[simp] theorem sNext_ap : sNext ρ s = .next ρ s := rfl
@[simp] theorem sBrk_ap : sBrk ρ s = .brk ρ s := rfl
@[simp] theorem sCnt_ap : sCnt ρ s = .cnt ρ s := rfl
@[simp] theorem gN_ap (i : Nat) (d : D) : gN i d ρ s = .ok (ρ.set i (some d)) s := rfl
@[simp] theorem gT_ap (n : Nat) (gs : List D → Rho → M Rho) (xs : List D) (h : xs.length = n) : gT n gs (.tup xs) ρ s = gs xs ρ s := by
  unfold gT
  simp [h]
@[simp] theorem gsCons_ap (g : D → Rho → M Rho) (gs : List D → Rho → M Rho) (d : D) (ds : List D) : gsCons g gs (d :: ds) ρ s = (g d ρ s).bind fun r s1 => gs ds r s1 := rfl
@[simp] theorem gsNil_ap : gsNil [] ρ s = .ok ρ s := rfl
@[simp] theorem seq_next (k : Rho → Sto → Fl) : (Fl.next ρ s).seq k = k ρ s := rfl
@[simp] theorem seq_ret (d : D) (k : Rho → Sto → Fl) : (Fl.ret d s).seq k = .ret d s := rfl
@[simp] theorem seq_brk (k : Rho → Sto → Fl) : (Fl.brk ρ s).seq k = .brk ρ s := rfl
@[simp] theorem seq_cnt (k : Rho → Sto → Fl) : (Fl.cnt ρ s).seq k = .cnt ρ s := rfl
@[simp] theorem flOut_ret (d : D) : flOut (.ret d s) = .ok d s := rfl
@[simp] theorem flOut_next : flOut (.next ρ s) = .ok .non s := rfl
@[simp] theorem sFor_ap (ms : Rho → M Src) (g : D → Rho → M Rho) (mb : Rho → Sto → Fl) : sFor ms g mb ρ s = (ms ρ s).fl ρ fun src s1 => forL src.held (forB g mb) src.items ρ s1 := rfl
@[simp] theorem sPar_ap (i j : Nat) (a : Rho → M (List D)) : sPar i j a ρ s = (a ρ s).fl ρ fun ds s1 => match ds with | [x, y] => .next ((ρ.set i (some x)).set j (some y)) s1 | _ => .bad := rfl
@[simp] theorem sPar3_ap (i j l : Nat) (a : Rho → M (List D)) : sPar3 i j l a ρ s = (a ρ s).fl ρ fun ds s1 => match ds with | [x, y, z] => .next (((ρ.set i (some x)).set j (some y)).set l (some z)) s1 | _ => .bad := rfl
@[simp] theorem iRng1D_ap (m : Rho → M D) : iRng1D m ρ s = (m ρ s).bind fun d s1 => lift (rng1 d) s1 := rfl
@[simp] theorem iSeq_ap (m : Rho → M D) : iSeq m ρ s = (m ρ s).bind fun d s1 => lift (srcOf s1 d) s1 := rfl
@[simp] theorem lLc_ap (ms : Rho → M Src) (gf : D → Rho → M Rho) (mt : Rho → M Bool) (me : Rho → M D) (vs : List Nat) : lLc ms gf mt me vs ρ s = (ms ρ s).bind fun src s1 => if src.items.length ≤ 100000 then nox (lcL src.held (lcF gf mt me (wipeD ρ vs)) src.items s1) else .bad := rfl
@[simp] theorem forB_ap (g : D → Rho → M Rho) (mb : Rho → Sto → Fl) (d : D) : forB g mb d ρ s = (nox (g d ρ s)).fl ρ fun r s1 => mb r s1 := rfl
end
theorem clean_same {s s' : Sto} {d : D} (h : s'.length = s.length) : clean s (.ok d s') = .ok d s' := by
  unfold clean
  dsimp only
  split
  · rw [← h, List.take_length]
  · rfl
mutual
theorem low_of_isP (n : Nat) : ∀ d : D, isP d = true → d.low n = true
  | .non, _ => by simp only [D.low]
  | .bl _, _ => by simp only [D.low]
  | .int _, _ => by simp only [D.low]
  | .str _, _ => by simp only [D.low]
  | .tup xs, h => by
    simp only [D.low]
    exact lows_of_isPs n xs (by simpa only [isP] using h)
  | .lst xs, h => by
    simp only [D.low]
    exact lows_of_isPs n xs (by simpa only [isP] using h)
  | .scr _, h => by simp [isP] at h
  | .ref _, h => by simp [isP] at h
  | .adr _, h => by simp [isP] at h
  | .fd _ _, h => by simp [isP] at h
  | .exo _ _ _ _, h => by simp [isP] at h
  | .obj _ _ _, h => by simp [isP] at h
  | .sd _, h => by simp [isP] at h
theorem lows_of_isPs (n : Nat) : ∀ ds : List D, isPs ds = true → D.lows n ds = true
  | [], _ => by simp only [D.lows]
  | d :: ds, h => by
    simp only [isPs, Bool.and_eq_true] at h
    simp only [D.lows, Bool.and_eq_true]
    exact ⟨low_of_isP n d h.1, lows_of_isPs n ds h.2⟩
end
theorem lcL_pure {held : List (Nat × List D)} {f : D → Sto → Out (Option D)} {g : D → Option D} {s : Sto} (hh : heldOk held s) : ∀ items : List D, (∀ d ∈ items, f d s = .ok (g d) s) → lcL held f items s = .ok (items.filterMap g) s
  | [], _ => by unfold lcL; rw [if_pos hh] <;> rfl
  | d :: ds, h => by
    unfold lcL
    rw [if_pos hh, h d (by simp)]
    simp only [Out.bind_ok]
    rw [lcL_pure hh ds fun d hd => h d (by simp [hd])]
    simp only [Out.bind_ok]
    congr 1
    rw [List.filterMap_cons]
    cases g d <;> rfl
def nI (n : Nat) : D := .int (n : Int)
def nT (r : List Nat) : D := .tup (r.map nI)
def nP (p : List (List Nat)) : D := .tup (p.map nT)
theorem atI_cast {α : Type} (xs : List α) (n : Nat) : atI xs (n : Int) = xs[n]? := by
  unfold atI ixN
  rw [if_pos (Int.natCast_nonneg n)]
  by_cases h : n < xs.length
  · rw [if_pos (by omega), Option.bind_some, Int.toNat_natCast]
  · rw [if_neg (by omega), List.getElem?_eq_none (by omega)]
    rfl
@[simp] theorem pIdx_tup (s : Sto) (xs : List D) (n : Nat) : pIdx s (.tup xs) (nI n) = xs[n]? := by
  show (seqOf s (.tup xs)).bind (fun xs => atI xs (n : Int)) = _
  rw [seqOf_tup, Option.bind_some, atI_cast]
@[simp] theorem pIdx_lst (s : Sto) (xs : List D) (n : Nat) : pIdx s (.lst xs) (nI n) = xs[n]? := by
  show (seqOf s (.lst xs)).bind (fun xs => atI xs (n : Int)) = _
  rw [seqOf_lst, Option.bind_some, atI_cast]
theorem dat_P {s : Sto} {d : D} (h : isP d = true) : dat s d = some (toP d) := by
  unfold dat
  split
  · simp [isP] at h
  · rw [if_pos h]
@[simp] theorem isP_nI (n : Nat) : isP (nI n) = true := rfl
theorem isPs_map {α : Type} (f : α → D) (h : ∀ a, isP (f a) = true) : ∀ l : List α, isPs (l.map f) = true
  | [] => rfl
  | a :: l => by rw [List.map_cons, isPs, h a, isPs_map f h l] <;> rfl
@[simp] theorem isP_nT (r : List Nat) : isP (nT r) = true := by unfold nT; rw [isP]; exact isPs_map _ isP_nI r
@[simp] theorem isP_nP (p : List (List Nat)) : isP (nP p) = true := by unfold nP; rw [isP]; exact isPs_map _ isP_nT p
@[simp] theorem pEq_int (s : Sto) (i j : Int) : pEq s (.int i) (.int j) = some (.bl (decide (i = j))) := by
  show (if min (PyData.depth (.int i)) (PyData.depth (.int j)) ≤ 64 then some (D.bl (PyData.eqv (.int i) (.int j))) else none) = _
  rw [if_pos (by simp [PyData.depth])]
  congr 2
@[simp] theorem pNe_int (s : Sto) (i j : Int) : pNe s (.int i) (.int j) = some (.bl (!decide (i = j))) := by
  show (if min (PyData.depth (.int i)) (PyData.depth (.int j)) ≤ 64 then some (D.bl (!PyData.eqv (.int i) (.int j))) else none) = _
  rw [if_pos (by simp [PyData.depth])]
  congr 3
@[simp] theorem pEq_nI (s : Sto) (i j : Nat) : pEq s (nI i) (nI j) = some (.bl (decide (i = j))) := by
  unfold nI
  rw [pEq_int]
  congr 2
  rw [Bool.eq_iff_iff]; simp; omega
@[simp] theorem pNe_nI (s : Sto) (i j : Nat) : pNe s (nI i) (nI j) = some (.bl (!decide (i = j))) := by
  unfold nI
  rw [pNe_int]
  congr 3
  rw [Bool.eq_iff_iff]; simp; omega
@[simp] theorem pEq_str (s : Sto) (x y : Str) : pEq s (.str x) (.str y) = some (.bl (x == y)) := rfl
@[simp] theorem pNe_str (s : Sto) (x y : Str) : pNe s (.str x) (.str y) = some (.bl (!(x == y))) := rfl
theorem toP_nT (r : List Nat) : toP (nT r) = .tuple ((r.map nI).map toP) := by unfold nT; rw [toP, toPs_map]
theorem any_ints (a : Nat) : ∀ r : List Nat, (((r.map nI).map toP).any fun z => PyData.eqv z (.int (a : Int))) = decide (a ∈ r)
  | [] => by simp
  | n :: r => by
    rw [List.map_cons, List.map_cons, List.any_cons, any_ints a r]
    show (PyData.eqv (.int (n : Int)) (.int (a : Int)) || decide (a ∈ r)) = _
    have e : PyData.eqv (.int (n : Int)) (.int (a : Int)) = decide (a = n) := by
      show ((n : Int) == (a : Int)) = _
      rw [Bool.eq_iff_iff]
      simp
      omega
    rw [e, Bool.eq_iff_iff]
    simp
theorem inD_nT (s : Sto) (a : Nat) (r : List Nat) : inD s (nI a) (nT r) = some (decide (a ∈ r)) := by
  unfold inD
  show (match dat s (nI a), dat s (nT r) with
    | some p, some (.list ds) => if p.depth ≤ 64 then some (ds.any fun z => PyData.eqv z p) else none
    | some p, some (.tuple ds) => if p.depth ≤ 64 then some (ds.any fun z => PyData.eqv z p) else none
    | _, _ => none) = _
  rw [dat_P (isP_nI a), dat_P (isP_nT r)]
  rw [toP_nT]
  have h2 : (toP (nI a)).depth ≤ 64 := by show PyData.depth (.int _) ≤ 64; simp [PyData.depth]
  simp only [h2, if_true]
  congr 1
  exact any_ints a r
@[simp] theorem pIn_nT (s : Sto) (a : Nat) (r : List Nat) : pIn s (nI a) (nT r) = some (.bl (decide (a ∈ r))) := by unfold pIn; rw [inD_nT] <;> rfl
@[simp] theorem pNotIn_nT (s : Sto) (a : Nat) (r : List Nat) : pNotIn s (nI a) (nT r) = some (.bl (!decide (a ∈ r))) := by unfold pNotIn; rw [inD_nT] <;> rfl
@[simp] theorem srcOf_tup (s : Sto) (xs : List D) : srcOf s (.tup xs) = some ⟨xs, []⟩ := rfl
@[simp] theorem srcOf_lst (s : Sto) (xs : List D) : srcOf s (.lst xs) = some ⟨xs, []⟩ := rfl
@[simp] theorem pLen_tup (s : Sto) (xs : List D) : pLen s [.tup xs] = some (nI xs.length) := rfl
@[simp] theorem pTuple_lst (s : Sto) (xs : List D) : pTuple s [.lst xs] = some (.tup xs) := rfl
@[simp] theorem truth_bl (s : Sto) (b : Bool) : (D.bl b).truth s = some b := rfl
section
variable (s : Sto) (i j : Int)
@[simp] theorem pAdd_int : pAdd s (.int i) (.int j) = some (.int (i + j)) := rfl
@[simp] theorem pSub_int : pSub s (.int i) (.int j) = some (.int (i - j)) := rfl
@[simp] theorem pNeg_int : pNeg s (.int i) = some (.int (-i)) := rfl
theorem pMod_int (h : 0 < j) : pMod s (.int i) (.int j) = some (.int (i % j)) := by unfold pMod; dsimp only; rw [if_pos h]
theorem pDiv_int (h : 0 < j ∧ j < 1073741824) : pDiv s (.int i) (.int j) = some (.int (i / j)) := by unfold pDiv; dsimp only; rw [if_pos h]
theorem pPow_int (h : 0 ≤ j ∧ j ≤ 1000000 ∧ i.natAbs < 2 ^ 64) : pPow s (.int i) (.int j) = some (.int (i ^ j.toNat)) := by unfold pPow; dsimp only; rw [if_pos h]
theorem pMul_int (h : i.natAbs < 2 ^ 64 ∨ j.natAbs < 2 ^ 64) : pMul s (.int i) (.int j) = some (.int (i * j)) := by unfold pMul; dsimp only; rw [if_pos h]
@[simp] theorem pLt_int : pLt s (.int i) (.int j) = some (.bl (decide (i < j))) := rfl
@[simp] theorem pLe_int : pLe s (.int i) (.int j) = some (.bl (decide (i ≤ j))) := rfl
@[simp] theorem pGt_int : pGt s (.int i) (.int j) = some (.bl (decide (j < i))) := rfl
@[simp] theorem pGe_int : pGe s (.int i) (.int j) = some (.bl (decide (j ≤ i))) := rfl
@[simp] theorem pAdd_nI (a b : Nat) : pAdd s (nI a) (nI b) = some (nI (a + b)) := by unfold nI; rw [pAdd_int]; congr 2
end
theorem pIdx_ref {s : Sto} {l : Nat} {xs : List D} (h : s[l]? = some (.lst xs)) (i : Int) : pIdx s (.ref l) (.int i) = atI xs i := by
  show (seqOf s (.ref l)).bind _ = _
  have e : seqOf s (.ref l) = some xs := by
    show lstOf s (.ref l) = _
    unfold lstOf
    dsimp only
    rw [h]
  rw [e] <;> rfl
theorem gSubD_ref {mo mi : Rho → M D} {d : D} {ρ : Rho} {s s1 s2 : Sto} {l j : Nat} {k : Int} {xs : List D} (ho : mo ρ s = .ok (.ref l) s1) (hi : mi ρ s1 = .ok (.int k) s2) (h : s2[l]? = some (.lst xs)) (hj : ixN xs.length k = some j) : gSubD mo mi d ρ s = .ok ρ (s2.set l (.lst (xs.set j d))) := by
  unfold gSubD
  rw [ho, Out.bind_ok, hi, Out.bind_ok]
  simp only [h, hj]
theorem pLen_ref {s : Sto} {l : Nat} {xs : List D} (h : s[l]? = some (.lst xs)) : pLen s [.ref l] = some (.int xs.length) := by
  show (seqOf s (.ref l)).map _ = _
  have e : seqOf s (.ref l) = some xs := by
    show lstOf s (.ref l) = _
    unfold lstOf
    dsimp only
    rw [h]
  rw [e] <;> rfl
structure ROk (dp bk : Nat) (d : D) : Prop where
  p : isP d = true
  lay : (toP d).canLay0 = true
  dep : (toP d).depth ≤ dp
  show_ : (toP d).showable = true
  leaf : (toP d).leavesShort 60 = true
  blk : (toP d).bulk ≤ bk
theorem ROk.mono {dp bk dp' bk' : Nat} {d : D} (h : ROk dp bk d) (h1 : dp ≤ dp') (h2 : bk ≤ bk') : ROk dp' bk' d := ⟨h.p, h.lay, Nat.le_trans h.dep h1, h.show_, h.leaf, Nat.le_trans h.blk h2⟩
end Dn
namespace Dn
open PySem PySem.Spec PyProof.Rows L2
theorem clean_some (s : Sto) (d : D) (s' : Sto) : ∃ st', clean s (.ok d s') = .ok d st' := by
  unfold clean
  dsimp only
  split
  · exact ⟨_, rfl⟩
  · exact ⟨_, rfl⟩
theorem cutD_take {α : Type} (xs : List α) (n : Nat) : Dn.cutD xs none (some (n : Int)) = xs.take n := by
  unfold Dn.cutD
  rw [HT.sIx_none, HT.sIx_nat, Nat.sub_zero, List.drop_zero]
  by_cases h : n ≤ xs.length
  · rw [Nat.min_eq_left h]
  · rw [Nat.min_eq_right (by omega), List.take_length, List.take_of_length_le (by omega)]
theorem lst_of_ref {s : Sto} {l : Nat} {xs : List D} (h : s[l]? = some (.lst xs)) : lstOf s (.ref l) = some xs := by
  unfold lstOf
  simp only [h]
end Dn
namespace Dn
open PySem PySem.Spec PyProof.Rows L2
def mMethT (p : D → List D → M D) (mo : Rho → M D) (am : Rho → M (List D)) : Rho → M D := fun ρ st =>
  (mo ρ st).bind fun o st1 => match o with
    | .tup xs => (am ρ st1).bind fun ds st2 => nox (p (.tup xs) ds st2)
    | _ => .bad
section
variable {X : Cx} {W : WX} {apos cpos : Pos} {o e : Expr} {es : List Expr} {mo : Rho → M D} {am : Rho → M (List D)} {id : String} {name : Str} {p : D → List D → M D} {pins : List (Addr × Obj)} {σ : L2.St} {H : Hp} {s : Shared}
end
@[simp] theorem mMethT_ap (p : D → List D → M D) (mo : Rho → M D) (am : Rho → M (List D)) (ρ : Rho) (s : Sto) : mMethT p mo am ρ s = (mo ρ s).bind fun o s1 => match o with | .tup xs => (am ρ s1).bind fun ds s2 => nox (p (.tup xs) ds s2) | _ => .bad := rfl
end Dn
namespace Dn
open PySem PySem.Spec PyProof.Rows L2
def gL (n : Nat) (gs : List D → Rho → M Rho) : D → Rho → M Rho := fun d ρ st => match lstOf st d with
  | some xs => if xs.length = n then gs xs ρ st else .bad
  | none => .bad
theorem dg_lst {X : Cx} {pos : Pos} {es : List Expr} {k n : Nat} {js : List Nat} {gs : List D → Rho → M Rho} (hc : X.calm = true) (h : DGs X js es gs)
    (hn : (assignEach es X.env).length = n := by rfl) (hst : (assignEach es X.env).findIdx? (·.1) = none := by rfl) : DG X js (.Tuple es k pos) (gL n gs) := by
  refine PG.weak (pg_lst hc h hn hst) fun v σ H Q ⟨F, ι, ρ, st, d, S, R, r, q⟩ => ?_
  unfold gL at q
  split at q
  · split at q
    · rename_i xs e hl
      obtain ⟨a, vs, rfl, h, rr⟩ := S.lst r e
      exact ⟨a, vs, rfl, SqL.of h, by rw [← rr.length]; exact hl, F, ι, ρ, st, xs, S, R, rr, q⟩
    · exact q.elim
  · exact q.elim
section
variable {X : Cx} {W : WX} {pos : Pos}
theorem de_gi {x : Str} {i : Int} (hg : Gl X x) (hm : ∃ t, X.mg x = some (.int i t)) (hd : (x == ("__debug__" : Str)) = false := by decide) : DE X W (.Name x pos) (mLit (.int i)) := by
  obtain ⟨t, hm⟩ := hm
  exact de_gint hg hm hd
theorem de_gs {x : Str} {i : Str} (hg : Gl X x) (hm : ∃ t, X.mg x = some (.str i t)) (hd : (x == ("__debug__" : Str)) = false := by decide) : DE X W (.Name x pos) (mLit (.str i)) := by
  obtain ⟨t, hm⟩ := hm
  exact de_gstr hg hm hd
end
@[simp] theorem gL_ref {n : Nat} {gs : List D → Rho → M Rho} {ρ : Rho} {s : Sto} {l : Nat} {xs : List D} (h : s[l]? = some (.lst xs)) (hl : xs.length = n) : gL n gs (.ref l) ρ s = gs xs ρ s := by
  unfold gL
  rw [lst_of_ref h]
  simp [hl]
end Dn
namespace Dn
open PySem PySem.Spec PyProof.Rows L2
def bareSet (w : World) : Obj := { cls := .type "set", dict := none, data := .set #[] 0 (.fresh 0 0 (!w.params.followText "set-order")) }
section
variable {P : Program} {w : World} {A : Around} {E : Value → Shared → Prop} {s : Shared}
theorem set_list {l : Addr} {items : Array Value} (ns : List Int) {Q : Value → Shared → Prop} (hh : A.handled = none) (hl : s.heap.IsList l items) (hit : IntsAre items.toList ns) (hb : ns.length + 1 < scanBound)
    (h : ∀ (h' : Heap) (tk c : Nat), SetR w h' s.heap.objs.size (fun j => decide (j ∈ ns)) c → c ≤ ns.length → (∀ b o, s.heap.get? b = some o → h'.get? b = some o) → Q (.ref s.heap.objs.size) { s with heap := h', toks := tk }) :
    wpAny (model P w) A (call (.type "set") [.ref l]) Q E s := by
  have sz : items.size = ns.length := by rw [← Array.length_toList]; exact hit.length
  obtain ⟨c, tl, mro⟩ := F.called_set.mro
  have made := F.called_set.made
  have sub := F.called_set.sub
  refine wpAny_call (codeAny_of_tree ?_)
  show wpAny _ _ (callAny (.type "set") _) _ _ _
  refine wpAny_pure ⟨Code.quiet_builtin _ (by decide +kernel), codeAny_builtin F.entry_type_call ?_⟩
  rw [Around.under_plain (weight_type_call_type "set" [.ref l] []) rfl]
  have n1 := F.called_set.notType
  have n2 := F.called_set.canCreate
  have n3 := F.typeCall_set_1 (.ref l)
  repeat (any_goals (first | assumption | wp_step))
  -- the empty set is laid
  refine codeAny_mono (code_set_led1 (.ref l) (E := E) (Q₁ := fun u t => u = .ref s.heap.objs.size ∧ t = { s with heap := s.heap.push (bareSet w) }) ⟨rfl, rfl⟩) fun r t hr => ?_
  cases r with
  | error e => exact hr
  | ok fl =>
    cases fl with
    | next => exact hr.elim
    | brk => exact hr.elim
    | cont => exact hr.elim
    | ret u =>
      obtain ⟨rfl, rfl⟩ := hr
      have gS : (s.heap.push (bareSet w)).get? s.heap.objs.size = some (bareSet w) := Heap.get?_push_size _ rfl
      have tS : Shared.TypeIs { s with heap := s.heap.push (bareSet w) } (.ref s.heap.objs.size) "set" := ⟨_, gS, rfl⟩
      have i1 := F.called_set.init.lookup
      have i2 := F.called_set.init.bind (.ref s.heap.objs.size)
      repeat (any_goals (first | assumption | wp_step))
      -- its items are put in
      refine codeAny_mono (codeAny_call_builtin (R := wants (fun r t => r = .none ∧ ∃ h' tk c, t = { s with heap := h', toks := tk } ∧ SetR w h' s.heap.objs.size (fun j => decide (j ∈ ns)) c ∧ c ≤ ns.length ∧
          (∀ b o, s.heap.get? b = some o → h'.get? b = some o)) E) F.called_set.init.plain F.entry_set_init (check_set_init_1 tS ?_)) fun r t hr => ?_
      · obtain ⟨⟨oc, od, odt, osl⟩, go, hc, n, hd⟩ := hl
        simp only at hc hd
        subst hc hd
        have gl : (s.heap.push (bareSet w)).get? l = some { cls := .type "list", dict := od, data := .seq items n, slots := osl } := Heap.get?_push_of_some _ go
        have j1 := F.sub_list_set
        have j2 := F.sub_list_frozenset
        have j3 : (Value.type "list" == Value.type "dict") = false := by decide
        have il : (s.heap.push (bareSet w)).IsList l items := ⟨_, gl, rfl, n, rfl⟩
        unfold Builtin.«set.__init__» noKeywords Builtin.Frozenset.updateFrom
        generalize hPI : pyIter = PI
        wp_walk
        subst hPI
        refine wpAny_pyIter_list il (wpAny_bind (wpAny_runValue ?_))
        have lS : l < s.heap.objs.size := Heap.lt_size go
        have z1 : (s.heap.push (bareSet w)).objs.size = s.heap.objs.size + 1 := Heap.size_push ..
        have nI : l ≠ (s.heap.push (bareSet w)).objs.size := fun q => Nat.ne_of_lt (Nat.lt_succ_of_lt lS) (q.trans z1)
        have nS : s.heap.objs.size ∉ [(s.heap.push (bareSet w)).objs.size, l] := by
          intro q
          rcases List.mem_cons.mp q with q | q
          · exact Nat.ne_of_lt (Nat.lt_succ_self _) (q.trans z1)
          · exact Nat.ne_of_gt lS (List.mem_singleton.mp q)
        refine set_update_ints ((Walks.list (by simp [hh]) _ l nI items).toS) s.heap.objs.size nS ns sz hb (fun i v hv => ?_) (items.size - 0) 0 _ (by omega) (Nat.zero_le _) ⟨⟨_, Heap.get?_push_size _ rfl, rfl, rfl⟩, il.push _⟩ ⟨0, Nat.le_refl 0, setR_new_at (Heap.get?_push_of_some _ gS)⟩ fun t c2 mv hc2 R2 => ?_
        · have hi : i < ns.length := by rw [← sz]; exact (Array.getElem?_eq_some_iff.mp hv).1
          obtain ⟨tt, e⟩ := IntsAre.int_at hit i v (by rw [Array.getElem?_toList]; exact hv)
          refine ⟨ns[i], tt, List.getElem?_eq_getElem hi, ?_⟩
          rw [e, List.getD_eq_getElem?_getD, List.getElem?_eq_getElem hi] <;> rfl
        · obtain ⟨h', g2, d', tk', os'⟩ := t
          obtain rfl : g2 = s.gens := mv.gens
          obtain rfl : d' = s.drawn := mv.drawn
          obtain rfl : os' = s.os := mv.os
          show wpAny _ _ _ _ _ _
          refine wpAny_pure ?_
          show wpAny _ _ (ret Value.none) _ _ _
          refine wpAny_pure ⟨rfl, h', tk', c2, rfl, R2, by rw [← sz]; exact hc2, fun b o e => ?_⟩
          have b0 : b < s.heap.objs.size := Heap.lt_size e
          refine mv.heap b o (fun q => ?_) (Heap.get?_push_of_some _ (Heap.get?_push_of_some _ e))
          rcases List.mem_cons.mp q with q | q
          · exact Nat.ne_of_lt b0 q
          · exact Nat.ne_of_lt (Nat.lt_succ_of_lt b0) ((List.mem_singleton.mp q).trans z1)
      · cases r with
        | error e => exact hr
        | ok fl =>
          cases fl with
          | ret r =>
            obtain ⟨rfl, h', tk, c2, rfl, R2, hc2, k⟩ := hr
            repeat (any_goals (first | assumption | wp_step))
            exact h _ _ _ R2 hc2 k
          | next => exact hr.elim
          | brk => exact hr.elim
          | cont => exact hr.elim
end
section
variable {X : Cx} {W : WX} {a : Expr} {m : Rho → M D} {p p2 q pos : Pos}
end
end Dn
namespace Dn
open PySem PySem.Spec PyProof.Rows L2
def tyD (st : Sto) : D → Option String
  | .non => some "NoneType"
  | .bl _ => some "bool"
  | .int _ => some "int"
  | .str _ => some "str"
  | .tup _ => some "tuple"
  | .lst _ => some "list"
  | .scr _ => some "list"
  | .ref l => match st[l]? with
    | some (.lst _) => some "list"
    | _ => none
  | .adr _ => none
  | .fd _ _ => none
  | .exo _ _ _ _ => none
  | .obj _ _ _ => none
  | .sd _ => some "dict"
def mIsi (T : String) (m : Rho → M D) : Rho → M D := fun ρ st => (m ρ st).bind fun d st1 => lift ((tyD st1 d).bind fun t => (kitB t T).map D.bl) st1
section
variable {K : PySem.W.Frag} {F H : Hp} {ι : List Addr} {st : Sto}
theorem ty_tup {a : Addr} {vs : List V} (h : SqT K H a vs) : TyX K H (.ref a) (.type "tuple") := by
  rcases h with h | ⟨o, its, n, e, hc, _⟩
  · rcases h with h | ⟨o, h⟩
    · exact .base (.tup h)
    · exact .fTuple h
  · exact .kTuple e hc
theorem ty_lst {a : Addr} {vs : List V} (h : SqL K H a vs) : TyX K H (.ref a) (.type "list") := by
  rcases h with h | ⟨o, its, n, e, hc, _⟩
  · rcases h with h | ⟨o, h⟩
    · exact .base (.lst h)
    · exact .base (.frz h)
  · exact .kList e hc
theorem Sim.ty (S : Sim K F ι st H) {d : D} {v : V} {t : String} (r : Rep K F ι d v) (h : tyD st d = some t) : TyX K H v (.type t) := by
  cases d with
  | non => simp only [Rep] at r; subst r; cases h; exact .base .non
  | bl b => simp only [Rep] at r; subst r; cases h; exact .base (.bl b)
  | int i => simp only [Rep] at r; subst r; cases h; exact .base (.int i)
  | str s => simp only [Rep] at r; subst r; cases h; exact .base (.str s)
  | tup xs =>
    cases h
    simp only [Rep] at r
    obtain ⟨a, vs, e, q, _⟩ := r
    subst e
    exact ty_tup (S.sqT q)
  | lst xs =>
    cases h
    obtain ⟨a, vs, e, q, _⟩ := S.seq r (xs := xs) rfl
    subst e
    rcases q with q | q
    · exact ty_lst q
    · simp only [Rep] at r
      obtain ⟨a', vs', e', q', _⟩ := r
      cases e'
      exact ty_lst (S.sqL (SqL.of q'))
  | scr xs =>
    cases h
    simp only [Rep] at r
    obtain ⟨a, vs, e, q, _⟩ := r
    subst e
    exact ty_lst (S.sqL q)
  | ref l =>
    unfold tyD at h
    dsimp only at h
    split at h
    · rename_i xs e
      cases h
      simp only [Rep] at r
      obtain ⟨a, e2, q⟩ := r
      subst e2
      obtain ⟨vs, h1, h2⟩ := S.obj l _ a e q
      exact .base (.lst h1)
    · cases h
  | adr a => cases h
  | fd _ _ => cases h
  | exo _ _ _ _ => cases h
  | obj _ _ _ => cases h
  | sd kvs =>
    cases h
    simp only [Rep] at r
    obtain ⟨a, e, q⟩ := r
    subst e
    exact .base (.dK (S.sub _ _ q))
end
section
variable {X : Cx} {W : WX} {pos p p2 : Pos} {e : Expr} {m : Rho → M D}
theorem de_isi {x : Str} {T : String} (hg : Gl X "isinstance") (hm : X.mg "isinstance" = none) (hgT : Gl X x) (hmT : X.mg x = none) (hvT : bootBuiltins x = some (.type T)) (h : DE X W e m) (hnT : x ≠ "__name__" := by decide) (hdT : (x == ("__debug__" : Str)) = false := by decide)
    (hs : starEach [e, .Name x p2] X.env = (false, eval e X.env) :: starEach [.Name x p2] X.env := by rfl) (hs2 : starEach [.Name x p2] X.env = (false, eval (.Name x p2) X.env) :: starEach [] X.env := by rfl) (hpl : (backTo pos (starEach [.Name x p2] X.env)).any (·.1) = false := by rfl) :
    DE X W (.Call (.Name "isinstance" p) [e, .Name x p2] [] pos) (mIsi T m) := by
  refine PE.weak (pe_callB call_isi hg hm rfl (pa_cons h (pa_cons (pe_bltn hgT hmT hvT (v := .ty T) rfl hnT hdT) pa_nil hs2) hs) (by decide) (by decide) hs hpl) fun σ H Q ⟨F, ι, ρ, st, S, R, q⟩ => ?_
  refine tG_seq back_V S R q fun d st1 F1 ι1 H1 v x1 S1 R1 r1 q1 => ?_
  cases ht : tyD st1 d with
  | none => rw [ht] at q1; exact q1.elim
  | some t =>
    cases hk : kitB t T with
    | none => rw [ht] at q1; dsimp only [Option.bind] at q1; rw [hk] at q1; exact q1.elim
    | some b =>
      rw [ht] at q1
      dsimp only [Option.bind] at q1
      rw [hk] at q1
      exact ⟨v, .ty T, .type t, .type T, b, rfl, .ty T, S1.ty r1 ht, kit_ty hk, q1 F1 ι1 H1 _ Ext.refl S1 (by show Rep _ _ _ _ _; simp only [Rep])⟩
end
section
variable {X : Cx}
end
end Dn
namespace Dn
open PySem PySem.Spec PyProof.Rows L2
section
variable {X : Cx} {W : WX} {pos apos : Pos} {e o : Expr} {m mo : Rho → M D}
inductive DJ (X : Cx) (W : WX) : List Expr → List (Rho → M D) → Prop where
  | nil : DJ X W [] []
  | cons {e : Expr} {m : Rho → M D} {es : List Expr} {ms : List (Rho → M D)} (h : DE X W e m) (r : DJ X W es ms) : DJ X W (e :: es) (m :: ms)
end
end Dn
namespace Dn
open PySem PySem.Spec PyProof.Rows L2
def dctOf (st : Sto) : D → Option (List (List Int) × List D)
  | .fd ks xs => some (ks, xs)
  | .ref l => match st[l]? with
    | some (.dct ks xs) => some (ks, xs)
    | _ => none
  | _ => none
section
variable {K : PySem.W.Frag} {F H : Hp} {ι : List Addr} {st : Sto} {a b : Addr} {xs : List (List Int × Addr × Value)}
theorem Sim.dct (S : Sim K F ι st H) {d : D} {v : V} {ks : List (List Int)} {ds : List D} (r : Rep K F ι d v) (h : dctOf st d = some (ks, ds)) : ∃ a xs ws, v = .ref a ∧ (a == sysModules) = false ∧ H a = some (DctO a xs) ∧ KeysT K F ks xs ∧ Vals ws (xs.map (·.2.2)) ∧ Reps K F ι ds ws := by
  unfold dctOf at h
  split at h
  · cases h
    simp only [Rep] at r
    obtain ⟨a, xs, ws, e, z, q, kt, vr, r⟩ := r
    exact ⟨a, xs, ws, e, z, S.sub _ _ q, kt, vr, r⟩
  · rename_i l
    split at h
    · rename_i ks' xs' e
      cases h
      simp only [Rep] at r
      obtain ⟨a, e2, q⟩ := r
      obtain ⟨xs, ws, z, q2, kt, vr, r⟩ := S.obj l _ a e q
      exact ⟨a, xs, ws, e2, z, q2, kt, vr, r⟩
    · cases h
  · cases h
end
abbrev KI (X : Cx) := tupleKind (PySem.intKind X.prog X.w)
section
variable {X : Cx} {pins : List (Addr × Obj)} {σ : L2.St} {H : Hp} {s : Shared} {a b : Addr} {xs : List (List Int × Addr × Value)} {k : List Int} {A : Around} {E : Value → Shared → Prop}
end
section
variable {X : Cx} {W : WX} {o i e f value : Expr} {pos pos' apos cpos : Pos} {mo mi me : Rho → M D} {td ty tv tx : TE}
end
section
variable {X : Cx} {W : WX} {o i e f value : Expr} {pos pos' apos cpos : Pos} {mo mi me mv : Rho → M D} {td ty tv tx : TE}
end
section
variable {X : Cx}
end
end Dn
namespace Dn
open PySem PySem.Spec PyProof.Rows L2
section
open PySem.W
variable {prog : Program} {w : World} {A : Around} {E : Value → Shared → Prop} {s : Shared} {K : Frag} {x D : Addr} {ox : Obj} {od : Option Obj}
end
structure ErrN (K : PySem.W.Frag) (mg : Str → Option Value) (x : Str) (C : Addr) : Prop where
  ns : PySem.W.nsIn K mainGlobals x = some (some (.ref C))
  gC : mg x = some (.ref C)
  kC : PySem.W.keepIn K (.ref C) = true
  ty : PySem.W.typeIn K (.ref C) = some (.type "type")
  ex : ExcC K C
def KitB (K : PySem.W.Frag) (n y : Str) (b : Bool) : Prop := ∀ C D, PySem.W.nsIn K mainGlobals n = some (some (.ref C)) → PySem.W.nsIn K mainGlobals y = some (some (.ref D)) → PySem.W.kitOne K (.ref C) (.ref D) = some b
def ExmB (K : PySem.W.Frag) (n y : Str) (b : Bool) : Prop := ∀ C D, PySem.W.nsIn K mainGlobals n = some (some (.ref C)) → PySem.W.nsIn K mainGlobals y = some (some (.ref D)) → PySem.W.exmOne K (.ref C) (.ref D) = some b
section
variable {X : Cx} {W : WX} {C : Addr} {bmB : List Value} {B newId initId : String} {x : Str} {p pos pos' : Pos}
theorem pmk_own0 (F : ExcBaseFacts B newId initId bmB) (q : PySem.W.excIn X.K C bmB newId = true) (gC : X.mg x = some (.ref C)) (kC : PySem.W.keepIn X.K (.ref C) = true) (r : Raises X (.ref C)) (hg : Gl X x)
    (hdb : (x == ("__debug__" : Str)) = false := by decide) : PMk X (.Call (.Name x p) [] [] pos) (fun _ H Q => Q (.ref C) none H) := by
  intro pins s σ H Q I h
  refine wpAny_Call_Name_kw (ld_glob I hg gC ?_ hdb)
  refine PySem.W.callWith_K0 I.kIn kC ?_
  show wpAny _ _ (call (.ref C) []) _ _ _
  obtain ⟨bm, N, nm, qn, bs, hdct, sn, sub, ab, col, dd, k0, k1, k2, k3, k5, mN, hC, hN, hni, T⟩ := exc_obj I.kIn q
  exact wpAny_call_exc_subT F T hC hN hni (fun h' e hm => mk_of I hm r h (I.hok.gone hm.new)) (Nat.zero_le _)
def sRaise (x : Str) : Rho → Sto → Fl := fun ρ st => .exc ⟨x, none⟩ ρ st
theorem ds_raise0 (hc : X.calm = true) (tk : Takes X W) (T : ErrN X.K X.mg x C) (q : PySem.W.excIn X.K C [.type "ValueError", .type "Exception", .type "BaseException", .type "object"] "ValueError.__new__" = true) (hg : Gl X x) (hdb : (x == ("__debug__" : Str)) = false := by decide) :
    DS X W (.Raise (some (.Call (.Name x p) [] [] pos)) none pos') (sRaise x) := by
  refine PS.weak (ps_raise hc tk (pmk_own0 PySem.F.excBase_ValueError q T.gC T.kC (raises_own T.ex.hs T.ty) hg hdb)) fun E σ H ⟨F, ι, ρ, st, S, R, q⟩ => ?_
  exact q F ι H (.ref C) none σ Ext.refl S R ⟨T.ns, rfl⟩
def sNever : Rho → Sto → Fl := fun _ _ => .bad
theorem ds_never {s : Stmt} : DS X W s sNever := ⟨fun pins s σ H D I ⟨F, ι, ρ, st, S, R, q⟩ => (q : False).elim⟩
end
def EV (x : Xc) (a : Addr) (d : Option Addr) (e : D) : Prop := match x.fld with
  | none => d = none ∧ e = .adr a
  | some (f, v) => ∃ dd, d = some dd ∧ e = .exo a dd f v
def tidyF (i : Nat) : Fl → Fl
  | .next ρ st => .next (ρ.set i none) st
  | .brk ρ st => .brk (ρ.set i none) st
  | .cnt ρ st => .cnt (ρ.set i none) st
  | .ret d st => .ret d st
  | _ => .bad
def e0 (x : Xc) : D := match x.fld with
  | none => .adr 0
  | some (f, v) => .exo 0 0 f v
structure HC (X : Cx) (x : Xc) (e : D) (a : Addr) (oe : Obj) : Prop where
  ex : ∃ C d, PySem.W.nsIn X.K mainGlobals x.nm = some (some (.ref C)) ∧ ExcC X.K C ∧ Zc (.ref C) d oe ∧ EV x a d e
  fl : ∃ vs, oe.data = .fields vs
section
variable {X : Cx} {W : WX} {y n : Str} {i : Nat} {body suite : List Stmt} {b₀ : Stmt} {np pos pos' : Pos} {mb : Rho → Sto → Fl} {mh : Xc → D → Rho → Sto → Fl} {yes no : List Str} {Cy : Addr}
end
section
variable {X : Cx} {x : Xc} {e : D} {a : Addr} {oe : Obj} {pn : List (Addr × Obj)} {i : Nat} {p p2 pos : Pos} {yes no : List Str}
end
end Dn
namespace Dn
open PySem PySem.Spec PyProof.Rows L2
section
open PySem.W PySem.Calls RZ
variable {prog : Program} {w : World} {A : Around} {E : Value → Shared → Prop} {s : Shared}
structure ZSt (h : Heap) (z TI TO i1 i2 l1 l2 S : Addr) (xs ys : Array Value) (i : Nat) : Prop where
  own : (IsZip h z TI TO .none ∧ ∃ a b, IsPair h TO a b) ∨ ∃ T f oT, IsZipHeld h z TI TO T f ∧ h.get? T = some oT ∧ T ≠ z ∧ T ≠ i1 ∧ T ≠ i2 ∧ T ≠ S
  ti : IsPair h TI (.ref i1) (.ref i2)
  t1 : h.IsTupleIter i1 l1 i
  t2 : h.IsTupleIter i2 l2 i
  l1 : h.IsTuple l1 xs
  l2 : h.IsTuple l2 ys
variable {z TI TO i1 i2 l1 l2 S : Addr} {xs ys : Array Value} {i : Nat}
theorem ZSt.keep {h h' : Heap} (Z : ZSt h z TI TO i1 i2 l1 l2 S xs ys i) (k : ∀ b o, b ≠ S → h.get? b = some o → h'.get? b = some o) (nz : z ≠ S) (nTI : TI ≠ S) (nTO : TO ≠ S) (n1 : i1 ≠ S) (n2 : i2 ≠ S) (m1 : l1 ≠ S) (m2 : l2 ≠ S) : ZSt h' z TI TO i1 i2 l1 l2 S xs ys i where
  own := by
    rcases Z.own with ⟨h1, a, b, h2⟩ | ⟨T, f, oT, h1, h2, h3, h4, h5, h6⟩
    · exact .inl ⟨k _ _ nz h1, a, b, k _ _ nTO h2⟩
    · exact .inr ⟨T, f, oT, k _ _ nz h1, k _ _ h6 h2, h3, h4, h5, h6⟩
  ti := k _ _ nTI Z.ti
  t1 := Z.t1.at fun o e => k _ _ n1 e
  t2 := Z.t2.at fun o e => k _ _ n2 e
  l1 := Z.l1.at fun o e => k _ _ m1 e
  l2 := Z.l2.at fun o e => k _ _ m2 e
structure ZlG (xs ys : Array Value) (lo : Addr) (h : Heap) (as : List Addr) : Prop where
  rise : as.Pairwise (· < ·)
  above : ∀ a ∈ as, lo < a
  pairs : ∀ (j : Nat) (a : Addr), as[j]? = some a → ∃ (hj : j < xs.size) (hk : j < ys.size), h.get? a = some { cls := .type "tuple", data := .seq #[xs[j], ys[j]] }
theorem ZlG.there {lo : Addr} {h : Heap} {as : List Addr} (g : ZlG xs ys lo h as) {a : Addr} (ha : a ∈ as) : a < h.objs.size := by
  obtain ⟨j, hj⟩ := List.mem_iff_getElem?.mp ha
  obtain ⟨_, _, e⟩ := g.pairs j a hj
  exact Heap.lt_size e
end
def pairO (x y : Value) : Obj := { cls := .type "tuple", data := .seq #[x, y] }
abbrev PrT := Addr × (Value × Value) × (V × V)
def PrT.ob (p : PrT) : HO := .frz (pairO p.2.1.1 p.2.1.2) (.tup [p.2.2.1, p.2.2.2])
section
variable {X : Cx} {pins : List (Addr × Obj)} {σ : L2.St} {s : Shared} {h' : Heap} {t : Nat}
end
section
variable {X : Cx} {W : WX} {p p2 pos pos2 : Pos} {a b : Expr} {ta : TA} {m1 m2 : Rho → M D}
end
end Dn
namespace Dn
open PySem PySem.Spec PyProof.Rows L2
def putD (f : Str) (d : D) : List (Str × D) → List (Str × D)
  | [] => [(f, d)]
  | (g, x) :: r => if g = f then (g, d) :: r else (g, x) :: putD f d r
def insOf (nm : Str) (st : Sto) : D → Option (List (Str × D))
  | .obj n ks xs => if n = nm then some (ks.zip xs) else none
  | .ref l => match st[l]? with
    | some (.ins n fs) => if n = nm then some fs else none
    | _ => none
  | _ => none
section
variable {K : PySem.W.Frag} {F H : Hp} {ι : List Addr} {st : Sto}
theorem RepF.look {fs : List (Str × D)} {gs : List (Str × V)} (h : RepF K F ι fs gs) (f : Str) : (∀ d, fs.lookup f = some d → ∃ v, gs.lookup f = some v ∧ Rep K F ι d v) ∧ (fs.lookup f = none → gs.lookup f = none) := by
  induction h with
  | nil => exact ⟨fun d e => by simp at e, fun _ => rfl⟩
  | @cons p q l1 l2 a b ih =>
    obtain ⟨k, d⟩ := p
    obtain ⟨k', v⟩ := q
    obtain rfl : k = k' := a.1
    by_cases e : f = k
    · subst e
      refine ⟨fun d' z => ?_, fun z => ?_⟩
      · rw [List.lookup_cons_self] at z ⊢
        cases z
        exact ⟨v, rfl, a.2⟩
      · rw [List.lookup_cons_self] at z; cases z
    · have hb : (f == k) = false := by simpa using e
      simp only [List.lookup, hb]
      exact ih
theorem RepF.put {fs : List (Str × D)} {gs : List (Str × V)} {f : Str} {d : D} {v : V} (h : RepF K F ι fs gs) (r : Rep K F ι d v) : RepF K F ι (putD f d fs) (putF f v gs) := by
  induction h with
  | nil => exact .cons ⟨rfl, r⟩ .nil
  | @cons p q l1 l2 a b ih =>
    obtain ⟨k, d0⟩ := p
    obtain ⟨k', v0⟩ := q
    obtain rfl : k = k' := a.1
    unfold putD putF
    by_cases e : k = f
    · rw [if_pos e, if_pos e]; exact .cons ⟨rfl, r⟩ b
    · rw [if_neg e, if_neg e]; exact .cons a ih
theorem RepF.len {fs : List (Str × D)} {gs : List (Str × V)} (h : RepF K F ι fs gs) : gs.length = fs.length := by
  induction h with
  | nil => rfl
  | cons a b ih => simp [ih]
theorem repF_zip : ∀ {gs : List (Str × V)} {xs : List D}, Reps K F ι xs (gs.map (·.2)) → RepF K F ι ((gs.map (·.1)).zip xs) gs
  | [], xs, h => by
    have := h.length
    rw [List.map_nil, List.length_nil] at this
    rw [List.length_eq_zero_iff.mp this]
    exact .nil
  | (k, v) :: gs, [], h => by simp only [Reps] at h; cases h
  | (k, v) :: gs, d :: xs, h => by
    simp only [Reps, List.map_cons] at h
    obtain ⟨v', r, e, h1, h2⟩ := h
    cases e
    exact .cons ⟨rfl, h1⟩ (repF_zip h2)
theorem ins_of {nm : Str} {d : D} {v : V} {fs : List (Str × D)} (S : Sim K F ι st H) (r : Rep K F ι d v) (h : insOf nm st d = some fs) : ∃ a C dx gs, v = .ref a ∧ PySem.W.nsIn K mainGlobals nm = some (some (.ref C)) ∧ H a = some (.ins C dx gs) ∧ RepF K F ι fs gs := by
  cases d with
  | obj n ks xs =>
    simp only [Rep] at r
    obtain ⟨a, C, dx, gs, e, z, q, kk, rr⟩ := r
    unfold insOf at h
    dsimp only at h
    split at h
    · rename_i en
      subst en
      cases h
      subst kk
      exact ⟨a, C, dx, gs, e, z, S.sub _ _ q, repF_zip rr⟩
    · cases h
  | ref l =>
    simp only [Rep] at r
    obtain ⟨a, e, q⟩ := r
    unfold insOf at h
    dsimp only at h
    split at h
    · rename_i n fs' e2
      split at h
      · rename_i en
        subst en
        cases h
        obtain ⟨C, dx, gs, z, e3, rr⟩ := S.obj l _ a e2 q
        exact ⟨a, C, dx, gs, e, z, e3, rr⟩
      · cases h
    · cases h
  | _ => cases h
end
structure Kls (K : PySem.W.Frag) (mg : Str → Option Value) (nm : Str) (fs : List Str) : Prop where
  ex : ∃ C, PySem.W.nsIn K mainGlobals nm = some (some (.ref C)) ∧ mg nm = some (.ref C) ∧ Cls K C ∧ ∀ f ∈ fs, NoAttr K C f
section
variable {X : Cx} {W : WX} {nm f : Str} {fl : List Str} {e o value : Expr} {m mo mv : Rho → M D} {pos pos' : Pos}
end
structure FnM (P : Program) (w : World) (K : PySem.W.Frag) (mg : Str → Option Value) (base : Heap) (k : Nat) (nm m : Str) (np : Nat) (spec : List D → M D) : Prop where
  ex : ∃ (C f : Addr) (fd : FuncData) (ps : List Str), PySem.W.nsIn K mainGlobals nm = some (some (.ref C)) ∧ Meth K C m f ∧ FnG P w K mg base k f fd ps (spD K np spec) ∧ Binds K fd ps []
section
variable {X : Cx} {W : WX} {k j np : Nat} {nm m : Str} {fl : List Str} {spec : List D → M D} {e o : Expr} {es : List Expr} {mo : Rho → M D} {am : Rho → M (List D)} {pos apos : Pos}
end
structure FnI (P : Program) (w : World) (K : PySem.W.Frag) (mg : Str → Option Value) (base : Heap) (k : Nat) (nm : Str) (np : Nat) (spec : List D → M D) : Prop where
  ex : ∃ (C f : Addr) (fd : FuncData) (ps : List Str), PySem.W.nsIn K mainGlobals nm = some (some (.ref C)) ∧ mg nm = some (.ref C) ∧ Mk K C f ∧ FnG P w K mg base k f fd ps (spD K np spec) ∧ Binds K fd ps []
section
variable {K : PySem.W.Frag} {F H : Hp} {ι : List Addr} {st : Sto}
end
section
variable {X : Cx} {W : WX} {k j np : Nat} {nm : Str} {spec : List D → M D} {e : Expr} {es : List Expr} {am : Rho → M (List D)} {pos p : Pos}
end
theorem fl_bind {α β : Type} (r : Out α) (f : α → Sto → Out β) (ρ : Rho) (g : β → Sto → Fl) : (r.bind f).fl ρ g = r.fl ρ fun a st => (f a st).fl ρ g := by cases r <;> rfl
end Dn
namespace PySem
namespace FldX
open PySem.W PySem.Calls PyProof.Rows PySem.HandSPX
def iA (f : Str) (p1 p2 : Pos) : Arguments := { posonlyargs := [], args := [{ arg := "self", annotation := none, pos := p1 }, { arg := f, annotation := none, pos := p2 }], vararg := none, kwonlyargs := [], kw_defaults := [], kwarg := none, defaults := [] }
def iB (f : Str) (q1 q2 q3 q4 : Pos) : List Stmt := [.Assign [.Attribute (.Name "self" q1) f q2] (.Name f q3) q4]
def iS (f : Str) : Scope := { kind := .function, names := [(PySem.Str.ofString "self", .local), (f, .local)], isGenerator := false, isCoroutine := false, more := [] }
def BasX (bm : List Value) (nid : String) : Prop := ∃ (B iid : String) (bmB : List Value), excTail bmB bm = true ∧ ExcBaseFacts B nid iid bmB ∧ StoreFacts B bmB "object.__setattr__" "object"
structure FldTxt (K : Frag) (f : Str) (C fI : Addr) : Prop where
  cls : ∃ nid nm q N bs bm sn sub ab col dd k0 k1 k2 k3 k5, K.lookup C = some (excClassObj nm q C N bs bm true sn sub ab col dd k0 k1 k2 k3 k5 nid) ∧ BasX bm nid
  sa : findIn K (.ref C) "__setattr__" = some (some (.builtin "object.__setattr__"))
  ga : findIn K (.ref C) "__getattribute__" = some (some (.builtin "BaseException.__getattribute__"))
  gg : findIn K (.ref C) "__getattr__" = some none
  noN : findIn K (.ref C) f = some none
  iC : findIn K (.ref C) "__init__" = some (some (.ref fI))
  tC : typeIn K (.ref fI) = some (.type "function")
  kC : keepIn K (.ref C) = true
  exC : subIn K (.ref C) (.type "BaseException") = some true
  tyC : typeIn K (.ref C) = some (.type "type")
  hdC : hasDictIn K C = true
  fn : ∃ (qn : Str) (oc : Value) (od : Option Addr) (doc pm : Value) (an : Option Addr) (cdv ct : Value) (osl : Array (Option Value)) (p1 p2 q1 q2 q3 q4 : Pos),
    K.lookup fI = some ⟨oc, od, .func (fnOf "__init__" qn (iA f p1 p2) (iB f q1 q2 q3 q4) (iS f) .none .none doc pm an cdv ct), osl⟩ ∧ codeIn K cdv qn = true
structure FOk (f : Str) : Prop where
  sf : (f == ("self" : Str)) = false
  fs : (("self" : Str) == f) = false
  db : (f == ("__debug__" : Str)) = false
structure InitEnd (f : Str) (h h' : Heap) (x C dx t1 : Addr) (v : Value) : Prop where
  keep : ∀ b o, b ≠ x → h.get? b = some o → h'.get? b = some o
  obj : h'.get? x = some { cls := .ref C, dict := some dx, data := .fields #[.ref t1, .none, .none, .none, .bool false, .none] }
  dbig : h.objs.size ≤ dx
  dne : dx ≠ x
  ns : h'.Ns1 dx (fun y => if y = f then some v else none)
structure OwnMade (f : Str) (h h' : Heap) (e C d : Addr) (v : Value) : Prop where
  keep : ∀ b o, h.get? b = some o → h'.get? b = some o
  new : h.objs.size ≤ e
  obj : ∃ oe vs, h'.get? e = some oe ∧ oe.cls = .ref C ∧ oe.dict = some d ∧ oe.data = .fields vs ∧ vs[1]? = some .none
  dbig : h.objs.size ≤ d
  dne : d ≠ e
  ns : h'.Ns1 d (fun y => if y = f then some v else none)
section
variable {prog : Program} {w : World} {A : Around} {E : Value → Shared → Prop} {R : Result → Shared → Prop} {s : Shared} {K : Frag} {f : Str} {C fI : Addr}
end
end FldX
end PySem
namespace Dn
open PySem PySem.Spec PyProof.Rows L2 PySem.FldX
section
variable {X : Cx} {W : WX} {nm f : Str} {C fI : Addr}
end
section
variable {X : Cx} {x : Xc} {e : D} {a : Addr} {oe : Obj} {pn : List (Addr × Obj)} {i : Nat} {p2 pos : Pos} {ev f : Str}
end
def FnBody (P : Program) (w : World) (K : PySem.W.Frag) (mg : Str → Option Value) (base : Heap) (k : Nat) (f : Addr) (fd : FuncData) (body : List Stmt) (ps : List Str) (sp : Sp) : Prop :=
  ∀ (B : Around) (fr : List Env) (s : Shared) (H : Hp) (us : List Value) (vs : List V) (Q : VK) (E : XK), Room k B → (5 < k → B.guards = some []) → Env0 P w K mg base B fr s H → Vals vs us → sp vs H Q E →
    wpAny (model P w) B.in1 (newFunctionEnv fd.scope fd.globals fd.closure (ps.zip us) (fd.qualname ++ ".<locals>.") (some f) fd.code none fd.builtins)
      (fun env s₂ => s₂.heap.NoLimit ∧ codeAny (model P w) B (.func body env) (CR (L2.CX P w) fr P w H s Q E) s₂) (fun e s' => CR (L2.CX P w) fr P w H s Q E (.error e) s') s
section
variable {P : Program} {w : World} {K : PySem.W.Frag} {mg : Str → Option Value} {base : Heap}
theorem fnBody_of {x qual : Str} {stm : Stmt} {f : Addr} {fd : FuncData} {N ps : List Str} {k : Nat} {m : Rho → Sto → Fl} (Fn : Fun K x qual stm f fd) (SC : FnScope N ps (defScope stm)) (hN : ps.length ≤ N.length)
    (hb : ∀ (cdv : Value) (B : Around) (fr : List Env) (s : Shared) (H : Hp) (E : XK), Bd (cxOf (L2.CX P w) P w K mg base N qual (defScope stm) f cdv B fr s H E) (wE E) k →
      PassesOwn (model P w) (B.deeper (envOfC qual (defScope stm) s.heap.objs.size f cdv)) (envOfC qual (defScope stm) s.heap.objs.size f cdv) (cxOf (L2.CX P w) P w K mg base N qual (defScope stm) f cdv B fr s H E).xe →
      DSs (cxOf (L2.CX P w) P w K mg base N qual (defScope stm) f cdv B fr s H E) (wE E) (defBody stm) m) :
    FnBody P w K mg base (k + 1) f fd (defBody stm) ps (spD K ps.length (fnD ps.length N.length m)) := by
  obtain ⟨oc, od, kV, doc, pm, an, cdv, ct, osl, rfl, lk, hcd⟩ := Fn.ex
  intro B fr s H us vs Q E hr hgd e0 rv hsp
  have hl : vs.length = ps.length := hsp.1
  have hKs : K.In s.heap := e0.mod.kin.keeps fun b o e => (e0.bs b o e).1
  have hlim : s.heap.NoLimit := e0.mod.nolimit.keeps fun b o e => (e0.bs b o e).1
  refine wpAny_newFunctionEnv_cells SC.kind (fun ⟨y, u⟩ hy => ?_) fun env he s1 ic => ?_
  · rcases SC.par y (List.of_mem_zip hy).1 with q | q
    · exact .inl q
    · exact .inr ⟨q, PySem.W.cellsFrom_some _ _ _ (.inl q)⟩
  subst he
  refine ⟨hlim.keeps ic.toInCall.keep, codeAny_func ?_⟩
  obtain ⟨_, F, ι, st, ds, S, rs, q⟩ := hsp
  have hds : ds.length = ps.length := by rw [rs.length]; exact hl
  have I := inv_start (CX := L2.CX P w) (E := E) (cd := cdv) SC hr.hd e0 hl rv ic
  have bd : Bd (cxOf (L2.CX P w) P w K mg base N qual (defScope stm) f cdv B fr s H E) (wE E) k :=
    ⟨hr.deeper _, fun h => hgd (by omega), rfl, SC.nd, takes_of (X := cxOf (L2.CX P w) P w K mg base N qual (defScope stm) f cdv B fr s H E) (E := E) (E₁ := fun e' s'' => L2.CX P w fr H s E e' s'') rfl rfl rfl rfl⟩
  have hown := passes_of (X := cxOf (L2.CX P w) P w K mg base N qual (defScope stm) f cdv B fr s H E) (K := fun e s'' => L2.CX P w fr H s E e s'') (E₁ := fun e' s'' => L2.CX P w fr H s E e' s'') rfl
  unfold fnD at q
  rw [if_pos hds] at q
  refine wpAny_mono ((hb cdv B fr s H E bd hown).run [] s1 (start N vs) H { nx := fun _ H' => Q .non H', rt := Q } I ⟨F, ι, rho0 N.length ds, st, S, REnv.start rs (by omega), body_end S q⟩) (fun fl s' hs => ?_) fun e s' hs => hs
  cases fl with
  | ret u =>
    obtain ⟨v, σ', H', J, r', qq⟩ := hs
    exact ⟨v, H', J.os, J.bare, J.base, J.hok, r', qq⟩
  | next =>
    obtain ⟨σ', H', J, qq⟩ := hs
    exact ⟨V.non, H', J.os, J.bare, J.base, J.hok, rfl, qq⟩
  | brk =>
    obtain ⟨_, _, _, qq⟩ := hs
    exact False.elim qq
  | cont =>
    obtain ⟨_, _, _, qq⟩ := hs
    exact False.elim qq
structure FnCV (P : Program) (w : World) (K : PySem.W.Frag) (mg : Str → Option Value) (base : Heap) (k : Nat) (x : Str) (spec : List D → M D) : Prop where
  ex : ∃ (f : Addr) (fd : FuncData) (p y qual : Str) (stm : Stmt), FnBody P w K mg base k f fd (defBody stm) [p] (spD K 1 spec) ∧ Fun K y qual stm f fd ∧ (defScope stm).isCoroutine = false ∧ (defScope stm).isGenerator = false ∧ mg x = some (.ref f) ∧ PySem.W.keepIn K (.ref f) = true ∧
    ∀ us : List Value, bindArgs fd ⟨us, []⟩ = (newTuple us >>= fun t => pure [(p, t)])
end
section
variable {X : Cx} {W : WX} {k j : Nat} {x : Str} {spec : List D → M D} {p pos : Pos} {e : Expr} {es : List Expr} {am : Rho → M (List D)}
end
end Dn
namespace Dn
open PySem PySem.Spec PyProof.Rows L2
def sFz (i : Nat) (m : Rho → Sto → Fl) : Rho → Sto → Fl := fun ρ st => match ρ[i]? with
  | some (some (.ref l)) => match st[l]? with
    | some (.lst xs) => m (ρ.set i (some (.lst xs))) (st.set l .gone)
    | _ => .bad
  | _ => .bad
theorem REnv.set1 {K : PySem.W.Frag} {F : Hp} {ι : List Addr} {ρ : Rho} {σ : L2.St} (h : REnv K F ι ρ σ) {i : Nat} {d : D} {v : V} (hv : σ[i]? = some (some v)) (r : Rep K F ι d v) : REnv K F ι (ρ.set i (some d)) σ := by
  refine ⟨by simp [h.len], fun j e q => ?_⟩
  by_cases hj : i = j
  · subst hj
    have hl : i < ρ.length := by have := (List.getElem?_eq_some_iff.mp q).1; simpa using this
    rw [List.getElem?_set_self hl] at q
    cases q
    exact ⟨v, hv, r⟩
  · rw [List.getElem?_set_ne hj] at q
    exact h.at_ j e q
theorem fz_of {K : PySem.W.Frag} {W : WX} {i : Nat} {m : Rho → Sto → Fl} {E : Ends} {σ : L2.St} {H : Hp} (h : tS K W (sFz i m) E σ H) : tS K W m E σ H := by
  obtain ⟨F, ι, ρ, st, S, R, q⟩ := h
  unfold sFz at q
  split at q
  · rename_i l e
    split at q
    · rename_i xs e2
      obtain ⟨v, q0, r⟩ := R.at_ i _ e
      obtain ⟨a, vs, rfl, q1, q2, q3⟩ := S.mut r e2
      have x := Ext.retire S q1 q2
      refine ⟨_, ι, _, _, S.retire q1 q2, (R.ext x).set1 (d := .lst xs) q0 ?_, sPost_ext q x⟩
      simp only [Rep]
      exact ⟨a, vs, rfl, upd_same, Reps.ext q3 x⟩
    · exact q.elim
  · exact q.elim
theorem dss_fz {X : Cx} {W : WX} {ss : List Stmt} {i : Nat} {m : Rho → Sto → Fl} (h : DSs X W ss m) : DSs X W ss (sFz i m) := PSs.weak h fun _ _ _ q => fz_of q
end Dn
namespace Dn
open PySem PySem.Spec PyProof.Rows L2
inductive Rs (S α : Type) where
  | ok (a : α) (s : S) | exc (x : Xc) (s : S) | bad | amb (P : Nat → Prop) (f : Nat → Rs S α)
def Mt (S α : Type) := S → Rs S α
section
variable {S α β γ : Type}
def rbind (r : Rs S α) (k : α → Mt S β) : Rs S β := match r with
  | .ok a s => k a s
  | .exc x s => .exc x s
  | .bad => .bad
  | .amb P f => .amb P fun n => rbind (f n) k
def mpure (a : α) : Mt S α := fun s => .ok a s
def mbind (m : Mt S α) (k : α → Mt S β) : Mt S β := fun s => rbind (m s) k
def mbad : Mt S α := fun _ => .bad
def mraise (x : Xc) : Mt S α := fun s => .exc x s
def mopt (o : Option α) : Mt S α := match o with
  | some a => mpure a
  | none => mbad
@[simp] theorem rbind_ok (a : α) (s : S) (k : α → Mt S β) : rbind (.ok a s) k = k a s := rfl
@[simp] theorem rbind_exc (x : Xc) (s : S) (k : α → Mt S β) : rbind (.exc x s) k = .exc x s := rfl
@[simp] theorem rbind_bad (k : α → Mt S β) : rbind .bad k = .bad := rfl
@[simp] theorem rbind_amb (P : Nat → Prop) (f : Nat → Rs S α) (k : α → Mt S β) : rbind (.amb P f) k = .amb P fun n => rbind (f n) k := rfl
theorem rbind_assoc (r : Rs S α) (k : α → Mt S β) (l : β → Mt S γ) : rbind (rbind r k) l = rbind r fun a => mbind (k a) l := by
  induction r with
  | ok a s => rfl
  | exc x s => rfl
  | bad => rfl
  | amb P f ih => exact congrArg (Rs.amb P) (funext ih)
theorem rbind_ret (r : Rs S α) : rbind r mpure = r := by
  induction r with
  | ok a s => rfl
  | exc x s => rfl
  | bad => rfl
  | amb P f ih => exact congrArg (Rs.amb P) (funext ih)
@[simp] theorem mbind_pure (a : α) (k : α → Mt S β) : mbind (mpure a) k = k a := rfl
@[simp] theorem mopt_some (a : α) : (mopt (some a) : Mt S α) = mpure a := rfl
@[simp] theorem mopt_none : (mopt none : Mt S α) = mbad := rfl
@[simp] theorem mbind_bad (k : α → Mt S β) : mbind mbad k = mbad := rfl
@[simp] theorem mbind_raise (x : Xc) (k : α → Mt S β) : mbind (mraise x) k = mraise x := rfl
theorem mbind_assoc (m : Mt S α) (k : α → Mt S β) (l : β → Mt S γ) : mbind (mbind m k) l = mbind m fun a => mbind (k a) l := by
  funext s
  exact rbind_assoc (m s) k l
theorem mbind_ret (m : Mt S α) : mbind m mpure = m := by
  funext s
  exact rbind_ret (m s)
end
structure Wd (S : Type) where
  has : S → Sto → Prop
  own : Sto → Nat → Prop
  inb : ∀ {s : S} {st : Sto} {l : Nat}, has s st → own st l → l < st.length
  grow : ∀ {s : S} {st : Sto} (g : Sto), (∀ m ∈ g, m.isIns = false) → has s st → has s (st ++ g)
  ownG : ∀ {s : S} {st : Sto} (g : Sto) {l : Nat}, (∀ m ∈ g, m.isIns = false) → has s st → own (st ++ g) l → own st l
  set : ∀ {s : S} {st : Sto} {l : Nat} (m : MO), m.isIns = false → has s st → ¬ own st l → has s (st.set l m)
  ownS : ∀ {s : S} {st : Sto} {l : Nat} (m : MO) {k : Nat}, m.isIns = false → has s st → ¬ own st l → own (st.set l m) k → own st k
  take : ∀ {s0 s : S} {b st : Sto}, has s0 b → has s st → Tidy b st → has s (st.take b.length)
  ownT : ∀ {s0 s : S} {b st : Sto} {l : Nat}, has s0 b → has s st → Tidy b st → own (st.take b.length) l → own st l
inductive Sl where
  | any | val (d : D) | mut (m : MO) | bor (m : MO)
def Sl.rd : Sl → Option MO
  | .mut m => some m
  | .bor m => some m
  | _ => none
structure Pre {S : Type} (W : Wd S) (b : Sto) (s : S) (st : Sto) : Prop where
  has : W.has s st
  long : b.length ≤ st.length
  keep : ∀ l : Nat, l < b.length → ¬ W.own b l → ¬ W.own st l ∧ st[l]? = b[l]?
structure Has {S : Type} (W : Wd S) (fr : Sto) (s : S) (Γ : List Sl) (ρ : Rho) (st : Sto) : Prop where
  len : ρ.length = Γ.length
  pre : Pre W fr s st
  val : ∀ (i : Nat) d, Γ[i]? = some (.val d) → ρ[i]? = some (some d)
  mt : ∀ (i : Nat) m, Γ[i]? = some (.mut m) → ∃ l, ρ[i]? = some (some (.ref l)) ∧ (fr.length ≤ l ∧ ¬ W.own st l) ∧ st[l]? = some m
  nal : ∀ (i j : Nat) m1 m2, Γ[i]? = some (.mut m1) → Γ[j]? = some (.mut m2) → ρ[i]? = ρ[j]? → i = j
  bo : ∀ (i : Nat) m, Γ[i]? = some (.bor m) → ∃ l, ρ[i]? = some (some (.ref l)) ∧ ¬ W.own fr l ∧ fr[l]? = some m
section
variable {S : Type} {W : Wd S} {fr : Sto} {s s' : S} {Γ Γ' : List Sl} {ρ ρ' : Rho} {st st' st2 : Sto}
theorem Pre.refl (h : W.has s st) : Pre W st s st := ⟨h, Nat.le_refl _, fun l _ n => ⟨n, rfl⟩⟩
theorem Pre.trans (h1 : Pre W fr s st) (h2 : Pre W st s' st') : Pre W fr s' st' := ⟨h2.has, Nat.le_trans h1.long h2.long, fun l hl n => by
  obtain ⟨a, b⟩ := h1.keep l hl n
  obtain ⟨c, d⟩ := h2.keep l (Nat.lt_of_lt_of_le hl h1.long) a
  exact ⟨c, d.trans b⟩⟩
theorem Pre.grow (h : Pre W fr s st) (g : Sto) (hg : ∀ m ∈ g, m.isIns = false) : Pre W fr s (st ++ g) := ⟨W.grow g hg h.has, by rw [List.length_append]; have := h.long; omega, fun l hl n => by
  obtain ⟨a, b⟩ := h.keep l hl n
  exact ⟨fun q => a (W.ownG g hg h.has q), by rw [List.getElem?_append_left (Nat.lt_of_lt_of_le hl h.long)]; exact b⟩⟩
theorem Pre.set (h : Pre W fr s st) {l : Nat} (m : MO) (hm : m.isIns = false) (hl : fr.length ≤ l) (n : ¬ W.own st l) : Pre W fr s (st.set l m) := ⟨W.set m hm h.has n, by rw [List.length_set]; exact h.long, fun k hk n2 => by
  obtain ⟨a, b⟩ := h.keep k hk n2
  exact ⟨fun q => a (W.ownS m hm h.has n q), by rw [List.getElem?_set_ne (by omega)]; exact b⟩⟩
theorem noIns1 {m : MO} (hm : m.isIns = false) : ∀ x ∈ [m], x.isIns = false := fun x hx => by rw [List.mem_singleton.mp hx]; exact hm
theorem Pre.fresh (h : Pre W fr s st) (m : MO) (hm : m.isIns = false) : ¬ W.own (st ++ [m]) st.length := fun q => Nat.lt_irrefl _ (W.inb h.has (W.ownG [m] (noIns1 hm) h.has q))
theorem Has.rd (h : Has W fr s Γ ρ st) (i : Nat) (m : MO) (e : (Γ[i]?).bind Sl.rd = some m) : ∃ l, ρ[i]? = some (some (.ref l)) ∧ ¬ W.own st l ∧ st[l]? = some m := by
  cases e1 : Γ[i]? with
  | none => rw [e1] at e; cases e
  | some a =>
    rw [e1, Option.bind_some] at e
    cases a with
    | any => cases e
    | val d => cases e
    | «mut» m' =>
      cases e
      obtain ⟨l, q1, q2, q3⟩ := h.mt i m e1
      exact ⟨l, q1, q2.2, q3⟩
    | bor m' =>
      cases e
      obtain ⟨l, q1, q2, q3⟩ := h.bo i m e1
      obtain ⟨a, b⟩ := h.pre.keep l (List.getElem?_eq_some_iff.mp q3).1 q2
      exact ⟨l, q1, a, b.trans q3⟩
theorem bor_set {Γ : List Sl} {ρ : Rho} {fr : Sto} {P : Nat → Prop} (h : ∀ (i : Nat) m, Γ[i]? = some (.bor m) → ∃ l, ρ[i]? = some (some (.ref l)) ∧ P l ∧ fr[l]? = some m) (i : Nat) (a : Sl) (o : Option D) (ha : ∀ m, a ≠ .bor m) : ∀ (j : Nat) m, (Γ.set i a)[j]? = some (.bor m) → ∃ l, (ρ.set i o)[j]? = some (some (.ref l)) ∧ P l ∧ fr[l]? = some m := fun j m e => by
  by_cases hj : i = j
  · subst hj
    have hl : i < Γ.length := by have := (List.getElem?_eq_some_iff.mp e).1; simpa using this
    rw [List.getElem?_set_self hl] at e
    exact absurd (Option.some.inj e) (ha m)
  · rw [List.getElem?_set_ne hj] at e ⊢
    exact h j m e
theorem Has.bound (h : Has W fr s Γ ρ st) : fr.length ≤ st.length := h.pre.long
theorem Has.setVal (h : Has W fr s Γ ρ st) (i : Nat) (d : D) : Has W fr s (Γ.set i (.val d)) (ρ.set i (some d)) st := by
  refine ⟨by simp [h.len], h.pre, fun j d' e => ?_, fun j m e => ?_, fun j k m1 m2 e1 e2 e3 => ?_, bor_set h.bo i _ _ (fun _ h => nomatch h)⟩
  · by_cases hj : i = j
    · subst hj
      have hl : i < Γ.length := by have := (List.getElem?_eq_some_iff.mp e).1; simpa using this
      rw [List.getElem?_set_self hl] at e
      cases e
      rw [List.getElem?_set_self (by rw [h.len]; exact hl)]
    · rw [List.getElem?_set_ne hj] at e ⊢
      exact h.val j d' e
  · have hj : i ≠ j := fun q => by
      subst q
      have hl : i < Γ.length := by have := (List.getElem?_eq_some_iff.mp e).1; simpa using this
      rw [List.getElem?_set_self hl] at e
      cases e
    rw [List.getElem?_set_ne hj] at e ⊢
    exact h.mt j m e
  · have key : ∀ (j : Nat) m, (Γ.set i (.val d))[j]? = some (.mut m) → i ≠ j := fun j m e q => by
      subst q
      have hl : i < Γ.length := by have := (List.getElem?_eq_some_iff.mp e).1; simpa using this
      rw [List.getElem?_set_self hl] at e
      cases e
    have h1 := key j m1 e1
    have h2 := key k m2 e2
    rw [List.getElem?_set_ne h1] at e1 e3
    rw [List.getElem?_set_ne h2] at e2 e3
    exact h.nal j k m1 m2 e1 e2 e3
theorem Has.setNew (h : Has W fr s Γ ρ st) (i : Nat) (m : MO) (hm : m.isIns = false := by rfl) : Has W fr s (Γ.set i (.mut m)) (ρ.set i (some (.ref st.length))) (st ++ [m]) := by
  have hb := h.bound
  have old : ∀ (j : Nat) m', Γ[j]? = some (.mut m') → ∃ l, ρ[j]? = some (some (.ref l)) ∧ l < st.length ∧ (fr.length ≤ l ∧ ¬ W.own st l) ∧ st[l]? = some m' := fun j m' e => by
    obtain ⟨l, q1, q2, q3⟩ := h.mt j m' e
    exact ⟨l, q1, (List.getElem?_eq_some_iff.mp q3).1, q2, q3⟩
  refine ⟨by simp [h.len], h.pre.grow _ (noIns1 hm), fun j d' e => ?_, fun j m' e => ?_, fun j k m1 m2 e1 e2 e3 => ?_, bor_set h.bo i _ _ (fun _ h => nomatch h)⟩
  · have hj : i ≠ j := fun q => by
      subst q
      have hl : i < Γ.length := by have := (List.getElem?_eq_some_iff.mp e).1; simpa using this
      rw [List.getElem?_set_self hl] at e
      cases e
    rw [List.getElem?_set_ne hj] at e ⊢
    exact h.val j d' e
  · by_cases hj : i = j
    · subst hj
      have hl : i < Γ.length := by have := (List.getElem?_eq_some_iff.mp e).1; simpa using this
      rw [List.getElem?_set_self hl] at e
      cases e
      exact ⟨st.length, by rw [List.getElem?_set_self (by rw [h.len]; exact hl)], ⟨hb, h.pre.fresh m hm⟩, by simp⟩
    · rw [List.getElem?_set_ne hj] at e ⊢
      obtain ⟨l, q1, q2, q3, q4⟩ := old j m' e
      exact ⟨l, q1, ⟨q3.1, fun q => q3.2 (W.ownG _ (noIns1 hm) h.pre.has q)⟩, by rw [List.getElem?_append_left q2]; exact q4⟩
  · by_cases hj : i = j
    · by_cases hk : i = k
      · rw [← hj, ← hk]
      · subst hj
        have hl : i < Γ.length := by have := (List.getElem?_eq_some_iff.mp e1).1; simpa using this
        rw [List.getElem?_set_self (by rw [h.len]; exact hl), List.getElem?_set_ne hk] at e3
        rw [List.getElem?_set_ne hk] at e2
        obtain ⟨l, q1, q2, _⟩ := old k m2 e2
        rw [q1] at e3
        injection e3 with e3
        injection e3 with e3
        injection e3 with e3
        omega
    · by_cases hk : i = k
      · subst hk
        have hl : i < Γ.length := by have := (List.getElem?_eq_some_iff.mp e2).1; simpa using this
        rw [List.getElem?_set_self (by rw [h.len]; exact hl), List.getElem?_set_ne hj] at e3
        rw [List.getElem?_set_ne hj] at e1
        obtain ⟨l, q1, q2, _⟩ := old j m1 e1
        rw [q1] at e3
        injection e3 with e3
        injection e3 with e3
        injection e3 with e3
        omega
      · rw [List.getElem?_set_ne hj] at e1 e3
        rw [List.getElem?_set_ne hk] at e2 e3
        exact h.nal j k m1 m2 e1 e2 e3
theorem Has.write (h : Has W fr s Γ ρ st) {i l : Nat} {m : MO} (m' : MO) (hi : Γ[i]? = some (.mut m)) (hl : ρ[i]? = some (some (.ref l))) (hm' : m'.isIns = false := by rfl) : Has W fr s (Γ.set i (.mut m')) ρ (st.set l m') := by
  obtain ⟨l', q1, q2, q3⟩ := h.mt i m hi
  rw [hl] at q1
  injection q1 with q1
  injection q1 with q1
  injection q1 with q1
  subst q1
  have hlt := (List.getElem?_eq_some_iff.mp q3).1
  have hil := (List.getElem?_eq_some_iff.mp hi).1
  refine ⟨by simp [h.len], h.pre.set m' hm' q2.1 q2.2, fun j d' e => ?_, fun j m2 e => ?_, fun j k m1 m2 e1 e2 e3 => ?_, fun j m2 e => by
    by_cases hj : i = j
    · subst hj
      rw [List.getElem?_set_self hil] at e
      cases e
    · rw [List.getElem?_set_ne hj] at e
      exact h.bo j m2 e⟩
  · by_cases hj : i = j
    · subst hj
      rw [List.getElem?_set_self hil] at e
      cases e
    · rw [List.getElem?_set_ne hj] at e
      exact h.val j d' e
  · have nown : ∀ k : Nat, ¬ W.own st k → ¬ W.own (st.set l m') k := fun k n q => n (W.ownS m' hm' h.pre.has q2.2 q)
    by_cases hj : i = j
    · subst hj
      rw [List.getElem?_set_self hil] at e
      cases e
      exact ⟨l, hl, ⟨q2.1, nown l q2.2⟩, by rw [List.getElem?_set_self hlt]⟩
    · rw [List.getElem?_set_ne hj] at e
      obtain ⟨k, p1, p2, p3⟩ := h.mt j m2 e
      refine ⟨k, p1, ⟨p2.1, nown k p2.2⟩, ?_⟩
      have hk : l ≠ k := fun q => by
        subst q
        exact hj (h.nal i j m m2 hi e (hl.trans p1.symm))
      rw [List.getElem?_set_ne hk]
      exact p3
  · have key : ∀ (j : Nat) m2, (Γ.set i (.mut m'))[j]? = some (.mut m2) → ∃ m3, Γ[j]? = some (.mut m3) := fun j m2 e => by
      by_cases hj : i = j
      · subst hj; exact ⟨m, hi⟩
      · rw [List.getElem?_set_ne hj] at e; exact ⟨m2, e⟩
    obtain ⟨n1, f1⟩ := key j m1 e1
    obtain ⟨n2, f2⟩ := key k m2 e2
    exact h.nal j k n1 n2 f1 f2 e3
theorem Has.grow (h : Has W fr s Γ ρ st) (g : Sto) (hg : ∀ m ∈ g, m.isIns = false) : Has W fr s Γ ρ (st ++ g) := by
  refine ⟨h.len, h.pre.grow g hg, h.val, fun j m e => ?_, h.nal, h.bo⟩
  obtain ⟨l, q1, q2, q3⟩ := h.mt j m e
  exact ⟨l, q1, ⟨q2.1, fun q => q2.2 (W.ownG g hg h.pre.has q)⟩, by rw [List.getElem?_append_left (List.getElem?_eq_some_iff.mp q3).1]; exact q3⟩
theorem Has.call (h : Has W fr s Γ ρ st) (p : Pre W st s' st') : Has W fr s' Γ ρ st' := by
  refine ⟨h.len, h.pre.trans p, h.val, fun j m e => ?_, h.nal, h.bo⟩
  obtain ⟨l, q1, q2, q3⟩ := h.mt j m e
  obtain ⟨a, b⟩ := p.keep l (List.getElem?_eq_some_iff.mp q3).1 q2.2
  exact ⟨l, q1, ⟨q2.1, a⟩, b.trans q3⟩
inductive Wk : List Sl → List Sl → Prop where
  | nil : Wk [] []
  | any {a : Sl} {Γ Γ' : List Sl} (h : Wk Γ Γ') : Wk (a :: Γ) (.any :: Γ')
  | same {a : Sl} {Γ Γ' : List Sl} (h : Wk Γ Γ') : Wk (a :: Γ) (a :: Γ')
theorem Wk.len {Γ Γ' : List Sl} (h : Wk Γ Γ') : Γ.length = Γ'.length := by
  induction h with
  | nil => rfl
  | any _ ih => simp [ih]
  | same _ ih => simp [ih]
theorem Wk.get {Γ Γ' : List Sl} (h : Wk Γ Γ') : ∀ (i : Nat) (a : Sl), Γ'[i]? = some a → a = .any ∨ Γ[i]? = some a := by
  induction h with
  | nil => intro i a e; simp at e
  | any _ ih =>
    intro i a e
    cases i with
    | zero => left; simpa using e.symm
    | succ i => simpa using ih i a (by simpa using e)
  | same _ ih =>
    intro i a e
    cases i with
    | zero => right; simpa using e
    | succ i => simpa using ih i a (by simpa using e)
theorem Wk.refl : ∀ Γ : List Sl, Wk Γ Γ
  | [] => .nil
  | _ :: Γ => .same (Wk.refl Γ)
theorem Has.wk (h : Has W fr s Γ ρ st) (w : Wk Γ Γ') : Has W fr s Γ' ρ st := by
  have g : ∀ (i : Nat) (a : Sl), Γ'[i]? = some a → a ≠ .any → Γ[i]? = some a := fun i a e n => (w.get i a e).resolve_left n
  exact ⟨h.len.trans w.len, h.pre, fun i d e => h.val i d (g i _ e (by simp)), fun i m e => h.mt i m (g i _ e (by simp)), fun i j m1 m2 e1 e2 => h.nal i j m1 m2 (g i _ e1 (by simp)) (g j _ e2 (by simp)), fun i m e => h.bo i m (g i _ e (by simp))⟩
theorem Has.drop (h : Has W fr s Γ ρ st) (i : Nat) : Has W fr s (Γ.set i .any) ρ st := by
  have g : ∀ (j : Nat) (a : Sl), (Γ.set i .any)[j]? = some a → a ≠ .any → Γ[j]? = some a := fun j a e n => by
    by_cases hj : i = j
    · subst hj
      have hl : i < Γ.length := by have := (List.getElem?_eq_some_iff.mp e).1; simpa using this
      rw [List.getElem?_set_self hl] at e
      cases e
      exact absurd rfl n
    · rw [List.getElem?_set_ne hj] at e; exact e
  exact ⟨by simp [h.len], h.pre, fun i d e => h.val i d (g i _ e (by simp)), fun i m e => h.mt i m (g i _ e (by simp)), fun i j m1 m2 e1 e2 => h.nal i j m1 m2 (g i _ e1 (by simp)) (g j _ e2 (by simp)), fun i m e => h.bo i m (g i _ e (by simp))⟩
end
def Xc.pl (_ : Xc) : Prop := True
section
variable {S : Type} (W : Wd S) (fr : Sto)
def OR {A β : Type} (Γ' : β → List Sl) (ρ : Rho) (enc : β → A) (r : Out A) (q : Rs S β) : Prop := match q with
  | .ok b s' => ∃ st', r = .ok (enc b) st' ∧ Has W fr s' (Γ' b) ρ st'
  | .exc x s' => ∃ st', r = .exc x st' ∧ Pre W fr s' st' ∧ x.pl
  | .bad => True
  | .amb P f => ∃ n, P n ∧ OR Γ' ρ enc r (f n)
def HT {A β : Type} (Γ : List Sl) (m : Rho → M A) (q : Mt S β) (enc : β → A) (Γ' : β → List Sl) : Prop := ∀ s ρ st, Has W fr s Γ ρ st → OR W fr Γ' ρ enc (m ρ st) (q s)
def HV {A : Type} (Γ : List Sl) (m : Rho → M A) (d : A) : Prop := ∀ s ρ st, Has W fr s Γ ρ st → m ρ st = .ok d st
def AC {A β : Type} (Γ : List Sl) (a : Rho → M (List D)) (F : List D → M A) (q : Mt S β) (enc : β → A) (Γ' : β → List Sl) : Prop := ∀ s ρ st, Has W fr s Γ ρ st → OR W fr Γ' ρ enc ((a ρ st).bind F) (q s)
def FO {β : Type} (st : Sto) (enc : β → D) (r : Out D) (q : Rs S β) : Prop := match q with
  | .ok b s' => ∃ st', r = .ok (enc b) st' ∧ Pre W st s' st'
  | .exc x s' => ∃ st', r = .exc x st' ∧ Pre W st s' st' ∧ x.pl
  | .bad => True
  | .amb P f => ∃ n, P n ∧ FO st enc r (f n)
def FN {β : Type} (d : List D → M D) (args : List D) (q : Mt S β) (enc : β → D) : Prop := ∀ (st : Sto) (s : S), W.has s st → FO W st enc (d args st) (q s)
end
section
variable {S : Type} {W : Wd S} {fr : Sto} {Γ Γ1 Γ2 : List Sl} {ρ : Rho}
theorem Out.bind_assoc {α β γ : Type} (r : Out α) (f : α → Sto → Out β) (g : β → Sto → Out γ) : (r.bind f).bind g = r.bind fun a st => (f a st).bind g := by cases r <;> rfl
theorem OR.bind {A B β γ : Type} {Γ' : β → List Sl} {Γ'' : γ → List Sl} {e : β → A} {e' : γ → B} {r : Out A} {q : Rs S β} {f : A → Sto → Out B} {k : β → Mt S γ} (h : OR W fr Γ' ρ e r q)
    (hk : ∀ b s st, Has W fr s (Γ' b) ρ st → OR W fr Γ'' ρ e' (f (e b) st) (k b s)) : OR W fr Γ'' ρ e' (r.bind f) (rbind q k) := by
  induction q with
  | ok b s =>
    obtain ⟨st', rfl, h2⟩ := h
    exact hk b s st' h2
  | exc x s =>
    obtain ⟨st', rfl, h2⟩ := h
    exact ⟨st', rfl, h2⟩
  | bad => trivial
  | amb P_ f_ ih_ => obtain ⟨n_, p_, h⟩ := h; exact ⟨n_, p_, ih_ n_ h⟩
theorem ht_ofV {A β : Type} {m : Rho → M A} {x : β} {enc : β → A} (h : HV W fr Γ m (enc x)) : HT W fr Γ m (mpure x) enc fun _ => Γ := fun s ρ st H => ⟨st, h s ρ st H, H⟩
theorem ac_nil {A β : Type} {F : List D → M A} {q : Mt S β} {enc : β → A} {Γ' : β → List Sl} (h : ∀ s ρ st, Has W fr s Γ ρ st → OR W fr Γ' ρ enc (F [] st) (q s)) : AC W fr Γ mNil F q enc Γ' := fun s ρ st H => h s ρ st H
theorem ac_ret {A β : Type} {F : List D → M A} {b : β} {enc : β → A} (h : ∀ st, F [] st = .ok (enc b) st) : AC W fr Γ mNil F (mpure b) enc fun _ => Γ := ac_nil fun s ρ st H => ⟨st, h st, H⟩
theorem ac_opt {A β : Type} {F : List D → M A} {o : Option β} {enc : β → A} (h : ∀ b, o = some b → ∀ st, F [] st = .ok (enc b) st) : AC W fr Γ mNil F (mopt o) enc fun _ => Γ := ac_nil fun s ρ st H => by
  cases o with
  | none => trivial
  | some b => exact ⟨st, h b rfl st, H⟩
theorem ac_if {A β : Type} {F : List D → M A} {c : Prop} [Decidable c] {b : β} {enc : β → A} (h : c → ∀ st, F [] st = .ok (enc b) st) : AC W fr Γ mNil F (if c then mpure b else mbad) enc fun _ => Γ := ac_nil fun s ρ st H => by
  by_cases hc : c
  · rw [if_pos hc]; exact ⟨st, h hc st, H⟩
  · rw [if_neg hc]; trivial
theorem ac_fn {β : Type} {F : List D → M D} {d : List D → M D} {args : List D} {q : Mt S β} {enc : β → D} (h : FN W d args q enc) (hF : F [] = d args := by rfl) : AC W fr Γ mNil F q enc fun _ => Γ := ac_nil fun s ρ st H => by
  have h := h st s H.pre.has
  rw [hF]
  revert h
  show FO W _ enc (d args st) (q s) → OR W fr _ ρ enc (d args st) (q s)
  generalize q s = r
  induction r with
  | ok b s' => rintro ⟨st', e, p⟩; exact ⟨st', e, H.call p⟩
  | exc x s' => rintro ⟨st', e, p, hx⟩; exact ⟨st', e, H.pre.trans p, hx⟩
  | bad => intro _; trivial
  | amb P_ f_ ih_ => rintro ⟨n_, p_, h_⟩; exact ⟨n_, p_, ih_ n_ h_⟩
theorem ac_V {A β : Type} {m : Rho → M D} {r : Rho → M (List D)} {F : List D → M A} {d : D} {q : Mt S β} {enc : β → A} {Γ' : β → List Sl} (h : HV W fr Γ m d) (hr : AC W fr Γ r (fun ds => F (d :: ds)) q enc Γ') : AC W fr Γ (mCons m r) F q enc Γ' := fun s ρ st H => by
  have := hr s ρ st H
  unfold mCons
  rw [h s ρ st H, Out.bind_ok, Out.bind_assoc]
  exact this
theorem ac_T {A β γ : Type} {m : Rho → M D} {r : Rho → M (List D)} {F : List D → M A} {q1 : Mt S γ} {e1 : γ → D} {Γ1 : γ → List Sl} {k : γ → Mt S β} {enc : β → A} {Γ' : β → List Sl} (h : HT W fr Γ m q1 e1 Γ1) (hr : ∀ x, AC W fr (Γ1 x) r (fun ds => F (e1 x :: ds)) (k x) enc Γ') : AC W fr Γ (mCons m r) F (mbind q1 k) enc Γ' := fun s ρ st H => by
  unfold mCons
  rw [Out.bind_assoc]
  refine OR.bind (h s ρ st H) fun b s1 st1 H1 => ?_
  rw [Out.bind_assoc]
  exact hr b s1 ρ st1 H1
theorem ac_star {A β γ : Type} {m : Rho → M D} {r : Rho → M (List D)} {F : List D → M A} {q1 : Mt S γ} {e1 : γ → D} {xs : γ → List D} {Γ1 : γ → List Sl} {k : γ → Mt S β} {enc : β → A} {Γ' : β → List Sl} (h : HT W fr Γ m q1 e1 Γ1) (hs : ∀ x st, seqOf st (e1 x) = some (xs x))
    (hr : ∀ x, AC W fr (Γ1 x) r (fun ds => F (xs x ++ ds)) (k x) enc Γ') : AC W fr Γ (mStar m r) F (mbind q1 k) enc Γ' := fun s ρ st H => by
  unfold mStar
  rw [Out.bind_assoc]
  refine OR.bind (h s ρ st H) fun b s1 st1 H1 => ?_
  rw [hs b st1]
  dsimp only
  rw [Out.bind_assoc]
  exact hr b s1 ρ st1 H1
theorem ac_starV {A β : Type} {m : Rho → M D} {r : Rho → M (List D)} {F : List D → M A} {d : D} {xs : List D} {q : Mt S β} {enc : β → A} {Γ' : β → List Sl} (h : HV W fr Γ m d) (hs : ∀ st, seqOf st d = some xs)
    (hr : AC W fr Γ r (fun ds => F (xs ++ ds)) q enc Γ') : AC W fr Γ (mStar m r) F q enc Γ' := fun s ρ st H => by
  have := hr s ρ st H
  unfold mStar
  rw [h s ρ st H, Out.bind_ok, hs st]
  dsimp only
  rw [Out.bind_assoc]
  exact this
theorem ac_M {A β : Type} {i : Nat} {r : Rho → M (List D)} {F : List D → M A} {xs ds : List D} {q : Mt S β} {enc : β → A} {Γ' : β → List Sl} (h : (Γ[i]?).bind Sl.rd = some (.lst xs)) (hv : HV W fr Γ r ds)
    (hd : ∀ st l, st[l]? = some (.lst xs) → F (.ref l :: ds) st = F (.lst xs :: ds) st) (hr : AC W fr Γ r (fun ds => F (.lst xs :: ds)) q enc Γ') : AC W fr Γ (mCons (mVar i) r) F q enc Γ' := fun s ρ st H => by
  have := hr s ρ st H
  obtain ⟨l, q1, q2, q3⟩ := H.rd i _ h
  rw [hv s ρ st H, Out.bind_ok] at this
  unfold mCons
  have e : mVar i ρ st = .ok (.ref l) st := by unfold mVar; rw [q1]
  rw [e, Out.bind_ok, Out.bind_assoc, hv s ρ st H, Out.bind_ok, Out.bind_ok, hd st l q3]
  exact this
theorem hv_nil : HV W fr Γ mNil [] := fun _ _ _ _ => rfl
theorem hv_cons {m : Rho → M D} {r : Rho → M (List D)} {d : D} {ds : List D} (h : HV W fr Γ m d) (hr : HV W fr Γ r ds) : HV W fr Γ (mCons m r) (d :: ds) := fun s ρ st H => by
  unfold mCons
  rw [h s ρ st H, Out.bind_ok, hr s ρ st H, Out.bind_ok]
def F2 (p : Sto → D → D → Option D) : List D → M D := fun ds st => match ds with
  | [a, b] => lift (p st a b) st
  | _ => .bad
def F2L (p : Sto → D → D → Option (List D)) : List D → M (List D) := fun ds st => match ds with
  | [a, b] => lift (p st a b) st
  | _ => .bad
def F1 (p : Sto → D → Option D) : List D → M D := fun ds st => match ds with
  | [a] => lift (p st a) st
  | _ => .bad
def FB {A : Type} (p : Sto → List D → Option A) : List D → M A := fun ds st => lift (p st ds) st
def FTup : List D → M D := fun xs st => if xs.length ≤ 100000 then .ok (.tup xs) st else .bad
def FDisp : List D → M (List D) := fun xs st => if xs.length ≤ 100000 then .ok xs st else .bad
section
variable {β : Type} {m1 m2 : Rho → M D} {a : Rho → M (List D)} {q : Mt S β} {Γ' : β → List Sl}
theorem ht_op {p : Sto → D → D → Option D} {enc : β → D} (h : AC W fr Γ (mCons m1 (mCons m2 mNil)) (F2 p) q enc Γ') : HT W fr Γ (mOp p m1 m2) q enc Γ' := fun s ρ st H => by
  have := h s ρ st H
  unfold mCons mNil at this
  simp only [Out.bind_assoc, Out.bind_ok] at this
  exact this
theorem ht_opL {p : Sto → D → D → Option (List D)} {enc : β → List D} (h : AC W fr Γ (mCons m1 (mCons m2 mNil)) (F2L p) q enc Γ') : HT W fr Γ (lOp p m1 m2) q enc Γ' := fun s ρ st H => by
  have := h s ρ st H
  unfold mCons mNil at this
  simp only [Out.bind_assoc, Out.bind_ok] at this
  exact this
theorem ht_b {p : Sto → List D → Option D} {enc : β → D} (h : AC W fr Γ a (FB p) q enc Γ') : HT W fr Γ (mB p a) q enc Γ' := h
theorem ht_bL {p : Sto → List D → Option (List D)} {enc : β → List D} (h : AC W fr Γ a (FB p) q enc Γ') : HT W fr Γ (lB p a) q enc Γ' := h
theorem ht_call {d : List D → M D} {enc : β → D} (h : AC W fr Γ a d q enc Γ') : HT W fr Γ (mCall d a) q enc Γ' := h
theorem ht_tup {enc : β → D} (h : AC W fr Γ a FTup q enc Γ') : HT W fr Γ (mTup a) q enc Γ' := h
theorem ht_disp {enc : β → List D} (h : AC W fr Γ a FDisp q enc Γ') : HT W fr Γ (lDisp a) q enc Γ' := h
theorem ht_frz {l : Rho → M (List D)} {enc : β → List D} (h : HT W fr Γ l q enc Γ') : HT W fr Γ (mFrz l) q (fun x => .lst (enc x)) Γ' := fun s ρ st H => by
  have := h s ρ st H
  unfold mFrz
  revert this
  induction (q s) with
  | ok b s' => rintro ⟨st', e, h2⟩; exact ⟨st', by rw [e]; rfl, h2⟩
  | exc x s' => rintro ⟨st', e, h2⟩; exact ⟨st', by rw [e]; rfl, h2⟩
  | bad => intro _; trivial
  | amb P_ f_ ih_ => rintro ⟨n_, p_, h_⟩; exact ⟨n_, p_, ih_ n_ h_⟩
theorem ht_isB {m : Rho → M D} {q : Mt S Bool} {Γ' : Bool → List Sl} (h : HT W fr Γ m q .bl Γ') : HT W fr Γ (isB m) q id Γ' := fun s ρ st H => by
  have := h s ρ st H
  unfold isB
  revert this
  induction (q s) with
  | ok b s' => rintro ⟨st', e, h2⟩; exact ⟨st', by rw [e]; rfl, h2⟩
  | exc x s' => rintro ⟨st', e, h2⟩; exact ⟨st', by rw [e]; rfl, h2⟩
  | bad => intro _; trivial
  | amb P_ f_ ih_ => rintro ⟨n_, p_, h_⟩; exact ⟨n_, p_, ih_ n_ h_⟩
theorem ht_tru {m : Rho → M D} {enc : β → D} {f : β → Bool} (h : HT W fr Γ m q enc fun _ => Γ) (hf : ∀ x st, (enc x).truth st = some (f x)) : HT W fr Γ (mTru m) (mbind q fun x => mpure (f x)) id fun _ => Γ := fun s ρ st H => by
  unfold mTru
  refine OR.bind (h s ρ st H) fun b s1 st1 H1 => ?_
  rw [hf b st1]
  exact ⟨st1, rfl, H1⟩
theorem ht_and {t1 t2 : Rho → M Bool} {q1 q2 : Mt S Bool} (h1 : HT W fr Γ t1 q1 id fun _ => Γ) (h2 : HT W fr Γ t2 q2 id fun _ => Γ) : HT W fr Γ (bAnd t1 t2) (mbind q1 fun b => if b = true then q2 else mpure false) id fun _ => Γ := fun s ρ st H => by
  unfold bAnd
  refine OR.bind (h1 s ρ st H) fun b s1 st1 H1 => ?_
  cases b
  · exact ⟨st1, rfl, H1⟩
  · exact h2 s1 ρ st1 H1
theorem ht_or {t1 t2 : Rho → M Bool} {q1 q2 : Mt S Bool} (h1 : HT W fr Γ t1 q1 id fun _ => Γ) (h2 : HT W fr Γ t2 q2 id fun _ => Γ) : HT W fr Γ (bOr t1 t2) (mbind q1 fun b => if b = true then mpure true else q2) id fun _ => Γ := fun s ρ st H => by
  unfold bOr
  refine OR.bind (h1 s ρ st H) fun b s1 st1 H1 => ?_
  cases b
  · exact h2 s1 ρ st1 H1
  · exact ⟨st1, rfl, H1⟩
theorem ht_not {t1 : Rho → M Bool} {q1 : Mt S Bool} (h1 : HT W fr Γ t1 q1 id fun _ => Γ) : HT W fr Γ (bNot t1) (mbind q1 fun b => mpure (!b)) id fun _ => Γ := fun s ρ st H => by
  unfold bNot
  refine OR.bind (h1 s ρ st H) fun b s1 st1 H1 => ⟨st1, rfl, H1⟩
theorem ht_if {t : Rho → M Bool} {qt : Mt S Bool} {qa qb : Mt S β} {enc : β → D} (ht : HT W fr Γ t qt id fun _ => Γ) (h1 : HT W fr Γ m1 qa enc fun _ => Γ) (h2 : HT W fr Γ m2 qb enc fun _ => Γ) : HT W fr Γ (mIf t m1 m2) (mbind qt fun c => if c = true then qa else qb) enc fun _ => Γ := fun s ρ st H => by
  unfold mIf
  refine OR.bind (ht s ρ st H) fun b s1 st1 H1 => ?_
  cases b
  · exact h2 s1 ρ st1 H1
  · exact h1 s1 ρ st1 H1
theorem ht_andV {q1 q2 : Mt S Bool} (h1 : HT W fr Γ m1 q1 .bl fun _ => Γ) (h2 : HT W fr Γ m2 q2 .bl fun _ => Γ) : HT W fr Γ (mAndV m1 m2) (mbind q1 fun b => if b = true then q2 else mpure false) .bl fun _ => Γ := fun s ρ st H => by
  unfold mAndV
  refine OR.bind (h1 s ρ st H) fun b s1 st1 H1 => ?_
  cases b
  · exact ⟨st1, rfl, H1⟩
  · exact h2 s1 ρ st1 H1
theorem ht_orV {q1 q2 : Mt S Bool} (h1 : HT W fr Γ m1 q1 .bl fun _ => Γ) (h2 : HT W fr Γ m2 q2 .bl fun _ => Γ) : HT W fr Γ (mOrV m1 m2) (mbind q1 fun b => if b = true then mpure true else q2) .bl fun _ => Γ := fun s ρ st H => by
  unfold mOrV
  refine OR.bind (h1 s ρ st H) fun b s1 st1 H1 => ?_
  cases b
  · exact h2 s1 ρ st1 H1
  · exact ⟨st1, rfl, H1⟩
theorem ht_notV {enc : β → D} {f : β → Bool} (h : HT W fr Γ m1 q enc fun _ => Γ) (hf : ∀ x st, (enc x).truth st = some (f x)) : HT W fr Γ (mNotV m1) (mbind q fun x => mpure (!f x)) .bl fun _ => Γ := fun s ρ st H => by
  unfold mNotV
  refine OR.bind (h s ρ st H) fun b s1 st1 H1 => ?_
  rw [hf b st1]
  exact ⟨st1, rfl, H1⟩
end
theorem hv_lit {d : D} : HV W fr Γ (mLit d) d := fun _ _ _ _ => rfl
theorem hv_var {i : Nat} {d : D} (h : Γ[i]? = some (.val d)) : HV W fr Γ (mVar i) d := fun s ρ st H => by
  unfold mVar
  rw [H.val i d h]
theorem hv_op {p : Sto → D → D → Option D} {m1 m2 : Rho → M D} {d1 d2 d : D} (h1 : HV W fr Γ m1 d1) (h2 : HV W fr Γ m2 d2) (h : ∀ st, p st d1 d2 = some d) : HV W fr Γ (mOp p m1 m2) d := fun s ρ st H => by
  unfold mOp
  rw [h1 s ρ st H, Out.bind_ok, h2 s ρ st H, Out.bind_ok, h st, lift_some]
theorem hv_un {p : Sto → D → Option D} {m1 : Rho → M D} {d1 d : D} (h1 : HV W fr Γ m1 d1) (h : ∀ st, p st d1 = some d) : HV W fr Γ (mUn p m1) d := fun s ρ st H => by
  unfold mUn
  rw [h1 s ρ st H, Out.bind_ok, h st, lift_some]
theorem hv_b {A : Type} {p : Sto → List D → Option D} {a : Rho → M (List D)} {ds : List D} {d : D} (h1 : HV W fr Γ a ds) (h : ∀ st, p st ds = some d) : HV W fr Γ (mB p a) d := fun s ρ st H => by
  unfold mB
  rw [h1 s ρ st H, Out.bind_ok, h st, lift_some]
theorem hv_bM {p : Sto → List D → Option D} {i : Nat} {xs : List D} {d : D} (h1 : (Γ[i]?).bind Sl.rd = some (.lst xs)) (hd : ∀ st l, st[l]? = some (.lst xs) → p st [.ref l] = p st [.lst xs]) (h : ∀ st, p st [.lst xs] = some d) : HV W fr Γ (mB p (mCons (mVar i) mNil)) d := fun s ρ st H => by
  obtain ⟨l, q1, q2, q3⟩ := H.rd i _ h1
  have e : mVar i ρ st = .ok (.ref l) st := by unfold mVar; rw [q1]
  unfold mB mCons mNil
  simp only [e, Out.bind_ok, hd st l q3, h st, lift_some]
theorem hv_frz {l : Rho → M (List D)} {ds : List D} (h : HV W fr Γ l ds) : HV W fr Γ (mFrz l) (.lst ds) := fun s ρ st H => by
  unfold mFrz
  rw [h s ρ st H, Out.bind_ok]
theorem hv_tup {a : Rho → M (List D)} {ds : List D} (h : HV W fr Γ a ds) (hl : ds.length ≤ 100000) : HV W fr Γ (mTup a) (.tup ds) := fun s ρ st H => by
  unfold mTup
  rw [h s ρ st H, Out.bind_ok, if_pos hl]
theorem hv_disp {a : Rho → M (List D)} {ds : List D} (h : HV W fr Γ a ds) (hl : ds.length ≤ 100000) : HV W fr Γ (lDisp a) ds := fun s ρ st H => by
  unfold lDisp
  rw [h s ρ st H, Out.bind_ok, if_pos hl]
theorem hv_isB {m : Rho → M D} {b : Bool} (h : HV W fr Γ m (.bl b)) : HV W fr Γ (isB m) b := fun s ρ st H => by
  unfold isB
  rw [h s ρ st H, Out.bind_ok]
theorem hv_tru {m : Rho → M D} {d : D} {b : Bool} (h : HV W fr Γ m d) (hb : ∀ st, d.truth st = some b) : HV W fr Γ (mTru m) b := fun s ρ st H => by
  unfold mTru
  rw [h s ρ st H, Out.bind_ok, hb st, lift_some]
theorem hv_or {t1 t2 : Rho → M Bool} {b1 b2 : Bool} (h1 : HV W fr Γ t1 b1) (h2 : HV W fr Γ t2 b2) : HV W fr Γ (bOr t1 t2) (b1 || b2) := fun s ρ st H => by
  unfold bOr
  rw [h1 s ρ st H, Out.bind_ok]
  cases b1
  · exact h2 s ρ st H
  · rfl
theorem hv_not {t1 : Rho → M Bool} {b1 : Bool} (h1 : HV W fr Γ t1 b1) : HV W fr Γ (bNot t1) (!b1) := fun s ρ st H => by
  unfold bNot
  rw [h1 s ρ st H, Out.bind_ok]
theorem hv_andV {m1 m2 : Rho → M D} {b1 b2 : Bool} (h1 : HV W fr Γ m1 (.bl b1)) (h2 : HV W fr Γ m2 (.bl b2)) : HV W fr Γ (mAndV m1 m2) (.bl (b1 && b2)) := fun s ρ st H => by
  unfold mAndV
  rw [h1 s ρ st H, Out.bind_ok]
  cases b1
  · rfl
  · exact h2 s ρ st H
theorem hv_notV {m : Rho → M D} {d : D} {b : Bool} (h : HV W fr Γ m d) (hb : ∀ st, d.truth st = some b) : HV W fr Γ (mNotV m) (.bl (!b)) := fun s ρ st H => by
  unfold mNotV
  rw [h s ρ st H, Out.bind_ok, hb st, lift_some, Out.bind_ok]
theorem hv_chain {p p' : Sto → D → D → Option D} {m1 m2 m3 : Rho → M D} {d1 d2 d3 : D} {b b' : Bool} (h1 : HV W fr Γ m1 d1) (h2 : HV W fr Γ m2 d2) (h3 : HV W fr Γ m3 d3) (hp : ∀ st, p st d1 d2 = some (.bl b)) (hp' : ∀ st, p' st d2 d3 = some (.bl b')) : HV W fr Γ (mChain p p' m1 m2 m3) (.bl (b && b')) := fun s ρ st H => by
  unfold mChain
  rw [h1 s ρ st H, Out.bind_ok, h2 s ρ st H, Out.bind_ok, hp st]
  cases b
  · rfl
  · dsimp only
    rw [h3 s ρ st H, Out.bind_ok, hp' st]
    rfl
theorem hv_oNone : HV W fr Γ oNone none := fun _ _ _ _ => rfl
theorem hv_oSome {m : Rho → M D} {i : Int} (h : HV W fr Γ m (.int i)) : HV W fr Γ (oSome m) (some i) := fun s ρ st H => by
  unfold oSome
  rw [h s ρ st H, Out.bind_ok]
end
end Dn
namespace Dn
open PySem PySem.Spec PyProof.Rows L2
inductive Lp (σ β : Type) where
  | nx (z : σ) | bk (z : σ) | rt (b : β)
section
variable {S α β σ τ : Type}
def forU (body : α → σ → Mt S σ) : List α → σ → Mt S σ
  | [], z => mpure z
  | x :: xs, z => mbind (body x z) fun z' => forU body xs z'
def forX (body : α → σ → Mt S (Lp σ β)) : List α → σ → Mt S (σ ⊕ β)
  | [], z => mpure (.inl z)
  | x :: xs, z => mbind (body x z) fun r => match r with
    | .nx z' => forX body xs z'
    | .bk z' => mpure (.inl z')
    | .rt b => mpure (.inr b)
def mfin (q : Mt S (σ ⊕ β)) (k : σ → Mt S β) : Mt S β := mbind q fun r => match r with
  | .inl z => k z
  | .inr b => mpure b
def mfinL (q : Mt S (σ ⊕ β)) (k : σ → Mt S (Lp τ β)) : Mt S (Lp τ β) := mbind q fun r => match r with
  | .inl z => k z
  | .inr b => mpure (.rt b)
end
section
variable {S : Type} (W : Wd S) (fr : Sto)
def NR {σ : Type} (J : σ → List Sl) (r : Fl) (q : Rs S σ) : Prop := match q with
  | .ok z s' => ∃ ρ' st', r = .next ρ' st' ∧ Has W fr s' (J z) ρ' st'
  | .exc x s' => ∃ ρ' st', r = .exc x ρ' st' ∧ Pre W fr s' st' ∧ x.pl
  | .bad => True
  | .amb P f => ∃ n, P n ∧ NR J r (f n)
def TN {σ : Type} (Γ : List Sl) (m : Rho → Sto → Fl) (q : Mt S σ) (J : σ → List Sl) : Prop := ∀ s ρ st, Has W fr s Γ ρ st → NR W fr J (m ρ st) (q s)
def RR {β : Type} (enc : β → D) (r : Fl) (q : Rs S β) : Prop := match q with
  | .ok b s' => ∃ st', r = .ret (enc b) st' ∧ Pre W fr s' st'
  | .exc x s' => ∃ ρ' st', r = .exc x ρ' st' ∧ Pre W fr s' st' ∧ x.pl
  | .bad => True
  | .amb P f => ∃ n, P n ∧ RR enc r (f n)
def TR {β : Type} (Γ : List Sl) (m : Rho → Sto → Fl) (q : Mt S β) (enc : β → D) : Prop := ∀ s ρ st, Has W fr s Γ ρ st → RR W fr enc (m ρ st) (q s)
def LR {σ β : Type} (J : σ → List Sl) (enc : β → D) (r : Fl) (q : Rs S (Lp σ β)) : Prop := match q with
  | .ok (.nx z) s' => ∃ ρ' st', (r = .next ρ' st' ∨ r = .cnt ρ' st') ∧ Has W fr s' (J z) ρ' st'
  | .ok (.bk z) s' => ∃ ρ' st', r = .brk ρ' st' ∧ Has W fr s' (J z) ρ' st'
  | .ok (.rt b) s' => ∃ st', r = .ret (enc b) st' ∧ Pre W fr s' st'
  | .exc x s' => ∃ ρ' st', r = .exc x ρ' st' ∧ Pre W fr s' st' ∧ x.pl
  | .bad => True
  | .amb P f => ∃ n, P n ∧ LR J enc r (f n)
def TL {σ β : Type} (Γ : List Sl) (m : Rho → Sto → Fl) (q : Mt S (Lp σ β)) (J : σ → List Sl) (enc : β → D) : Prop := ∀ s ρ st, Has W fr s Γ ρ st → LR W fr J enc (m ρ st) (q s)
def XR {σ β : Type} (J : σ → List Sl) (enc : β → D) (r : Fl) (q : Rs S (Lp σ β)) : Prop := match q with
  | .ok (.nx z) s' => ∃ ρ' st', r = .cnt ρ' st' ∧ Has W fr s' (J z) ρ' st'
  | .ok (.bk z) s' => ∃ ρ' st', r = .brk ρ' st' ∧ Has W fr s' (J z) ρ' st'
  | .ok (.rt b) s' => ∃ st', r = .ret (enc b) st' ∧ Pre W fr s' st'
  | .exc x s' => ∃ ρ' st', r = .exc x ρ' st' ∧ Pre W fr s' st' ∧ x.pl
  | .bad => True
  | .amb P f => ∃ n, P n ∧ XR J enc r (f n)
def TX {σ β : Type} (Γ : List Sl) (m : Rho → Sto → Fl) (q : Mt S (Lp σ β)) (J : σ → List Sl) (enc : β → D) : Prop := ∀ s ρ st, Has W fr s Γ ρ st → XR W fr J enc (m ρ st) (q s)
def FR {σ β : Type} (J : σ → List Sl) (enc : β → D) (r : Fl) (q : Rs S (σ ⊕ β)) : Prop := match q with
  | .ok (.inl z) s' => ∃ ρ' st', r = .next ρ' st' ∧ Has W fr s' (J z) ρ' st'
  | .ok (.inr b) s' => ∃ st', r = .ret (enc b) st' ∧ Pre W fr s' st'
  | .exc x s' => ∃ ρ' st', r = .exc x ρ' st' ∧ Pre W fr s' st' ∧ x.pl
  | .bad => True
  | .amb P f => ∃ n, P n ∧ FR J enc r (f n)
def TF {σ β : Type} (Γ : List Sl) (m : Rho → Sto → Fl) (q : Mt S (σ ⊕ β)) (J : σ → List Sl) (enc : β → D) : Prop := ∀ s ρ st, Has W fr s Γ ρ st → FR W fr J enc (m ρ st) (q s)
def GT1 (Γ : List Sl) (gf : D → Rho → M Rho) (d : D) (Γ' : List Sl) (js : List Nat) : Prop := ∀ s ρ st, Has W fr s Γ ρ st → ∃ ρ', gf d ρ st = .ok ρ' st ∧ Has W fr s Γ' ρ' st ∧ ∀ j, j ∉ js → ρ'[j]? = ρ[j]?
def GTs (Γ : List Sl) (gs : List D → Rho → M Rho) (ds : List D) (Γ' : List Sl) (js : List Nat) : Prop := ∀ s ρ st, Has W fr s Γ ρ st → ∃ ρ', gs ds ρ st = .ok ρ' st ∧ Has W fr s Γ' ρ' st ∧ ∀ j, j ∉ js → ρ'[j]? = ρ[j]?
end
section
variable {S : Type} {W : Wd S} {fr : Sto} {Γ Γ1 Γ2 : List Sl}
theorem gt1_N (i : Nat) (d : D) : GT1 W fr Γ (gN i) d (Γ.set i (.val d)) [i] := fun s ρ st H => ⟨_, rfl, H.setVal i d, fun j hj => by
  rw [List.getElem?_set_ne (fun q => hj (by simp [q]))]⟩
theorem gts_nil : GTs W fr Γ gsNil [] Γ [] := fun s ρ st H => ⟨ρ, rfl, H, fun _ _ => rfl⟩
theorem gts_cons {g : D → Rho → M Rho} {gs : List D → Rho → M Rho} {d : D} {ds : List D} {j1 j2 : List Nat} (h1 : GT1 W fr Γ g d Γ1 j1) (h2 : GTs W fr Γ1 gs ds Γ2 j2) : GTs W fr Γ (gsCons g gs) (d :: ds) Γ2 (j1 ++ j2) := fun s ρ st H => by
  obtain ⟨ρ1, e1, H1, k1⟩ := h1 s ρ st H
  obtain ⟨ρ2, e2, H2, k2⟩ := h2 s ρ1 st H1
  refine ⟨ρ2, ?_, H2, fun j hj => ?_⟩
  · show (g d ρ st).bind (fun r s1 => gs ds r s1) = _
    rw [e1]
    exact e2
  · rw [k2 j fun q => hj (List.mem_append_right _ q), k1 j fun q => hj (List.mem_append_left _ q)]
theorem gt1_T {n : Nat} {gs : List D → Rho → M Rho} {ds : List D} {js : List Nat} (h : GTs W fr Γ gs ds Γ1 js) (hn : ds.length = n) : GT1 W fr Γ (gT n gs) (.tup ds) Γ1 js := fun s ρ st H => by
  have e : gT n gs (.tup ds) ρ st = gs ds ρ st := by
    show (if ds.length = n then gs ds ρ st else .bad) = _
    rw [if_pos hn]
  rw [e]
  exact h s ρ st H
theorem gt1_L {n : Nat} {gs : List D → Rho → M Rho} {ds : List D} {js : List Nat} (h : GTs W fr Γ gs ds Γ1 js) (hn : ds.length = n) : GT1 W fr Γ (gL n gs) (.lst ds) Γ1 js := fun s ρ st H => by
  have e : gL n gs (.lst ds) ρ st = gs ds ρ st := by
    show (if ds.length = n then gs ds ρ st else .bad) = _
    rw [if_pos hn]
  rw [e]
  exact h s ρ st H
theorem OR.fl {A β σ : Type} {Γ' : β → List Sl} {J : σ → List Sl} {ρ : Rho} {e : β → A} {r : Out A} {q : Rs S β} {f : A → Sto → Fl} {k : β → Mt S σ} (h : OR W fr Γ' ρ e r q)
    (hk : ∀ b s st, Has W fr s (Γ' b) ρ st → NR W fr J (f (e b) st) (k b s)) : NR W fr J (r.fl ρ f) (rbind q k) := by
  induction q with
  | ok b s =>
    obtain ⟨st', rfl, h2⟩ := h
    exact hk b s st' h2
  | exc x s =>
    obtain ⟨st', rfl, h2, h3⟩ := h
    exact ⟨ρ, st', rfl, h2, h3⟩
  | bad => trivial
  | amb P_ f_ ih_ => obtain ⟨n_, p_, h⟩ := h; exact ⟨n_, p_, ih_ n_ h⟩
theorem tn_map {σ τ : Type} {m : Rho → Sto → Fl} {q : Mt S σ} {J : σ → List Sl} {J' : τ → List Sl} {f : σ → τ} (h : TN W fr Γ m q J) (w : ∀ z, Wk (J z) (J' (f z))) : TN W fr Γ m (mbind q fun z => mpure (f z)) J' := fun s ρ st H => by
  have := h s ρ st H
  revert this
  show NR W fr J _ _ → NR W fr J' _ (rbind (q s) _)
  induction (q s) with
  | ok z s' => rintro ⟨ρ', st', e, h2⟩; exact ⟨ρ', st', e, h2.wk (w z)⟩
  | exc x s' => exact id
  | bad => exact id
  | amb P_ f_ ih_ => rintro ⟨n_, p_, h_⟩; exact ⟨n_, p_, ih_ n_ h_⟩
theorem tn_seq {σ τ : Type} {m1 m2 : Rho → Sto → Fl} {q : Mt S σ} {J : σ → List Sl} {k : σ → Mt S τ} {J' : τ → List Sl} (h1 : TN W fr Γ m1 q J) (h2 : ∀ z, TN W fr (J z) m2 (k z) J') : TN W fr Γ (sSeq m1 m2) (mbind q k) J' := fun s ρ st H => by
  have := h1 s ρ st H
  unfold sSeq
  revert this
  show NR W fr J _ _ → NR W fr J' _ (rbind (q s) _)
  induction (q s) with
  | ok z s' => rintro ⟨ρ', st', e, h3⟩; rw [e]; exact h2 z s' ρ' st' h3
  | exc x s' => rintro ⟨ρ', st', e, h3⟩; rw [e]; exact ⟨ρ', st', rfl, h3⟩
  | bad => intro _; trivial
  | amb P_ f_ ih_ => rintro ⟨n_, p_, h_⟩; exact ⟨n_, p_, ih_ n_ h_⟩
theorem tn_asg {β : Type} {i : Nat} {m : Rho → M D} {q : Mt S β} {enc : β → D} {Γ' : β → List Sl} (h : HT W fr Γ m q enc Γ') : TN W fr Γ (sAsg (gN i) m) q fun x => (Γ' x).set i (.val (enc x)) := fun s ρ st H => by
  have := OR.fl (J := fun x => (Γ' x).set i (.val (enc x))) (f := fun d st1 => (nox (gN i d ρ st1)).fl ρ fun ρ2 st2 => .next ρ2 st2) (k := mpure) (h s ρ st H) fun b s1 st1 H1 => ⟨_, st1, rfl, H1.setVal i (enc b)⟩
  have e : rbind (q s) mpure = q s := congrFun (mbind_ret q) s
  rw [e] at this
  exact this
theorem tn_asgG {β : Type} {gf : D → Rho → M Rho} {m : Rho → M D} {q : Mt S β} {enc : β → D} {Γ' J : β → List Sl} {js : List Nat} (h : HT W fr Γ m q enc Γ') (hg : ∀ x, GT1 W fr (Γ' x) gf (enc x) (J x) js) : TN W fr Γ (sAsg gf m) q J := fun s ρ st H => by
  have := OR.fl (J := J) (f := fun d st1 => (nox (gf d ρ st1)).fl ρ fun ρ2 st2 => .next ρ2 st2) (k := mpure) (h s ρ st H) fun b s1 st1 H1 => by
    obtain ⟨ρ', e, H2, _⟩ := hg b s1 ρ st1 H1
    rw [e]
    exact ⟨ρ', st1, rfl, H2⟩
  have e : rbind (q s) mpure = q s := congrFun (mbind_ret q) s
  rw [e] at this
  exact this
theorem tn_drop {β : Type} {m : Rho → M D} {q : Mt S β} {enc : β → D} {Γ' : β → List Sl} (h : HT W fr Γ m q enc Γ') : TN W fr Γ (sDrop m) q Γ' := fun s ρ st H => by
  have := OR.fl (J := Γ') (f := fun _ st1 => .next ρ st1) (k := mpure) (h s ρ st H) fun b s1 st1 H1 => ⟨_, st1, rfl, H1⟩
  have e : rbind (q s) mpure = q s := congrFun (mbind_ret q) s
  rw [e] at this
  exact this
theorem tn_if {σ : Type} {t : Rho → M Bool} {a b : Rho → Sto → Fl} {qt : Mt S Bool} {qa qb : Mt S σ} {J : σ → List Sl} {Γ' : Bool → List Sl} (ht : HT W fr Γ t qt id Γ') (ha : TN W fr (Γ' true) a qa J) (hb : TN W fr (Γ' false) b qb J) : TN W fr Γ (sIf t a b) (mbind qt fun c => if c = true then qa else qb) J := fun s ρ st H => by
  refine OR.fl (f := fun c st1 => if c = true then a ρ st1 else b ρ st1) (ht s ρ st H) fun c s1 st1 H1 => ?_
  cases c
  · exact hb s1 ρ st1 H1
  · exact ha s1 ρ st1 H1
def AP {σ : Type} (W : Wd S) (fr : Sto) (Γ : List Sl) (pd : List (D × Sl)) (a : Rho → M (List D)) (F : Rho → List D → Sto → Fl) (q : Mt S σ) (J : σ → List Sl) : Prop := ∀ s ρ st, Has W fr s (Γ ++ pd.map (·.2)) (ρ ++ pd.map fun p => some p.1) st → ρ.length = Γ.length → NR W fr J ((a ρ st).fl ρ (F ρ)) (q s)
theorem Has.front {s : S} {Γ Γ' : List Sl} {ρ ρ' : Rho} {st : Sto} (h : Has W fr s (Γ ++ Γ') (ρ ++ ρ') st) (hl : ρ.length = Γ.length) : Has W fr s Γ ρ st := by
  have g : ∀ (i : Nat) a, Γ[i]? = some a → (Γ ++ Γ')[i]? = some a ∧ (ρ ++ ρ')[i]? = ρ[i]? := fun i a e => by
    have hi := (List.getElem?_eq_some_iff.mp e).1
    exact ⟨by rw [List.getElem?_append_left hi]; exact e, by rw [List.getElem?_append_left (by omega)]⟩
  refine ⟨hl, h.pre, fun i d e => ?_, fun i m e => ?_, fun i j m1 m2 e1 e2 e3 => ?_, fun i m e => ?_⟩
  · rw [← (g i _ e).2]; exact h.val i d (g i _ e).1
  · rw [← (g i _ e).2]; exact h.mt i m (g i _ e).1
  · exact h.nal i j m1 m2 (g i _ e1).1 (g j _ e2).1 (by rw [(g i _ e1).2, (g j _ e2).2]; exact e3)
  · rw [← (g i _ e).2]; exact h.bo i m (g i _ e).1
theorem Has.snocVal {s : S} {Γ : List Sl} {ρ : Rho} {st : Sto} (h : Has W fr s Γ ρ st) (d : D) : Has W fr s (Γ ++ [.val d]) (ρ ++ [some d]) st := by
  have h2 : Has W fr s (Γ ++ [Sl.any]) (ρ ++ [some d]) st := by
    have g : ∀ (i : Nat) a, (Γ ++ [Sl.any])[i]? = some a → a ≠ .any → Γ[i]? = some a ∧ (ρ ++ [some d])[i]? = ρ[i]? := fun i a e n => by
      by_cases hi : i < Γ.length
      · rw [List.getElem?_append_left hi] at e
        exact ⟨e, by rw [List.getElem?_append_left (by rw [h.len]; exact hi)]⟩
      · rw [List.getElem?_append_right (by omega)] at e
        have := List.mem_of_getElem? e
        exact absurd (by simpa using this) n
    refine ⟨by simp [h.len], h.pre, fun i d e => ?_, fun i m e => ?_, fun i j m1 m2 e1 e2 e3 => ?_, fun i m e => ?_⟩
    · rw [(g i _ e (by simp)).2]; exact h.val i d (g i _ e (by simp)).1
    · rw [(g i _ e (by simp)).2]; exact h.mt i m (g i _ e (by simp)).1
    · exact h.nal i j m1 m2 (g i _ e1 (by simp)).1 (g j _ e2 (by simp)).1 (by rw [← (g i _ e1 (by simp)).2, ← (g j _ e2 (by simp)).2]; exact e3)
    · rw [(g i _ e (by simp)).2]; exact h.bo i m (g i _ e (by simp)).1
  have := h2.setVal Γ.length d
  rw [List.set_append_right _ _ (Nat.le_refl _), List.set_append_right _ _ (by rw [h.len]; exact Nat.le_refl _), h.len, Nat.sub_self] at this
  exact this
theorem Has.snocNew {s : S} {Γ : List Sl} {ρ : Rho} {st : Sto} (h : Has W fr s Γ ρ st) (m : MO) (hm : m.isIns = false := by rfl) : Has W fr s (Γ ++ [.mut m]) (ρ ++ [some (.ref st.length)]) (st ++ [m]) := by
  have := (h.snocVal .non).setNew Γ.length m hm
  rw [List.set_append_right _ _ (Nat.le_refl _), List.set_append_right _ _ (by rw [h.len]; exact Nat.le_refl _), h.len, Nat.sub_self] at this
  exact this
theorem ap_T {σ γ : Type} {m : Rho → M D} {r : Rho → M (List D)} {F : Rho → List D → Sto → Fl} {q1 : Mt S γ} {e1 : γ → D} {Γ1 : γ → List Sl} {k : γ → Mt S σ} {J : σ → List Sl} (h : HT W fr Γ m q1 e1 Γ1)
    (hl : ∀ x, (Γ1 x).length = Γ.length) (hr : ∀ x, AP W fr (Γ1 x) [(e1 x, .val (e1 x))] r (fun ρ ds => F ρ (e1 x :: ds)) (k x) J) : AP W fr Γ [] (mCons m r) F (mbind q1 k) J := fun s ρ st H hρ => by
  rw [List.map_nil, List.map_nil, List.append_nil, List.append_nil] at H
  have e : (mCons m r ρ st).fl ρ (F ρ) = (m ρ st).fl ρ fun d st1 => (r ρ st1).fl ρ fun ds st2 => F ρ (d :: ds) st2 := by
    unfold mCons
    cases m ρ st with
    | ok d st1 => simp only [Out.bind_ok, Out.fl_ok]; cases r ρ st1 <;> rfl
    | exc _ _ => rfl
    | bad => rfl
  rw [e]
  exact OR.fl (h s ρ st H) fun b s1 st1 H1 => hr b s1 ρ st1 (H1.snocVal _) (by rw [hl]; exact hρ)
theorem ap_New {σ : Type} {pd : List (D × Sl)} {l : Rho → M (List D)} {r : Rho → M (List D)} {F : Rho → List D → Sto → Fl} {xs : List D} {q : Mt S σ} {J : σ → List Sl} (h : HV W fr Γ l xs)
    (hr : ∀ a, AP W fr Γ (pd ++ [(.ref a, .mut (.lst xs))]) r (fun ρ ds => F ρ (.ref a :: ds)) q J) : AP W fr Γ pd (mCons (mNew l) r) F q J := fun s ρ st H hρ => by
  have e : (mCons (mNew l) r ρ st).fl ρ (F ρ) = (r ρ (st ++ [.lst xs])).fl ρ fun ds st2 => F ρ (.ref st.length :: ds) st2 := by
    unfold mCons mNew
    rw [h s ρ st (H.front hρ), Out.bind_ok, Out.bind_ok]
    cases r ρ (st ++ [.lst xs]) <;> rfl
  rw [e]
  refine hr st.length s ρ _ ?_ hρ
  have := H.snocNew (.lst xs)
  rw [List.append_assoc, List.append_assoc] at this
  rw [List.map_append, List.map_append]
  exact this
theorem Has.put {s : S} {Γ : List Sl} {ρ : Rho} {st : Sto} {d : D} {a : Sl} {Γ' : List Sl} {ρ' : Rho} (h : Has W fr s (Γ ++ a :: Γ') (ρ ++ some d :: ρ') st) (hl : ρ.length = Γ.length) (i : Nat) (hi : i < Γ.length) : Has W fr s (Γ.set i a ++ Γ') (ρ.set i (some d) ++ ρ') st := by
  have hll : ρ'.length = Γ'.length := by have := h.len; simp at this; omega
  -- where slot j of the new slots stood
  let f : Nat → Nat := fun j => if j = i then Γ.length else if j < Γ.length then j else j + 1
  have key : ∀ (j : Nat) b, (Γ.set i a ++ Γ')[j]? = some b → (Γ ++ a :: Γ')[f j]? = some b ∧ (ρ.set i (some d) ++ ρ')[j]? = (ρ ++ some d :: ρ')[f j]? := fun j b e => by
    by_cases h1 : j = i
    · subst h1
      have ef : f j = Γ.length := if_pos rfl
      rw [ef]
      rw [List.getElem?_append_left (by simpa using hi), List.getElem?_set_self hi] at e
      rw [List.getElem?_append_right (Nat.le_refl _), Nat.sub_self, List.getElem?_append_left (by simpa [hl] using hi), List.getElem?_set_self (by omega), List.getElem?_append_right (by omega), hl, Nat.sub_self]
      exact ⟨by simpa using e, rfl⟩
    · by_cases h2 : j < Γ.length
      · have ef : f j = j := by simp only [f]; rw [if_neg h1, if_pos h2]
        rw [ef]
        rw [List.getElem?_append_left (by simpa using h2), List.getElem?_set_ne (Ne.symm h1)] at e
        rw [List.getElem?_append_left h2, List.getElem?_append_left (by simpa [hl] using h2), List.getElem?_set_ne (Ne.symm h1), List.getElem?_append_left (by omega)]
        exact ⟨e, rfl⟩
      · have ef : f j = j + 1 := by simp only [f]; rw [if_neg h1, if_neg h2]
        rw [ef]
        have e' := e
        rw [List.getElem?_append_right (by simp; omega), List.length_set] at e
        rw [List.getElem?_append_right (by omega), List.getElem?_append_right (by simp [hl]; omega), List.getElem?_append_right (by omega), List.length_set, hl]
        have e1 : j + 1 - Γ.length = (j - Γ.length) + 1 := by omega
        rw [e1, List.getElem?_cons_succ, List.getElem?_cons_succ]
        exact ⟨e, rfl⟩
  have fi : ∀ j k, f j = f k → j = k := fun j k e => by
    simp only [f] at e
    split at e <;> split at e <;> (try split at e) <;> (try split at e) <;> omega
  refine ⟨by simp [hl, hll], h.pre, fun j d' e => ?_, fun j m e => ?_, fun j k m1 m2 e1 e2 e3 => ?_, fun j m e => ?_⟩
  · obtain ⟨q1, q2⟩ := key j _ e
    rw [q2]; exact h.val _ _ q1
  · obtain ⟨q1, q2⟩ := key j _ e
    rw [q2]; exact h.mt _ _ q1
  · obtain ⟨q1, q2⟩ := key j _ e1
    obtain ⟨q3, q4⟩ := key k _ e2
    exact fi j k (h.nal _ _ m1 m2 q1 q3 (by rw [← q2, ← q4]; exact e3))
  · obtain ⟨q1, q2⟩ := key j _ e
    rw [q2]; exact h.bo _ _ q1
theorem ap_fin {σ : Type} {pd : List (D × Sl)} {F : Rho → List D → Sto → Fl} {z : σ} {J : σ → List Sl} (h : ∀ s ρ st, Has W fr s (Γ ++ pd.map (·.2)) (ρ ++ pd.map fun p => some p.1) st → ρ.length = Γ.length → ∃ ρ', F ρ [] st = .next ρ' st ∧ Has W fr s (J z) ρ' st) : AP W fr Γ pd mNil F (mpure z) J := fun s ρ st H hρ => by
  obtain ⟨ρ', e, h2⟩ := h s ρ st H hρ
  exact ⟨ρ', st, e, h2⟩
def FPar (i j : Nat) : Rho → List D → Sto → Fl := fun ρ ds st1 => match ds with
  | [x, y] => .next ((ρ.set i (some x)).set j (some y)) st1
  | _ => .bad
def FPar3 (i j l : Nat) : Rho → List D → Sto → Fl := fun ρ ds st1 => match ds with
  | [x, y, z] => .next (((ρ.set i (some x)).set j (some y)).set l (some z)) st1
  | _ => .bad
theorem tn_par {σ : Type} {i j : Nat} {a : Rho → M (List D)} {q : Mt S σ} {J : σ → List Sl} (h : AP W fr Γ [] a (FPar i j) q J) : TN W fr Γ (sPar i j a) q J := fun s ρ st H => h s ρ st (by simpa using H) H.len
theorem tn_tup2 {σ : Type} {i j : Nat} {a : Rho → M (List D)} {q : Mt S σ} {J : σ → List Sl} (h : AP W fr Γ [] a (FPar i j) q J) : TN W fr Γ (sAsg (gT 2 (gsCons (gN i) (gsCons (gN j) gsNil))) (mTup a)) q J := fun s ρ st H => by
  have e : sAsg (gT 2 (gsCons (gN i) (gsCons (gN j) gsNil))) (mTup a) ρ st = (a ρ st).fl ρ (FPar i j ρ) := by
    unfold sAsg mTup
    cases a ρ st with
    | exc _ _ => rfl
    | bad => rfl
    | ok ds st1 =>
      match ds with
      | [] => rfl
      | [_] => rfl
      | [_, _] => rfl
      | _ :: _ :: _ :: r =>
        simp only [Out.bind_ok, Out.fl_ok]
        split
        · rfl
        · rfl
  rw [e]
  exact h s ρ st (by simpa using H) H.len
theorem tn_tup3 {σ : Type} {i j l : Nat} {a : Rho → M (List D)} {q : Mt S σ} {J : σ → List Sl} (h : AP W fr Γ [] a (FPar3 i j l) q J) : TN W fr Γ (sAsg (gT 3 (gsCons (gN i) (gsCons (gN j) (gsCons (gN l) gsNil)))) (mTup a)) q J := fun s ρ st H => by
  have e : sAsg (gT 3 (gsCons (gN i) (gsCons (gN j) (gsCons (gN l) gsNil)))) (mTup a) ρ st = (a ρ st).fl ρ (FPar3 i j l ρ) := by
    unfold sAsg mTup
    cases a ρ st with
    | exc _ _ => rfl
    | bad => rfl
    | ok ds st1 =>
      match ds with
      | [] => rfl
      | [_] => rfl
      | [_, _] => rfl
      | [_, _, _] => rfl
      | _ :: _ :: _ :: _ :: r =>
        simp only [Out.bind_ok, Out.fl_ok]
        split
        · rfl
        · rfl
  rw [e]
  exact h s ρ st (by simpa using H) H.len
theorem ap_two {i j : Nat} {d1 d2 : D} {a1 a2 : Sl} (hi : i < Γ.length) (hj : j < Γ.length) {σ : Type} {z : σ} {J : σ → List Sl} (hJ : J z = (Γ.set i a1).set j a2 := by rfl) : AP W fr Γ [(d1, a1), (d2, a2)] mNil (fun ρ ds => FPar i j ρ (d1 :: d2 :: ds)) (mpure z) J := ap_fin fun s ρ st H hρ => by
  have h1 : Has W fr s (Γ.set i a1 ++ [a2]) (ρ.set i (some d1) ++ [some d2]) st := Has.put (Γ' := [a2]) (ρ' := [some d2]) H hρ i hi
  have h2 := Has.put (Γ' := []) (ρ' := []) h1 (by simp [hρ]) j (by simpa using hj)
  rw [List.append_nil, List.append_nil] at h2
  exact ⟨_, rfl, by rw [hJ]; exact h2⟩
theorem ap_three {i j l : Nat} {d1 d2 d3 : D} {a1 a2 a3 : Sl} (hi : i < Γ.length) (hj : j < Γ.length) (hk : l < Γ.length) {σ : Type} {z : σ} {J : σ → List Sl} (hJ : J z = ((Γ.set i a1).set j a2).set l a3 := by rfl) : AP W fr Γ [(d1, a1), (d2, a2), (d3, a3)] mNil (fun ρ ds => FPar3 i j l ρ (d1 :: d2 :: d3 :: ds)) (mpure z) J := ap_fin fun s ρ st H hρ => by
  have h1 : Has W fr s (Γ.set i a1 ++ [a2, a3]) (ρ.set i (some d1) ++ [some d2, some d3]) st := Has.put (Γ' := [a2, a3]) (ρ' := [some d2, some d3]) H hρ i hi
  have h2 : Has W fr s ((Γ.set i a1).set j a2 ++ [a3]) ((ρ.set i (some d1)).set j (some d2) ++ [some d3]) st := Has.put (Γ' := [a3]) (ρ' := [some d3]) h1 (by simp [hρ]) j (by simpa using hj)
  have h3 := Has.put (Γ' := []) (ρ' := []) h2 (by simp [hρ]) l (by simpa using hk)
  rw [List.append_nil, List.append_nil] at h3
  exact ⟨_, rfl, by rw [hJ]; exact h3⟩
end
end Dn
namespace Dn
open PySem PySem.Spec PyProof.Rows L2
section
variable {S : Type} {W : Wd S} {fr : Sto} {Γ Γ1 Γ2 : List Sl}
section
variable {β : Type} {enc : β → D}
theorem tr_ret {m : Rho → M D} {q : Mt S β} {Γ' : β → List Sl} (h : HT W fr Γ m q enc Γ') : TR W fr Γ (sRet m) q enc := fun s ρ st H => by
  have := h s ρ st H
  unfold sRet
  revert this
  show OR W fr Γ' ρ enc _ _ → RR W fr enc _ _
  induction (q s) with
  | ok b s' => rintro ⟨st', e, h2⟩; exact ⟨st', by rw [e]; rfl, h2.pre⟩
  | exc x s' => rintro ⟨st', e, h2⟩; exact ⟨ρ, st', by rw [e]; rfl, h2⟩
  | bad => intro _; trivial
  | amb P_ f_ ih_ => rintro ⟨n_, p_, h_⟩; exact ⟨n_, p_, ih_ n_ h_⟩
theorem tr_seqN {σ : Type} {m1 m2 : Rho → Sto → Fl} {q : Mt S σ} {J : σ → List Sl} {k : σ → Mt S β} (h1 : TN W fr Γ m1 q J) (h2 : ∀ z, TR W fr (J z) m2 (k z) enc) : TR W fr Γ (sSeq m1 m2) (mbind q k) enc := fun s ρ st H => by
  have := h1 s ρ st H
  unfold sSeq
  revert this
  show NR W fr J _ _ → RR W fr enc _ (rbind (q s) _)
  induction (q s) with
  | ok z s' => rintro ⟨ρ', st', e, h3⟩; rw [e]; exact h2 z s' ρ' st' h3
  | exc x s' => rintro ⟨ρ', st', e, h3⟩; rw [e]; exact ⟨ρ', st', rfl, h3⟩
  | bad => intro _; trivial
  | amb P_ f_ ih_ => rintro ⟨n_, p_, h_⟩; exact ⟨n_, p_, ih_ n_ h_⟩
theorem OR.flR {A γ : Type} {Γ' : γ → List Sl} {ρ : Rho} {e : γ → A} {r : Out A} {q : Rs S γ} {f : A → Sto → Fl} {k : γ → Mt S β} (h : OR W fr Γ' ρ e r q)
    (hk : ∀ b s st, Has W fr s (Γ' b) ρ st → RR W fr enc (f (e b) st) (k b s)) : RR W fr enc (r.fl ρ f) (rbind q k) := by
  induction q with
  | ok b s =>
    obtain ⟨st', rfl, h2⟩ := h
    exact hk b s st' h2
  | exc x s =>
    obtain ⟨st', rfl, h2, h3⟩ := h
    exact ⟨ρ, st', rfl, h2, h3⟩
  | bad => trivial
  | amb P_ f_ ih_ => obtain ⟨n_, p_, h⟩ := h; exact ⟨n_, p_, ih_ n_ h⟩
theorem tr_if {t : Rho → M Bool} {a b : Rho → Sto → Fl} {qt : Mt S Bool} {qa qb : Mt S β} {Γ' : Bool → List Sl} (ht : HT W fr Γ t qt id Γ') (ha : TR W fr (Γ' true) a qa enc) (hb : TR W fr (Γ' false) b qb enc) : TR W fr Γ (sIf t a b) (mbind qt fun c => if c = true then qa else qb) enc := fun s ρ st H => by
  refine OR.flR (f := fun c st1 => if c = true then a ρ st1 else b ρ st1) (ht s ρ st H) fun c s1 st1 H1 => ?_
  cases c
  · exact hb s1 ρ st1 H1
  · exact ha s1 ρ st1 H1
theorem seq_if (t : Rho → M Bool) (a b c : Rho → Sto → Fl) : sSeq (sIf t a b) c = sIf t (sSeq a c) (sSeq b c) := by
  funext ρ st
  unfold sSeq sIf
  cases t ρ st with
  | ok k st1 => cases k <;> rfl
  | exc _ _ => rfl
  | bad => rfl
theorem seq_seq (a b c : Rho → Sto → Fl) : sSeq (sSeq a b) c = sSeq a (sSeq b c) := by
  funext ρ st
  show ((a ρ st).seq b).seq c = (a ρ st).seq fun ρ st => (b ρ st).seq c
  cases a ρ st <;> rfl
theorem tr_ifseq {t : Rho → M Bool} {a b c : Rho → Sto → Fl} {qt : Mt S Bool} {qa qb : Mt S β} {Γ' : Bool → List Sl} (ht : HT W fr Γ t qt id Γ') (ha : TR W fr (Γ' true) (sSeq a c) qa enc) (hb : TR W fr (Γ' false) (sSeq b c) qb enc) : TR W fr Γ (sSeq (sIf t a b) c) (mbind qt fun c => if c = true then qa else qb) enc := by
  rw [seq_if]
  exact tr_if ht ha hb
theorem tr_seqR {a c : Rho → Sto → Fl} {q : Mt S β} (h : TR W fr Γ a q enc) : TR W fr Γ (sSeq a c) q enc := fun s ρ st H => by
  have := h s ρ st H
  unfold sSeq
  revert this
  induction (q s) with
  | ok b s' => rintro ⟨st', e, h2⟩; exact ⟨st', by rw [e]; rfl, h2⟩
  | exc x s' => rintro ⟨ρ', st', e, h2⟩; exact ⟨ρ', st', by rw [e]; rfl, h2⟩
  | bad => intro _; trivial
  | amb P_ f_ ih_ => rintro ⟨n_, p_, h_⟩; exact ⟨n_, p_, ih_ n_ h_⟩
theorem tr_seqF {σ : Type} {m1 m2 : Rho → Sto → Fl} {q : Mt S (σ ⊕ β)} {J : σ → List Sl} {k : σ → Mt S β} (h1 : TF W fr Γ m1 q J enc) (h2 : ∀ z, TR W fr (J z) m2 (k z) enc) : TR W fr Γ (sSeq m1 m2) (mfin q k) enc := fun s ρ st H => by
  have := h1 s ρ st H
  unfold sSeq mfin
  revert this
  show FR W fr J enc _ _ → RR W fr enc _ (rbind (q s) _)
  induction (q s) with
  | ok z s' =>
    cases z with
    | inl z => rintro ⟨ρ', st', e, h3⟩; rw [e]; exact h2 z s' ρ' st' h3
    | inr b => rintro ⟨st', e, h3⟩; rw [e]; exact ⟨st', rfl, h3⟩
  | exc x s' => rintro ⟨ρ', st', e, h3⟩; rw [e]; exact ⟨ρ', st', rfl, h3⟩
  | bad => intro _; trivial
  | amb P_ f_ ih_ => rintro ⟨n_, p_, h_⟩; exact ⟨n_, p_, ih_ n_ h_⟩
end
section
variable {σ β : Type} {enc : β → D} {J : σ → List Sl}
theorem tl_ofX {m : Rho → Sto → Fl} {q : Mt S (Lp σ β)} (h : TX W fr Γ m q J enc) : TL W fr Γ m q J enc := fun s ρ st H => by
  have := h s ρ st H
  revert this
  induction (q s) with
  | ok r s' =>
    cases r with
    | nx z => rintro ⟨ρ', st', e, h2⟩; exact ⟨ρ', st', .inr e, h2⟩
    | bk z => exact id
    | rt b => exact id
  | exc x s' => exact id
  | bad => exact id
  | amb P_ f_ ih_ => rintro ⟨n_, p_, h_⟩; exact ⟨n_, p_, ih_ n_ h_⟩
theorem tl_next {z : σ} (w : Wk Γ (J z)) : TL W fr Γ sNext (mpure (.nx z)) J enc := fun s ρ st H => ⟨ρ, st, .inl rfl, H.wk w⟩
theorem tx_ofR {m : Rho → Sto → Fl} {q : Mt S β} (h : TR W fr Γ m q enc) : TX W fr Γ m (mbind q fun b => mpure (.rt b)) J enc := fun s ρ st H => by
  have := h s ρ st H
  revert this
  show RR W fr enc _ _ → XR W fr J enc _ (rbind (q s) _)
  induction (q s) with
  | ok z s' => exact id
  | exc x s' => exact id
  | bad => exact id
  | amb P_ f_ ih_ => rintro ⟨n_, p_, h_⟩; exact ⟨n_, p_, ih_ n_ h_⟩
theorem OR.flG {A γ : Type} {Γ' : γ → List Sl} {ρ : Rho} {e : γ → A} {r : Out A} {q : Rs S γ} {f : A → Sto → Fl} {δ : Type} {k : γ → Mt S δ} {P : Fl → Rs S δ → Prop} (h : OR W fr Γ' ρ e r q)
    (he : ∀ x s st, Pre W fr s st → x.pl → P (.exc x ρ st) (.exc x s)) (hb : ∀ r, P r .bad) (hk : ∀ b s st, Has W fr s (Γ' b) ρ st → P (f (e b) st) (k b s)) (ha : ∀ r (Pn : Nat → Prop) g n, Pn n → P r (g n) → P r (.amb Pn g) := by exact fun _ _ _ n p h => ⟨n, p, h⟩) : P (r.fl ρ f) (rbind q k) := by
  induction q with
  | ok b s =>
    obtain ⟨st', rfl, h2⟩ := h
    exact hk b s st' h2
  | exc x s =>
    obtain ⟨st', rfl, h2, h3⟩ := h
    exact he x s st' h2 h3
  | bad => exact hb _
  | amb P_ f_ ih_ => obtain ⟨n_, p_, h⟩ := h; exact ha _ _ _ n_ p_ (ih_ n_ h)
theorem tx_seqX {a c : Rho → Sto → Fl} {q : Mt S (Lp σ β)} (h : TX W fr Γ a q J enc) : TX W fr Γ (sSeq a c) q J enc := fun s ρ st H => by
  have := h s ρ st H
  unfold sSeq
  revert this
  induction (q s) with
  | ok r s' =>
    cases r with
    | nx z => rintro ⟨ρ', st', e, h2⟩; exact ⟨ρ', st', by rw [e]; rfl, h2⟩
    | bk z => rintro ⟨ρ', st', e, h2⟩; exact ⟨ρ', st', by rw [e]; rfl, h2⟩
    | rt b => rintro ⟨st', e, h2⟩; exact ⟨st', by rw [e]; rfl, h2⟩
  | exc x s' => rintro ⟨ρ', st', e, h2⟩; exact ⟨ρ', st', by rw [e]; rfl, h2⟩
  | bad => intro _; trivial
  | amb P_ f_ ih_ => rintro ⟨n_, p_, h_⟩; exact ⟨n_, p_, ih_ n_ h_⟩
theorem tl_seqN {τ : Type} {m1 m2 : Rho → Sto → Fl} {q : Mt S τ} {J1 : τ → List Sl} {k : τ → Mt S (Lp σ β)} (h1 : TN W fr Γ m1 q J1) (h2 : ∀ z, TL W fr (J1 z) m2 (k z) J enc) : TL W fr Γ (sSeq m1 m2) (mbind q k) J enc := fun s ρ st H => by
  have := h1 s ρ st H
  unfold sSeq
  revert this
  show NR W fr J1 _ _ → LR W fr J enc _ (rbind (q s) _)
  induction (q s) with
  | ok z s' => rintro ⟨ρ', st', e, h3⟩; rw [e]; exact h2 z s' ρ' st' h3
  | exc x s' => rintro ⟨ρ', st', e, h3⟩; rw [e]; exact ⟨ρ', st', rfl, h3⟩
  | bad => intro _; trivial
  | amb P_ f_ ih_ => rintro ⟨n_, p_, h_⟩; exact ⟨n_, p_, ih_ n_ h_⟩
theorem tl_if {t : Rho → M Bool} {a b : Rho → Sto → Fl} {qt : Mt S Bool} {qa qb : Mt S (Lp σ β)} {Γ' : Bool → List Sl} (ht : HT W fr Γ t qt id Γ') (ha : TL W fr (Γ' true) a qa J enc) (hb : TL W fr (Γ' false) b qb J enc) : TL W fr Γ (sIf t a b) (mbind qt fun c => if c = true then qa else qb) J enc := fun s ρ st H => by
  refine OR.flG (P := LR W fr J enc) (f := fun c st1 => if c = true then a ρ st1 else b ρ st1) (ht s ρ st H) (fun x s st h1 h2 => ⟨ρ, st, rfl, h1, h2⟩) (fun _ => trivial) fun c s1 st1 H1 => ?_
  cases c
  · exact hb s1 ρ st1 H1
  · exact ha s1 ρ st1 H1
theorem tl_ifseq {t : Rho → M Bool} {a b c : Rho → Sto → Fl} {qt : Mt S Bool} {qa qb : Mt S (Lp σ β)} {Γ' : Bool → List Sl} (ht : HT W fr Γ t qt id Γ') (ha : TL W fr (Γ' true) (sSeq a c) qa J enc) (hb : TL W fr (Γ' false) (sSeq b c) qb J enc) : TL W fr Γ (sSeq (sIf t a b) c) (mbind qt fun c => if c = true then qa else qb) J enc := by
  rw [seq_if]
  exact tl_if ht ha hb
theorem tl_seqX {a c : Rho → Sto → Fl} {q : Mt S (Lp σ β)} (h : TX W fr Γ a q J enc) : TL W fr Γ (sSeq a c) q J enc := tl_ofX (tx_seqX h)
theorem tl_seqA {a b c : Rho → Sto → Fl} {q : Mt S (Lp σ β)} (h : TL W fr Γ (sSeq a (sSeq b c)) q J enc) : TL W fr Γ (sSeq (sSeq a b) c) q J enc := by
  rw [seq_seq]
  exact h
end
def eSrc {α : Type} (e : α → D) (xs : List α) : Src := ⟨xs.map e, []⟩
section
variable {α σ β : Type} {enc : β → D} {e : α → D} {J : σ → List Sl} {gf : D → Rho → M Rho} {mb : Rho → Sto → Fl} {G : α → σ → List Sl} {js : List Nat}
theorem forL_U {held : List (Nat × List D)} {body : α → σ → Mt S σ} (hh : ∀ z s ρ st, Has W fr s (J z) ρ st → heldOk held st) (hg : ∀ x z, GT1 W fr (J z) gf (e x) (G x z) js) (hb : ∀ x z, TN W fr (G x z) mb (body x z) J) :
    ∀ (xs : List α) (z : σ) s ρ st, Has W fr s (J z) ρ st → NR W fr J (forL held (forB gf mb) (xs.map e) ρ st) (forU body xs z s)
  | [], z, s, ρ, st, H => by
    rw [List.map_nil]
    unfold forL
    rw [if_pos (hh z s ρ st H)]
    exact ⟨ρ, st, rfl, H⟩
  | x :: xs, z, s, ρ, st, H => by
    rw [List.map_cons]
    unfold forL
    rw [if_pos (hh z s ρ st H)]
    obtain ⟨ρ1, e1, H1, _⟩ := hg x z s ρ st H
    have h1 := hb x z s ρ1 st H1
    have eb : forB gf mb (e x) ρ st = mb ρ1 st := by unfold forB; rw [e1]; rfl
    rw [eb]
    show NR W fr J _ (rbind (body x z s) _)
    revert h1
    induction (body x z s) with
    | ok z' s' => rintro ⟨ρ', st', e2, h2⟩; rw [e2]; exact forL_U hh hg hb xs z' s' ρ' st' h2
    | exc y s' => rintro ⟨ρ', st', e2, h2⟩; rw [e2]; exact ⟨ρ', st', rfl, h2⟩
    | bad => intro _; trivial
    | amb P_ f_ ih_ => rintro ⟨n_, p_, h_⟩; exact ⟨n_, p_, ih_ n_ h_⟩
theorem forL_X {held : List (Nat × List D)} {body : α → σ → Mt S (Lp σ β)} (hh : ∀ z s ρ st, Has W fr s (J z) ρ st → heldOk held st) (hg : ∀ x z, GT1 W fr (J z) gf (e x) (G x z) js) (hb : ∀ x z, TL W fr (G x z) mb (body x z) J enc) :
    ∀ (xs : List α) (z : σ) s ρ st, Has W fr s (J z) ρ st → FR W fr J enc (forL held (forB gf mb) (xs.map e) ρ st) (forX body xs z s)
  | [], z, s, ρ, st, H => by
    rw [List.map_nil]
    unfold forL
    rw [if_pos (hh z s ρ st H)]
    exact ⟨ρ, st, rfl, H⟩
  | x :: xs, z, s, ρ, st, H => by
    rw [List.map_cons]
    unfold forL
    rw [if_pos (hh z s ρ st H)]
    obtain ⟨ρ1, e1, H1, _⟩ := hg x z s ρ st H
    have h1 := hb x z s ρ1 st H1
    have eb : forB gf mb (e x) ρ st = mb ρ1 st := by unfold forB; rw [e1]; rfl
    rw [eb]
    show FR W fr J enc _ (rbind (body x z s) _)
    revert h1
    induction (body x z s) with
    | ok r s' =>
      cases r with
      | nx z' =>
        rintro ⟨ρ', st', e2, h2⟩
        rcases e2 with e2 | e2
        · rw [e2]; exact forL_X hh hg hb xs z' s' ρ' st' h2
        · rw [e2]; exact forL_X hh hg hb xs z' s' ρ' st' h2
      | bk z' => rintro ⟨ρ', st', e2, h2⟩; rw [e2]; exact ⟨ρ', st', rfl, h2⟩
      | rt b => rintro ⟨st', e2, h2⟩; rw [e2]; exact ⟨st', rfl, h2⟩
    | exc y s' => rintro ⟨ρ', st', e2, h2⟩; rw [e2]; exact ⟨ρ', st', rfl, h2⟩
    | bad => intro _; trivial
    | amb P_ f_ ih_ => rintro ⟨n_, p_, h_⟩; exact ⟨n_, p_, ih_ n_ h_⟩
theorem tn_for {ms : Rho → M Src} {q : Mt S (List α)} {body : α → σ → Mt S σ} {Γ' : List α → List Sl} {z0 : σ} (hs : HT W fr Γ ms q (eSrc e) Γ') (w : ∀ xs, Wk (Γ' xs) (J z0)) (hg : ∀ x z, GT1 W fr (J z) gf (e x) (G x z) js) (hb : ∀ x z, TN W fr (G x z) mb (body x z) J) :
    TN W fr Γ (sFor ms gf mb) (mbind q fun xs => forU body xs z0) J := fun s ρ st H => by
  refine OR.fl (f := fun src st1 => forL src.held (forB gf mb) src.items ρ st1) (hs s ρ st H) fun xs s1 st1 H1 => ?_
  exact forL_U (fun _ _ _ _ _ => (heldOk_nil _).mpr trivial) hg hb xs z0 s1 ρ st1 (H1.wk (w xs))
theorem tf_for {ms : Rho → M Src} {q : Mt S (List α)} {body : α → σ → Mt S (Lp σ β)} {Γ' : List α → List Sl} {z0 : σ} (hs : HT W fr Γ ms q (eSrc e) Γ') (w : ∀ xs, Wk (Γ' xs) (J z0)) (hg : ∀ x z, GT1 W fr (J z) gf (e x) (G x z) js) (hb : ∀ x z, TL W fr (G x z) mb (body x z) J enc) :
    TF W fr Γ (sFor ms gf mb) (mbind q fun xs => forX body xs z0) J enc := fun s ρ st H => by
  refine OR.flG (P := FR W fr J enc) (f := fun src st1 => forL src.held (forB gf mb) src.items ρ st1) (hs s ρ st H) (fun x s st h1 h2 => ⟨ρ, st, rfl, h1, h2⟩) (fun _ => trivial) fun xs s1 st1 H1 => ?_
  exact forL_X (fun _ _ _ _ _ => (heldOk_nil _).mpr trivial) hg hb xs z0 s1 ρ st1 (H1.wk (w xs))
end
theorem Has.fz {s : S} {ρ : Rho} {st : Sto} {i : Nat} {xs : List D} (H : Has W fr s Γ ρ st) (h : Γ[i]? = some (.mut (.lst xs))) : ∃ l, ρ[i]? = some (some (.ref l)) ∧ st[l]? = some (.lst xs) ∧ Has W fr s (Γ.set i (.val (.lst xs))) (ρ.set i (some (.lst xs))) (st.set l .gone) := by
  obtain ⟨l, q1, q2, q3⟩ := H.mt i _ h
  refine ⟨l, q1, q3, ?_⟩
  have := (H.write .gone h q1).setVal i (.lst xs)
  rwa [List.set_set] at this
theorem sFz_eq {ρ : Rho} {st : Sto} {i l : Nat} {xs : List D} {m : Rho → Sto → Fl} (q1 : ρ[i]? = some (some (.ref l))) (q3 : st[l]? = some (.lst xs)) : sFz i m ρ st = m (ρ.set i (some (.lst xs))) (st.set l .gone) := by
  unfold sFz
  rw [q1]
  dsimp only
  rw [q3]
section
variable {σ β : Type} {enc : β → D} {J : σ → List Sl} {i : Nat} {xs : List D} {m : Rho → Sto → Fl}
theorem tr_fz {q : Mt S β} (h : Γ[i]? = some (.mut (.lst xs))) (hm : TR W fr (Γ.set i (.val (.lst xs))) m q enc) : TR W fr Γ (sFz i m) q enc := fun s ρ st H => by
  obtain ⟨l, q1, q2, H1⟩ := H.fz h
  rw [sFz_eq q1 q2]
  exact hm s _ _ H1
end
def wipeG (Γ : List Sl) : List Nat → List Sl
  | [] => Γ
  | v :: vs => (wipeG Γ vs).set v .any
theorem Has.unset {s : S} {Γ : List Sl} {ρ : Rho} {st : Sto} (h : Has W fr s Γ ρ st) (i : Nat) : Has W fr s (Γ.set i .any) (ρ.set i none) st := by
  have g : ∀ (j : Nat) (a : Sl), (Γ.set i .any)[j]? = some a → a ≠ .any → Γ[j]? = some a ∧ (ρ.set i none)[j]? = ρ[j]? := fun j a e n => by
    by_cases hj : i = j
    · subst hj
      have hl : i < Γ.length := by have := (List.getElem?_eq_some_iff.mp e).1; simpa using this
      rw [List.getElem?_set_self hl] at e
      cases e
      exact absurd rfl n
    · rw [List.getElem?_set_ne hj] at e ⊢; exact ⟨e, rfl⟩
  refine ⟨by simp [h.len], h.pre, fun i d e => ?_, fun i m e => ?_, fun i j m1 m2 e1 e2 e3 => ?_, fun i m e => ?_⟩
  · rw [(g i _ e (by simp)).2]; exact h.val i d (g i _ e (by simp)).1
  · rw [(g i _ e (by simp)).2]; exact h.mt i m (g i _ e (by simp)).1
  · exact h.nal i j m1 m2 (g i _ e1 (by simp)).1 (g j _ e2 (by simp)).1 (by rw [← (g i _ e1 (by simp)).2, ← (g j _ e2 (by simp)).2]; exact e3)
  · rw [(g i _ e (by simp)).2]; exact h.bo i m (g i _ e (by simp)).1
theorem Has.wipe {s : S} {Γ : List Sl} {ρ : Rho} {st : Sto} (h : Has W fr s Γ ρ st) : ∀ vs : List Nat, Has W fr s (wipeG Γ vs) (wipeD ρ vs) st
  | [] => h
  | v :: vs => (h.wipe vs).unset v
theorem wipeD_get (ρ : Rho) : ∀ (vs : List Nat) (j : Nat), j ∉ vs → (wipeD ρ vs)[j]? = ρ[j]?
  | [], _, _ => rfl
  | v :: vs, j, h => by
    show ((wipeD ρ vs).set v none)[j]? = _
    rw [List.getElem?_set_ne (fun q => h (by simp [q])), wipeD_get ρ vs j fun q => h (List.mem_cons_of_mem _ q)]
def Kp (js : List Nat) (Γ Γ' : List Sl) : Prop := ∀ (i : Nat) m, Γ[i]? = some (.mut m) → i ∉ js ∧ Γ'[i]? = some (.mut m)
def kpB : List Sl → List Sl → Nat → List Nat → Prop
  | [], _, _, _ => True
  | .mut m :: Γ, Γ', n, js => n ∉ js ∧ Γ'[n]? = some (.mut m) ∧ kpB Γ Γ' (n + 1) js
  | _ :: Γ, Γ', n, js => kpB Γ Γ' (n + 1) js
theorem kpB_get {js : List Nat} {Γ' : List Sl} : ∀ {Γ : List Sl} {n : Nat}, kpB Γ Γ' n js → ∀ (i : Nat) m, Γ[i]? = some (.mut m) → i + n ∉ js ∧ Γ'[i + n]? = some (.mut m)
  | [], _, _, i, m, e => by simp at e
  | .mut m' :: Γ, n, h, 0, m, e => by
    have : m' = m := by simpa using e
    subst this
    rw [Nat.zero_add]
    exact ⟨h.1, h.2.1⟩
  | .any :: Γ, n, h, 0, m, e => by simp at e
  | .val _ :: Γ, n, h, 0, m, e => by simp at e
  | .bor _ :: Γ, n, h, 0, m, e => by simp at e
  | .mut m' :: Γ, n, h, i + 1, m, e => by
    have := kpB_get (Γ := Γ) h.2.2 i m (by simpa using e)
    rwa [show i + (n + 1) = i + 1 + n by omega] at this
  | .any :: Γ, n, h, i + 1, m, e => by
    have := kpB_get (Γ := Γ) h i m (by simpa using e)
    rwa [show i + (n + 1) = i + 1 + n by omega] at this
  | .val _ :: Γ, n, h, i + 1, m, e => by
    have := kpB_get (Γ := Γ) h i m (by simpa using e)
    rwa [show i + (n + 1) = i + 1 + n by omega] at this
  | .bor _ :: Γ, n, h, i + 1, m, e => by
    have := kpB_get (Γ := Γ) h i m (by simpa using e)
    rwa [show i + (n + 1) = i + 1 + n by omega] at this
theorem kp_of {js : List Nat} {Γ Γ' : List Sl} (h : kpB Γ Γ' 0 js) : Kp js Γ Γ' := fun i m e => kpB_get h i m e
theorem Has.back {s s' : S} {Γ Γ' : List Sl} {ρ ρ' : Rho} {st st' : Sto} {js : List Nat} (h : Has W fr s Γ ρ st) (h' : Has W fr s' Γ' ρ' st') (k : Kp js Γ Γ') (hr : ∀ j, j ∉ js → ρ'[j]? = ρ[j]?) : Has W fr s' Γ ρ st' := by
  refine ⟨h.len, h'.pre, h.val, fun i m e => ?_, h.nal, h.bo⟩
  obtain ⟨q1, q2⟩ := k i m e
  obtain ⟨l, p1, p2, p3⟩ := h'.mt i m q2
  exact ⟨l, by rw [← hr i q1]; exact p1, p2, p3⟩
section
variable {α β : Type}
def compT (f : α → Mt S (Option β)) : List α → Mt S (List β)
  | [] => mpure []
  | x :: xs => mbind (f x) fun o => mbind (compT f xs) fun ys => mpure (o.toList ++ ys)
def compG (c : α → Mt S Bool) (f : α → Mt S β) (xs : List α) : Mt S (List β) := if xs.length ≤ 100000 then compT (fun x => mbind (c x) fun b => if b = true then mbind (f x) fun y => mpure (some y) else mpure none) xs else mbad
def compV (c : α → Bool) (f : α → β) (xs : List α) : Mt S (List β) := if xs.length ≤ 100000 then mpure ((xs.filter c).map f) else mbad
def mapT (f : α → Mt S β) : List α → Mt S (List β)
  | [] => mpure []
  | x :: xs => mbind (f x) fun y => mbind (mapT f xs) fun ys => mpure (y :: ys)
def compM (c : α → Bool) (f : α → Mt S β) (xs : List α) : Mt S (List β) := if xs.length ≤ 100000 then mapT f (xs.filter c) else mbad
variable {e : α → D} {enc : β → D} {gf : D → Rho → M Rho} {mt : Rho → M Bool} {me : Rho → M D} {vs js : List Nat} {G : α → List Sl}
theorem lcL_T {f : α → Mt S (Option β)} {ρ : Rho} (hf : ∀ x s st, Has W fr s Γ ρ st → OR W fr (fun _ => Γ) ρ (fun o : Option β => o.map enc) (lcF gf mt me (wipeD ρ vs) (e x) st) (f x s)) :
    ∀ (xs : List α) s st, Has W fr s Γ ρ st → OR W fr (fun _ => Γ) ρ (fun ys : List β => ys.map enc) (lcL [] (lcF gf mt me (wipeD ρ vs)) (xs.map e) st) (compT f xs s)
  | [], s, st, H => by
    rw [List.map_nil]
    unfold lcL
    rw [if_pos ((heldOk_nil _).mpr trivial)]
    exact ⟨st, rfl, H⟩
  | x :: xs, s, st, H => by
    rw [List.map_cons]
    unfold lcL
    rw [if_pos ((heldOk_nil _).mpr trivial)]
    refine OR.bind (hf x s st H) fun o s1 st1 H1 => ?_
    refine OR.bind (lcL_T hf xs s1 st1 H1) fun ys s2 st2 H2 => ?_
    refine ⟨st2, ?_, H2⟩
    cases o <;> simp
def rcalm {γ : Type} (r : Rs S γ) : Rs S γ := match r with
  | .ok a s' => .ok a s'
  | .amb P f => .amb P fun n => rcalm (f n)
  | _ => .bad
def calmly {γ : Type} (q : Mt S γ) : Mt S γ := fun s => rcalm (q s)
theorem calm_OR {A : Type} {r : Out A} {γ : Type} {Γ' : γ → List Sl} {ρ : Rho} {en : γ → A} {q : Rs S γ} (h : OR W fr Γ' ρ en r q) : OR W fr Γ' ρ en (nox r) (rcalm q) := by
  induction q with
  | ok b s => obtain ⟨st', rfl, h2⟩ := h; exact ⟨st', rfl, h2⟩
  | exc x s => trivial
  | bad => trivial
  | amb P_ f_ ih_ => obtain ⟨n_, p_, h⟩ := h; exact ⟨n_, p_, ih_ n_ h⟩
theorem lcF_T {c : Mt S Bool} {f : Mt S β} {x : α} {Γw : List Sl} {Γx : List Sl} (hw : wipeG Γ vs = Γw) (hg : GT1 W fr Γw gf (e x) Γx js) (hjs : ∀ j, j ∈ js → j ∈ vs) (hk : Kp vs Γ Γx) (hc : HT W fr Γx mt c id fun _ => Γx) (hf : HT W fr Γx me f enc fun _ => Γx) (s : S) (ρ : Rho) (st : Sto) (H : Has W fr s Γ ρ st) :
    OR W fr (fun _ => Γ) ρ (fun o : Option β => o.map enc) (lcF gf mt me (wipeD ρ vs) (e x) st) (mbind c (fun b => if b = true then mbind f fun y => mpure (some y) else mpure none) s) := by
  have H0 := H.wipe vs
  rw [hw] at H0
  obtain ⟨ρ1, e1, H1, k1⟩ := hg s (wipeD ρ vs) st H0
  have kr : ∀ j, j ∉ vs → ρ1[j]? = ρ[j]? := fun j hj => by rw [k1 j fun q => hj (hjs j q), wipeD_get ρ vs j hj]
  unfold lcF
  rw [e1, Out.bind_ok]
  show OR W fr _ ρ _ _ (rbind (c s) _)
  have h1 := hc s ρ1 st H1
  revert h1
  induction (c s) with
  | ok b s1 =>
    rintro ⟨st1, e2, H2⟩
    rw [e2, Out.bind_ok]
    cases b
    · exact ⟨st1, rfl, H.back H2 hk kr⟩
    · have h2 := hf s1 ρ1 st1 H2
      show OR W fr _ ρ _ _ (rbind (f s1) _)
      revert h2
      induction (f s1) with
      | ok y s2 =>
        rintro ⟨st2, e3, H3⟩
        refine ⟨st2, ?_, H.back H3 hk kr⟩
        simp only [id, if_true, e3]
        rfl
      | exc y s2 =>
        rintro ⟨st2, e3, H3⟩
        refine ⟨st2, ?_, H3⟩
        simp only [id, if_true, e3]
        rfl
      | bad => intro _; trivial
      | amb P_ f_ ih_ => rintro ⟨n_, p_, h_⟩; exact ⟨n_, p_, ih_ n_ h_⟩
  | exc y s1 =>
    rintro ⟨st1, e2, H2⟩
    exact ⟨st1, by rw [e2]; rfl, H2⟩
  | bad => intro _; trivial
  | amb P_ f_ ih_ => rintro ⟨n_, p_, h_⟩; exact ⟨n_, p_, ih_ n_ h_⟩
theorem ht_compG {ms : Rho → M Src} {q : Mt S (List α)} {c : α → Mt S Bool} {f : α → Mt S β} {Γw : List Sl} (hs : HT W fr Γ ms q (eSrc e) fun _ => Γ) (hw : wipeG Γ vs = Γw) (hg : ∀ x, GT1 W fr Γw gf (e x) (G x) js) (hjs : ∀ j, j ∈ js → j ∈ vs) (hk : ∀ x, Kp vs Γ (G x))
    (hc : ∀ x, HT W fr (G x) mt (c x) id fun _ => G x) (hf : ∀ x, HT W fr (G x) me (f x) enc fun _ => G x) : HT W fr Γ (lLc ms gf mt me vs) (mbind q fun xs => calmly (compG c f xs)) (fun ys : List β => ys.map enc) fun _ => Γ := fun s ρ st H => by
  unfold lLc
  refine OR.bind (hs s ρ st H) fun xs s1 st1 H1 => ?_
  show OR W fr _ ρ _ (if (xs.map e).length ≤ SZ then nox (lcL [] (lcF gf mt me (wipeD ρ vs)) (xs.map e) st1) else .bad) (rcalm (compG c f xs s1))
  unfold compG
  rw [List.length_map]
  by_cases hl : xs.length ≤ 100000
  · rw [if_pos hl, if_pos (show xs.length ≤ SZ from hl)]
    exact calm_OR (lcL_T (fun x s st H => lcF_T hw (hg x) hjs (hk x) (hc x) (hf x) s ρ st H) xs s1 st1 H1)
  · rw [if_neg hl, if_neg (show ¬ xs.length ≤ SZ from hl)]
    trivial
theorem compT_V (c : α → Bool) (f : α → β) : ∀ xs : List α, compT (S := S) (fun x => mbind (mpure (c x)) fun b => if b = true then mbind (mpure (f x)) fun y => mpure (some y) else mpure none) xs = mpure ((xs.filter c).map f)
  | [] => rfl
  | x :: xs => by
    unfold compT
    rw [compT_V c f xs]
    simp only [mbind_pure]
    cases h : c x <;> simp [h]
theorem compT_M (c : α → Bool) (f : α → Mt S β) : ∀ xs : List α, compT (fun x => mbind (mpure (c x)) fun b => if b = true then mbind (f x) fun y => mpure (some y) else mpure none) xs = mapT f (xs.filter c)
  | [] => rfl
  | x :: xs => by
    unfold compT
    rw [compT_M c f xs]
    simp only [mbind_pure]
    cases h : c x
    · simp [h, mbind_ret]
    · simp only [h, if_true, List.filter_cons_of_pos]
      rw [mapT, mbind_assoc]
      rfl
theorem ht_compV {ms : Rho → M Src} {q : Mt S (List α)} {c : α → Bool} {f : α → β} {Γw : List Sl} (hs : HT W fr Γ ms q (eSrc e) fun _ => Γ) (hw : wipeG Γ vs = Γw) (hg : ∀ x, GT1 W fr Γw gf (e x) (G x) js) (hjs : ∀ j, j ∈ js → j ∈ vs) (hk : ∀ x, Kp vs Γ (G x))
    (hc : ∀ x, HV W fr (G x) mt (c x)) (hf : ∀ x, HV W fr (G x) me (enc (f x))) : HT W fr Γ (lLc ms gf mt me vs) (mbind q fun xs => compV c f xs) (fun ys : List β => ys.map enc) fun _ => Γ := by
  have h := ht_compG (c := fun x => mpure (c x)) (f := fun x => mpure (f x)) hs hw hg hjs hk (fun x => ht_ofV (enc := id) (hc x)) fun x => ht_ofV (hf x)
  have e : (fun xs : List α => calmly (compG (S := S) (fun x => mpure (c x)) (fun x => mpure (f x)) xs)) = fun xs => compV c f xs := by
    funext xs
    unfold compG compV
    rw [compT_V]
    split <;> rfl
  rw [e] at h
  exact h
theorem ht_compM {ms : Rho → M Src} {q : Mt S (List α)} {c : α → Bool} {f : α → Mt S β} {Γw : List Sl} (hs : HT W fr Γ ms q (eSrc e) fun _ => Γ) (hw : wipeG Γ vs = Γw) (hg : ∀ x, GT1 W fr Γw gf (e x) (G x) js) (hjs : ∀ j, j ∈ js → j ∈ vs) (hk : ∀ x, Kp vs Γ (G x))
    (hc : ∀ x, HV W fr (G x) mt (c x)) (hf : ∀ x, HT W fr (G x) me (f x) enc fun _ => G x) : HT W fr Γ (lLc ms gf mt me vs) (mbind q fun xs => calmly (compM c f xs)) (fun ys : List β => ys.map enc) fun _ => Γ := by
  have h := ht_compG (c := fun x => mpure (c x)) (f := f) hs hw hg hjs hk (fun x => ht_ofV (enc := id) (hc x)) hf
  have e : (fun xs : List α => calmly (compG (S := S) (fun x => mpure (c x)) f xs)) = fun xs => calmly (compM c f xs) := by
    funext xs
    unfold compG compM
    rw [compT_M]
  rw [e] at h
  exact h
end
theorem has_start {s : S} {np nN : Nat} {ds : List D} {fr : Sto} (hs : W.has s fr) (hl : ds.length ≤ nN) : Has W fr s (ds.map .val ++ List.replicate (nN - ds.length) .any) (rho0 nN ds) fr := by
  unfold rho0
  have g : ∀ (i : Nat) a, (ds.map Sl.val ++ List.replicate (nN - ds.length) Sl.any)[i]? = some a → a = .any ∨ ∃ d, a = .val d ∧ ds[i]? = some d := fun i a e => by
    by_cases hi : i < ds.length
    · rw [List.getElem?_append_left (by simpa using hi), List.getElem?_map] at e
      cases e1 : ds[i]? with
      | none => rw [e1] at e; cases e
      | some d => rw [e1] at e; cases e; exact .inr ⟨d, rfl, rfl⟩
    · rw [List.getElem?_append_right (by simpa using hi), List.getElem?_replicate] at e
      split at e
      · cases e; exact .inl rfl
      · cases e
  refine ⟨by simp, Pre.refl hs, fun i d e => ?_, fun i m e => ?_, fun i j m1 m2 e1 e2 e3 => ?_, fun i m e => ?_⟩
  · rcases g i _ e with q | ⟨d', q, h⟩
    · cases q
    · cases q
      have hi := (List.getElem?_eq_some_iff.mp h).1
      rw [List.getElem?_append_left (by simpa using hi), List.getElem?_map, h]
      rfl
  · rcases g i _ e with q | ⟨d', q, h⟩
    · cases q
    · cases q
  · rcases g i _ e1 with q | ⟨d', q, h⟩
    · cases q
    · cases q
  · rcases g i _ e with q | ⟨d', q, h⟩
    · cases q
    · cases q
theorem Pre.take {s0 s' : S} {b st' : Sto} (h0 : W.has s0 b) (h : Pre W b s' st') (t : Tidy b st') : Pre W b s' (st'.take b.length) := by
  refine ⟨W.take h0 h.has t, ?_, fun l hl n => ?_⟩
  · rw [List.length_take]
    have := h.long
    omega
  · obtain ⟨p, q⟩ := h.keep l hl n
    exact ⟨fun z => p (W.ownT h0 h.has t z), by rw [List.getElem?_take_of_lt hl]; exact q⟩
theorem clean_pre {s s' : S} {b st' : Sto} {d : D} (h0 : W.has s b) (h : Pre W b s' st') : ∃ st2, clean b (.ok d st') = .ok d st2 ∧ Pre W b s' st2 := by
  unfold clean
  dsimp only
  split
  · rename_i t
    exact ⟨_, rfl, h.take h0 t.2⟩
  · exact ⟨_, rfl, h⟩
theorem clean_preX {s s' : S} {b st' : Sto} {x : Xc} (h0 : W.has s b) (h : Pre W b s' st') : ∃ st2, clean b (.exc x st') = .exc x st2 ∧ Pre W b s' st2 := by
  unfold clean
  dsimp only
  split
  · rename_i t
    exact ⟨_, rfl, h.take h0 t.2⟩
  · exact ⟨_, rfl, h⟩
theorem fo_of {β : Type} {enc : β → D} {np nN : Nat} {m : Rho → Sto → Fl} {ds : List D} {q : Mt S β} (hn : ds.length = np) (hl : ds.length ≤ nN) (h : ∀ fr, TR W fr (ds.map .val ++ List.replicate (nN - ds.length) .any) m q enc) : FN W (fnD np nN m) ds q enc := fun fr s hs => by
  have := h fr s _ _ (has_start (W := W) (np := np) (s := s) (fr := fr) hs hl)
  unfold fnD
  rw [if_pos hn]
  revert this
  show RR W fr enc _ (q s) → FO W fr enc _ (q s)
  generalize q s = r
  induction r with
  | ok b s' =>
    rintro ⟨st', e, h2⟩
    rw [e]
    exact clean_pre hs h2
  | exc x s' =>
    rintro ⟨ρ', st', e, h2, h3⟩
    rw [e]
    obtain ⟨st2, e2, h4⟩ := clean_preX (x := x) hs h2
    exact ⟨st2, e2, h4, h3⟩
  | bad => intro _; trivial
  | amb P_ f_ ih_ => rintro ⟨n_, p_, h_⟩; exact ⟨n_, p_, ih_ n_ h_⟩
theorem fnT_of {β : Type} {enc : β → D} {np nN : Nat} {m : Rho → Sto → Fl} {ds : List D} {q : Mt S β} (hp : ∀ b, isP (enc b) = true) (hn : ds.length = np) (hl : ds.length ≤ nN) (h : ∀ fr, TR W fr (ds.map .val ++ List.replicate (nN - ds.length) .any) m q enc) : FN W (fnD np nN m) ds q enc := fo_of hn hl h
theorem fnT_ofN {σ : Type} {J : σ → List Sl} {np nN : Nat} {m : Rho → Sto → Fl} {ds : List D} {q : Mt S σ} (hn : ds.length = np) (hl : ds.length ≤ nN) (h : ∀ fr, TN W fr (ds.map .val ++ List.replicate (nN - ds.length) .any) m q J) : FN W (fnD np nN m) ds (mbind q fun _ => mpure ()) (fun _ => .non) := fun fr s hs => by
  have := h fr s _ _ (has_start (W := W) (np := np) (s := s) (fr := fr) hs hl)
  unfold fnD
  rw [if_pos hn]
  revert this
  show NR W fr J _ (q s) → FO W fr _ _ (rbind (q s) fun _ => mpure ())
  generalize q s = r
  induction r with
  | ok b s' =>
    rintro ⟨ρ', st', e, h2⟩
    rw [e]
    exact clean_pre hs h2.pre
  | exc x s' =>
    rintro ⟨ρ', st', e, h2, h3⟩
    rw [e]
    obtain ⟨st2, e2, h4⟩ := clean_preX (x := x) hs h2
    exact ⟨st2, e2, h4, h3⟩
  | bad => intro _; trivial
  | amb P_ f_ ih_ => rintro ⟨n_, p_, h_⟩; exact ⟨n_, p_, ih_ n_ h_⟩
end
end Dn
namespace Dn
open PySem PySem.Spec PyProof.Rows L2
def eI : Int → D := .int
def eB : Bool → D := .bl
def eS : Str → D := .str
def eD : D → D := fun d => d
def eU : Unit → D := fun _ => .non
def eT {α : Type} (e : α → D) (xs : List α) : D := .tup (xs.map e)
def eL {α : Type} (e : α → D) (xs : List α) : D := .lst (xs.map e)
def eP {α β : Type} (e : α → D) (f : β → D) (z : α × β) : D := .tup [e z.1, f z.2]
def eP3 {α β γ : Type} (e : α → D) (f : β → D) (g : γ → D) (z : α × β × γ) : D := .tup [e z.1, f z.2.1, g z.2.2]
def eO {α : Type} (e : α → D) (o : Option α) : D := match o with
  | none => .non
  | some x => e x
class Ev {α : Type} [DecidableEq α] (e : α → D) (dp : outParam Nat) : Prop where
  p : ∀ x, isP (e x) = true
  dep : ∀ x, (toP (e x)).depth ≤ dp
  eq : ∀ x y, PyData.eqv (toP (e x)) (toP (e y)) = decide (x = y)
class Pl {α : Type} (e : α → D) : Prop where
  p : ∀ x, isP (e x) = true
instance : Pl eI := ⟨fun _ => rfl⟩
instance : Pl eB := ⟨fun _ => rfl⟩
instance : Pl eS := ⟨fun _ => rfl⟩
instance : Pl eU := ⟨fun _ => rfl⟩
theorem isPs_of {α : Type} {e : α → D} (h : ∀ x, isP (e x) = true) : ∀ xs : List α, isPs (xs.map e) = true
  | [] => rfl
  | x :: xs => by rw [List.map_cons, isPs, h x, isPs_of h xs] <;> rfl
instance {α : Type} {e : α → D} [Pl e] : Pl (eT e) := ⟨fun xs => by unfold eT; rw [isP]; exact isPs_of Pl.p xs⟩
instance {α : Type} {e : α → D} [Pl e] : Pl (eL e) := ⟨fun xs => by unfold eL; rw [isP]; exact isPs_of Pl.p xs⟩
instance {α β : Type} {e : α → D} {f : β → D} [Pl e] [Pl f] : Pl (eP e f) := ⟨fun z => by unfold eP; simp only [isP, isPs, Pl.p, Bool.and_self]⟩
instance {α β γ : Type} {e : α → D} {f : β → D} {g : γ → D} [Pl e] [Pl f] [Pl g] : Pl (eP3 e f g) := ⟨fun z => by unfold eP3; simp only [isP, isPs, Pl.p, Bool.and_self]⟩
instance {α : Type} {e : α → D} [Pl e] : Pl (eO e) := ⟨fun o => by cases o with
  | none => rfl
  | some x => exact Pl.p x⟩
instance : Ev eI 0 := ⟨fun _ => rfl, fun _ => Nat.le_refl _, fun x y => by
  show (x == y) = _
  rw [Bool.eq_iff_iff]; simp⟩
instance : Ev eB 0 := ⟨fun _ => rfl, fun _ => Nat.le_refl _, fun x y => by
  show (x == y) = _
  rw [Bool.eq_iff_iff]; simp⟩
instance : Ev eS 0 := ⟨fun _ => rfl, fun _ => Nat.le_refl _, fun x y => by
  show (x == y) = _
  rw [Bool.eq_iff_iff]; simp⟩
instance : Ev eU 0 := ⟨fun _ => rfl, fun _ => Nat.le_refl _, fun x y => rfl⟩
theorem depAll_of {α : Type} {e : α → D} {n : Nat} (h : ∀ x, (toP (e x)).depth ≤ n) : ∀ xs : List α, PyData.depthAll (toPs (xs.map e)) ≤ n
  | [] => Nat.zero_le _
  | x :: xs => by
    rw [List.map_cons, toPs, PyData.depthAll]
    exact Nat.max_le.mpr ⟨h x, depAll_of h xs⟩
theorem eqvAll_of {α : Type} [DecidableEq α] {e : α → D} (h : ∀ x y, PyData.eqv (toP (e x)) (toP (e y)) = decide (x = y)) : ∀ xs ys : List α, PyData.eqvAll (toPs (xs.map e)) (toPs (ys.map e)) = decide (xs = ys)
  | [], [] => rfl
  | [], y :: ys => by simp only [List.map_nil, List.map_cons, toPs, PyData.eqvAll]; rfl
  | x :: xs, [] => by simp only [List.map_nil, List.map_cons, toPs, PyData.eqvAll]; rfl
  | x :: xs, y :: ys => by
    simp only [List.map_cons, toPs, PyData.eqvAll]
    rw [h x y, eqvAll_of h xs ys, Bool.eq_iff_iff]
    simp
instance {α : Type} [DecidableEq α] {e : α → D} {n : Nat} [Ev e n] : Ev (eT e) (n + 1) := ⟨fun xs => by unfold eT; rw [isP]; exact isPs_of Ev.p xs, fun xs => by
  unfold eT
  rw [toP, PyData.depth]
  have := depAll_of (n := n) (e := e) Ev.dep xs
  omega, fun xs ys => by
  unfold eT
  rw [toP, toP, PyData.eqv]
  exact eqvAll_of Ev.eq xs ys⟩
instance {α : Type} [DecidableEq α] {e : α → D} {n : Nat} [Ev e n] : Ev (eL e) (n + 1) := ⟨fun xs => by unfold eL; rw [isP]; exact isPs_of Ev.p xs, fun xs => by
  unfold eL
  rw [toP, PyData.depth]
  have := depAll_of (n := n) (e := e) Ev.dep xs
  omega, fun xs ys => by
  unfold eL
  rw [toP, toP, PyData.eqv]
  exact eqvAll_of Ev.eq xs ys⟩
instance {α β : Type} [DecidableEq α] [DecidableEq β] {e : α → D} {f : β → D} {n m : Nat} [Ev e n] [Ev f m] : Ev (eP e f) (max n m + 1) := ⟨fun z => by unfold eP; simp only [isP, isPs, Ev.p, Bool.and_self], fun z => by
  unfold eP
  have h1 := Ev.dep (e := e) z.1
  have h2 := Ev.dep (e := f) z.2
  simp only [toP, toPs, PyData.depth, PyData.depthAll]
  omega, fun x y => by
  unfold eP
  simp only [toP, toPs, PyData.eqv, PyData.eqvAll, Ev.eq]
  rw [Bool.eq_iff_iff]
  simp [Prod.ext_iff]⟩
class Nn {α : Type} (e : α → D) : Prop where
  nn : ∀ x, toP (e x) ≠ .none
instance : Nn eI := ⟨fun _ h => nomatch h⟩
instance : Nn eB := ⟨fun _ h => nomatch h⟩
instance : Nn eS := ⟨fun _ h => nomatch h⟩
instance {α : Type} {e : α → D} : Nn (eT e) := ⟨fun _ h => by unfold eT at h; rw [toP] at h; cases h⟩
instance {α : Type} {e : α → D} : Nn (eL e) := ⟨fun _ h => by unfold eL at h; rw [toP] at h; cases h⟩
instance {α β : Type} {e : α → D} {f : β → D} : Nn (eP e f) := ⟨fun _ h => by unfold eP at h; rw [toP] at h; cases h⟩
theorem eqv_none_l {d : PyData} (h : d ≠ .none) : PyData.eqv .none d = false := by cases d <;> first | rfl | exact absurd rfl h
theorem eqv_none_r {d : PyData} (h : d ≠ .none) : PyData.eqv d .none = false := by cases d <;> first | rfl | exact absurd rfl h
instance {α : Type} [DecidableEq α] {e : α → D} {n : Nat} [Ev e n] [Nn e] : Ev (eO e) n := ⟨fun o => by cases o with
  | none => rfl
  | some x => exact Ev.p x, fun o => by cases o with
  | none => exact Nat.zero_le _
  | some x => exact Ev.dep x, fun o p => by
  cases o with
  | none =>
    cases p with
    | none => rfl
    | some y =>
      show PyData.eqv .none (toP (e y)) = _
      rw [eqv_none_l (Nn.nn (e := e) y)] <;> rfl
  | some x =>
    cases p with
    | none =>
      show PyData.eqv (toP (e x)) .none = _
      rw [eqv_none_r (Nn.nn (e := e) x)] <;> rfl
    | some y =>
      show PyData.eqv (toP (e x)) (toP (e y)) = _
      rw [Ev.eq (e := e)]
      simp⟩
section
variable {α : Type} [DecidableEq α] {e : α → D} {n : Nat}
theorem pEq_dat {st : Sto} {a b : D} {p q : PyData} (ha : dat st a = some p) (hb : dat st b = some q) (hd : min p.depth q.depth ≤ 64) : pEq st a b = some (.bl (PyData.eqv p q)) := by
  have gen : (match dat st a, dat st b with
    | some p, some q => if min p.depth q.depth ≤ 64 then some (D.bl (PyData.eqv p q)) else none
    | _, _ => none) = some (D.bl (PyData.eqv p q)) := by
    rw [ha, hb]
    exact if_pos hd
  unfold pEq
  split
  · rename_i x y
    cases ha
    cases hb
    rfl
  · exact gen
theorem pNe_dat {st : Sto} {a b : D} {p q : PyData} (ha : dat st a = some p) (hb : dat st b = some q) (hd : min p.depth q.depth ≤ 64) : pNe st a b = some (.bl (!PyData.eqv p q)) := by
  have gen : (match dat st a, dat st b with
    | some p, some q => if min p.depth q.depth ≤ 64 then some (D.bl (!PyData.eqv p q)) else none
    | _, _ => none) = some (D.bl (!PyData.eqv p q)) := by
    rw [ha, hb]
    exact if_pos hd
  unfold pNe
  split
  · rename_i x y
    cases ha
    cases hb
    rfl
  · exact gen
theorem t_eq [Ev e n] (x y : α) (h : n ≤ 64) (st : Sto) : pEq st (e x) (e y) = some (.bl (decide (x = y))) := by
  have hd := Ev.dep (e := e) x
  rw [pEq_dat (dat_P (Ev.p x)) (dat_P (Ev.p y)) (by omega), Ev.eq]
theorem t_ne [Ev e n] (x y : α) (h : n ≤ 64) (st : Sto) : pNe st (e x) (e y) = some (.bl (!decide (x = y))) := by
  have hd := Ev.dep (e := e) x
  rw [pNe_dat (dat_P (Ev.p x)) (dat_P (Ev.p y)) (by omega), Ev.eq]
theorem any_of [Ev e n] (x : α) : ∀ xs : List α, ((toPs (xs.map e)).any fun z => PyData.eqv z (toP (e x))) = decide (x ∈ xs)
  | [] => by simp [toPs]
  | y :: ys => by
    rw [List.map_cons, toPs, List.any_cons, any_of x ys, Ev.eq]
    by_cases h : y = x
    · subst h; simp
    · have h' : ¬ x = y := fun q => h q.symm
      simp [h, h']
theorem inD_seq {st : Sto} {a b : D} {p : PyData} {ds : List PyData} (ha : dat st a = some p) (hb : dat st b = some (.list ds) ∨ dat st b = some (.tuple ds)) (hd : p.depth ≤ 64) : inD st a b = some (ds.any fun z => PyData.eqv z p) := by
  unfold inD
  split
  · rcases hb with hb | hb <;> cases hb
  · rw [ha]
    rcases hb with hb | hb
    · rw [hb]
      exact if_pos hd
    · rw [hb]
      exact if_pos hd
theorem dat_eT [Ev e n] (xs : List α) (st : Sto) : dat st (eT e xs) = some (.tuple (toPs (xs.map e))) := by
  rw [dat_P (Ev.p xs)]
  unfold eT
  rw [toP]
theorem dat_eL [Ev e n] (xs : List α) (st : Sto) : dat st (eL e xs) = some (.list (toPs (xs.map e))) := by
  rw [dat_P (Ev.p xs)]
  unfold eL
  rw [toP]
theorem t_inT [Ev e n] (x : α) (xs : List α) (h : n ≤ 64) (st : Sto) : pIn st (e x) (eT e xs) = some (.bl (decide (x ∈ xs))) := by
  unfold pIn
  rw [inD_seq (dat_P (Ev.p x)) (.inr (dat_eT xs st)) (Nat.le_trans (Ev.dep (e := e) x) h), any_of] <;> rfl
theorem t_ninT [Ev e n] (x : α) (xs : List α) (h : n ≤ 64) (st : Sto) : pNotIn st (e x) (eT e xs) = some (.bl (!decide (x ∈ xs))) := by
  unfold pNotIn
  rw [inD_seq (dat_P (Ev.p x)) (.inr (dat_eT xs st)) (Nat.le_trans (Ev.dep (e := e) x) h), any_of] <;> rfl
theorem t_ninL [Ev e n] (x : α) (xs : List α) (h : n ≤ 64) (st : Sto) : pNotIn st (e x) (eL e xs) = some (.bl (!decide (x ∈ xs))) := by
  unfold pNotIn
  rw [inD_seq (dat_P (Ev.p x)) (.inl (dat_eL xs st)) (Nat.le_trans (Ev.dep (e := e) x) h), any_of] <;> rfl
end
theorem dr_seq {st : Sto} {l : Nat} {xs : List D} (h : st[l]? = some (.lst xs)) : seqOf st (.ref l) = seqOf st (.lst xs) := by rw [seqOf_ref h, seqOf_lst]
theorem dr_idx1 {st : Sto} {l : Nat} {xs : List D} {b : D} (h : st[l]? = some (.lst xs)) : pIdx st (.ref l) b = pIdx st (.lst xs) b := by
  unfold pIdx
  cases b <;> simp only [dr_seq h]
theorem dr_len {st : Sto} {l : Nat} {xs : List D} (h : st[l]? = some (.lst xs)) : pLen st [.ref l] = pLen st [.lst xs] := by
  show (seqOf st (.ref l)).map (fun xs => D.int xs.length) = (seqOf st (.lst xs)).map (fun xs => D.int xs.length)
  rw [dr_seq h]
theorem t_add (a b : Int) (st : Sto) : pAdd st (eI a) (eI b) = some (eI (a + b)) := rfl
theorem t_sub (a b : Int) (st : Sto) : pSub st (eI a) (eI b) = some (eI (a - b)) := rfl
theorem t_neg (a : Int) (st : Sto) : pNeg st (eI a) = some (eI (-a)) := rfl
theorem t_lt (a b : Int) (st : Sto) : pLt st (eI a) (eI b) = some (.bl (decide (a < b))) := rfl
theorem t_le (a b : Int) (st : Sto) : pLe st (eI a) (eI b) = some (.bl (decide (a ≤ b))) := rfl
theorem t_gt (a b : Int) (st : Sto) : pGt st (eI a) (eI b) = some (.bl (decide (b < a))) := rfl
theorem t_ge (a b : Int) (st : Sto) : pGe st (eI a) (eI b) = some (.bl (decide (b ≤ a))) := rfl
def b2z (b : Bool) : Int := if b = true then 1 else 0
theorem t_intB (b : Bool) (st : Sto) : pInt st [eB b] = some (eI (b2z b)) := by cases b <;> rfl
theorem t_min (a b : Int) (st : Sto) : pMin2 st [eI a, eI b] = some (eI (min a b)) := by
  show some (D.int (if b < a then b else a)) = some (D.int (min a b))
  congr 2
  by_cases h : b < a
  · rw [if_pos h]; omega
  · rw [if_neg h]; omega
section
variable {α : Type} {e : α → D}
theorem t_lenT (xs : List α) (st : Sto) : pLen st [eT e xs] = some (eI (xs.length : Int)) := by
  show some (D.int ((xs.map e).length : Int)) = _
  rw [List.length_map] <;> rfl
theorem t_lenL (xs : List α) (st : Sto) : pLen st [eL e xs] = some (eI (xs.length : Int)) := by
  show some (D.int ((xs.map e).length : Int)) = _
  rw [List.length_map] <;> rfl
theorem atI_map (xs : List α) (i : Int) : atI (xs.map e) i = (atI xs i).map e := by
  unfold atI
  rw [List.length_map]
  cases ixN xs.length i with
  | none => rfl
  | some j => simp
theorem t_idxT (xs : List α) (i : Int) (x : α) (h : atI xs i = some x) (st : Sto) : pIdx st (eT e xs) (eI i) = some (e x) := by
  show (seqOf st (eT e xs)).bind (fun xs => atI xs i) = _
  show atI (xs.map e) i = _
  rw [atI_map, h] <;> rfl
theorem t_idxL (xs : List α) (i : Int) (x : α) (h : atI xs i = some x) (st : Sto) : pIdx st (eL e xs) (eI i) = some (e x) := by
  show (seqOf st (eL e xs)).bind (fun xs => atI xs i) = _
  show atI (xs.map e) i = _
  rw [atI_map, h] <;> rfl
theorem t_catT (xs ys : List α) (h : xs.length + ys.length ≤ 100000) (st : Sto) : pAdd st (eT e xs) (eT e ys) = some (eT e (xs ++ ys)) := by
  show (if (xs.map e).length + (ys.map e).length ≤ 100000 then some (D.tup (xs.map e ++ ys.map e)) else none) = _
  rw [List.length_map, List.length_map, if_pos h, ← List.map_append] <;> rfl
theorem t_catL (xs ys : List α) (h : xs.length + ys.length ≤ 100000) (st : Sto) : pCat st (eL e xs) (eL e ys) = some ((xs ++ ys).map e) := by
  show (if (xs.map e).length + (ys.map e).length ≤ 100000 then some (xs.map e ++ ys.map e) else none) = _
  rw [List.length_map, List.length_map, if_pos h, ← List.map_append]
theorem map_rep (xs : List α) (k : Nat) : (List.replicate k (xs.map e)).flatten = ((List.replicate k xs).flatten).map e := by
  induction k with
  | zero => rfl
  | succ k ih => rw [List.replicate_succ, List.flatten_cons, ih, List.replicate_succ, List.flatten_cons, List.map_append]
theorem t_repT (xs : List α) (k : Int) (h : xs.length ≤ 1000 ∧ -1000 ≤ k ∧ k ≤ 1000) (st : Sto) : pMul st (eT e xs) (eI k) = some (eT e (List.replicate k.toNat xs).flatten) := by
  show (if (xs.map e).length ≤ 1000 ∧ -1000 ≤ k ∧ k ≤ 1000 then some (D.tup (List.replicate k.toNat (xs.map e)).flatten) else none) = _
  rw [List.length_map, if_pos h, map_rep] <;> rfl
theorem t_repL (xs : List α) (k : Int) (h : xs.length * k.toNat ≤ 100000 ∧ -1000000 ≤ k ∧ k ≤ 1000000) (st : Sto) : pRepL st (eL e xs) (eI k) = some ((List.replicate k.toNat xs).flatten.map e) := by
  show (if (xs.map e).length * k.toNat ≤ 100000 ∧ -1000000 ≤ k ∧ k ≤ 1000000 then some (List.replicate k.toNat (xs.map e)).flatten else none) = _
  rw [List.length_map, if_pos h, map_rep]
theorem t_tupL (xs : List α) (st : Sto) : pTuple st [eL e xs] = some (eT e xs) := rfl
theorem t_all (bs : List Bool) (st : Sto) : pAll st [eL eB bs] = some (eB (bs.all id)) := by
  show ((some (bs.map eB)).bind blOf).map _ = _
  show (blOf (bs.map D.bl)).map _ = _
  rw [blOf_map] <;> rfl
theorem t_isNotO (o : Option α) [Nn e] (st : Sto) : pIsNot st (eO e o) .non = some (.bl o.isSome) := by
  cases o with
  | none => rfl
  | some x =>
    show some (D.bl (!(e x).isNon)) = some (D.bl true)
    have := Nn.nn (e := e) x
    cases h : e x <;> first | rfl | (rw [h] at this; exact absurd rfl this)
theorem cutD_map (xs : List α) (lo hi : Option Int) : cutD (xs.map e) lo hi = (cutD xs lo hi).map e := by
  unfold cutD
  rw [List.length_map, ← List.map_drop, ← List.map_take]
theorem tr_B (b : Bool) (st : Sto) : (eB b).truth st = some b := rfl
end
section
variable {S : Type}
def mmod (a b : Int) : Mt S Int := if 0 < b then mpure (a % b) else mbad
def midx {α : Type} (xs : List α) (i : Int) : Mt S α := mopt (atI xs i)
def mcat {α : Type} (xs ys : List α) : Mt S (List α) := if xs.length + ys.length ≤ 100000 then mpure (xs ++ ys) else mbad
def mrepT {α : Type} (xs : List α) (k : Int) : Mt S (List α) := if xs.length ≤ 1000 ∧ -1000 ≤ k ∧ k ≤ 1000 then mpure (List.replicate k.toNat xs).flatten else mbad
def mrepL {α : Type} (xs : List α) (k : Int) : Mt S (List α) := if xs.length * k.toNat ≤ 100000 ∧ -1000000 ≤ k ∧ k ≤ 1000000 then mpure (List.replicate k.toNat xs).flatten else mbad
def mdisp {α : Type} (xs : List α) : Mt S (List α) := if xs.length ≤ 100000 then mpure xs else mbad
def mapp {α : Type} (xs : List α) (x : α) : Mt S (List α) := if xs.length < 100000 then mpure (xs ++ [x]) else mbad
def rngI (lo hi : Int) : List Int := (List.range (hi - lo).toNat).map fun i : Nat => lo + (i : Int)
noncomputable def mrng (lo hi : Int) : Mt S (List Int) := @ite _ (-(2 ^ 62) ≤ lo ∧ lo < 2 ^ 62 ∧ -(2 ^ 62) ≤ hi ∧ hi < 2 ^ 62) (Classical.propDecidable _) (mpure (rngI lo hi)) mbad
noncomputable def mrngL (lo hi : Int) : Mt S (List Int) := @ite _ (rgOk lo hi) (Classical.propDecidable _) (mpure (rngI lo hi)) mbad
end
theorem rngD_rngI (lo hi : Int) : rngD lo (hi - lo).toNat = (rngI lo hi).map eI := by
  unfold rngD rngI
  rw [List.map_map] <;> rfl
section
variable {S : Type} {W : Wd S} {fr : Sto} {Γ : List Sl}
theorem af_op {p : Sto → D → D → Option D} {d1 d2 : D} {β : Type} {enc : β → D} {b : β} (h : ∀ st, p st d1 d2 = some (enc b)) : AC W fr Γ mNil (fun ds => F2 p (d1 :: d2 :: ds)) (mpure b) enc fun _ => Γ := ac_ret fun st => by
  show lift (p st d1 d2) st = _
  rw [h st] <;> rfl
theorem af_b1 {A β : Type} {p : Sto → List D → Option A} {d1 : D} {enc : β → A} {b : β} (h : ∀ st, p st [d1] = some (enc b)) : AC W fr Γ mNil (fun ds => FB p (d1 :: ds)) (mpure b) enc fun _ => Γ := ac_ret fun st => by
  show lift (p st [d1]) st = _
  rw [h st] <;> rfl
theorem af_mod (a b : Int) : AC W fr Γ mNil (fun ds => F2 pMod (eI a :: eI b :: ds)) (mmod a b) eI fun _ => Γ := ac_if fun h st => by
  show lift (pMod st (.int a) (.int b)) st = _
  rw [pMod_int _ _ _ h] <;> rfl
section
variable {α : Type} {e : α → D}
theorem af_idxT (xs : List α) (i : Int) : AC W fr Γ mNil (fun ds => F2 pIdx (eT e xs :: eI i :: ds)) (midx xs i) e fun _ => Γ := ac_opt fun b h st => by
  show lift (pIdx st (eT e xs) (eI i)) st = _
  rw [t_idxT xs i b h] <;> rfl
theorem af_idxL (xs : List α) (i : Int) : AC W fr Γ mNil (fun ds => F2 pIdx (eL e xs :: eI i :: ds)) (midx xs i) e fun _ => Γ := ac_opt fun b h st => by
  show lift (pIdx st (eL e xs) (eI i)) st = _
  rw [t_idxL xs i b h] <;> rfl
theorem af_catT (xs ys : List α) : AC W fr Γ mNil (fun ds => F2 pAdd (eT e xs :: eT e ys :: ds)) (mcat xs ys) (eT e) fun _ => Γ := ac_if fun h st => by
  show lift (pAdd st (eT e xs) (eT e ys)) st = _
  rw [t_catT xs ys h] <;> rfl
theorem af_catL (xs ys : List α) : AC W fr Γ mNil (fun ds => F2L pCat (eL e xs :: eL e ys :: ds)) (mcat xs ys) (fun zs => zs.map e) fun _ => Γ := ac_if fun h st => by
  show lift (pCat st (eL e xs) (eL e ys)) st = _
  rw [t_catL xs ys h] <;> rfl
theorem af_repT (xs : List α) (k : Int) : AC W fr Γ mNil (fun ds => F2 pMul (eT e xs :: eI k :: ds)) (mrepT xs k) (eT e) fun _ => Γ := ac_if fun h st => by
  show lift (pMul st (eT e xs) (eI k)) st = _
  rw [t_repT xs k h] <;> rfl
theorem af_repL (xs : List α) (k : Int) : AC W fr Γ mNil (fun ds => F2L pRepL (eL e xs :: eI k :: ds)) (mrepL xs k) (fun zs => zs.map e) fun _ => Γ := ac_if fun h st => by
  show lift (pRepL st (eL e xs) (eI k)) st = _
  rw [t_repL xs k h] <;> rfl
end
section
variable {α : Type} {e : α → D} {m : Rho → M D} {l h : Rho → M (Option Int)}
theorem hv_slT {xs : List α} {lo hi : Option Int} (hm : HV W fr Γ m (eT e xs)) (hl : HV W fr Γ l lo) (hh : HV W fr Γ h hi) : HV W fr Γ (mSlT m l h) (eT e (cutD xs lo hi)) := fun s ρ st H => by
  unfold mSlT
  rw [hm s ρ st H, Out.bind_ok, hl s ρ st H, Out.bind_ok, hh s ρ st H, Out.bind_ok]
  show Out.ok (D.tup (cutD (xs.map e) lo hi)) st = _
  rw [cutD_map] <;> rfl
end
end
end Dn
namespace Dn
open PySem PySem.Spec PyProof.Rows L2
def lexB {α : Type} [DecidableEq α] (lt : α → α → Bool) : List α → List α → Bool
  | _, [] => false
  | [], _ :: _ => true
  | x :: xs, y :: ys => if x = y then lexB lt xs ys else lt x y
class Or {α : Type} [DecidableEq α] (e : α → D) (lt : outParam (α → α → Bool)) : Prop where
  al : ∀ x y, PySem.W.alike (toP (e x)) (toP (e y)) = true
  lt : ∀ x y, PySem.W.dataLt (toP (e x)) (toP (e y)) = lt x y
def ltI (a b : Int) : Bool := decide (a < b)
def ltS (a b : Str) : Bool := decide (a.cps.toList < b.cps.toList)
instance : Or eI ltI := ⟨fun _ _ => rfl, fun x y => PySem.W.dataLt_int x y⟩
instance : Or eS ltS := ⟨fun _ _ => rfl, fun x y => PySem.W.dataLt_str x y⟩
theorem alikeAll_of {α : Type} {e : α → D} (h : ∀ x y, PySem.W.alike (toP (e x)) (toP (e y)) = true) : ∀ xs ys : List α, PySem.W.alikeAll (toPs (xs.map e)) (toPs (ys.map e)) = true
  | [], ys => by rw [List.map_nil, toPs, PySem.W.alikeAll]
  | x :: xs, [] => by rw [List.map_nil, List.map_cons, toPs, toPs, PySem.W.alikeAll]
  | x :: xs, y :: ys => by rw [List.map_cons, List.map_cons, toPs, toPs, PySem.W.alikeAll, h x y, alikeAll_of h xs ys] <;> rfl
theorem ltAll_of {α : Type} [DecidableEq α] {e : α → D} {n : Nat} [Ev e n] {lt : α → α → Bool} (ha : ∀ x y, PySem.W.alike (toP (e x)) (toP (e y)) = true) (hl : ∀ x y, PySem.W.dataLt (toP (e x)) (toP (e y)) = lt x y) :
    ∀ xs ys : List α, PyProof.Rows.lexLt itemOrd (PySem.W.keyToksAll (toPs (xs.map e))) (PySem.W.keyToksAll (toPs (ys.map e))) = lexB lt xs ys
  | [], [] => rfl
  | [], y :: ys => rfl
  | x :: xs, [] => rfl
  | x :: xs, y :: ys => by
    rw [List.map_cons, List.map_cons, toPs, toPs]
    unfold lexB
    by_cases h : x = y
    · rw [if_pos h, PySem.W.dataLt_all_yes (ha x y) (by rw [Ev.eq, decide_eq_true h]), ltAll_of ha hl xs ys]
    · rw [if_neg h, PySem.W.dataLt_all_no (ha x y) (by rw [Ev.eq, decide_eq_false h]), hl]
instance {α : Type} [DecidableEq α] {e : α → D} {n : Nat} {lt : α → α → Bool} [Ev e n] [Or e lt] : Or (eT e) (lexB lt) := ⟨fun xs ys => by
  unfold eT
  rw [toP, toP, PySem.W.alike]
  exact alikeAll_of (Or.al (e := e)) xs ys, fun xs ys => by
  unfold eT
  rw [toP, toP, PySem.W.dataLt_tuple]
  exact ltAll_of (Or.al (e := e)) (Or.lt (e := e)) xs ys⟩
class Sb {α : Type} (e : α → D) : Prop where
  sb : (∀ x, ∃ xs, toP (e x) = .tuple xs) ∨ ∀ x, toP (e x) ≠ .none ∧ ∀ xs, toP (e x) ≠ .tuple xs
instance : Sb eI := ⟨.inr fun _ => ⟨(fun h => nomatch h), fun _ h => nomatch h⟩⟩
instance : Sb eS := ⟨.inr fun _ => ⟨(fun h => nomatch h), fun _ h => nomatch h⟩⟩
instance {α : Type} {e : α → D} : Sb (eT e) := ⟨.inl fun xs => ⟨_, by unfold eT; rw [toP]⟩⟩
section
variable {S : Type}
def leOf {α : Type} (lt : α → α → Bool) (a b : α) : Bool := !lt b a
def msort {α : Type} (lt : α → α → Bool) (xs : List α) : Mt S (List α) := if xs.length ≤ 100000 then mpure (xs.mergeSort (leOf lt)) else mbad
theorem t_sorted {α : Type} [DecidableEq α] {e : α → D} {n : Nat} {lt : α → α → Bool} [Ev e n] [Or e lt] [Sb e] (hn : n ≤ 50) (xs : List α) (h : xs.length ≤ 100000) {d : D} {st : Sto} (hd : seqOf st d = some (xs.map e)) : pSorted st [d] = some ((xs.mergeSort (leOf lt)).map e) := by
  unfold pSorted
  simp only [hd]
  rw [if_pos]
  · congr 1
    unfold sortD
    rw [← List.map_mergeSort (r := leOf lt)]
    intro a _ b _
    show (!lt b a) = !PySem.W.dataLt (toP (e b)) (toP (e a))
    rw [Or.lt]
  · refine ⟨by rw [List.length_map]; exact h, fun x hx => ?_, fun x hx y hy => ?_, ?_⟩
    · obtain ⟨a, _, rfl⟩ := List.mem_map.mp hx
      exact ⟨Ev.p a, Nat.le_trans (Ev.dep (e := e) a) hn⟩
    · rw [List.map_map] at hx hy
      obtain ⟨a, _, rfl⟩ := List.mem_map.mp hx
      obtain ⟨b, _, rfl⟩ := List.mem_map.mp hy
      exact Or.al a b
    · rcases Sb.sb (e := e) with q | q
      · refine .inl fun d hd => ?_
        rw [List.map_map] at hd
        obtain ⟨a, _, rfl⟩ := List.mem_map.mp hd
        exact q a
      · refine .inr fun d hd => ?_
        rw [List.map_map] at hd
        obtain ⟨a, _, rfl⟩ := List.mem_map.mp hd
        exact q a
end
def enumZ {α : Type} (n : Nat) : List α → List (Int × α)
  | [] => []
  | x :: r => ((n : Int), x) :: enumZ (n + 1) r
theorem enumD_map {α : Type} (e : α → D) : ∀ (xs : List α) (n : Nat), enumD n (xs.map e) = (enumZ n xs).map (eP eI e)
  | [], _ => rfl
  | x :: r, n => by rw [List.map_cons, enumD, enumZ, List.map_cons, enumD_map e r] <;> rfl
theorem zipD_map {α β : Type} (e : α → D) (f : β → D) : ∀ (xs : List α) (ys : List β), zipD (xs.map e) (ys.map f) = (xs.zip ys).map (eP e f)
  | [], _ => by simp [zipD]
  | _ :: _, [] => by simp [zipD]
  | x :: xs, y :: ys => by rw [List.map_cons, List.map_cons, zipD, zipD_map e f xs ys, List.zip_cons_cons, List.map_cons] <;> rfl
section
variable {S : Type} {W : Wd S} {fr : Sto} {Γ : List Sl}
section
variable {α β : Type} {e : α → D} {f : β → D} {m m2 : Rho → M D} {q : Mt S (List α)} {q2 : Mt S (List β)} {Γ' : List α → List Sl}
theorem sT (xs : List α) (st : Sto) : srcOf st (eT e xs) = some (eSrc e xs) := rfl
theorem sL (xs : List α) (st : Sto) : srcOf st (eL e xs) = some (eSrc e xs) := rfl
theorem src_seq {en : List α → D} (hs : ∀ xs st, srcOf st (en xs) = some (eSrc e xs)) (h : HT W fr Γ m q en Γ') : HT W fr Γ (iSeq m) q (eSrc e) Γ' := fun s ρ st H => by
  unfold iSeq
  have := OR.bind (f := fun d st1 => lift (srcOf st1 d) st1) (k := mpure) (e' := eSrc e) (Γ'' := Γ') (h s ρ st H) fun xs s1 st1 H1 => by
    refine ⟨st1, ?_, H1⟩
    rw [hs xs st1] <;> rfl
  have e1 : rbind (q s) mpure = q s := congrFun (mbind_ret q) s
  rw [e1] at this
  exact this
theorem src_enum {en : List α → D} (hs : ∀ xs st, srcOf st (en xs) = some (eSrc e xs)) (h : HT W fr Γ m q en fun _ => Γ) : HT W fr Γ (iEnumD m) (mbind q fun xs => mpure (enumZ 0 xs)) (eSrc (eP eI e)) fun _ => Γ := fun s ρ st H => by
  unfold iEnumD
  refine OR.bind (h s ρ st H) fun xs s1 st1 H1 => ?_
  refine ⟨st1, ?_, H1⟩
  rw [hs xs st1, lift_some, Out.bind_ok]
  show Out.ok (⟨enumD 0 (xs.map e), []⟩ : Src) st1 = _
  rw [enumD_map] <;> rfl
theorem src_zip {en : List α → D} {en2 : List β → D} (hs : ∀ xs st, srcOf st (en xs) = some (eSrc e xs)) (hs2 : ∀ xs st, srcOf st (en2 xs) = some (eSrc f xs)) (h : HT W fr Γ m q en fun _ => Γ) (h2 : HT W fr Γ m2 q2 en2 fun _ => Γ) :
    HT W fr Γ (iZipD m m2) (mbind q fun xs => mbind q2 fun ys => mpure (xs.zip ys)) (eSrc (eP e f)) fun _ => Γ := fun s ρ st H => by
  unfold iZipD
  refine OR.bind (h s ρ st H) fun xs s1 st1 H1 => ?_
  refine OR.bind (h2 s1 ρ st1 H1) fun ys s2 st2 H2 => ⟨st2, ?_, H2⟩
  rw [hs xs st2, lift_some, Out.bind_ok, hs2 ys st2, lift_some, Out.bind_ok]
  show Out.ok (⟨zipD (xs.map e) (ys.map f), [] ++ []⟩ : Src) st2 = _
  rw [zipD_map] <;> rfl
end
theorem src_rng1 {m : Rho → M D} {q : Mt S Int} (h : HT W fr Γ m q eI fun _ => Γ) : HT W fr Γ (iRng1D m) (mbind q fun n => mrng 0 n) (eSrc eI) fun _ => Γ := fun s ρ st H => by
  unfold iRng1D
  refine OR.bind (h s ρ st H) fun n s1 st1 H1 => ?_
  unfold mrng
  by_cases hc : -(2 ^ 62) ≤ (0 : Int) ∧ (0 : Int) < 2 ^ 62 ∧ -(2 ^ 62) ≤ n ∧ n < 2 ^ 62
  · rw [if_pos hc]
    refine ⟨st1, ?_, H1⟩
    show lift (rng1 (.int n)) st1 = _
    unfold rng1
    dsimp only
    rw [if_pos hc.2.2, lift_some]
    have := rngD_rngI 0 n
    rw [Int.sub_zero] at this
    rw [this] <;> rfl
  · rw [if_neg hc]; trivial
theorem ht_lstRg {m : Rho → M D} {q : Mt S Int} (h : HT W fr Γ m q eI fun _ => Γ) : HT W fr Γ (lLstRg m) (mbind q fun n => mrngL 0 n) (fun zs => zs.map eI) fun _ => Γ := fun s ρ st H => by
  unfold lLstRg
  refine OR.bind (h s ρ st H) fun b s2 st2 H2 => ?_
  unfold mrngL
  by_cases hc : rgOk 0 b
  · rw [if_pos hc]
    refine ⟨st2, ?_, H2⟩
    show lift (lRange (.int 0) (.int b)) st2 = _
    unfold lRange
    dsimp only
    rw [if_pos hc, rngD_rngI] <;> rfl
  · rw [if_neg hc]; trivial
theorem af_sortL {α : Type} [DecidableEq α] {e : α → D} {n : Nat} {lt : α → α → Bool} [Ev e n] [Or e lt] [Sb e] (hn : n ≤ 50) (xs : List α) : AC W fr Γ mNil (fun ds => FB pSorted (eL e xs :: ds)) (msort lt xs) (fun zs => zs.map e) fun _ => Γ := ac_if fun h st => by
  show lift (pSorted st [eL e xs]) st = _
  rw [t_sorted hn xs h rfl] <;> rfl
section
variable {α : Type} {e : α → D} {i : Nat} {xs : List α}
theorem onL_ref {st : Sto} {l : Nat} {ys : List D} {f : Nat → List D → Out D} (h : st[l]? = some (.lst ys)) : onL st (.ref l) f = f l ys := by
  unfold onL
  dsimp only
  rw [h]
theorem isTy_ref {st : Sto} {l : Nat} {ys : List D} (h : st[l]? = some (.lst ys)) : (D.ref l).isTy st "list" := ⟨rfl, ys, h⟩
theorem mMeth_one {p : D → List D → M D} {m : Rho → M D} {ρ : Rho} {st st1 : Sto} {l : Nat} {d : D} {ys : List D} (h1 : ρ[i]? = some (some (.ref l))) (h2 : st[l]? = some (.lst ys)) (h3 : m ρ st = .ok d st1) : mMeth "list" p (mVar i) (mCons m mNil) ρ st = nox (p (.ref l) [d] st1) := by
  have e1 : mVar i ρ st = .ok (.ref l) st := by unfold mVar; rw [h1]
  unfold mMeth
  rw [e1, Out.bind_ok, if_pos (isTy_ref h2)]
  unfold mCons mNil
  rw [h3] <;> rfl
theorem ht_append {m : Rho → M D} {q : Mt S α} (hi : Γ[i]? = some (.mut (.lst (xs.map e)))) (h : HT W fr Γ m q e fun _ => Γ) :
    HT W fr Γ (mMeth "list" pAppend (mVar i) (mCons m mNil)) (mbind q fun x => mapp xs x) (fun _ => .non) fun ys => Γ.set i (.mut (.lst (ys.map e))) := fun s ρ st H => by
  obtain ⟨l, q1, q2, q3⟩ := H.mt i _ hi
  have h1 := h s ρ st H
  show OR W fr _ ρ _ _ (rbind (q s) _)
  revert h1
  induction (q s) with
  | ok x s1 =>
    rintro ⟨st1, e1, H1⟩
    rw [mMeth_one q1 q3 e1]
    obtain ⟨l', p1, p2, p3⟩ := H1.mt i _ hi
    rw [q1] at p1
    injection p1 with p1
    injection p1 with p1
    injection p1 with p1
    subst p1
    show OR W fr _ ρ _ _ (mapp xs x s1)
    unfold mapp
    by_cases hl : xs.length < 100000
    · rw [if_pos hl]
      refine ⟨st1.set l (.lst ((xs ++ [x]).map e)), ?_, H1.write _ hi q1⟩
      unfold pAppend
      rw [onL_ref p3]
      dsimp only
      rw [List.length_map, if_pos (show xs.length < SZ from hl)]
      simp
    · rw [if_neg hl]; trivial
  | exc x s1 =>
    rintro ⟨st1, e1, H1⟩
    refine ⟨st1, ?_, H1⟩
    have e1' : mVar i ρ st = .ok (.ref l) st := by unfold mVar; rw [q1]
    unfold mMeth
    rw [e1', Out.bind_ok, if_pos (isTy_ref q3)]
    unfold mCons
    rw [e1] <;> rfl
  | bad => intro _; trivial
  | amb P_ f_ ih_ => rintro ⟨n_, p_, h_⟩; exact ⟨n_, p_, ih_ n_ h_⟩
def mpop (xs : List α) : Mt S (α × List α) := match xs[xs.length - 1]? with
  | some y => mpure (y, xs.dropLast)
  | none => mbad
theorem ht_pop (hi : Γ[i]? = some (.mut (.lst (xs.map e)))) :
    HT W fr Γ (mMeth "list" pPop (mVar i) mNil) (mpop xs) (fun z => e z.1) fun z => Γ.set i (.mut (.lst (z.2.map e))) := fun s ρ st H => by
  obtain ⟨l, q1, q2, q3⟩ := H.mt i _ hi
  have e1 : mVar i ρ st = .ok (.ref l) st := by unfold mVar; rw [q1]
  have e2 : mMeth "list" pPop (mVar i) mNil ρ st = nox (pPop (.ref l) [] st) := by
    unfold mMeth
    rw [e1, Out.bind_ok, if_pos (isTy_ref q3)] <;> rfl
  rw [e2]
  unfold mpop
  cases h : xs[xs.length - 1]? with
  | none => trivial
  | some y =>
    refine ⟨st.set l (.lst (xs.dropLast.map e)), ?_, H.write _ hi q1⟩
    unfold pPop
    rw [onL_ref q3]
    dsimp only
    have : (xs.map e)[(xs.map e).length - 1]? = some (e y) := by rw [List.length_map, List.getElem?_map, h]; rfl
    rw [this]
    dsimp only
    rw [List.map_dropLast] <;> rfl
end
end
end Dn
namespace Dn
open PySem PySem.Spec PyProof.Rows L2
section
variable {S : Type} {W : Wd S} {fr : Sto} {Γ Γ1 Γ2 : List Sl}
theorem ht_conv {β γ : Type} {m : Rho → M D} {q : Mt S β} {e : β → D} {e2 : γ → D} {f : β → γ} (h : HT W fr Γ m q e fun _ => Γ) (he : ∀ x, e x = e2 (f x)) : HT W fr Γ m (mbind q fun x => mpure (f x)) e2 fun _ => Γ := fun s ρ st H => by
  have := h s ρ st H
  show OR W fr _ ρ _ _ (rbind (q s) _)
  revert this
  induction (q s) with
  | ok b s' => rintro ⟨st', e1, h2⟩; exact ⟨st', by rw [e1, he], h2⟩
  | exc x s' => exact id
  | bad => exact id
  | amb P_ f_ ih_ => rintro ⟨n_, p_, h_⟩; exact ⟨n_, p_, ih_ n_ h_⟩
theorem af_tupE {α : Type} {e : α → D} {F : List D → M D} (xs : List α) (h : F [] = FTup (xs.map e)) : AC W fr Γ mNil F (mdisp xs) (eT e) fun _ => Γ := ac_if fun hl st => by
  rw [h]
  unfold FTup
  rw [List.length_map, if_pos hl] <;> rfl
theorem af_dispE {α : Type} {e : α → D} {F : List D → M (List D)} (xs : List α) (h : F [] = FDisp (xs.map e)) : AC W fr Γ mNil F (mdisp xs) (fun zs => zs.map e) fun _ => Γ := ac_if fun hl st => by
  rw [h]
  unfold FDisp
  rw [List.length_map, if_pos hl]
theorem le_c {a b : Nat} (h : Nat.ble a b = true) : a ≤ b := Nat.le_of_ble_eq_true h
theorem lt_c {a b : Nat} (h : Nat.ble (a + 1) b = true) : a < b := Nat.le_of_ble_eq_true h
theorem hv_yes : HV W fr Γ bYes true := fun _ _ _ _ => rfl
theorem tn_skip {σ : Type} {z : σ} {J : σ → List Sl} (w : Wk Γ (J z)) : TN W fr Γ sNext (mpure z) J := fun s ρ st H => ⟨ρ, st, rfl, H.wk w⟩
theorem mCons_fl {m : Rho → M D} {r : Rho → M (List D)} {F : Rho → List D → Sto → Fl} (ρ : Rho) (st : Sto) : (mCons m r ρ st).fl ρ (F ρ) = (m ρ st).fl ρ fun d st1 => (r ρ st1).fl ρ fun ds st2 => F ρ (d :: ds) st2 := by
  unfold mCons
  cases m ρ st with
  | ok d st1 => simp only [Out.bind_ok, Out.fl_ok]; cases r ρ st1 <;> rfl
  | exc _ _ => rfl
  | bad => rfl
theorem ap_T1 {σ γ : Type} {m : Rho → M D} {r : Rho → M (List D)} {F : Rho → List D → Sto → Fl} {d : D} {q1 : Mt S γ} {e1 : γ → D} {k : γ → Mt S σ} {J : σ → List Sl} (h : HT W fr Γ m q1 e1 fun _ => Γ)
    (hr : ∀ x, AP W fr Γ [(d, .val d), (e1 x, .val (e1 x))] r (fun ρ ds => F ρ (e1 x :: ds)) (k x) J) : AP W fr Γ [(d, .val d)] (mCons m r) F (mbind q1 k) J := fun s ρ st H hρ => by
  rw [mCons_fl]
  refine OR.fl (h s ρ st (H.front hρ)) fun b s1 st1 H1 => hr b s1 ρ st1 ?_ hρ
  have := (H1.snocVal d).snocVal (e1 b)
  simpa using this
end
end Dn
namespace Dn
open PySem PySem.Spec PyProof.Rows L2
section
variable {S α β γ σ : Type}
@[simp] theorem calmly_pure' (a : α) : calmly (mpure a : Mt S α) = mpure a := rfl
@[simp] theorem calmly_bad' : calmly (mbad : Mt S α) = mbad := rfl
@[simp] theorem mfin_inl (z : σ) (k : σ → Mt S β) : mfin (mpure (.inl z)) k = k z := rfl
@[simp] theorem mfin_inr (b : β) (k : σ → Mt S β) : mfin (mpure (.inr b)) k = mpure b := rfl
@[simp] theorem mfinL_inl (z : σ) (k : σ → Mt S (Lp γ β)) : mfinL (mpure (.inl z)) k = k z := rfl
@[simp] theorem mfinL_inr (b : β) (k : σ → Mt S (Lp γ β)) : mfinL (mpure (.inr b)) k = mpure (.rt b) := rfl
theorem forU_inv {body : α → σ → Mt S σ} (xs : List α) (z0 : σ) (f : List α → σ) (h0 : f [] = z0) (hb : ∀ pre x post, xs = pre ++ x :: post → body x (f pre) = mpure (f (pre ++ [x]))) : forU body xs z0 = mpure (f xs) := by
  suffices h : ∀ (post pre : List α), xs = pre ++ post → forU body post (f pre) = mpure (f xs) by
    rw [← h0]
    exact h xs [] rfl
  intro post
  induction post with
  | nil =>
    intro pre e
    rw [List.append_nil] at e
    rw [e] <;> rfl
  | cons x post ih =>
    intro pre e
    unfold forU
    rw [hb pre x post e, mbind_pure]
    exact ih (pre ++ [x]) (by rw [e]; simp)
theorem compV_ok {c : α → Bool} {f : α → β} {xs : List α} (h : xs.length ≤ 100000) : compV (S := S) c f xs = mpure ((xs.filter c).map f) := if_pos h
theorem mapT_pure {f : α → Mt S β} (g : α → β) : ∀ xs : List α, (∀ x ∈ xs, f x = mpure (g x)) → mapT f xs = mpure (xs.map g)
  | [], _ => rfl
  | x :: xs, h => by
    unfold mapT
    rw [h x (by simp), mbind_pure, mapT_pure g xs fun y hy => h y (by simp [hy]), mbind_pure] <;> rfl
theorem compM_pure {c : α → Bool} {f : α → Mt S β} (g : α → β) {xs : List α} (hl : xs.length ≤ 100000) (h : ∀ x ∈ xs, c x = true → f x = mpure (g x)) : compM c f xs = mpure ((xs.filter c).map g) := by
  unfold compM
  rw [if_pos hl]
  exact mapT_pure g _ fun x hx => h x (List.mem_filter.mp hx).1 (List.mem_filter.mp hx).2
theorem compT_pure {f : α → Mt S (Option β)} (g : α → Option β) : ∀ xs : List α, (∀ x ∈ xs, f x = mpure (g x)) → compT f xs = mpure (xs.filterMap g)
  | [], _ => rfl
  | x :: xs, h => by
    unfold compT
    rw [h x (by simp), mbind_pure, compT_pure g xs fun y hy => h y (by simp [hy]), mbind_pure]
    cases e : g x <;> simp [List.filterMap_cons, e]
theorem compG_pure {c : α → Mt S Bool} {f : α → Mt S β} (p : α → Bool) (g : α → β) {xs : List α} (hl : xs.length ≤ 100000) (hc : ∀ x ∈ xs, c x = mpure (p x)) (hf : ∀ x ∈ xs, p x = true → f x = mpure (g x)) : compG c f xs = mpure ((xs.filter p).map g) := by
  unfold compG
  rw [if_pos hl, compT_pure (fun x => if p x = true then some (g x) else none)]
  · congr 1
    clear hl hc hf
    induction xs with
    | nil => rfl
    | cons x xs ih => cases e : p x <;> simp [List.filterMap_cons, e, ih]
  · intro x hx
    rw [hc x hx, mbind_pure]
    cases e : p x
    · rfl
    · rw [if_pos rfl, if_pos rfl, hf x hx e] <;> rfl
theorem filter_true {α : Type} (xs : List α) : xs.filter (fun _ => true) = xs := by simp
theorem midx_ok {xs : List α} {i : Int} {x : α} (h0 : 0 ≤ i) (h : xs[i.toNat]? = some x) : midx (S := S) xs i = mpure x := by
  have hl := (List.getElem?_eq_some_iff.mp h).1
  have e : ixN xs.length i = some i.toNat := by
    unfold ixN
    rw [if_pos h0, if_pos (by omega)]
  unfold midx atI
  rw [e]
  show mopt xs[i.toNat]? = _
  rw [h] <;> rfl
theorem midx_cons0 (x : α) (xs : List α) : midx (S := S) (x :: xs) 0 = mpure x := midx_ok (by decide) rfl
theorem midx_last {xs : List α} {x : α} (h : xs.getLast? = some x) : midx (S := S) xs (-1) = mpure x := by
  have hne : xs ≠ [] := fun q => by subst q; cases h
  have hl : 0 < xs.length := List.length_pos_iff.mpr hne
  have e : ixN xs.length (-1) = some (xs.length - 1) := by
    unfold ixN
    rw [if_neg (by decide), if_pos (by omega)]
    congr 1
    omega
  unfold midx atI
  rw [e]
  show mopt xs[xs.length - 1]? = _
  rw [← List.getLast?_eq_getElem?, h] <;> rfl
theorem mmod_ok {a b : Int} (h : 0 < b) : mmod (S := S) a b = mpure (a % b) := if_pos h
theorem mcat_ok {xs ys : List α} (h : xs.length + ys.length ≤ 100000) : mcat (S := S) xs ys = mpure (xs ++ ys) := if_pos h
theorem mapp_ok {xs : List α} {x : α} (h : xs.length < 100000) : mapp (S := S) xs x = mpure (xs ++ [x]) := if_pos h
theorem mdisp_ok {xs : List α} (h : xs.length ≤ 100000) : mdisp (S := S) xs = mpure xs := if_pos h
theorem msort_ok {lt : α → α → Bool} {xs : List α} (h : xs.length ≤ 100000) : msort (S := S) lt xs = mpure (xs.mergeSort (leOf lt)) := if_pos h
theorem mrepT_ok {x : α} {k : Int} (h0 : 0 ≤ k) (h : k ≤ 1000) : mrepT (S := S) [x] k = mpure (List.replicate k.toNat x) := by
  unfold mrepT
  rw [if_pos ⟨by simp, by omega, h⟩]
  congr 1
  generalize k.toNat = n
  induction n with
  | zero => rfl
  | succ n ih => rw [List.replicate_succ, List.flatten_cons, ih] <;> rfl
theorem mrepL_ok {x : α} {k : Int} (h0 : 0 ≤ k) (h : k ≤ 1000) : mrepL (S := S) [x] k = mpure (List.replicate k.toNat x) := by
  unfold mrepL
  rw [if_pos ⟨by simp; omega, by omega, by omega⟩]
  congr 1
  generalize k.toNat = n
  induction n with
  | zero => rfl
  | succ n ih => rw [List.replicate_succ, List.flatten_cons, ih] <;> rfl
def upto (n : Nat) : List Int := (List.range n).map fun i : Nat => (i : Int)
theorem upto_length (n : Nat) : (upto n).length = n := by simp [upto]
theorem mem_upto {n : Nat} {a : Int} : a ∈ upto n ↔ 0 ≤ a ∧ a < n := by
  unfold upto
  simp only [List.mem_map, List.mem_range]
  constructor
  · rintro ⟨i, h, rfl⟩; omega
  · intro ⟨h1, h2⟩; exact ⟨a.toNat, by omega, by omega⟩
theorem rngI_upto (n : Int) : rngI 0 n = upto n.toNat := by
  unfold rngI upto
  rw [Int.sub_zero]
  congr 1
  funext i
  exact Int.zero_add _
theorem mrng_ok {n : Int} (h : n ≤ 1000000000) (h0 : -1000000000 ≤ n) : mrng (S := S) 0 n = mpure (upto n.toNat) := by
  unfold mrng
  have e1 : (2 : Int) ^ 62 = 4611686018427387904 := by decide
  rw [if_pos (by rw [e1]; omega), rngI_upto]
theorem mrng_nat (n : Nat) (h : n ≤ 1000000000) : mrng (S := S) 0 (n : Int) = mpure (upto n) := by rw [mrng_ok (by omega) (by omega), Int.toNat_natCast]
theorem mrngL_ok {n : Int} (h0 : 0 ≤ n) (h : n ≤ 100000) : mrngL (S := S) 0 n = mpure (upto n.toNat) := by
  unfold mrngL
  have e1 : (2 : Int) ^ 62 = 4611686018427387904 := by decide
  have hs : (SZ : Nat) = 100000 := rfl
  rw [if_pos (by unfold rgOk; rw [e1, hs]; omega), rngI_upto]
theorem mrngL_nat (n : Nat) (h : n ≤ 100000) : mrngL (S := S) 0 (n : Int) = mpure (upto n) := by rw [mrngL_ok (by omega) (by omega), Int.toNat_natCast]
theorem enumZ_get : ∀ (xs : List α) (n i : Nat), (enumZ n xs)[i]? = xs[i]?.map fun x => (((n + i : Nat) : Int), x)
  | [], _, _ => by simp [enumZ]
  | x :: xs, n, 0 => by simp [enumZ]
  | x :: xs, n, i + 1 => by
    rw [enumZ, List.getElem?_cons_succ, enumZ_get xs (n + 1) i, List.getElem?_cons_succ]
    rw [show n + 1 + i = n + (i + 1) by omega]
theorem enumZ_length : ∀ (xs : List α) (n : Nat), (enumZ n xs).length = xs.length
  | [], _ => rfl
  | x :: xs, n => by rw [enumZ, List.length_cons, enumZ_length xs, List.length_cons]
theorem mem_enumZ {xs : List α} {n : Nat} {p : Int × α} (h : p ∈ enumZ n xs) : ∃ i : Nat, xs[i]? = some p.2 ∧ p.1 = ((n + i : Nat) : Int) := by
  obtain ⟨i, hi⟩ := List.getElem?_of_mem h
  rw [enumZ_get] at hi
  cases e : xs[i]? with
  | none => rw [e] at hi; cases hi
  | some x =>
    rw [e] at hi
    cases hi
    exact ⟨i, e, rfl⟩
theorem upto_get (n i : Nat) : (upto n)[i]? = if i < n then some (i : Int) else none := by
  unfold upto
  rw [List.getElem?_map]
  by_cases h : i < n
  · rw [List.getElem?_range h, if_pos h] <;> rfl
  · rw [List.getElem?_eq_none (by simpa using h), if_neg h] <;> rfl
theorem sort_ints (xs : List Int) : xs.mergeSort (leOf ltI) = xs.mergeSort (fun a b => decide (a ≤ b)) := by
  congr 1
  funext a b
  unfold leOf ltI
  by_cases h : b < a
  · have : ¬ a ≤ b := by omega
    simp [h, this]
  · have : a ≤ b := by omega
    simp [h, this]
end
end Dn
namespace Dn
open PySem PySem.Spec PyProof.Rows L2
theorem kb_int_int : kitB "int" "int" = some true := by decide +kernel
theorem kb_int_bool : kitB "int" "bool" = some false := by decide +kernel
theorem kb_tuple_tuple : kitB "tuple" "tuple" = some true := by decide +kernel
section
variable {S : Type} {W : Wd S} {fr : Sto} {Γ : List Sl}
theorem hv_isi {T : String} {m : Rho → M D} {d b : D} (h : HV W fr Γ m d) (hk : ∀ st, ((tyD st d).bind fun t => (kitB t T).map D.bl) = some b) : HV W fr Γ (mIsi T m) b := fun s ρ st H => by
  unfold mIsi
  rw [h s ρ st H, Out.bind_ok, hk st, lift_some]
theorem t_isi {d : D} {t T : String} {r : Bool} (hk : kitB t T = some r) (ht : ∀ st, tyD st d = some t) (st : Sto) : ((tyD st d).bind fun t => (kitB t T).map D.bl) = some (.bl r) := by
  rw [ht st]
  show (kitB t T).map D.bl = _
  rw [hk] <;> rfl
end
section
variable {α β : Type} {dp bk n : Nat}
end
theorem nodup_len_sub {l m : List Int} (hn : l.Nodup) : (∀ a ∈ l, a ∈ m) → l.length ≤ m.length := by
  induction l generalizing m with
  | nil => intro _; exact Nat.zero_le _
  | cons a l ih =>
    intro h
    have h1 := ih (m := m.erase a) (List.nodup_cons.mp hn).2 fun b hb => (List.mem_erase_of_ne (fun q => (List.nodup_cons.mp hn).1 (by rw [← q]; exact hb))).mpr (h b (by simp [hb]))
    have h2 : a ∈ m := h a (by simp)
    rw [List.length_erase_of_mem h2] at h1
    have := List.length_pos_of_mem h2
    rw [List.length_cons]
    omega
theorem sorted_upto (n : Nat) : (upto n).Pairwise (· < ·) := by
  unfold upto
  exact List.Pairwise.map _ (fun _ _ h => by omega) List.pairwise_lt_range
def rowAt (pan : List (List Int)) (b : Int) : List Int := pan.getD b.toNat []
theorem midx_row {S : Type} {pan : List (List Int)} {b : Int} (h0 : 0 ≤ b) (h : b < pan.length) : midx (S := S) pan b = mpure (rowAt pan b) := by
  have hl : b.toNat < pan.length := by omega
  refine midx_ok h0 ?_
  unfold rowAt
  rw [List.getElem?_eq_getElem hl, List.getD_eq_getElem?_getD, List.getElem?_eq_getElem hl] <;> rfl
theorem midx_getD {S α : Type} {xs : List α} {b : Int} (d : α) (h0 : 0 ≤ b) (h : b < xs.length) : midx (S := S) xs b = mpure (xs.getD b.toNat d) := by
  have hl : b.toNat < xs.length := by omega
  refine midx_ok h0 ?_
  rw [List.getElem?_eq_getElem hl, List.getD_eq_getElem?_getD, List.getElem?_eq_getElem hl] <;> rfl
theorem getD_mem {α : Type} {xs : List α} {b : Int} (d : α) (h0 : 0 ≤ b) (h : b < xs.length) : xs.getD b.toNat d ∈ xs := by
  have hl : b.toNat < xs.length := by omega
  rw [List.getD_eq_getElem?_getD, List.getElem?_eq_getElem hl]
  exact List.getElem_mem hl
structure Pan (K : Nat) (pan : List (List Int)) : Prop where
  pos : 1 ≤ pan.length
  le : pan.length ≤ K
  len : ∀ r ∈ pan, r.length ≤ K
  rng : ∀ r ∈ pan, ∀ a ∈ r, 0 ≤ a ∧ a < (pan.length : Int)
theorem Pan.row {K : Nat} {pan : List (List Int)} (h : Pan K pan) {b : Int} (h0 : 0 ≤ b) (h1 : b < pan.length) : rowAt pan b ∈ pan := getD_mem [] h0 h1
def Bel (n : Nat) (r : List Int) : Prop := ∀ a ∈ r, 0 ≤ a ∧ a < (n : Int)
end Dn
namespace Dn
open PySem PySem.Spec PyProof.Rows L2
section
variable {S : Type} {W : Wd S} {fr : Sto} {Γ : List Sl} {α β : Type} {e : α → D} {enc : β → D} {gf : D → Rho → M Rho} {mt : Rho → M Bool} {me : Rho → M D} {vs js : List Nat} {G : α → List Sl} {i : Nat}
end
section
variable {S : Type} {W : Wd S} {fr : Sto} {Γ : List Sl} {α : Type} [DecidableEq α] {e : α → D} {n : Nat}
end
section
variable {S : Type} {W : Wd S} {fr : Sto} {Γ : List Sl} {σ β : Type} {J : σ → List Sl} {enc : β → D} {c : Rho → Sto → Fl}
theorem tl_nextR {q : Mt S (Lp σ β)} (h : TL W fr Γ c q J enc) : TL W fr Γ (sSeq sNext c) q J enc := fun s ρ st H => h s ρ st H
theorem tr_nextR {q : Mt S β} (h : TR W fr Γ c q enc) : TR W fr Γ (sSeq sNext c) q enc := fun s ρ st H => h s ρ st H
end
section
variable {S : Type} {W : Wd S} {fr : Sto} {Γ : List Sl}
end
section
variable {S : Type} {W : Wd S} {fr : Sto} {Γ : List Sl}
end
section
variable {S : Type} {W : Wd S} {fr : Sto} {Γ : List Sl}
def meqD (a b : D) : Mt S Bool := if isP a = true ∧ isP b = true ∧ (toP a).depth ≤ 64 then mpure (PyData.eqv (toP a) (toP b)) else mbad
theorem af_eqD (a b : D) : AC W fr Γ mNil (fun ds => F2 pEq (eD a :: eD b :: ds)) (meqD a b) eB fun _ => Γ := ac_if fun h st => by
  show lift (pEq st a b) st = _
  rw [pEq_dat (dat_P h.1) (dat_P h.2.1) (by omega)] <;> rfl
end
end Dn
namespace Dn
open PySem PySem.Spec PyProof.Rows L2
end Dn
namespace Dn
open PySem PySem.Spec PyProof.Rows L2
abbrev Kv (α : Type) := List (List Int × α)
section
variable {α : Type}
def eK (kv : Kv α) : List (List Int) := kv.map Prod.fst
def eW (e : α → D) (kv : Kv α) : List D := kv.map fun p => e p.2
def eDc (e : α → D) (kv : Kv α) : D := .fd (eK kv) (eW e kv)
theorem low_eW {e : α → D} (he : ∀ x n, (e x).low n = true) (n : Nat) : ∀ kv : Kv α, D.lows n (eW e kv) = true
  | [] => by show D.lows n [] = true; simp only [D.lows]
  | p :: ps => by
    show D.lows n (e p.2 :: eW e ps) = true
    simp only [D.lows, Bool.and_eq_true]
    exact ⟨he _ _, low_eW he n ps⟩
end
class Lo {α : Type} (e : α → D) : Prop where
  lo : ∀ x n, (e x).low n = true
instance (priority := low) {α : Type} {e : α → D} [Pl e] : Lo e := ⟨fun x n => low_of_isP n _ (Pl.p x)⟩
instance {α : Type} {e : α → D} [Lo e] : Lo (eDc e) := ⟨fun x n => by
  unfold eDc
  rw [D.low]
  exact low_eW Lo.lo n x⟩
section
variable {S : Type} {W : Wd S} {fr : Sto} {Γ : List Sl} {α : Type} {e : α → D} {i : Nat} {m mi mk mv : Rho → M D}
section
variable {σ β : Type} {enc : β → D} {J : σ → List Sl} {ks : List (List Int)} {xs : List D} {m : Rho → Sto → Fl}
end
end
end Dn
namespace Dn
open PySem PySem.Spec PyProof.Rows L2
def ErrX (K : PySem.W.Frag) (mg : Str → Option Value) (x : Str) : Prop := ∃ C, ErrN K mg x C
def RaX (K : PySem.W.Frag) (mg : Str → Option Value) (x : Str) : Prop := ∃ C, ErrN K mg x C ∧ PySem.W.excIn K C [.type "ValueError", .type "Exception", .type "BaseException", .type "object"] "ValueError.__new__" = true
theorem al_nil {α : Type} {P : α → Prop} : ∀ z ∈ ([] : List α), P z := fun _ h => nomatch h
theorem al_cons {α : Type} {P : α → Prop} {a : α} {l : List α} (h : P a) (hl : ∀ z ∈ l, P z) : ∀ z ∈ a :: l, P z := fun z hz => by
  rcases List.mem_cons.mp hz with rfl | q
  · exact h
  · exact hl z q
theorem ds_raiseX {X : Cx} {W : WX} {x : Str} {p pos pos' : Pos} (hc : X.calm = true) (tk : Takes X W) (T : RaX X.K X.mg x) (hg : Gl X x) (hdb : (x == ("__debug__" : Str)) = false := by decide) :
    DS X W (.Raise (some (.Call (.Name x p) [] [] pos)) none pos') (sRaise x) := by
  obtain ⟨C, T, q⟩ := T
  exact ds_raise0 hc tk T q hg hdb
section
variable {X : Cx} {x : Xc} {e : D} {a : Addr} {oe : Obj} {pn : List (Addr × Obj)} {i : Nat} {p p2 p3 p4 p5 pos : Pos} {yes no : List Str} {y z ev : Str} {kk : Nat}
end
section
variable {S : Type} {W : Wd S} {fr : Sto} {Γ : List Sl} {β : Type} {enc : β → D}
theorem tr_raise {x : Str} : TR W fr Γ (sRaise x) (mraise ⟨x, none⟩ : Mt S β) enc := fun s ρ st H => ⟨ρ, st, rfl, H.pre, trivial⟩
theorem tr_never : TR W fr Γ sNever (mbad : Mt S β) enc := fun s ρ st H => trivial
end
def eQ {α β : Type} (e : α → D) (f : β → D) (z : α × β) : D := .lst [e z.1, f z.2]
instance {α β : Type} {e : α → D} {f : β → D} [Pl e] [Pl f] : Pl (eQ e f) := ⟨fun z => by unfold eQ; simp only [isP, isPs, Pl.p, Bool.and_self]⟩
instance {α β : Type} [DecidableEq α] [DecidableEq β] {e : α → D} {f : β → D} {n m : Nat} [Ev e n] [Ev f m] : Ev (eQ e f) (max n m + 1) := ⟨fun z => by unfold eQ; simp only [isP, isPs, Ev.p, Bool.and_self], fun z => by
  unfold eQ
  have h1 := Ev.dep (e := e) z.1
  have h2 := Ev.dep (e := f) z.2
  simp only [toP, toPs, PyData.depth, PyData.depthAll]
  omega, fun x y => by
  unfold eQ
  simp only [toP, toPs, PyData.eqv, PyData.eqvAll, Ev.eq]
  rw [Bool.eq_iff_iff]
  simp [Prod.ext_iff]⟩
end Dn
namespace Dn
open PySem PySem.Spec PyProof.Rows L2
section
variable {S : Type} {W : Wd S} {fr : Sto} {Γ : List Sl} {α β : Type}
def midxD (d : D) (i : Int) : Mt S D := match d with
  | .tup xs => midx xs i
  | _ => mbad
theorem af_idxD (d : D) (i : Int) : AC W fr Γ mNil (fun ds => F2 pIdx (eD d :: eI i :: ds)) (midxD d i) eD fun _ => Γ := by
  cases d with
  | tup xs =>
    have := af_idxT (W := W) (fr := fr) (Γ := Γ) (e := eD) xs i
    have e : eT eD xs = eD (.tup xs) := by
      show D.tup (xs.map fun d => d) = D.tup xs
      rw [List.map_id']
    rw [e] at this
    exact this
  | _ => exact fun s ρ st H => trivial
end
inductive CV where
  | two (w : Str) (xs : List Int) | three (w : Str) (b : Int) (ms : List Int)
def eCV : CV → D
  | .two w xs => eP eS (eT eI) (w, xs)
  | .three w b ms => eP3 eS eI (eT eI) (w, b, ms)
def CV.w : CV → Str
  | .two w _ => w
  | .three w _ _ => w
def CV.len : CV → Int
  | .two _ _ => 2
  | .three _ _ _ => 3
instance : Pl eCV := ⟨fun v => by
  cases v with
  | two w xs => exact Pl.p (e := eP eS (eT eI)) (w, xs)
  | three w b ms => exact Pl.p (e := eP3 eS eI (eT eI)) (w, b, ms)⟩
section
variable {S : Type} {W : Wd S} {fr : Sto} {Γ : List Sl}
end
section
variable {S : Type} {W : Wd S} {fr : Sto} {Γ : List Sl} {β γ : Type} {enc : β → D} {enc' : γ → D}
end
section
variable {S : Type} {W : Wd S} {fr : Sto} {Γ : List Sl}
end
end Dn
namespace Dn
open PySem PySem.Spec PyProof.Rows L2
def MaskB (m : Nat) : Prop := m = 7 ∨ m = 31 ∨ m = 127 ∨ m = 511 ∨ m = 2047
theorem inB_way (m : Nat) (h : Int) (k : Nat) : way m h k ≤ m := by
  have hi : SetTable.bits h % (m + 1) < m + 1 := Nat.mod_lt _ (Nat.succ_pos _)
  have r := runEnd_bd (Nat.le_of_lt_succ hi)
  refine Nat.le_trans (Nat.le_add_right _ _) (nth_in k (runAt m (SetTable.bits h % (m + 1)) (SetTable.bits h)) ?_)
  show SetTable.bits h % (m + 1) + (SetTable.runEnd m (SetTable.bits h % (m + 1)) - SetTable.bits h % (m + 1)) ≤ m
  omega
structure TbB (t : SetTable) (hs : List Int) : Prop where
  ris : Ris t.place.toList
  dm : t.dummies = #[]
  len : t.place.toList.length = hs.length
  mask : MaskB t.mask
  bd : ∀ x ∈ t.place.toList, x ≤ t.mask
  met : ∀ q ∈ hs.zip t.place.toList, ∃ k, way t.mask q.1 k = q.2 ∧ ∀ k', k' < k → way t.mask q.1 k' ∈ t.place.toList
theorem zip_cut {α β : Type} {A : List α} {B : List β} (hl : A.length = B.length) {p : Nat} {x : α} {y : β} {q : α × β} (h : q ∈ (A.take p ++ x :: A.drop p).zip (B.take p ++ y :: B.drop p)) : q = (x, y) ∨ q ∈ A.zip B := by
  have e : (A.take p).length = (B.take p).length := by rw [List.length_take, List.length_take, hl]
  have z : A.zip B = (A.take p).zip (B.take p) ++ (A.drop p).zip (B.drop p) := by
    rw [← List.zip_append e, List.take_append_drop, List.take_append_drop]
  rw [List.zip_append e, List.zip_cons_cons, List.mem_append, List.mem_cons] at h
  rw [z, List.mem_append]
  rcases h with h | h | h
  · exact .inr (.inl h)
  · exact .inl h
  · exact .inr (.inr h)
theorem TbB.more {t : SetTable} {hs : List Int} (T : TbB t hs) {h : Int} {K j p : Nat} (ej : way t.mask h K = j) (ep : SetTable.below t.place j = p) (hK : j ∉ t.place.toList) (hb : ∀ k, k < K → way t.mask h k ∈ t.place.toList) :
    (t.put j).2 = p ∧ TbB (t.put j).1 (hs.take p ++ h :: hs.drop p) ∧ (t.put j).1.mask = t.mask ∧ (t.put j).1.led = t.led ∧ (t.put j).1.plain = t.plain := by
  have e1 : (t.put j).1.place.toList = t.place.toList.take p ++ j :: t.place.toList.drop p := by
    rw [put_place, ep]
  have hno : ¬ t.place[SetTable.below t.place j]? = some j := fun z => hK (by rw [← Array.getElem?_toList] at z; exact List.mem_of_getElem? z)
  have old : ∀ x ∈ t.place.toList, x ∈ (t.put j).1.place.toList := fun x hx => by
    rw [e1]
    exact mem_ins.mpr (.inr hx)
  have hpl : p ≤ t.place.toList.length := by
    rw [← ep, Array.length_toList]
    exact (below_cut T.ris j).1
  refine ⟨ep, { ris := ris_insert T.ris hno, dm := put_dm T.dm j, len := ?_, mask := T.mask, bd := fun x hx => ?_, met := fun q hq => ?_ }, rfl, rfl, rfl⟩
  · rw [e1, len_ins _ hpl, len_ins _ (by rw [← T.len]; exact hpl), T.len]
  · rw [e1] at hx
    rcases mem_ins.mp hx with rfl | hx
    · rw [← ej]; exact inB_way _ _ _
    · exact T.bd x hx
  · rw [e1] at hq
    rcases zip_cut T.len.symm hq with rfl | hq
    · exact ⟨K, ej, fun k hk => old _ (hb k hk)⟩
    · obtain ⟨k, a1, a2⟩ := T.met q hq
      exact ⟨k, a1, fun k' hk' => old _ (a2 k' hk')⟩
structure SetB (P : Program) (w : World) (h : Heap) (a : Addr) (L : List (Addr × List Int)) (es : Array (Int × Value)) (ep : Nat) (t : SetTable) : Prop where
  ob : ∃ o, h.get? a = some o ∧ o.ExactSet ∧ o.data = .set es ep t
  rw_ : es.toList = rowsOf P w L
  tb : TbB t (L.map fun p => thash P w p.2)
  once : (L.map (·.2)).Nodup
  tups : ∀ p ∈ L, IsT P w h p.2 p.1
  pv : t.plain = true
  lead : w.params.followText "set-order" = true ∨ t.led = true
  gap : L.length * 5 < t.mask * 3
  lim : L.length < 1200
section
variable {P : Program} {w : World} {A : Around} {E : Value → Shared → Prop} {s : Shared} {a : Addr} {L : List (Addr × List Int)} {es : Array (Int × Value)} {ep : Nat} {t : SetTable}
end
section
variable {P : Program} {w : World} {A : Around} {E : Value → Shared → Prop}
end
section
variable {P : Program} {w : World} {A : Around} {E : Value → Shared → Prop} {s : Shared}
end
end Dn
namespace Dn
open PySem PySem.Spec PyProof.Rows L2
section
variable {X : Cx} {W : WX} {a : Expr} {m : Rho → M D} {p p2 q pos : Pos}
end
section
variable {S : Type} {W : Wd S} {fr : Sto} {Γ : List Sl}
end
def inB {α : Type} [DecidableEq α] (x : α) (xs : List α) : Bool := decide (x ∈ xs)
section
variable {α : Type} [DecidableEq α] {e : α → D} {n : Nat}
end
section
variable {S : Type} {W : Wd S} {fr : Sto} {Γ : List Sl}
end
section
variable {S : Type} {W : Wd S} {fr : Sto} {Γ : List Sl} {α : Type} [DecidableEq α] {e : α → D} {n : Nat}
end
section
variable {X : Cx} {W : WX} {k : Nat} {y : Str} {body suite : List Stmt} {b₀ : Stmt} {np pos pos' : Pos} {mb : Rho → Sto → Fl}
end
section
variable {X : Cx}
end
section
variable {S : Type} {W : Wd S} {fr : Sto} {Γ : List Sl}
end
section
variable {S : Type} {W : Wd S} {fr : Sto} {Γ : List Sl} {α : Type} {e : α → D}
end
section
variable {P : Program} {w : World} {A : Around} {E : Value → Shared → Prop} {s : Shared}
theorem walk_from {I : Addr} {fp wr : List Addr} {G : Array GenState → Array GenState → Prop} {n k : Nat} {Pv : Nat → Value → Prop} {St : Nat → Shared → Prop} (W : WalksS P w A I fp wr G (k + n) Pv St) :
    WalksS P w A I fp wr G n (fun j => Pv (k + j)) (fun j => St (k + j)) where
  sub := W.sub
  grefl := W.grefl
  gtrans := W.gtrans
  frame := fun j => W.frame (k + j)
  item := fun j s Q E hj => W.item (k + j) s Q E (by omega)
  done := W.done
  self := fun j => W.self (k + j)
theorem items_list {Pv : Nat → Value → Prop} {acc : Array Value} {xs : List Value} (h : ItemsOf Pv acc xs.length) (hp : ∀ j v, Pv j v → xs[j]? = some v) : acc.toList = xs := by
  refine List.ext_getElem? fun j => ?_
  by_cases hj : j < acc.size
  · have e : acc[j]? = some acc[j] := Array.getElem?_eq_getElem hj
    rw [Array.getElem?_toList, e, hp j _ (h.2 j _ e)]
  · have hl := h.1
    rw [Array.getElem?_toList, Array.getElem?_eq_none (by omega), List.getElem?_eq_none (by omega)]
theorem unpack_star {t : Addr} {items : Array Value} {i : Nat} {Q : List Value → Shared → Prop} (hh : A.handled = none) (ht : s.heap.IsTuple t items) (hi : i ≤ items.size) (hz : items.size ≤ sizeLine)
    (hQ : ∀ (h2 : Heap) (tk : Nat), (∀ b o, s.heap.get? b = some o → h2.get? b = some o) → Q (items.toList.take i ++ [.ref h2.objs.size]) { s with heap := h2.push { cls := .type "list", data := .seq (items.toList.drop i).toArray }, toks := tk }) :
    wpAny (model P w) A (unpackItems (.ref t) (i + 1) (some i)) Q E s := by
  obtain ⟨ot, got, _⟩ := id ht
  have hlt : t < s.heap.objs.size := Heap.lt_size got
  have hne : t ≠ s.heap.objs.size := Nat.ne_of_lt hlt
  unfold unpackItems
  refine wpAny_bind ?_
  unfold notIterableAtAll
  refine wpAny_bind (wpAny_specialOf ht.typeIs PySem.F.slot_tuple_iter.lookup (wpAny_pure ?_))
  simp only [Bool.false_eq_true, if_false]
  refine wpAny_bind (wpAny_holding (wpAny_pyIter_tuple ht ?_))
  refine wpAny_bind (wpAny_holding (wpAny_draw_tuple hne i 0 _ _ ⟨_, Heap.get?_push_size _ rfl, rfl, rfl⟩ (ht.push _) (by omega) fun h1 it1 sb1 => ?_))
  have hlen : (List.take i (List.drop 0 items.toList)).length = i := by
    rw [List.drop_zero, List.length_take, Array.length_toList]
    omega
  rw [if_neg (by rw [hlen]; omega)]
  try refine wpAny_bind (wpAny_pure ?_)
  have ht1 : h1.IsTuple t items := (ht.push _).extBut sb1.extBut hne
  have old1 : ∀ b o, s.heap.get? b = some o → h1.get? b = some o := fun b o e => by
    rw [sb1.2 b (Nat.ne_of_lt (Heap.lt_size e))]
    exact Heap.get?_push_of_some _ e
  obtain ⟨n, hn⟩ : ∃ n, items.size = i + n := ⟨items.size - i, by omega⟩
  have W0 := (Walks.tuple (prog := P) (w := w) (A := A.in1) (by simp [hh]) s.heap.objs.size t hne items).toS
  rw [hn] at W0
  have W1 := walk_from W0
  obtain ⟨oi, goi, _, _⟩ := id it1
  refine wpAny_bind (wpAny_holding (wpAny_collect_iter (T := "tuple_iterator") (.inr (.inr (.inr rfl))) W1 (fun j s' st => by
    obtain ⟨o, go, c, _⟩ := st.1
    exact ⟨o, go, c⟩) (show h1.IsTupleIter _ _ _ ∧ h1.IsTuple _ _ from ⟨by simpa using it1, ht1⟩) (fun b hb => ?_) (by simp) (fun s2 acc mv hacc => ?_) (by omega)))
  · rcases List.mem_cons.mp hb with rfl | hb
    · exact Heap.lt_size goi
    · rw [List.mem_singleton.mp hb]
      exact Heap.lt_size (old1 t ot got)
  · have eacc : acc.toList = items.toList.drop i := by
      have hdl : (items.toList.drop i).length = n := by
        rw [List.length_drop, Array.length_toList]
        omega
      refine items_list (by rw [hdl]; exact hacc) fun j v hv => ?_
      rw [List.getElem?_drop, Array.getElem?_toList]
      exact hv
    obtain ⟨h2, g2, d2, tk2, os2⟩ := s2
    obtain rfl : g2 = s.gens := mv.gens
    obtain rfl : d2 = s.drawn := mv.drawn
    obtain rfl : os2 = s.os := mv.os
    have old2 : ∀ b o, s.heap.get? b = some o → h2.get? b = some o := fun b o e => mv.heap b o (by
      intro hb
      rw [List.mem_singleton.mp hb] at e
      exact absurd (Heap.lt_size e) (Nat.lt_irrefl _)) (old1 b o e)
    rw [eacc]
    have e1 : i + 1 - 1 - i = 0 := by omega
    rw [e1]
    rw [if_neg (Nat.not_lt_zero _)]
    try refine wpAny_bind (wpAny_pure ?_)
    rw [Nat.sub_zero, List.take_length, List.drop_length]
    have hdz : (items.toList.drop i).length ≤ sizeLine := by
      rw [List.length_drop, Array.length_toList]
      omega
    refine wpAny_bind (wpAny_newList ?_ hdz)
    refine wpAny_pure ?_
    rw [List.append_nil, List.drop_zero]
    exact hQ h2 tk2 old2
end
section
variable {X : Cx} {pos : Pos}
def gStar (K : PySem.W.Frag) (i : Nat) (t : TGs) : TG := fun v σ H Q => ∃ a xs, v = .ref a ∧ SqT K H a xs ∧ i ≤ xs.length ∧ ∀ p, H p = none → t (xs.take i ++ [.ref p]) σ (upd H p (.lst (xs.drop i))) Q
theorem pg_star {es : List Expr} {k i : Nat} {t : TGs} (hc : X.calm = true) (h : PGs X es t)
    (hn : (assignEach es X.env).length = i + 1 := by rfl) (hst : (assignEach es X.env).findIdx? (·.1) = some i := by rfl) : PG X (.Tuple es k pos) (gStar X.K i t) := by
  refine ⟨fun pins s σ H v u Q I r ⟨a, xs, e1, hq, hl, hw⟩ => ?_⟩
  subst e1
  cases r
  obtain ⟨its, rv, ht, hz⟩ := I.tuple hq
  have hsz : its.toArray.size = xs.length := by rw [List.size_toArray, rv.length]
  rw [PySem.arm_assign_Tuple]
  refine wpAny_bind (wpAny_standAt ?_)
  unfold unpack
  rw [hn, hst]
  refine wpAny_bind (wpAny_holding (unpack_star (I.ok.hd hc) (show s.heap.IsTuple a its.toArray from ht) (by omega) (by rw [List.size_toArray, ← rv.length]; exact hz) fun h2 tk old => ?_))
  have I1 : Inv X pins σ H { s with heap := h2, toks := tk } := I.kept old
  have hn2 : H h2.objs.size = none := I1.hok.fresh (Nat.le_refl _)
  have hlen : (xs.drop i).length ≤ sizeLine := by
    have := rv.length
    rw [List.length_drop]
    omega
  have I2 : Inv X pins σ (upd H h2.objs.size (.lst (xs.drop i))) { s with heap := h2.push { cls := .type "list", data := .seq (its.drop i).toArray }, toks := tk } :=
    I1.laid (t' := tk) (fun b u e => Heap.get?_push_of_some _ e) (Nat.le_refl _) ⟨hlen, its.drop i, 0, rv.drop i, Heap.get?_push_size _ rfl⟩
  exact h.run pins _ σ _ (xs.take i ++ [.ref h2.objs.size]) (its.take i ++ [.ref h2.objs.size]) Q I2 (Vals.append (rv.take i) (.cons (show RelV (V.ref h2.objs.size) (Value.ref h2.objs.size) from rfl) .nil)) (hw _ hn2)
end
def gS (i : Nat) (gs : List D → Rho → M Rho) : D → Rho → M Rho := fun d ρ st => match d with
  | .tup xs => if i ≤ xs.length then gs (xs.take i ++ [.lst (xs.drop i)]) ρ st else .bad
  | _ => .bad
section
variable {X : Cx} {pos : Pos}
theorem dgs_star {e : Expr} {p : Pos} {j1 : List Nat} {g : D → Rho → M Rho} (h1 : DG X j1 e g)
    (hs : (assignEach [.Starred e p] X.env).map (·.2) = assign e X.env :: (assignEach [] X.env).map (·.2) := by rfl)
    (hs2 : (assignEach [e] X.env).map (·.2) = assign e X.env :: (assignEach [] X.env).map (·.2) := by rfl) : DGs X (j1 ++ []) [.Starred e p] (gsCons g gsNil) := by
  have h := dgs_cons h1 (dgs_nil (X := X)) hs2
  refine ⟨fun pins s σ H vs us Q I r q => ?_⟩
  have := h.run pins s σ H vs us Q I r q
  rw [hs2] at this
  rw [hs]
  exact this
theorem dg_star {es : List Expr} {k i : Nat} {js : List Nat} {gs : List D → Rho → M Rho} (hc : X.calm = true) (h : DGs X js es gs)
    (hn : (assignEach es X.env).length = i + 1 := by rfl) (hst : (assignEach es X.env).findIdx? (·.1) = some i := by rfl) : DG X js (.Tuple es k pos) (gS i gs) := by
  refine PG.weak (pg_star hc h hn hst) fun v σ H Q ⟨F, ι, ρ, st, d, S, R, r, q⟩ => ?_
  unfold gS at q
  split at q
  · split at q
    · rename_i xs hl
      simp only [Rep] at r
      obtain ⟨a, vs, e, h, rr⟩ := r
      refine ⟨a, vs, e, S.sqT h, by rw [← rr.length]; exact hl, fun p hp => ?_⟩
      have hF : F p = none := by
        cases e2 : F p with
        | none => rfl
        | some o => have := S.sub p o e2; rw [hp] at this; cases this
      have hi : p ∉ ι := fun hm => S.there p hm hp
      have x : Ext F ι H (upd F p (.lst (vs.drop i))) ι (upd H p (.lst (vs.drop i))) := (Ext.laid hp).freeze hF hp
      have S2 := (S.laid (o := .lst (vs.drop i)) hp).freeze upd_same hF hi (by exact True.intro)
      refine ⟨_, ι, ρ, st, _, S2, R.ext x, ?_, post_ext back_R q x⟩
      refine Reps.append ((Reps.take' i rr).ext x) ?_
      simp only [Reps]
      refine ⟨_, [], rfl, ?_, rfl⟩
      simp only [Rep]
      exact ⟨p, vs.drop i, rfl, upd_same, (Reps.drop' i rr).ext x⟩
    · exact q.elim
  · exact q.elim
end
section
variable {S : Type} {W : Wd S} {fr : Sto} {Γ Γ1 : List Sl}
end
end Dn
namespace Dn
open PySem PySem.Spec PyProof.Rows L2
section
variable {P : Program} {w : World} {A : Around} {E : Value → Shared → Prop} {s : Shared} {a : Addr} {L : List (Addr × List Int)} {es : Array (Int × Value)} {ep : Nat} {t : SetTable}
end
section
variable {X : Cx} {W : WX} {a b : Expr} {m1 m2 : Rho → M D} {p p2 q q2 pos : Pos}
end
section
variable {S : Type} {W : Wd S} {fr : Sto} {Γ : List Sl}
end
section
variable {S : Type} {W : Wd S} {fr : Sto} {Γ : List Sl}
end
section
variable {S : Type} {W : Wd S} {fr : Sto} {Γ : List Sl}
def mcastI {S : Type} (d : D) : Mt S Int := match d with
  | .int i => mpure i
  | _ => mbad
theorem or_cast {A α β : Type} {e : α → A} {f : α → Mt S β} {e2 : β → A} {ρ : Rho} (h : ∀ a b s, f a s = .ok b s → e a = e2 b) (hd : ∀ a s, (∃ b, f a s = .ok b s) ∨ f a s = .bad) {r : Out A} {q : Rs S α} (H : OR W fr (fun _ => Γ) ρ e r q) : OR W fr (fun _ => Γ) ρ e2 r (rbind q f) := by
  induction q with
  | ok a s' =>
    obtain ⟨st', e1, H1⟩ := H
    show OR W fr _ ρ e2 r (f a s')
    rcases hd a s' with ⟨b, hb⟩ | hb
    · rw [hb]
      exact ⟨st', by rw [e1, h a b s' hb], H1⟩
    · rw [hb]
      trivial
  | exc x s' => exact H
  | bad => trivial
  | amb P_ f_ ih_ => obtain ⟨n_, p_, h3⟩ := H; exact ⟨n_, p_, ih_ n_ h3⟩
theorem ht_castI {m : Rho → M D} {q : Mt S D} (h : HT W fr Γ m q eD fun _ => Γ) : HT W fr Γ m (mbind q mcastI) eI fun _ => Γ := fun s ρ st H => or_cast (fun a b s e => by
  cases a <;> first | (cases e; rfl) | cases e) (fun a s => by cases a <;> first | exact .inl ⟨_, rfl⟩ | exact .inr rfl) (h s ρ st H)
end
end Dn
namespace Dn
open PySem PySem.Spec PyProof.Rows L2
mutual
def isR : D → Bool
  | .non => true | .bl _ => true | .int _ => true | .str _ => true | .sd _ => true
  | .tup xs => isRs xs | .lst xs => isRs xs
  | .scr _ => false | .ref _ => false | .adr _ => false | .fd _ _ => false | .exo _ _ _ _ => false | .obj _ _ _ => false
def isRs : List D → Bool
  | [] => true
  | d :: ds => isR d && isRs ds
end
section
variable {X : Cx} {pins : List (Addr × Obj)} {σ : L2.St} {s : Shared} {F H : Hp} {ι : List Addr} {st : Sto}
end
section
variable {S : Type} {W : Wd S} {fr : Sto} {Γ : List Sl}
def misiD {S : Type} (T : String) (d : D) : Mt S Bool := match d with
  | .ref _ => mbad
  | d => match (tyD [] d).bind fun t => kitB t T with
    | some b => mpure b
    | none => mbad
theorem ty_static {d : D} (h : ∀ l, d ≠ .ref l) (st : Sto) : tyD st d = tyD [] d := by
  cases d <;> first | rfl | exact absurd rfl (h _)
theorem ht_isiD {T : String} {m : Rho → M D} {q : Mt S D} (h : HT W fr Γ m q eD fun _ => Γ) : HT W fr Γ (mIsi T m) (mbind q fun d => misiD T d) eB fun _ => Γ := fun s ρ st H => by
  unfold mIsi
  refine OR.bind (h s ρ st H) fun d s1 st1 H1 => ?_
  by_cases hr : ∀ l, d ≠ .ref l
  · show OR W fr _ ρ eB (lift ((tyD st1 d).bind fun t => (kitB t T).map D.bl) st1) (misiD T d s1)
    have e1 : misiD (S := S) T d = match (tyD [] d).bind fun t => kitB t T with
      | some b => mpure b
      | none => mbad := by
      cases d <;> first | rfl | exact absurd rfl (hr _)
    rw [ty_static hr st1, e1]
    cases e : tyD [] d with
    | none => trivial
    | some t =>
      show OR W fr _ ρ eB (lift ((kitB t T).map D.bl) st1) ((match kitB t T with
        | some b => mpure b
        | none => mbad : Mt S Bool) s1)
      cases e2 : kitB t T with
      | none => trivial
      | some b => exact ⟨st1, rfl, H1⟩
  · obtain ⟨l, hl⟩ := Classical.not_forall.mp hr
    obtain rfl : d = .ref l := Classical.not_not.mp hl
    trivial
theorem misi_int (i : Int) : misiD (S := S) "int" (.int i) = mpure true := by
  show (match kitB "int" "int" with | some b => mpure b | none => mbad) = _
  rw [kb_int_int]
theorem ht_chain {α : Type} {e : α → D} {p p' : Sto → D → D → Option D} {m1 m2 m3 : Rho → M D} {q1 q2 q3 : Mt S α} {c c' : α → α → Bool} (h1 : HT W fr Γ m1 q1 e fun _ => Γ) (h2 : HT W fr Γ m2 q2 e fun _ => Γ) (h3 : HT W fr Γ m3 q3 e fun _ => Γ) (hp : ∀ a b st, p st (e a) (e b) = some (.bl (c a b))) (hp' : ∀ a b st, p' st (e a) (e b) = some (.bl (c' a b))) :
    HT W fr Γ (mChain p p' m1 m2 m3) (mbind q1 fun a => mbind q2 fun b => if c a b = true then mbind q3 fun d => mpure (c' b d) else mpure false) eB fun _ => Γ := fun s ρ st H => by
  unfold mChain
  refine OR.bind (h1 s ρ st H) fun a s1 st1 H1 => ?_
  refine OR.bind (h2 s1 ρ st1 H1) fun b s2 st2 H2 => ?_
  rw [hp a b st2]
  cases hc : c a b with
  | true =>
    rw [if_pos rfl]
    refine OR.bind (h3 s2 ρ st2 H2) fun d s3 st3 H3 => ?_
    rw [hp' b d st3]
    exact ⟨st3, rfl, H3⟩
  | false =>
    rw [if_neg (by decide)]
    exact ⟨st2, rfl, H2⟩
end
structure ROkR (dp bk : Nat) (d : D) : Prop where
  p : isR d = true
  dep : (toP d).depth ≤ dp
  show_ : (toP d).showable = true
  leaf : (toP d).leavesShort 60 = true
  blk : (toP d).bulk ≤ bk
theorem ROkR.mono {dp bk dp' bk' : Nat} {d : D} (h : ROkR dp bk d) (h1 : dp ≤ dp') (h2 : bk ≤ bk') : ROkR dp' bk' d := ⟨h.p, Nat.le_trans h.dep h1, h.show_, h.leaf, Nat.le_trans h.blk h2⟩
section
variable {X : Cx} {W : WX} {pos : Pos}
inductive SdE (X : Cx) : List (Option Expr) → List Expr → List (Str × Option Int) → Prop where
  | nil : SdE X [] [] []
  | cons {k v : Expr} {ks : List (Option Expr)} {vs : List Expr} {x : Str} {o : Option Int} {kvs : List (Str × Option Int)} (hk : PE X k (tC (.str x))) (hv : PE X v (tC (oV o))) (t : SdE X ks vs kvs) : SdE X (some k :: ks) (v :: vs) ((x, o) :: kvs)
end
section
variable {X : Cx} {x : Xc} {e : D} {a : Addr} {oe : Obj} {pn : List (Addr × Obj)} {i : Nat} {p p2 p3 pos : Pos} {yes no : List Str}
def KitT (K : PySem.W.Frag) (n : Str) (T : String) (b : Bool) : Prop := ∀ C, PySem.W.nsIn K mainGlobals n = some (some (.ref C)) → PySem.W.kitOne K (.ref C) (.type T) = some b
end
def pNeR (st : Sto) (a b : D) : Option D := match pNe st a b with
  | some d => some d
  | none => match a, b with
    | .lst (_ :: _), .lst [] => some (.bl true)
    | _, _ => none
theorem op_pNeR {X : Cx} (hu : X.A.units + 64 < cLine) : OpR X (compareOp .NotEq) (rP X.K pNeR) := by
  intro pins s σ H x y v u Q I rx ry ⟨F, ι, st, a, b, d, S, ra, rb, e, q⟩
  unfold pNeR at e
  split at e
  · rename_i d1 e1
    cases e
    exact op_pNe hu pins s σ H x y v u Q I rx ry ⟨F, ι, st, a, b, d, S, ra, rb, e1, q⟩
  · split at e
    · rename_i d1 ds
      cases e
      simp only [Rep] at ra rb
      obtain ⟨l, vs, rfl, h1, r1⟩ := ra
      obtain ⟨l2, vs2, rfl, h2, r2⟩ := rb
      obtain rfl : v = Value.ref l := rx
      obtain rfl : u = Value.ref l2 := ry
      obtain ⟨its, q1, pl, _⟩ := I.list (SqL.of (S.sub _ _ h1))
      obtain ⟨its2, q2, pl2, _⟩ := I.list (SqL.of (S.sub _ _ h2))
      simp only [Reps] at r1 r2
      subst r2
      cases q2
      obtain ⟨v0, r, rfl, _, _⟩ := r1
      cases q1 with
      | @cons a b as bs h t =>
        exact SeqAt.RcNeAt.lists_lengths pl.isList pl2.isList (by simp) (by omega) _ _ _ _ ⟨.bl true, H, I, rfl, q F H _ Ext.refl S (by simp only [Rep])⟩
    · cases e
theorem t_neE {α : Type} {e : α → D} (xs : List α) (st : Sto) : pNeR st (eL e xs) (.lst []) = some (.bl (!xs.isEmpty)) := by
  cases xs with
  | nil => rfl
  | cons x xs =>
    unfold pNeR
    split
    · rename_i d1 e1
      show some d1 = some (.bl true)
      rw [← e1]
      show pNe st (.lst (e x :: xs.map e)) (.lst []) = _
      have e1 : pNe st (.lst (e x :: xs.map e)) (.lst []) = some d1 := e1
      by_cases hp : isP (.lst (e x :: xs.map e)) = true
      · rw [pNe_dat (dat_P hp) (dat_P (d := .lst []) rfl) (by simp only [toP, toPs, PyData.depth, PyData.depthAll]; omega)]
        simp only [toP, toPs]
        rfl
      · have : dat st (.lst (e x :: xs.map e)) = none := by
          show (if isP (.lst (e x :: xs.map e)) = true then some (toP (.lst (e x :: xs.map e))) else none) = none
          rw [if_neg hp]
        unfold pNe at e1
        dsimp only at e1
        rw [this] at e1
        cases e1
    · rfl
end Dn
namespace Dn
open PySem PySem.Spec PyProof.Rows L2
def spE (K : PySem.W.Frag) (spec : List D → M D) : Sp := fun vs H Q E => ∃ F ι st ds, Sim K F ι st H ∧ Reps K F ι ds vs ∧ post K (wE E) [] F ι H (pV K) (spec ds st) Q
def RunE (P : Program) (w : World) (K : PySem.W.Frag) (mg : Str → Option Value) (base : Heap) (k : Nat) (f : Addr) (spec : List D → M D) : Prop :=
  ∀ (B : Around) (fr : List Env) (s : Shared) (H : Hp) (us : List Value) (vs : List V) (Q : VK) (E : XK), Room k B → (5 < k → B.guards = some []) → Env0 P w K mg base B fr s H → K.In s.heap → Vals vs us → spE K spec vs H Q E →
    codeAny (model P w) B (.call (.ref f) ⟨us, []⟩) (CR (L2.CX P w) fr P w H s Q E) s
section
variable {P : Program} {w : World} {K : PySem.W.Frag} {mg : Str → Option Value} {base : Heap} {k k' : Nat} {f : Addr} {spec : List D → M D}
theorem RunE.mono (h : RunE P w K mg base k f spec) (hk : k ≤ k') : RunE P w K mg base k' f spec := fun B fr s H us vs Q E hr hg => h B fr s H us vs Q E (hr.mono hk) fun h5 => hg (by omega)
def padN (j : Nat) (spec : List D → M D) : List D → M D := fun ds st => spec (ds ++ List.replicate j D.non) st
theorem reps_non {F : Hp} {ι : List Addr} : ∀ j : Nat, Reps K F ι (List.replicate j D.non) (List.replicate j V.non)
  | 0 => Reps.nil
  | j + 1 => Reps.cons (by simp only [Rep]) (reps_non j)
theorem runE_pad {fd : FuncData} {ps : List Str} {np j : Nat} {us0 : List Value} (F : FnG P w K mg base k f fd ps (spD K np spec)) (nn : NeedN np spec) (hb : Binds K fd ps us0) (hv : Vals (List.replicate j V.non) us0) : RunE P w K mg base k f (padN j spec) := by
  intro B fr s H us vs Q E hr hg e0 KI r h
  obtain ⟨F0, ι, st, ds, S, rs, q⟩ := h
  by_cases hn : (ds ++ List.replicate j D.non).length = np
  · have hsp : spD K np spec (vs ++ List.replicate j V.non) H Q E := ⟨by rw [← hn, ← (rs.append (reps_non j)).length], F0, ι, st, _, S, rs.append (reps_non j), q⟩
    have hl : (us ++ us0).length = ps.length := by rw [← (r.append hv).length]; exact F.len _ _ _ _ hsp
    exact F.run B fr s H ⟨us, []⟩ (us ++ us0) (vs ++ List.replicate j V.non) Q E hr hg e0 (hb s us KI hl) (r.append hv) hsp
  · have q : post K (wE E) [] F0 ι H (pV K) (spec (ds ++ List.replicate j D.non) st) Q := q
    rw [nn _ _ hn] at q
    exact (q : False).elim
theorem runE_of {fd : FuncData} {ps : List Str} {np : Nat} (F : FnG P w K mg base k f fd ps (spD K np spec)) (nn : NeedN np spec) (hb : Binds K fd ps []) : RunE P w K mg base k f spec := by
  have h := runE_pad (j := 0) F nn hb .nil
  have e : padN 0 spec = spec := by
    funext ds st
    unfold padN
    rw [List.replicate_zero, List.append_nil]
  rwa [e] at h
def varN (n : Nat) (spec : List D → M D) : List D → M D := fun ds st => if n ≤ ds.length ∧ ds.length ≤ SZ then spec (ds.take n ++ [.tup (ds.drop n)]) st else .bad
theorem runE_var {fd : FuncData} {ps : List Str} {pv y qual : Str} {stm : Stmt} {n : Nat} (F : FnBody P w K mg base k f fd (defBody stm) (ps ++ [pv]) (spD K (n + 1) spec)) (Fn : Fun K y qual stm f fd) (hn : ps.length = n) (hco : (defScope stm).isCoroutine = false) (hgen : (defScope stm).isGenerator = false)
    (hb : ∀ us rest : List Value, us.length = n → bindArgs fd ⟨us ++ rest, []⟩ = (newTuple rest >>= fun t => pure (ps.zip us ++ [(pv, t)]))) : RunE P w K mg base k f (varN n spec) := by
  intro B fr s H us vs Q E hr hg e0 KI r h
  obtain ⟨F0, ι, st, ds, S, rs, q⟩ := h
  unfold varN at q
  by_cases hz : n ≤ ds.length ∧ ds.length ≤ SZ
  · rw [if_pos hz] at q
    obtain ⟨oc, od, kV, doc, pm, an, cdv, ct, osl, rfl, lk, hcd⟩ := Fn.ex
    have lv : ds.length = vs.length := rs.length
    have lu : vs.length = us.length := r.length
    have hlt : (us.take n).length = n := by rw [List.length_take]; omega
    have rt : Vals (vs.take n) (us.take n) := r.take n
    have rd : Vals (vs.drop n) (us.drop n) := r.drop n
    have hz2 : (us.drop n).length ≤ sizeLine := by rw [List.length_drop]; have := sz_le hz.2; omega
    refine codeAny_call_function hr.depth (KI _ _ lk) rfl hco hgen rfl (PySem.W.codeRec_of KI hcd) ?_
    have eb := hb (us.take n) (us.drop n) hlt
    rw [List.take_append_drop] at eb
    rw [eb]
    refine wpAny_bind (wpAny_newTuple ?_ hz2)
    have hnw : H s.heap.objs.size = none := e0.hok.fresh (Nat.le_refl _)
    have gT : (s.heap.push ({ cls := .type "tuple", data := .seq (us.drop n).toArray } : Obj)).get? s.heap.objs.size = some { cls := .type "tuple", data := .seq (us.drop n).toArray } := Heap.get?_push_size _ rfl
    have new : ObjOk P w (upd H s.heap.objs.size (.frz { cls := .type "tuple", data := .seq (us.drop n).toArray } (.tup (vs.drop n)))) (s.heap.push ({ cls := .type "tuple", data := .seq (us.drop n).toArray } : Obj)) s.heap.objs.size (.frz { cls := .type "tuple", data := .seq (us.drop n).toArray } (.tup (vs.drop n))) :=
      ⟨gT, by rw [rd.length]; exact hz2, us.drop n, rd, ⟨_, gT, rfl, _, rfl⟩⟩
    have e1 : Env0 P w K mg base B fr { s with heap := s.heap.push ({ cls := .type "tuple", data := .seq (us.drop n).toArray } : Obj) } (upd H s.heap.objs.size (.frz { cls := .type "tuple", data := .seq (us.drop n).toArray } (.tup (vs.drop n)))) := StX.env0_laid e0 new
    have un := StX.un_laid (fs := frs fr) (s := s) (o := ({ cls := .type "tuple", data := .seq (us.drop n).toArray } : Obj)) (u := .frz { cls := .type "tuple", data := .seq (us.drop n).toArray } (.tup (vs.drop n))) hnw
    have S1 := S.frozen (o := .frz { cls := .type "tuple", data := .seq (us.drop n).toArray } (.tup (vs.drop n))) hnw trivial
    have x1 := Ext.frozen (ι := ι) (o := .frz { cls := .type "tuple", data := .seq (us.drop n).toArray } (.tup (vs.drop n))) hnw S.sub
    have rdD : Reps K F0 ι (ds.drop n) (vs.drop n) := Reps.drop' n rs
    have rtD : Reps K F0 ι (ds.take n) (vs.take n) := Reps.take' n rs
    have rp : Reps K (upd F0 s.heap.objs.size (.frz { cls := .type "tuple", data := .seq (us.drop n).toArray } (.tup (vs.drop n)))) ι (ds.take n ++ [.tup (ds.drop n)]) (vs.take n ++ [V.ref s.heap.objs.size]) := by
      refine (Reps.ext rtD x1).append (Reps.cons ?_ Reps.nil)
      simp only [Rep]
      exact ⟨_, _, rfl, .inl ⟨_, rfl, upd_same⟩, Reps.ext rdD x1⟩
    have hsp : spD K (n + 1) spec (vs.take n ++ [V.ref s.heap.objs.size]) (upd H s.heap.objs.size (.frz { cls := .type "tuple", data := .seq (us.drop n).toArray } (.tup (vs.drop n)))) Q E :=
      ⟨by rw [List.length_append, List.length_take, List.length_singleton]; omega, _, ι, st, _, S1, rp, post_ext back_V q x1⟩
    have go := F B fr { s with heap := s.heap.push ({ cls := .type "tuple", data := .seq (us.drop n).toArray } : Obj) } _ (us.take n ++ [.ref s.heap.objs.size]) _ Q E hr hg e1 (rt.append (.cons (show RelV (V.ref s.heap.objs.size) (Value.ref s.heap.objs.size) from rfl) .nil)) hsp
    have ez : (ps ++ [pv]).zip (us.take n ++ [Value.ref s.heap.objs.size]) = ps.zip (us.take n) ++ [(pv, Value.ref s.heap.objs.size)] := by
      rw [List.zip_append (by rw [hlt, hn])] <;> rfl
    rw [ez] at go
    refine wpAny_pure ?_
    have up : ∀ r s', CR (L2.CX P w) fr P w (upd H s.heap.objs.size (.frz { cls := .type "tuple", data := .seq (us.drop n).toArray } (.tup (vs.drop n)))) { s with heap := s.heap.push ({ cls := .type "tuple", data := .seq (us.drop n).toArray } : Obj) } Q E r s' → CR (L2.CX P w) fr P w H s Q E r s' := fun r s' h => by
      cases r with
      | error e => exact StX.cxUp fr s H { s with heap := s.heap.push ({ cls := .type "tuple", data := .seq (us.drop n).toArray } : Obj) } _ E e s' un (fun b o q => Heap.get?_push_of_some _ q) rfl h
      | ok fl =>
        cases fl with
        | ret u =>
          obtain ⟨v, H', h1, h2, h3, h4, h5, h6⟩ := h
          exact ⟨v, H', h1, h2, un.trans h3, h4, h5, h6⟩
        | next => exact h
        | brk => exact h
        | cont => exact h
    exact wpAny_mono go (fun env s2 ⟨h1, h2⟩ => ⟨h1, codeAny_mono h2 fun r s' hq => up r s' hq⟩) fun e s' hq => up (.error e) s' hq
  · rw [if_neg hz] at q
    exact (q : False).elim
end
structure FnN (P : Program) (w : World) (K : PySem.W.Frag) (mg : Str → Option Value) (base : Heap) (k : Nat) (x : Str) (spec : List D → M D) : Prop where
  ex : ∃ f : Addr, mg x = some (.ref f) ∧ PySem.W.keepIn K (.ref f) = true ∧ RunE P w K mg base k f spec
theorem FnC.n {P : Program} {w : World} {K : PySem.W.Frag} {mg : Str → Option Value} {base : Heap} {k np : Nat} {x : Str} {spec : List D → M D} (C : FnC P w K mg base k x np spec) (nn : NeedN np spec) : FnN P w K mg base k x spec := by
  obtain ⟨f, fd, ps, F, hm, kp, hb⟩ := C.ex
  exact ⟨f, hm, kp, runE_of F nn hb⟩
section
variable {X : Cx} {W : WX} {k j : Nat} {x : Str} {spec : List D → M D} {p pos : Pos} {e : Expr} {es : List Expr} {am : Rho → M (List D)}
theorem spE_of {K : PySem.W.Frag} {σ : L2.St} {F : Hp} {ι : List Addr} {H : Hp} {st : Sto} {ds : List D} {vs : List V} {Q : VK} (S : Sim K F ι st H) (r : Reps K F ι ds vs) (q : post K W σ F ι H (pV K) (spec ds st) Q) : spE K spec vs H Q (fun cls dd H' => W cls dd σ H') := ⟨F, ι, st, ds, S, r, post_wE q⟩
theorem codeE {pins : List (Addr × Obj)} {σ : L2.St} {H : Hp} {s : Shared} {Q : VK} {A : Around} {us : List Value} {vs : List V} {f : Addr} (F : RunE X.prog X.w X.K X.mg X.base k f spec) (hr : Room k A) (hg : 5 < k → A.guards = some []) (e0 : Env0 X.prog X.w X.K X.mg X.base A X.stack s H) (tk : Takes X W) (I : Inv X pins σ H s) (r : Vals vs us)
    (h : spE X.K spec vs H Q (fun cls dd H' => W cls dd σ H')) : codeAny (model X.prog X.w) A (.call (.ref f) ⟨us, []⟩) (fun r s' => match r with | .ok (.ret v) => EP X pins σ Q v s' | .ok _ => False | .error e => X.xe e s') s := by
  refine codeAny_mono (F A X.stack s H us vs Q _ hr hg e0 I.kIn r h) fun r s' hq => ?_
  cases r with
  | error y => exact passAt tk σ pins H s y s' I hq
  | ok fl =>
    cases fl with
    | ret u => exact I.after hq
    | next => exact False.elim hq
    | brk => exact False.elim hq
    | cont => exact False.elim hq
theorem runE_at {pins : List (Addr × Obj)} {σ : L2.St} {H : Hp} {s : Shared} {Q : VK} {us : List Value} {vs : List V} {f : Addr} (F : RunE X.prog X.w X.K X.mg X.base k f spec) (hr : Room k X.A) (hg : 5 < k → X.A.guards = some []) (tk : Takes X W) (I : Inv X pins σ H s) (r : Vals vs us)
    (h : spE X.K spec vs H Q (fun cls dd H' => W cls dd σ H')) : wpAny (model X.prog X.w) X.A (call (.ref f) us) (EP X pins σ Q) X.xe s := wpAny_call (codeE F hr hg I.env0 tk I r h)
theorem de_callE (B : Bd X W j) (C : FnN X.prog X.w X.K X.mg X.base k x spec) (hk : k ≤ j) (hg : Gl X x) (ha : DA X W (e :: es) am) (hdb : (x == ("__debug__" : Str)) = false := by decide)
    (he : starEach (e :: es) X.env = (false, eval e X.env) :: starEach es X.env := by rfl) (hpl : (backTo pos (starEach es X.env)).any (·.1) = false := by rfl) : DE X W (.Call (.Name x p) (e :: es) [] pos) (mCall spec am) := by
  obtain ⟨f, hm, kp, F⟩ := C.ex
  refine ⟨fun pins s σ H Q I ⟨F0, ι, ρ, st, S, R, q⟩ => ?_⟩
  refine wpAny_Call_Name_kw (ld_glob I hg hm ?_ hdb)
  refine PySem.W.callWith_K (h₀ := X.base) I.ok.mod.kin kp (thn (ha.run pos pins s σ H (fun vs H1 => spE X.K spec vs H1 Q (fun cls dd H' => W cls dd σ H')) I ?_) fun us s1 ⟨vs, H1, I1, r, qq⟩ => ⟨I1.kIn, ?_⟩) he hpl
  · exact tG_seq back_V S R q fun ds st1 F1 ι1 H1 vs x1 S1 R1 r1 q1 => spE_of S1 r1 q1
  · exact runE_at F (B.room.mono hk) (fun h => B.gd (by omega)) B.tk I1 r qq
theorem de_callS (B : Bd X W j) (C : FnN X.prog X.w X.K X.mg X.base k x spec) (hk : k ≤ j) (hg : Gl X x) (ha : DA X W (e :: es) am) (hdb : (x == ("__debug__" : Str)) = false := by decide)
    (he : starEach (e :: es) X.env = (false, eval e X.env) :: starEach es X.env := by rfl) (hst : (backTo pos (starEach es X.env)).any (·.1) = true := by rfl) : DE X W (.Call (.Name x p) (e :: es) [] pos) (mCall spec am) := by
  obtain ⟨f, hm, kp, F⟩ := C.ex
  refine ⟨fun pins s σ H Q I ⟨F0, ι, ρ, st, S, R, q⟩ => ?_⟩
  refine wpAny_Call_Name_kw (ld_glob I hg hm ?_ hdb)
  refine PySem.W.callWith_S2 (h₀ := X.base) I.ok.mod.kin kp (thn (ha.run pos pins s σ H (fun vs H1 => spE X.K spec vs H1 Q (fun cls dd H' => W cls dd σ H')) I ?_) fun us s1 ⟨vs, H1, I1, r, qq⟩ => ⟨I1.kIn, ?_⟩) he hst
  · exact tG_seq back_V S R q fun ds st1 F1 ι1 H1 vs x1 S1 R1 r1 q1 => spE_of S1 r1 q1
  · exact runE_at F (B.room.mono hk) (fun h => B.gd (by omega)) B.tk I1 r qq
end
def insAny (st : Sto) : D → Option (Str × List (Str × D))
  | .obj n ks xs => some (n, ks.zip xs)
  | .ref l => match st[l]? with
    | some (.ins n fs) => some (n, fs)
    | _ => none
  | _ => none
theorem insAny_of {st : Sto} {d : D} {n : Str} {fs : List (Str × D)} (h : insAny st d = some (n, fs)) : insOf n st d = some fs := by
  unfold insAny at h
  split at h
  · cases h; unfold insOf; dsimp only; rw [if_pos rfl]
  · rename_i l
    split at h
    · rename_i e
      cases h
      unfold insOf
      dsimp only
      rw [e]
      dsimp only
      rw [if_pos rfl]
    · cases h
  · cases h
def KlsF (K : PySem.W.Frag) (nm f : Str) : Prop := ∃ C, PySem.W.nsIn K mainGlobals nm = some (some (.ref C)) ∧ Cls K C ∧ NoAttr K C f
theorem Kls.f {K : PySem.W.Frag} {mg : Str → Option Value} {nm f : Str} {fs : List Str} (h : Kls K mg nm fs) (hf : f ∈ fs) : KlsF K nm f := let ⟨C, h1, _, h2, h3⟩ := h.ex; ⟨C, h1, h2, h3 f hf⟩
def mFldA (nms : List Str) (f : Str) (m : Rho → M D) : Rho → M D := fun ρ st => (m ρ st).bind fun d st1 => lift ((insAny st1 d).bind fun p => if p.1 ∈ nms then p.2.lookup f else none) st1
def sSetFA (nms : List Str) (f : Str) (mo mv : Rho → M D) : Rho → Sto → Fl := fun ρ st => (mv ρ st).fl ρ fun y st1 => (mo ρ st1).fl ρ fun d st2 => match d with
  | .ref l => match st2[l]? with
    | some (.ins n fs) => if n ∈ nms ∧ fs.length < 100 then .next ρ (st2.set l (.ins n (putD f y fs))) else .bad
    | _ => .bad
  | _ => .bad
section
variable {X : Cx} {W : WX} {f : Str} {nms : List Str} {e o value : Expr} {m mo mv : Rho → M D} {pos pos' : Pos}
theorem de_fldA (Ks : ∀ n ∈ nms, KlsF X.K n f) (h : DE X W e m) (hb : attributeBase e f X.env (eval e X.env) = eval e X.env := by rfl) : DE X W (.Attribute e f pos) (mFldA nms f m) := by
  refine PE.weak (pe_fld h hb) fun σ H Q ⟨F, ι, ρ, st, S, R, q⟩ => ?_
  refine tG_seq back_V S R q fun d st1 F1 ι1 H1 v x1 S1 R1 r1 q1 => ?_
  cases e1 : insAny st1 d with
  | none => rw [e1] at q1; exact q1.elim
  | some p =>
    obtain ⟨n, fs⟩ := p
    rw [e1, Option.bind_some] at q1
    dsimp only at q1
    by_cases hn : n ∈ nms
    · rw [if_pos hn] at q1
      cases e2 : fs.lookup f with
      | none => rw [e2] at q1; exact q1.elim
      | some y =>
        rw [e2] at q1
        obtain ⟨C, hC, cl, na⟩ := Ks n hn
        obtain ⟨a, C', dx, gs, rfl, hC', hH, rr⟩ := ins_of S1 r1 (insAny_of e1)
        rw [hC] at hC'
        cases hC'
        obtain ⟨u, l, ru⟩ := (rr.look f).1 y e2
        exact ⟨a, C, dx, gs, u, rfl, hH, cl, na, l, q1 F1 ι1 H1 u Ext.refl S1 ru⟩
    · rw [if_neg hn] at q1; exact q1.elim
theorem ds_setFA (Ks : ∀ n ∈ nms, KlsF X.K n f) (ho : DE X W o mo) (hv : DE X W value mv) (hs : swapsWith value (some (.Attribute o f pos')) pos.line X.env = pure false := by rfl) :
    DS X W (.Assign [.Attribute o f pos'] value pos) (sSetFA nms f mo mv) := by
  refine PS.weak (ps_fld ho hv hs) fun E σ H ⟨F, ι, ρ, st, S, R, q⟩ => fl_seq S R q fun y st1 F1 ι1 H1 w x1 S1 R1 r1 q1 => ?_
  refine fl_seq S1 R1 q1 fun d st2 F2 ι2 H2 v x2 S2 R2 r2 q2 => ?_
  cases d with
  | ref l =>
    dsimp only at q2
    split at q2
    · rename_i n fs e2
      split at q2
      · rename_i hn
        obtain ⟨hn, hl⟩ := hn
        obtain ⟨C, hC, cl, na⟩ := Ks n hn
        have r2 : Rep X.K F2 ι2 (.ref l) v := r2
        simp only [Rep] at r2
        obtain ⟨a, rfl, qa⟩ := r2
        obtain ⟨C', dx, gs, z, e3, rr⟩ := S2.obj l _ a e2 qa
        rw [hC] at z
        cases z
        refine ⟨a, C, dx, gs, rfl, e3, cl, na, by rw [rr.len]; omega, ?_⟩
        have hw := r1.ext x2
        have S3 := S2.write (m := .ins n (putD f y fs)) (o := .ins C dx (putF f w gs)) qa (by rw [e2]; simp) ⟨C, dx, _, hC, upd_same, rr.put hw⟩
        have xw : Ext F2 ι2 H2 F2 ι2 (upd H2 a (.ins C dx (putF f w gs))) := Ext.write qa (by rw [e3]; simp)
        exact q2 F2 ι2 _ σ xw S3 (R2.ext xw)
      · exact q2.elim
    · exact q2.elim
  | _ => exact q2.elim
end
abbrev Tbl := List (Str × (List D → M D))
def EntM (P : Program) (w : World) (K : PySem.W.Frag) (mg : Str → Option Value) (base : Heap) (k : Nat) (m n : Str) (spec : List D → M D) : Prop :=
  ∃ C f, PySem.W.nsIn K mainGlobals n = some (some (.ref C)) ∧ Cls K C ∧ Meth K C m f ∧ RunE P w K mg base k f spec
def FnT (P : Program) (w : World) (K : PySem.W.Frag) (mg : Str → Option Value) (base : Heap) (k : Nat) (m : Str) (t : Tbl) : Prop := ∀ n spec, t.lookup n = some spec → EntM P w K mg base k m n spec
section
variable {P : Program} {w : World} {K : PySem.W.Frag} {mg : Str → Option Value} {base : Heap} {k k' : Nat} {m n : Str} {spec : List D → M D} {t : Tbl}
theorem EntM.mono (h : EntM P w K mg base k m n spec) (hk : k ≤ k') : EntM P w K mg base k' m n spec := let ⟨C, f, a, b, c, d⟩ := h; ⟨C, f, a, b, c, d.mono hk⟩
theorem ft_nil : FnT P w K mg base k m [] := fun _ _ h => nomatch h
theorem ft_cons (h : EntM P w K mg base k' m n spec) (hk : k' ≤ k) (r : FnT P w K mg base k m t) : FnT P w K mg base k m ((n, spec) :: t) := fun n' spec' e => by
  by_cases hn : n' = n
  · subst hn
    rw [List.lookup_cons_self] at e
    cases e
    exact h.mono hk
  · have hb : (n' == n) = false := by simpa using hn
    simp only [List.lookup, hb] at e
    exact r n' spec' e
end
def mMethA (m : Str) (t : Tbl) (mo : Rho → M D) (am : Rho → M (List D)) : Rho → M D := fun ρ st => (mo ρ st).bind fun d st1 => match insAny st1 d with
  | some (n, fs) => match t.lookup n with
    | some spec => if (fs.lookup m).isNone = true then (am ρ st1).bind fun ds st2 => spec (d :: ds) st2 else .bad
    | none => .bad
  | none => .bad
section
variable {X : Cx} {W : WX} {k j : Nat} {m : Str} {t : Tbl} {e o : Expr} {es : List Expr} {mo : Rho → M D} {am : Rho → M (List D)} {pos apos : Pos}
theorem methA_seq {σ : L2.St} {H : Hp} {Q : VK} {R : V → Hp → Prop} (h : tV X.K W (mMethA m t mo am) σ H Q) (C : FnT X.prog X.w X.K X.mg X.base k m t)
    (hR : ∀ v H1 a C f dx gs spec d F1 ι1 st1 ρ1, v = .ref a → H1 a = some (.ins C dx gs) → gs.lookup m = none → Cls X.K C → Meth X.K C m f → RunE X.prog X.w X.K X.mg X.base k f spec → Sim X.K F1 ι1 st1 H1 → REnv X.K F1 ι1 ρ1 σ → Rep X.K F1 ι1 d v →
      post X.K W σ F1 ι1 H1 (pV X.K) ((am ρ1 st1).bind fun ds st2 => spec (d :: ds) st2) Q → R v H1) : tV X.K W mo σ H R := by
  obtain ⟨F0, ι, ρ, st, S, Re, q⟩ := h
  refine tG_seq back_V S Re q fun d st1 F1 ι1 H1 v x1 S1 R1 r1 q1 => ?_
  cases e1 : insAny st1 d with
  | none => rw [e1] at q1; exact q1.elim
  | some p =>
    obtain ⟨n, fs⟩ := p
    rw [e1] at q1
    dsimp only at q1
    cases e2 : t.lookup n with
    | none => rw [e2] at q1; exact q1.elim
    | some spec =>
      rw [e2] at q1
      dsimp only at q1
      split at q1
      · rename_i hm
        obtain ⟨C0, f, hC, cl, me, ru⟩ := C n spec e2
        obtain ⟨a, C', dx, gs, rfl, hC', hH, rr⟩ := ins_of S1 r1 (insAny_of e1)
        rw [hC] at hC'
        cases hC'
        exact hR _ H1 a C0 f dx gs spec d F1 ι1 st1 ρ rfl hH ((rr.look m).2 (Option.isNone_iff_eq_none.mp hm)) cl me ru S1 R1 r1 q1
      · exact q1.elim
theorem de_methA {pl : Sem Bool} (B : Bd X W j) (C : FnT X.prog X.w X.K X.mg X.base k m t) (hk : k ≤ j) (ho : DE X W o mo) (ha : DA X W (e :: es) am)
    (he : starEach (e :: es) X.env = (false, eval e X.env) :: starEach es X.env := by rfl) (hpl : (backTo pos (starEach es X.env)).any (·.1) = false := by rfl)
    (ht : eval (.Call (.Attribute o m apos) (e :: es) [] pos) X.env = (do
      let ov ← eval o X.env
      standAt apos.atName
      let (f, first) ← holding [ov] (getMethod ov m pl)
      callWith pos f first (backTo pos (starEach (e :: es) X.env)) (backToKw pos (keywordEach [] X.env))) := by rfl) :
    DE X W (.Call (.Attribute o m apos) (e :: es) [] pos) (mMethA m t mo am) := by
  refine ⟨fun pins s σ H Q I h => ?_⟩
  refine PySem.W.methodCall_KW (pl := pl) (thn (ho.run pins s σ H (fun v H1 => ∃ a C f dx gs spec, v = V.ref a ∧ H1 a = some (.ins C dx gs) ∧ gs.lookup m = none ∧ Cls X.K C ∧ Meth X.K C m f ∧ RunE X.prog X.w X.K X.mg X.base k f spec ∧ tA X.K W am σ H1 fun vs H2 => spE X.K spec (v :: vs) H2 Q (fun cls dd H' => W cls dd σ H')) I ?_) fun u s1 ⟨v, H1, I1, rx, a, C0, f, dx, gs, spec, ev, ea, l, cl, me, ru, q1⟩ => ?_) ht
  · exact methA_seq h C fun v H1 a C0 f dx gs spec d F1 ι1 st1 ρ1 ev hH l cl me ru S1 R1 r1 q1 => ⟨a, C0, f, dx, gs, spec, ev, hH, l, cl, me, ru, tG_seq back_V S1 R1 q1 fun ds st2 F2 ι2 H2 vs x2 S2 R2 r2 q2 => spE_of S2 (Reps.cons (r1.ext x2) r2) q2⟩
  · subst ev
    obtain rfl : u = Value.ref a := rx
    refine getmeth_ok I1 ea cl me l ?_
    refine PySem.W.callWith_K (first := [.ref a]) (h₀ := X.base) I.ok.mod.kin me.kp (thn (ha.run pos pins s1 σ H1 _ I1 q1) fun us s2 ⟨vs, H2, I2, r, q2⟩ => ⟨I2.kIn, ?_⟩) he hpl
    exact runE_at (us := .ref a :: us) (vs := .ref a :: vs) ru (B.room.mono hk) (fun h => B.gd (by omega)) B.tk I2 (.cons rfl r) q2
theorem de_methA0 {pl : Sem Bool} (B : Bd X W j) (C : FnT X.prog X.w X.K X.mg X.base k m t) (hk : k ≤ j) (ho : DE X W o mo)
    (ht : eval (.Call (.Attribute o m apos) [] [] pos) X.env = (do
      let ov ← eval o X.env
      standAt apos.atName
      let (f, first) ← holding [ov] (getMethod ov m pl)
      callWith pos f first (backTo pos (starEach [] X.env)) (backToKw pos (keywordEach [] X.env))) := by rfl) :
    DE X W (.Call (.Attribute o m apos) [] [] pos) (mMethA m t mo mNil) := by
  refine ⟨fun pins s σ H Q I h => ?_⟩
  refine PySem.W.methodCall_KW (pl := pl) (thn (ho.run pins s σ H (fun v H1 => ∃ a C f dx gs spec, v = V.ref a ∧ H1 a = some (.ins C dx gs) ∧ gs.lookup m = none ∧ Cls X.K C ∧ Meth X.K C m f ∧ RunE X.prog X.w X.K X.mg X.base k f spec ∧ spE X.K spec [v] H1 Q (fun cls dd H' => W cls dd σ H')) I ?_) fun u s1 ⟨v, H1, I1, rx, a, C0, f, dx, gs, spec, ev, ea, l, cl, me, ru, q1⟩ => ?_) ht
  · exact methA_seq h C fun v H1 a C0 f dx gs spec d F1 ι1 st1 ρ1 ev hH l cl me ru S1 R1 r1 q1 => ⟨a, C0, f, dx, gs, spec, ev, hH, l, cl, me, ru, spE_of S1 (Reps.cons r1 Reps.nil) q1⟩
  · subst ev
    obtain rfl : u = Value.ref a := rx
    refine getmeth_ok I1 ea cl me l ?_
    exact PySem.W.callWith_K0 (first := [.ref a]) I1.kIn me.kp (runE_at (us := [.ref a]) (vs := [.ref a]) ru (B.room.mono hk) (fun h => B.gd (by omega)) B.tk I1 (.cons rfl .nil) q1)
end
end Dn
namespace Dn
open PySem PySem.Spec PyProof.Rows L2
def EntP (P : Program) (w : World) (K : PySem.W.Frag) (mg : Str → Option Value) (base : Heap) (k : Nat) (f n : Str) (spec : List D → M D) : Prop :=
  ∃ C p g, PySem.W.nsIn K mainGlobals n = some (some (.ref C)) ∧ Cls K C ∧ PropOf K C f p g ∧ RunE P w K mg base k g spec
def FnTP (P : Program) (w : World) (K : PySem.W.Frag) (mg : Str → Option Value) (base : Heap) (k : Nat) (f : Str) (t : Tbl) : Prop := ∀ n spec, t.lookup n = some spec → EntP P w K mg base k f n spec
section
variable {P : Program} {w : World} {K : PySem.W.Frag} {mg : Str → Option Value} {base : Heap} {k k' : Nat} {f n : Str} {spec : List D → M D} {t : Tbl}
theorem EntP.mono (h : EntP P w K mg base k f n spec) (hk : k ≤ k') : EntP P w K mg base k' f n spec := let ⟨C, p, g, a, b, c, d⟩ := h; ⟨C, p, g, a, b, c, d.mono hk⟩
theorem ftp_nil : FnTP P w K mg base k f [] := fun _ _ h => nomatch h
theorem ftp_cons (h : EntP P w K mg base k' f n spec) (hk : k' ≤ k) (r : FnTP P w K mg base k f t) : FnTP P w K mg base k f ((n, spec) :: t) := fun n' spec' e => by
  by_cases hn : n' = n
  · subst hn
    rw [List.lookup_cons_self] at e
    cases e
    exact h.mono hk
  · have hb : (n' == n) = false := by simpa using hn
    simp only [List.lookup, hb] at e
    exact r n' spec' e
end
theorem cx_no {P : Program} {w : World} {fr : List Env} {H : Hp} {s s' : Shared} {e : Value} (h : L2.CX P w fr H s (fun _ _ _ => False) e s') : False := by
  obtain ⟨a, B, H', cls, d, ea, fl, hok, ub, na, os, ag, he⟩ := h
  exact he
def mPropA (t : Tbl) (mo : Rho → M D) : Rho → M D := fun ρ st => (mo ρ st).bind fun d st1 => match insAny st1 d with
  | some (n, _) => match t.lookup n with
    | some spec => nox (spec [d] st1)
    | none => .bad
  | none => .bad
section
variable {X : Cx} {W : WX} {k j : Nat} {f : Str} {t : Tbl} {e : Expr} {mo : Rho → M D} {pos : Pos} {spec : List D → M D}
theorem getprop_E {pins : List (Addr × Obj)} {σ : L2.St} {H : Hp} {s : Shared} {Q : VK} {b : Bool} {a C dx p g : Addr} {fs : List (Str × V)} (I : Inv X pins σ H s) (ea : H a = some (.ins C dx fs)) (c : Cls X.K C) (hp : PropOf X.K C f p g)
    (F : RunE X.prog X.w X.K X.mg X.base k g spec) (hr : Room (k + 1) X.A) (hg : 5 < k → X.A.guards = some []) (h : spE X.K spec [.ref a] H Q (fun _ _ _ => False)) {E : Value → Shared → Prop} :
    wpAny (model X.prog X.w) X.A (getAttr (.ref a) f b) (EP X pins σ Q) E s := by
  obtain ⟨mA, O, _, _, _, _⟩ := ins_get I.hok ea
  obtain ⟨od, J, _⟩ := O.look
  obtain ⟨rest, hrec⟩ := hp.rec_
  have I1 := I.tok (s.toks + 1)
  have hc : (PySem.W.clsIn X.K C).isSome = true := by
    obtain ⟨cd, hc, _⟩ := PySem.W.any_some c.hd
    rw [hc]
    rfl
  refine PySem.W.get_bind I.kIn J (PySem.W.plainGet_of (c.get f)).1 (PySem.W.findObj_data hc hp.at_ hp.get hp.tak) (PySem.W.plainGet_of (c.get f)).2 (wpAny_call (PySem.W.prop_get (s := { s with toks := s.toks + 1 }) I.kIn hrec ?_))
  refine codeAny_mono (F X.A.in1 X.stack _ H [.ref a] [.ref a] Q (fun _ _ _ => False) hr.in1 hg I1.env0.in1 I1.kIn (.cons rfl .nil) h) fun r s' hq => ?_
  cases r with
  | error er => exact (cx_no hq).elim
  | ok fl =>
    cases fl with
    | ret u =>
      obtain ⟨v, H', I3, rv, q3⟩ := I1.after hq
      show wpAny _ _ (handedOut u) _ _ _
      rw [PySem.W.handedOut_of (handed_of rv)]
      exact wpAny_pure ⟨v, H', I3, rv, q3⟩
    | next => exact False.elim hq
    | brk => exact False.elim hq
    | cont => exact False.elim hq
theorem propA_seq {σ : L2.St} {H : Hp} {Q : VK} {R : V → Hp → Prop} (h : tV X.K W (mPropA t mo) σ H Q)
    (hR : ∀ v H1 a C dx gs n spec, v = .ref a → H1 a = some (.ins C dx gs) → PySem.W.nsIn X.K mainGlobals n = some (some (.ref C)) → t.lookup n = some spec → spE X.K spec [v] H1 Q (fun _ _ _ => False) → R v H1) : tV X.K W mo σ H R := by
  obtain ⟨F0, ι, ρ, st, S, Re, q⟩ := h
  refine tG_seq back_V S Re q fun d st1 F1 ι1 H1 v x1 S1 R1 r1 q1 => ?_
  cases e1 : insAny st1 d with
  | none => rw [e1] at q1; exact q1.elim
  | some p =>
    obtain ⟨n, fs⟩ := p
    rw [e1] at q1
    dsimp only at q1
    cases e2 : t.lookup n with
    | none => rw [e2] at q1; exact q1.elim
    | some spec =>
      rw [e2] at q1
      dsimp only at q1
      obtain ⟨a, C', dx, gs, rfl, hC', hH, rr⟩ := ins_of S1 r1 (insAny_of e1)
      refine hR _ H1 a C' dx gs n spec rfl hH hC' e2 ⟨F1, ι1, st1, _, S1, Reps.cons r1 Reps.nil, ?_⟩
      revert q1
      cases spec [d] st1 with
      | ok y st2 => exact id
      | exc y st2 => exact fun h => (h : False).elim
      | bad => exact id
theorem de_propA (B : Bd X W j) (C : FnTP X.prog X.w X.K X.mg X.base k f t) (hk : k + 1 ≤ j) (he : DE X W e mo) (hab : attributeBase e f X.env (eval e X.env) = eval e X.env := by rfl) : DE X W (.Attribute e f pos) (mPropA t mo) := by
  refine ⟨fun pins s σ H Q I h => ?_⟩
  refine attr_of hab (thn (he.run pins s σ H (fun v H1 => ∃ a C dx gs n spec, v = V.ref a ∧ H1 a = some (.ins C dx gs) ∧ PySem.W.nsIn X.K mainGlobals n = some (some (.ref C)) ∧ t.lookup n = some spec ∧ spE X.K spec [v] H1 Q (fun _ _ _ => False)) I ?_) fun u s1 ⟨v, H1, I1, rx, a, C0, dx, gs, n, spec, ev, ea, hC, el, q1⟩ => ?_)
  · exact propA_seq h fun v H1 a C dx gs n spec h1 h2 h3 h4 h5 => ⟨a, C, dx, gs, n, spec, h1, h2, h3, h4, h5⟩
  · subst ev
    obtain rfl : u = Value.ref a := rx
    obtain ⟨C', p, g, hC', cl, hp, ru⟩ := C n spec el
    rw [hC] at hC'
    cases hC'
    exact getprop_E I1 ea cl hp ru (B.room.mono hk) (fun h => B.gd (by omega)) q1
end
section
variable {X : Cx} {W : WX} {k j : Nat} {m : Str} {t : Tbl} {e : Expr} {mo : Rho → M D} {p pos : Pos} {spec : List D → M D} {ok : D → Bool}
end
def dMkM0 (nm : Str) (spec : List D → M D) : List D → M D := fun ds st => match spec (.ref st.length :: ds) (st ++ [.ins nm []]) with
  | .ok .non st1 => .ok (.ref st.length) st1
  | .ok _ _ => .bad
  | .exc x st1 => .exc x st1
  | .bad => .bad
section
variable {K : PySem.W.Frag} {F H : Hp} {ι : List Addr} {st : Sto}
theorem mkM_post {W : WX} {σ : L2.St} {nm : Str} {spec : List D → M D} {C : Addr} {ds : List D} {Q : VK} (hC : PySem.W.nsIn K mainGlobals nm = some (some (.ref C))) (S : Sim K F ι st H) (q : post K W σ F ι H (pV K) (dMkM0 nm spec ds st) Q) {x dx : Addr} (hx : H x = none) (hdx : H dx = none) (hne : dx ≠ x) :
    Sim K F (ι ++ [x]) (st ++ [.ins nm []]) (upd (upd H dx (.own x)) x (.ins C dx [])) ∧ Ext F ι H F (ι ++ [x]) (upd (upd H dx (.own x)) x (.ins C dx [])) ∧ Rep K F (ι ++ [x]) (.ref st.length) (.ref x) ∧
    post K W σ F (ι ++ [x]) (upd (upd H dx (.own x)) x (.ins C dx [])) (pV K) (spec (.ref st.length :: ds) (st ++ [.ins nm []])) (fun v H2 => v = .non ∧ Q (.ref x) H2) := by
  have hx1 : upd H dx (.own x) x = none := by rw [upd_ne hne.symm]; exact hx
  have hF : F x = none := by
    cases e : F x with
    | none => rfl
    | some o => have := S.sub x o e; rw [hx] at this; cases this
  have hi : x ∉ ι := fun h => S.there x h hx
  have xl : Ext F ι H F ι (upd (upd H dx (.own x)) x (.ins C dx [])) := (Ext.laid hdx).trans (Ext.laid hx1)
  have S1 : Sim K F (ι ++ [x]) (st ++ [.ins nm []]) (upd (upd H dx (.own x)) x (.ins C dx [])) := ((S.laid hdx).laid hx1).locate (m := .ins nm []) (by rw [upd_same]; simp) hF hi ⟨C, dx, [], hC, upd_same, .nil⟩
  have x1 : Ext F ι H F (ι ++ [x]) (upd (upd H dx (.own x)) x (.ins C dx [])) := xl.locate hx
  have hat : (ι ++ [x])[st.length]? = some x := by rw [← S.len, List.getElem?_append_right (Nat.le_refl _)]; simp
  refine ⟨S1, x1, ?_, ?_⟩
  · simp only [Rep]
    exact ⟨x, rfl, hat⟩
  · unfold dMkM0 at q
    cases er : spec (.ref st.length :: ds) (st ++ [.ins nm []]) with
    | bad => rw [er] at q; exact q.elim
    | exc e st1 =>
      rw [er] at q
      exact fun F' ι' H' cls dd y S' r => q F' ι' H' cls dd (x1.trans y) S' r
    | ok d st1 =>
      rw [er] at q
      intro F' ι' H' v y S' r
      cases d with
      | non =>
        have r : Rep K F' ι' .non v := r
        simp only [Rep] at r
        refine ⟨r, q F' ι' H' (.ref x) (x1.trans y) S' ?_⟩
        show Rep _ _ _ _ _
        simp only [Rep]
        exact ⟨x, rfl, y.i _ _ hat⟩
      | _ => exact q.elim
end
structure FnIE (P : Program) (w : World) (K : PySem.W.Frag) (mg : Str → Option Value) (base : Heap) (k : Nat) (nm : Str) (spec : List D → M D) : Prop where
  ex : ∃ C f : Addr, PySem.W.nsIn K mainGlobals nm = some (some (.ref C)) ∧ mg nm = some (.ref C) ∧ Mk K C f ∧ RunE P w K mg base k f spec
theorem FnI.e {P : Program} {w : World} {K : PySem.W.Frag} {mg : Str → Option Value} {base : Heap} {k np : Nat} {nm : Str} {spec : List D → M D} (C : FnI P w K mg base k nm np spec) (nn : NeedN np spec) : FnIE P w K mg base k nm spec := by
  obtain ⟨C, f, fd, ps, hC, hmg, Mk, F, hb⟩ := C.ex
  exact ⟨C, f, hC, hmg, Mk, runE_of F nn hb⟩
section
variable {X : Cx} {W : WX} {k j : Nat} {nm : Str} {spec : List D → M D} {e : Expr} {es : List Expr} {am : Rho → M (List D)} {pos p : Pos}
theorem de_mkM (B : Bd X W j) (C : FnIE X.prog X.w X.K X.mg X.base k nm spec) (hk : k + 1 ≤ j) (hg : Gl X nm) (ha : DA X W (e :: es) am) (hdb : (nm == ("__debug__" : Str)) = false := by decide)
    (he : starEach (e :: es) X.env = (false, eval e X.env) :: starEach es X.env := by rfl) (hpl : (backTo pos (starEach es X.env)).any (·.1) = false := by rfl) : DE X W (.Call (.Name nm p) (e :: es) [] pos) (mCall (dMkM0 nm spec) am) := by
  obtain ⟨C, f, hC, hmg, Mk, F⟩ := C.ex
  refine ⟨fun pins s σ H Q I ⟨F0, ι, ρ, st, S, R, q⟩ => ?_⟩
  refine wpAny_Call_Name_kw (ld_glob I hg hmg ?_ hdb)
  refine PySem.W.callWith_K (h₀ := X.base) I.ok.mod.kin Mk.kp (thn (ha.run pos pins s σ H (fun vs H1 => ∀ x dx, H1 x = none → H1 dx = none → dx ≠ x → spE X.K spec (.ref x :: vs) (upd (upd H1 dx (.own x)) x (.ins C dx [])) (fun v H2 => v = .non ∧ Q (.ref x) H2) (fun cls dd H' => W cls dd σ H')) I ?_) fun us s1 ⟨vs, H1, I1, r, h⟩ => ⟨I1.kIn, ?_⟩) he hpl
  · refine tG_seq back_V S R q fun ds st1 F1 ι1 H1 vs x1 S1 R1 r1 q1 x dx hx hdx hne => ?_
    obtain ⟨S2, x2, rx, q2⟩ := mkM_post hC S1 q1 hx hdx hne
    exact spE_of S2 (Reps.cons rx (r1.ext x2)) q2
  · have hq := h (s1.heap.objs.size + 1) s1.heap.objs.size (I1.hok.fresh (Nat.le_succ _)) (I1.hok.fresh (Nat.le_refl _)) (Nat.ne_of_lt (Nat.lt_succ_self _))
    have I2 := Inv.made (C := C) I1
    have r2 : Vals (V.ref (s1.heap.objs.size + 1) :: vs) (Value.ref (s1.heap.objs.size + 1) :: us) := .cons rfl r
    have hr : Room (k + 1) X.A := B.room.mono hk
    refine wpAny_call (make_map (f := f) I1.kIn Mk.makes Mk.init (beq_iff_eq.mp Mk.fn) (codeAny_mono (codeE F (hr.make C us []) ?_ (I2.env0.make C us []) B.tk I2 r2 hq) fun r s' hq' => ?_))
    · intro h5
      rw [show (X.A.under (Code.builtin "type.__call__" { pos := Value.ref C :: ([] ++ us) })).guards = pushGuards (Code.builtin "type.__call__" { pos := Value.ref C :: ([] ++ us) }).guards X.A.guards from by simp [Around.under]]
      rw [B.gd (by omega)]
      rfl
    · cases r with
      | error y => exact hq'
      | ok fl =>
        cases fl with
        | ret u =>
          obtain ⟨v, H', I3, rv, ev, q3⟩ := hq'
          subst ev
          exact ⟨rv, ⟨V.ref (s1.heap.objs.size + 1), H', I3, rfl, q3⟩⟩
        | next => exact False.elim hq'
        | brk => exact False.elim hq'
        | cont => exact False.elim hq'
end
end Dn
namespace Dn
open PySem PySem.Spec PyProof.Rows L2
def sMatch2 (m : Rho → M D) (c : Str) (a b : Rho → Sto → Fl) : Rho → Sto → Fl := fun ρ st => (m ρ st).fl ρ fun d st1 => match d with
  | .str z => if z = c then a ρ st1 else b ρ st1
  | _ => .bad
section
variable {X : Cx} {W : WX}
theorem ds_match2 {e : Expr} {m : Rho → M D} {c : Str} {a b : Rho → Sto → Fl} {p1 p2 : List Stmt} {j} {q1 q2 q3 pos : Pos} (he : DE X W e m) (h1 : DSs X W p1 a) (h2 : DSs X W p2 b) :
    DS X W (.Match e [⟨.MatchValue (.Constant (.str c) j q1) q2, none, p1⟩, ⟨.MatchAs none none q3, none, p2⟩] pos) (sMatch2 m c a b) := by
  refine ⟨fun pins s σ H D I ⟨F, ι, ρ, st, S, R, q⟩ => wpAny_Match ?_⟩
  refine thn (he.run pins s σ H (fun v H1 => ∃ z, v = V.str z ∧ if z = c then tS X.K W a D σ H1 else tS X.K W b D σ H1) I (fl_seq S R q fun d st1 F1 ι1 H1 v x1 S1 R1 r1 qq => ?_)) fun u s1 ⟨v, H1, I1, rv, z, ez, hq⟩ => ?_
  · cases d with
    | str z =>
      have r1 : Rep X.K F1 ι1 (.str z) v := r1
      simp only [Rep] at r1
      refine ⟨z, r1, ?_⟩
      dsimp only at qq
      by_cases hz : z = c
      · rw [if_pos hz] at qq ⊢
        exact ⟨F1, ι1, ρ, st1, S1, R1, qq⟩
      · rw [if_neg hz] at qq ⊢
        exact ⟨F1, ι1, ρ, st1, S1, R1, qq⟩
    | _ => exact (qq : False).elim
  · subst ez
    refine wpAny_matchCases_cons (wpAny_matchPattern_Value ?_)
    refine thn ((pe_str (X := X) (x := c) (j := j) (pos := q1)).run pins s1 σ H1 (fun y H2 => y = V.str c ∧ H2 = H1) I1 ⟨rfl, rfl⟩) fun w s2 ⟨y, H2, I2, ry, ey, eH⟩ => ?_
    subst ey eH
    refine thn (op_eq pins s2 σ H2 (.str z) (.str c) u w (fun y H3 => y = V.bl (decide (z = c)) ∧ H3 = H2) I2 rv ry ⟨rfl, by simp, rfl⟩) fun cv s3 ⟨y, H3, I3, ry3, ey3, eH3⟩ => ?_
    subst ey3 eH3
    cases (show cv = Value.bool _ from ry3)
    refine wpAny_truthy_bool ?_
    by_cases hz : z = c
    · rw [if_pos hz] at hq
      rw [decide_eq_true hz]
      exact wpAny_pure (h1.run pins s3 σ H3 D I3 hq)
    · rw [if_neg hz] at hq
      rw [decide_eq_false hz]
      refine wpAny_matchCases_cons (wpAny_matchPattern_Capture ?_)
      exact wpAny_pure (h2.run pins s3 σ H3 D I3 hq)
end
end Dn
namespace Dn
open PySem PySem.Spec PyProof.Rows L2
def eR : Nat → D := .ref
class Dec {α : Type} (e : α → D) where
  dec : D → Option α
  ok : ∀ d a, dec d = some a → d = e a
  full : ∀ a, dec (e a) = some a
instance : Dec eI where
  dec d := match d with | .int i => some i | _ => none
  ok d a h := by
    cases d <;> first | (cases h; rfl) | cases h
  full a := rfl
instance : Dec eB where
  dec d := match d with | .bl i => some i | _ => none
  ok d a h := by
    cases d <;> first | (cases h; rfl) | cases h
  full a := rfl
instance : Dec eS where
  dec d := match d with | .str i => some i | _ => none
  ok d a h := by
    cases d <;> first | (cases h; rfl) | cases h
  full a := rfl
instance : Dec eR where
  dec d := match d with | .ref i => some i | _ => none
  ok d a h := by
    cases d <;> first | (cases h; rfl) | cases h
  full a := rfl
instance : Dec eU where
  dec d := match d with | .non => some () | _ => none
  ok d a h := by
    cases d <;> first | (cases h; rfl) | cases h
  full a := rfl
instance : Dec eD := ⟨some, fun d a h => by cases h; rfl, fun a => rfl⟩
def decs {α : Type} (e : α → D) [Dec e] : List D → Option (List α)
  | [] => some []
  | d :: ds => (Dec.dec e d).bind fun a => (decs e ds).map fun as => a :: as
theorem decs_ok {α : Type} {e : α → D} [Dec e] : ∀ (ds : List D) (as : List α), decs e ds = some as → ds = as.map e
  | [], as, h => by cases h; rfl
  | d :: ds, as, h => by
    unfold decs at h
    cases h1 : Dec.dec e d with
    | none => rw [h1] at h; cases h
    | some a =>
      rw [h1, Option.bind_some] at h
      cases h2 : decs e ds with
      | none => rw [h2] at h; cases h
      | some bs =>
        rw [h2] at h
        cases h
        rw [List.map_cons, ← decs_ok ds bs h2, ← Dec.ok d a h1]
theorem decs_full {α : Type} {e : α → D} [Dec e] : ∀ as : List α, decs e (as.map e) = some as
  | [] => rfl
  | a :: as => by
    rw [List.map_cons]
    unfold decs
    rw [Dec.full, Option.bind_some, decs_full as] <;> rfl
instance {α : Type} {e : α → D} [Dec e] : Dec (eT e) where
  dec d := match d with | .tup ds => decs e ds | _ => none
  ok d a h := by
    cases d <;> first | (have := decs_ok _ _ h; subst this; rfl) | cases h
  full a := decs_full a
instance {α : Type} {e : α → D} [Dec e] : Dec (eL e) where
  dec d := match d with | .lst ds => decs e ds | _ => none
  ok d a h := by
    cases d <;> first | (have := decs_ok _ _ h; subst this; rfl) | cases h
  full a := decs_full a
instance {α β : Type} {e : α → D} {f : β → D} [Dec e] [Dec f] : Dec (eP e f) where
  dec d := match d with | .tup [a, b] => (Dec.dec e a).bind fun x => (Dec.dec f b).map fun y => (x, y) | _ => none
  ok d a h := by
    split at h
    · rename_i x y
      cases h1 : Dec.dec e x with
      | none => rw [h1] at h; cases h
      | some u =>
        rw [h1, Option.bind_some] at h
        cases h2 : Dec.dec f y with
        | none => rw [h2] at h; cases h
        | some v =>
          rw [h2] at h
          cases h
          rw [Dec.ok _ _ h1, Dec.ok _ _ h2]
          rfl
    · cases h
  full a := by
    show (Dec.dec e (e a.1)).bind _ = _
    rw [Dec.full, Option.bind_some, Dec.full]
    rfl
def mdec {S α : Type} (e : α → D) [Dec e] (d : D) : Mt S α := mopt (Dec.dec e d)
def mdecs {S α : Type} (e : α → D) [Dec e] (ds : List D) : Mt S (List α) := mopt (decs e ds)
@[simp] theorem mdec_full {S α : Type} {e : α → D} [Dec e] (a : α) : mdec (S := S) e (e a) = mpure a := by unfold mdec; rw [Dec.full] <;> rfl
@[simp] theorem mdecs_full {S α : Type} {e : α → D} [Dec e] (as : List α) : mdecs (S := S) e (as.map e) = mpure as := by unfold mdecs; rw [decs_full] <;> rfl
section
variable {S : Type} {W : Wd S} {fr : Sto} {Γ : List Sl}
theorem ht_dec {α : Type} {e : α → D} [Dec e] {m : Rho → M D} {q : Mt S D} (h : HT W fr Γ m q eD fun _ => Γ) : HT W fr Γ m (mbind q (mdec e)) e fun _ => Γ := fun s ρ st H => or_cast (fun a b s e1 => by
  unfold mdec at e1
  cases h2 : Dec.dec e a with
  | none => rw [h2] at e1; cases e1
  | some x =>
    rw [h2] at e1
    cases e1
    exact Dec.ok _ _ h2) (fun a s => by
  unfold mdec
  cases h2 : Dec.dec e a with
  | none => exact .inr rfl
  | some x => exact .inl ⟨x, rfl⟩) (h s ρ st H)
end
structure DkR (A : Type) where
  d0 : A → MO
  d1 : A → MO
  n0 : ∀ a, (d0 a).isIns = false
  n1 : ∀ a, (d1 a).isIns = false
structure OS (A : Type) where
  dk : A
  m : Nat → Option MO
def OS.put {A : Type} (s : OS A) (l : Nat) (o : MO) : OS A := ⟨s.dk, fun k => if k = l then some o else s.m k⟩
def OS.del {A : Type} (s : OS A) (l : Nat) : OS A := ⟨s.dk, fun k => if k = l then none else s.m k⟩
def Own (st : Sto) (l : Nat) : Prop := l < 2 ∨ (∃ n fs, st[l]? = some (MO.ins n fs)) ∨ ∃ (k : Nat) (n : Str) (fs : List (Str × D)) (f : Str), st[k]? = some (.ins n fs) ∧ (f, D.ref l) ∈ fs
structure HasO {A : Type} (R : DkR A) (s : OS A) (st : Sto) : Prop where
  a0 : st[0]? = some (R.d0 s.dk)
  a1 : st[1]? = some (R.d1 s.dk)
  at_ : ∀ l o, s.m l = some o → 2 ≤ l ∧ st[l]? = some o ∧ Own st l
  ins : ∀ l n fs, st[l]? = some (.ins n fs) → s.m l ≠ none
  ref : ∀ (k : Nat) n fs f l, st[k]? = some (.ins n fs) → (f, D.ref l) ∈ fs → 2 ≤ l ∧ l < st.length
section
variable {A : Type} {R : DkR A} {s : OS A} {st : Sto}
theorem HasO.len (h : HasO R s st) : 2 ≤ st.length := by have := (List.getElem?_eq_some_iff.mp h.a1).1; omega
theorem HasO.inb (h : HasO R s st) {l : Nat} (o : Own st l) : l < st.length := by
  rcases o with o | ⟨n, fs, o⟩ | ⟨k, n, fs, f, o, i⟩
  · have := h.len; omega
  · exact (List.getElem?_eq_some_iff.mp o).1
  · exact (h.ref k n fs f l o i).2
theorem getApp {g : Sto} {l : Nat} (hg : ∀ m ∈ g, m.isIns = false) {n : Str} {fs : List (Str × D)} (e : (st ++ g)[l]? = some (.ins n fs)) : st[l]? = some (.ins n fs) := by
  by_cases hl : l < st.length
  · rw [List.getElem?_append_left hl] at e; exact e
  · rw [List.getElem?_append_right (by omega)] at e
    have := hg _ (List.mem_of_getElem? e)
    cases this
theorem appGet {g : Sto} {l : Nat} {m : MO} (e : st[l]? = some m) : (st ++ g)[l]? = some m := by
  rw [List.getElem?_append_left (List.getElem?_eq_some_iff.mp e).1]; exact e
theorem Own.app {g : Sto} {l : Nat} (h : Own st l) : Own (st ++ g) l := by
  rcases h with o | ⟨n, fs, o⟩ | ⟨k, n, fs, f, o, i⟩
  · exact .inl o
  · exact .inr (.inl ⟨n, fs, appGet o⟩)
  · exact .inr (.inr ⟨k, n, fs, f, appGet o, i⟩)
theorem Own.unapp {g : Sto} {l : Nat} (hg : ∀ m ∈ g, m.isIns = false) (h : Own (st ++ g) l) : Own st l := by
  rcases h with o | ⟨n, fs, o⟩ | ⟨k, n, fs, f, o, i⟩
  · exact .inl o
  · exact .inr (.inl ⟨n, fs, getApp hg o⟩)
  · exact .inr (.inr ⟨k, n, fs, f, getApp hg o, i⟩)
theorem setNe {l k : Nat} {m : MO} (hm : m.isIns = false) {n : Str} {fs : List (Str × D)} (e : (st.set l m)[k]? = some (.ins n fs)) : st[k]? = some (.ins n fs) := by
  by_cases hk : l = k
  · subst hk
    have hl : l < st.length := by have := (List.getElem?_eq_some_iff.mp e).1; simpa using this
    rw [List.getElem?_set_self hl] at e
    cases e
    cases hm
  · rw [List.getElem?_set_ne hk] at e; exact e
theorem Own.unset {l k : Nat} {m : MO} (hm : m.isIns = false) (h : Own (st.set l m) k) : Own st k := by
  rcases h with o | ⟨n, fs, o⟩ | ⟨k', n, fs, f, o, i⟩
  · exact .inl o
  · exact .inr (.inl ⟨n, fs, setNe hm o⟩)
  · exact .inr (.inr ⟨k', n, fs, f, setNe hm o, i⟩)
theorem nIns {l k : Nat} {m : MO} (no : ∀ n fs, st[l]? ≠ some (.ins n fs)) {n : Str} {fs : List (Str × D)} (e : st[k]? = some (.ins n fs)) : (st.set l m)[k]? = some (.ins n fs) := by
  rw [List.getElem?_set_ne (fun q => no n fs (by rw [q]; exact e))]; exact e
theorem Own.set {l k : Nat} {m : MO} (no : ∀ n fs, st[l]? ≠ some (.ins n fs)) (h : Own st k) : Own (st.set l m) k := by
  rcases h with o | ⟨n, fs, o⟩ | ⟨k', n, fs, f, o, i⟩
  · exact .inl o
  · exact .inr (.inl ⟨n, fs, nIns no o⟩)
  · exact .inr (.inr ⟨k', n, fs, f, nIns no o, i⟩)
theorem HasO.grow (h : HasO R s st) (g : Sto) (hg : ∀ m ∈ g, m.isIns = false) : HasO R s (st ++ g) :=
  ⟨appGet h.a0, appGet h.a1, fun l o e => let ⟨a, b, c⟩ := h.at_ l o e; ⟨a, appGet b, c.app⟩, fun l n fs e => h.ins l n fs (getApp hg e), fun k n fs f l e i => by
    obtain ⟨a, b⟩ := h.ref k n fs f l (getApp hg e) i
    exact ⟨a, by rw [List.length_append]; omega⟩⟩
theorem HasO.set (h : HasO R s st) {l : Nat} (m : MO) (hm : m.isIns = false) (no : ¬ Own st l) : HasO R s (st.set l m) := by
  have ni : ∀ n fs, st[l]? ≠ some (.ins n fs) := fun n fs e => no (.inr (.inl ⟨n, fs, e⟩))
  have l2 : 2 ≤ l := by
    by_cases q : 2 ≤ l
    · exact q
    · exact absurd (Or.inl (by omega)) no
  refine ⟨by rw [List.getElem?_set_ne (by omega)]; exact h.a0, by rw [List.getElem?_set_ne (by omega)]; exact h.a1, fun k o e => ?_, fun k n fs e => h.ins k n fs (setNe hm e), fun k n fs f l' e i => ?_⟩
  · obtain ⟨a, b, c⟩ := h.at_ k o e
    exact ⟨a, by rw [List.getElem?_set_ne (fun q => no (by rw [q]; exact c))]; exact b, c.set ni⟩
  · rw [List.length_set]; exact h.ref k n fs f l' (setNe hm e) i
theorem HasO.take {s0 : OS A} {b : Sto} (h0 : HasO R s0 b) (h : HasO R s st) (t : Tidy b st) : HasO R s (st.take b.length) := by
  have low : ∀ k n fs f l, st[k]? = some (.ins n fs) → (f, D.ref l) ∈ fs → k < b.length ∧ l < b.length := fun k n fs f l e i => by
    have hk : k < b.length := by
      by_cases q : k < b.length
      · exact q
      · have := t.2.2 k _ (by omega) e; cases this
    refine ⟨hk, ?_⟩
    rcases t.2.1 k _ hk e with q | q
    · exact (h0.ref k n fs f l q i).2
    · simp only [MO.low, List.all_eq_true] at q
      have := q _ i
      simp only [D.low, decide_eq_true_eq] at this
      exact this
  have tk : ∀ k (m : MO), k < b.length → st[k]? = some m → (st.take b.length)[k]? = some m := fun k m hk e => by rw [List.getElem?_take_of_lt hk]; exact e
  have un : ∀ k (m : MO), (st.take b.length)[k]? = some m → st[k]? = some m := fun k m e => by
    have hk := (List.getElem?_eq_some_iff.mp e).1
    rw [List.length_take] at hk
    rw [List.getElem?_take_of_lt (by omega)] at e; exact e
  have b2 := h0.len
  refine ⟨tk 0 _ (by omega) h.a0, tk 1 _ (by omega) h.a1, fun l o e => ?_, fun l n fs e => h.ins l n fs (un _ _ e), fun k n fs f l e i => ?_⟩
  · obtain ⟨a, c, d⟩ := h.at_ l o e
    rcases d with d | ⟨n, fs, d⟩ | ⟨k, n, fs, f, d, i⟩
    · omega
    · have hl : l < b.length := by
        by_cases q : l < b.length
        · exact q
        · have := t.2.2 l _ (by omega) d; cases this
      exact ⟨a, tk _ _ hl c, .inr (.inl ⟨n, fs, tk _ _ hl d⟩)⟩
    · obtain ⟨h1, h2⟩ := low k n fs f l d i
      exact ⟨a, tk _ _ h2 c, .inr (.inr ⟨k, n, fs, f, tk _ _ h1 d, i⟩)⟩
  · have z := un _ _ e
    refine ⟨(h.ref k n fs f l z i).1, ?_⟩
    rw [List.length_take]
    have := (low k n fs f l z i).2
    have := (h.ref k n fs f l z i).2
    omega
theorem Own.untake {n l : Nat} (h : Own (st.take n) l) : Own st l := by
  have un : ∀ k (m : MO), (st.take n)[k]? = some m → st[k]? = some m := fun k m e => by
    have hk := (List.getElem?_eq_some_iff.mp e).1
    rw [List.length_take] at hk
    rw [List.getElem?_take_of_lt (by omega)] at e; exact e
  rcases h with o | ⟨n, fs, o⟩ | ⟨k, n, fs, f, o, i⟩
  · exact .inl o
  · exact .inr (.inl ⟨n, fs, un _ _ o⟩)
  · exact .inr (.inr ⟨k, n, fs, f, un _ _ o, i⟩)
end
def WO {A : Type} (R : DkR A) : Wd (OS A) where
  has := HasO R
  own := Own
  inb := fun h o => h.inb o
  grow := fun g hg h => h.grow g hg
  ownG := fun g _ hg _ o => Own.unapp hg o
  set := fun m hm h no => h.set m hm no
  ownS := fun m _ hm _ _ o => Own.unset hm o
  take := fun h0 h t => HasO.take h0 h t
  ownT := fun _ _ _ o => Own.untake o
end Dn
namespace Dn
open PySem PySem.Spec PyProof.Rows L2
section
variable {A : Type} {R : DkR A} {fr : Sto} {Γ : List Sl} {ρ : Rho} {s s' : OS A} {st : Sto}
theorem HasO.put (h : HasO R s st) {l : Nat} {o o' : MO} (e : s.m l = some o) (hi : o.isIns = false) (hi' : o'.isIns = false) : HasO R (s.put l o') (st.set l o') := by
  obtain ⟨l2, b, c⟩ := h.at_ l o e
  have ni : ∀ n fs, st[l]? ≠ some (.ins n fs) := fun n fs q => by rw [b] at q; cases q; cases hi
  have hl := (List.getElem?_eq_some_iff.mp b).1
  refine ⟨by rw [List.getElem?_set_ne (by omega)]; exact h.a0, by rw [List.getElem?_set_ne (by omega)]; exact h.a1, fun k u q => ?_, fun k n fs q => ?_, fun k n fs f l' q i => ?_⟩
  · unfold OS.put at q
    dsimp only at q
    by_cases hk : k = l
    · subst hk
      rw [if_pos rfl] at q
      cases q
      exact ⟨l2, by rw [List.getElem?_set_self hl], c.set ni⟩
    · rw [if_neg hk] at q
      obtain ⟨x, y, z⟩ := h.at_ k u q
      exact ⟨x, by rw [List.getElem?_set_ne (Ne.symm hk)]; exact y, z.set ni⟩
  · unfold OS.put
    dsimp only
    by_cases hk : k = l
    · subst hk; simp
    · rw [if_neg hk]; exact h.ins k n fs (setNe hi' q)
  · rw [List.length_set]; exact h.ref k n fs f l' (setNe hi' q) i
theorem HasO.pre (h : HasO R s st) {l : Nat} {o o' : MO} (e : s.m l = some o) (hi : o.isIns = false) (hi' : o'.isIns = false) : Pre (WO R) st (s.put l o') (st.set l o') :=
  ⟨h.put e hi hi', by rw [List.length_set]; exact Nat.le_refl _, fun k _ no => ⟨fun o => no (o.unset hi'), by
    obtain ⟨_, _, c⟩ := h.at_ l o e
    rw [List.getElem?_set_ne (fun q => no (by rw [← q]; exact c))]⟩⟩
def hgetT {α : Type} (e : α → D) [Dec e] (k : Nat) : Mt (OS A) (List α) := fun s => match s.m k with
  | some (.lst xs) => match decs e xs with
    | some as => .ok as s
    | none => .bad
  | _ => .bad
def happ (k : Nat) (d : D) : Mt (OS A) Unit := fun s => match s.m k with
  | some (.lst xs) => if xs.length < 100000 then .ok () (s.put k (.lst (xs ++ [d]))) else .bad
  | _ => .bad
def hpop (k : Nat) : Mt (OS A) D := fun s => match s.m k with
  | some (.lst xs) => match xs[xs.length - 1]? with
    | some y => .ok y (s.put k (.lst xs.dropLast))
    | none => .bad
  | _ => .bad
theorem ac_H {α : Type} {B β : Type} {e : α → D} [Dec e] {m : Rho → M D} {r : Rho → M (List D)} {F : List D → M B} {ds : List D} {qk : Mt (OS A) Nat} {q2 : List α → Mt (OS A) β} {enc : β → B} {Γ' : β → List Sl} (h : HT (WO R) fr Γ m qk eR fun _ => Γ) (hv : HV (WO R) fr Γ r ds)
    (hd : ∀ st k xs, st[k]? = some (.lst xs) → F (.ref k :: ds) st = F (.lst xs :: ds) st) (hr : ∀ as : List α, AC (WO R) fr Γ r (fun ds => F (.lst (as.map e) :: ds)) (q2 as) enc Γ') : AC (WO R) fr Γ (mCons m r) F (mbind qk fun k => mbind (hgetT e k) q2) enc Γ' := fun s ρ st H => by
  unfold mCons
  rw [Out.bind_assoc]
  refine OR.bind (h s ρ st H) fun k s1 st1 H1 => ?_
  show OR (WO R) fr Γ' ρ enc _ (rbind (hgetT e k s1) q2)
  unfold hgetT
  cases e1 : s1.m k with
  | none => trivial
  | some o =>
    cases o with
    | lst xs =>
      dsimp only
      cases e2 : decs e xs with
      | none => trivial
      | some as =>
        dsimp only
        obtain ⟨_, b, _⟩ := H1.pre.has.at_ k _ e1
        have ex := decs_ok _ _ e2
        have := hr as s1 ρ st1 H1
        rw [hv s1 ρ st1 H1, Out.bind_ok, ← ex] at this
        rw [Out.bind_assoc, hv s1 ρ st1 H1, Out.bind_ok, Out.bind_ok]
        show OR (WO R) fr Γ' ρ enc (F (.ref k :: ds) st1) _
        rw [hd st1 k xs b]
        exact this
    | _ => trivial
theorem ht_happ {β : Type} {e : β → D} {mo m : Rho → M D} {qk : Mt (OS A) Nat} {q : Mt (OS A) β} (h : HT (WO R) fr Γ mo qk eR fun _ => Γ) (hx : HT (WO R) fr Γ m q e fun _ => Γ) :
    HT (WO R) fr Γ (mMeth "list" pAppend mo (mCons m mNil)) (mbind qk fun k => mbind (hgetT eD k) fun _ => mbind q fun x => happ k (e x)) eU fun _ => Γ := fun s ρ st H => by
  unfold mMeth
  refine OR.bind (h s ρ st H) fun k s1 st1 H1 => ?_
  show OR (WO R) fr _ ρ eU _ (rbind (hgetT eD k s1) _)
  unfold hgetT
  cases e1 : s1.m k with
  | none => trivial
  | some o =>
    cases o with
    | lst xs =>
      dsimp only
      cases e2 : decs eD xs with
      | none => trivial
      | some as =>
        dsimp only
        obtain ⟨_, b, _⟩ := H1.pre.has.at_ k _ e1
        rw [if_pos (show (eR k).isTy st1 "list" from isTy_ref b)]
        unfold mCons mNil
        rw [Out.bind_assoc]
        show OR (WO R) fr _ ρ eU _ (rbind (q s1) _)
        refine OR.bind (hx s1 ρ st1 H1) fun x s2 st2 H2 => ?_
        show OR (WO R) fr _ ρ eU _ (happ k (e x) s2)
        unfold happ
        cases e3 : s2.m k with
        | none => trivial
        | some o =>
          cases o with
          | lst ys =>
            dsimp only
            by_cases hz : ys.length < 100000
            · rw [if_pos hz]
              obtain ⟨_, b2, _⟩ := H2.pre.has.at_ k _ e3
              refine ⟨st2.set k (.lst (ys ++ [e x])), ?_, H2.call (H2.pre.has.pre e3 rfl rfl)⟩
              show nox (pAppend (.ref k) [e x] st2) = _
              unfold pAppend
              rw [onL_ref b2]
              dsimp only
              rw [if_pos (show ys.length < SZ from hz)]
              rfl
            · rw [if_neg hz]; trivial
          | _ => trivial
    | _ => trivial
theorem ht_hpop {mo : Rho → M D} {qk : Mt (OS A) Nat} (h : HT (WO R) fr Γ mo qk eR fun _ => Γ) : HT (WO R) fr Γ (mMeth "list" pPop mo mNil) (mbind qk hpop) eD fun _ => Γ := fun s ρ st H => by
  unfold mMeth
  refine OR.bind (h s ρ st H) fun k s1 st1 H1 => ?_
  unfold hpop
  cases e1 : s1.m k with
  | none => trivial
  | some o =>
    cases o with
    | lst xs =>
      dsimp only
      obtain ⟨_, b, _⟩ := H1.pre.has.at_ k _ e1
      rw [if_pos (show (eR k).isTy st1 "list" from isTy_ref b)]
      cases e2 : xs[xs.length - 1]? with
      | none => trivial
      | some y =>
        refine ⟨st1.set k (.lst xs.dropLast), ?_, H1.call (H1.pre.has.pre e1 rfl rfl)⟩
        show nox (pPop (.ref k) [] st1) = _
        unfold pPop
        rw [onL_ref b]
        dsimp only
        rw [e2]
        rfl
    | _ => trivial
def mgetF (nms : List Str) (f : Str) (l : Nat) : Mt (OS A) D := fun s => match s.m l with
  | some (.ins n fs) => if n ∈ nms then (match fs.lookup f with
    | some d => .ok d s
    | none => .bad) else .bad
  | _ => .bad
theorem insAny_ref {l : Nat} {n : Str} {fs : List (Str × D)} (h : st[l]? = some (.ins n fs)) : insAny st (.ref l) = some (n, fs) := by
  unfold insAny
  dsimp only
  rw [h]
theorem ht_getF {nms : List Str} {f : Str} {mo : Rho → M D} {q : Mt (OS A) Nat} (h : HT (WO R) fr Γ mo q eR fun _ => Γ) : HT (WO R) fr Γ (mFldA nms f mo) (mbind q (mgetF nms f)) eD fun _ => Γ := fun s ρ st H => by
  unfold mFldA
  refine OR.bind (h s ρ st H) fun l s1 st1 H1 => ?_
  unfold mgetF
  cases e1 : s1.m l with
  | none => trivial
  | some o =>
    cases o with
    | ins n fs =>
      dsimp only
      obtain ⟨_, b, _⟩ := H1.pre.has.at_ l _ e1
      have e2 : insAny st1 (eR l) = some (n, fs) := insAny_ref b
      rw [e2, Option.bind_some]
      dsimp only
      by_cases hn : n ∈ nms
      · rw [if_pos hn, if_pos hn]
        cases e3 : fs.lookup f with
        | none => trivial
        | some d => exact ⟨st1, rfl, H1⟩
      · rw [if_neg hn, if_neg hn]; trivial
    | _ => trivial
def hcls (n : Str) (m : Str) (l : Nat) : Mt (OS A) Unit := fun s => match s.m l with
  | some (.ins n' fs) => if n' = n ∧ (fs.lookup m).isNone = true then .ok () s else .bad
  | _ => .bad
def hcl (n : Str) (l : Nat) : Mt (OS A) Unit := fun s => match s.m l with
  | some (.ins n' fs) => if n' = n then .ok () s else .bad
  | _ => .bad
theorem hcls_ok {n m : Str} {l : Nat} {β : Type} {k : Unit → Mt (OS A) β} {e : β → D} {r : Out D} {Γ' : β → List Sl} {s : OS A} (hb : ∀ fs, s.m l = some (.ins n fs) → (fs.lookup m).isNone = true → OR (WO R) fr Γ' ρ e r (k () s)) : OR (WO R) fr Γ' ρ e r (rbind (hcls n m l s) k) := by
  unfold hcls
  cases e1 : s.m l with
  | none => trivial
  | some o =>
    cases o with
    | ins n' fs =>
      dsimp only
      by_cases hn : n' = n ∧ (fs.lookup m).isNone = true
      · rw [if_pos hn]
        obtain ⟨rfl, h2⟩ := hn
        exact hb fs e1 h2
      · rw [if_neg hn]; trivial
    | _ => trivial
theorem hcl_ok {n : Str} {l : Nat} {β : Type} {k : Unit → Mt (OS A) β} {e : β → D} {r : Out D} {Γ' : β → List Sl} {s : OS A} (hb : ∀ fs, s.m l = some (.ins n fs) → OR (WO R) fr Γ' ρ e r (k () s)) : OR (WO R) fr Γ' ρ e r (rbind (hcl n l s) k) := by
  unfold hcl
  cases e1 : s.m l with
  | none => trivial
  | some o =>
    cases o with
    | ins n' fs =>
      dsimp only
      by_cases hn : n' = n
      · rw [if_pos hn]
        subst hn
        exact hb fs e1
      · rw [if_neg hn]; trivial
    | _ => trivial
theorem ht_methA1 {n m : Str} {l : Nat} {spec : List D → M D} {mo : Rho → M D} {am : Rho → M (List D)} {β : Type} {q : Mt (OS A) β} {enc : β → D} {Γ' : β → List Sl} (hv : HV (WO R) fr Γ mo (eR l)) (h : AC (WO R) fr Γ am (fun ds => spec (eR l :: ds)) q enc Γ') :
    HT (WO R) fr Γ (mMethA m [(n, spec)] mo am) (mbind (hcls n m l) fun _ => q) enc Γ' := fun s ρ st H => by
  refine hcls_ok fun fs e1 e2 => ?_
  unfold mMethA
  obtain ⟨_, b, _⟩ := H.pre.has.at_ l _ e1
  have e3 : insAny st (eR l) = some (n, fs) := insAny_ref b
  rw [hv s ρ st H, Out.bind_ok, e3]
  dsimp only
  rw [List.lookup_cons_self]
  dsimp only
  rw [if_pos e2]
  exact h s ρ st H
theorem ht_propA1 {n : Str} {l : Nat} {spec : List D → M D} {mo : Rho → M D} {β : Type} {q : Mt (OS A) β} {enc : β → D} (hv : HV (WO R) fr Γ mo (eR l)) (h : AC (WO R) fr Γ mNil (fun ds => spec (eR l :: ds)) q enc fun _ => Γ) :
    HT (WO R) fr Γ (mPropA [(n, spec)] mo) (mbind (hcl n l) fun _ => calmly q) enc fun _ => Γ := fun s ρ st H => by
  refine hcl_ok fun fs e1 => ?_
  unfold mPropA
  obtain ⟨_, b, _⟩ := H.pre.has.at_ l _ e1
  have e3 : insAny st (eR l) = some (n, fs) := insAny_ref b
  rw [hv s ρ st H, Out.bind_ok, e3]
  dsimp only
  rw [List.lookup_cons_self]
  dsimp only
  exact calm_OR (h s ρ st H)
theorem tr_match2 {β : Type} {enc : β → D} {m : Rho → M D} {c : Str} {a b : Rho → Sto → Fl} {q : Mt (OS A) Str} {qa qb : Mt (OS A) β} (h : HT (WO R) fr Γ m q eS fun _ => Γ) (ha : TR (WO R) fr Γ a qa enc) (hb : TR (WO R) fr Γ b qb enc) :
    TR (WO R) fr Γ (sMatch2 m c a b) (mbind q fun w => if w = c then qa else qb) enc := fun s ρ st H => by
  refine OR.flG (P := RR (WO R) fr enc) (f := fun d st1 => match d with | .str z => if z = c then a ρ st1 else b ρ st1 | _ => .bad) (h s ρ st H) (fun x s st h1 h2 => ⟨ρ, st, rfl, h1, h2⟩) (fun _ => trivial) fun w s1 st1 H1 => ?_
  show RR (WO R) fr enc (if w = c then a ρ st1 else b ρ st1) _
  by_cases hw : w = c
  · rw [if_pos hw, if_pos hw]; exact ha s1 ρ st1 H1
  · rw [if_neg hw, if_neg hw]; exact hb s1 ρ st1 H1
end
section
variable {A : Type} {R : DkR A} {fr : Sto} {Γ : List Sl} {ρ : Rho} {s s' : OS A} {st : Sto}
noncomputable def OS.setF (s : OS A) (l : Nat) (n : Str) (fs : List (Str × D)) (f : Str) (d : D) : OS A :=
  (match fs.lookup f with
    | some (.ref k) => (match s.m k with
      | some (.ins _ _) => s
      | _ => s.del k)
    | _ => s).put l (.ins n (putD f d fs))
theorem putD_mem {f : Str} {d : D} : ∀ {fs : List (Str × D)} {p : Str × D}, p ∈ putD f d fs → p = (f, d) ∨ p ∈ fs
  | [], p, h => by
    unfold putD at h
    exact .inl (List.mem_singleton.mp h)
  | (g, x) :: r, p, h => by
    unfold putD at h
    split at h
    · rename_i e
      rcases List.mem_cons.mp h with q | q
      · exact .inl (by rw [q, e])
      · exact .inr (List.mem_cons_of_mem _ q)
    · rcases List.mem_cons.mp h with q | q
      · exact .inr (by rw [q]; exact List.mem_cons_self)
      · rcases putD_mem q with q | q
        · exact .inl q
        · exact .inr (List.mem_cons_of_mem _ q)
theorem mem_putD {f g : Str} {d x : D} : ∀ {fs : List (Str × D)}, (g, x) ∈ fs → (g, x) ∈ putD f d fs ∨ g = f ∧ fs.lookup f = some x
  | [], h => nomatch h
  | (g', x') :: r, h => by
    unfold putD
    by_cases e : g' = f
    · rw [if_pos e]
      rcases List.mem_cons.mp h with q | q
      · cases q
        refine .inr ⟨e, ?_⟩
        subst e
        exact List.lookup_cons_self
      · exact .inl (List.mem_cons_of_mem _ q)
    · rw [if_neg e]
      rcases List.mem_cons.mp h with q | q
      · cases q; exact .inl List.mem_cons_self
      · have hb : (f == g') = false := by simpa using (Ne.symm e)
        rcases mem_putD (f := f) (d := d) q with z | z
        · exact .inl (List.mem_cons_of_mem _ z)
        · exact .inr ⟨z.1, by simp only [List.lookup, hb]; exact z.2⟩
def okF (s : OS A) (d : D) : Prop := ∀ k, d = .ref k → ∃ n fs, s.m k = some (.ins n fs)
theorem setF_m {l : Nat} {n : Str} {fs : List (Str × D)} {f : Str} {d : D} {k : Nat} {o : MO} (h : (s.setF l n fs f d).m k = some o) : (k = l ∧ o = .ins n (putD f d fs)) ∨ (k ≠ l ∧ s.m k = some o ∧ (fs.lookup f = some (.ref k) → ∃ n fs, o = .ins n fs)) := by
  unfold OS.setF OS.put at h
  dsimp only at h
  by_cases hk : k = l
  · rw [if_pos hk] at h
    cases h
    exact .inl ⟨hk, rfl⟩
  · rw [if_neg hk] at h
    right
    split at h
    · rename_i j e
      split at h
      · rename_i n' fs' e2
        refine ⟨hk, h, fun q => ?_⟩
        rw [e] at q
        cases q
        rw [e2] at h
        cases h
        exact ⟨_, _, rfl⟩
      · unfold OS.del at h
        dsimp only at h
        by_cases hj : k = j
        · rw [if_pos hj] at h; cases h
        · rw [if_neg hj] at h
          exact ⟨hk, h, fun q => by rw [e] at q; cases q; exact absurd rfl hj⟩
    · rename_i e
      exact ⟨hk, h, fun q => absurd q (e k)⟩
theorem setF_some {l : Nat} {n : Str} {fs : List (Str × D)} {f : Str} {d : D} {k : Nat} {n' : Str} {fs' : List (Str × D)} (h : s.m k = some (.ins n' fs')) : (s.setF l n fs f d).m k ≠ none := by
  unfold OS.setF OS.put
  dsimp only
  by_cases hk : k = l
  · rw [if_pos hk]; simp
  · rw [if_neg hk]
    split
    · rename_i j e
      split
      · rw [h]; simp
      · rename_i e2
        unfold OS.del
        dsimp only
        by_cases hj : k = j
        · subst hj; exact absurd h (e2 n' fs')
        · rw [if_neg hj, h]; simp
    · rw [h]; simp
theorem setF_dk (s : OS A) (l : Nat) (n : Str) (fs : List (Str × D)) (f : Str) (d : D) : (s.setF l n fs f d).dk = s.dk := by
  unfold OS.setF OS.put OS.del
  dsimp only
  split
  · split <;> rfl
  · rfl
theorem HasO.setF (h : HasO R s st) {l : Nat} {n : Str} {fs : List (Str × D)} {f : Str} {d : D} (e : s.m l = some (.ins n fs)) (hd : ∀ k, d = .ref k → 2 ≤ k ∧ k < st.length) : HasO R (s.setF l n fs f d) (st.set l (.ins n (putD f d fs))) := by
  obtain ⟨l2, b, c⟩ := h.at_ l _ e
  have hl := (List.getElem?_eq_some_iff.mp b).1
  have get : ∀ k (m : MO), (st.set l (.ins n (putD f d fs)))[k]? = some m → (k = l ∧ m = .ins n (putD f d fs)) ∨ (k ≠ l ∧ st[k]? = some m) := fun k m q => by
    by_cases hk : l = k
    · subst hk
      rw [List.getElem?_set_self hl] at q
      cases q
      exact .inl ⟨rfl, rfl⟩
    · rw [List.getElem?_set_ne hk] at q
      exact .inr ⟨Ne.symm hk, q⟩
  refine ⟨by rw [List.getElem?_set_ne (by omega), setF_dk]; exact h.a0, by rw [List.getElem?_set_ne (by omega), setF_dk]; exact h.a1, fun k o q => ?_, fun k n' fs' q => ?_, fun k n' fs' f' l' q i => ?_⟩
  · rcases setF_m q with ⟨rfl, rfl⟩ | ⟨hk, q1, q2⟩
    · exact ⟨l2, by rw [List.getElem?_set_self hl], .inr (.inl ⟨n, _, by rw [List.getElem?_set_self hl]⟩)⟩
    · obtain ⟨x, y, z⟩ := h.at_ k o q1
      refine ⟨x, by rw [List.getElem?_set_ne (Ne.symm hk)]; exact y, ?_⟩
      rcases z with z | ⟨n1, fs1, z⟩ | ⟨k1, n1, fs1, f1, z, i⟩
      · exact .inl z
      · exact .inr (.inl ⟨n1, fs1, by rw [List.getElem?_set_ne (Ne.symm hk)]; exact z⟩)
      · by_cases hk1 : l = k1
        · subst hk1
          rw [b] at z
          cases z
          rcases mem_putD (f := f) (d := d) i with w | ⟨rfl, w⟩
          · exact .inr (.inr ⟨l, n, _, f1, by rw [List.getElem?_set_self hl], w⟩)
          · obtain ⟨n2, fs2, rfl⟩ := q2 w
            exact .inr (.inl ⟨n2, fs2, by rw [List.getElem?_set_ne (Ne.symm hk)]; exact y⟩)
        · exact .inr (.inr ⟨k1, n1, fs1, f1, by rw [List.getElem?_set_ne hk1]; exact z, i⟩)
  · rcases get k _ q with ⟨hk, _⟩ | ⟨hk, q⟩
    · rw [hk]; exact setF_some e
    · cases e1 : s.m k with
      | none => exact absurd e1 (h.ins k n' fs' q)
      | some o =>
        obtain ⟨_, y, _⟩ := h.at_ k o e1
        rw [q] at y
        cases y
        exact setF_some e1
  · rw [List.length_set]
    rcases get k _ q with ⟨hk, q⟩ | ⟨hk, q⟩
    · cases q
      rcases putD_mem i with w | w
      · cases w; exact hd l' rfl
      · exact h.ref l n fs f' l' b w
    · exact h.ref k n' fs' f' l' q i
theorem own_setF {l : Nat} {n : Str} {fs : List (Str × D)} {f : Str} {d : D} (b : st[l]? = some (.ins n fs)) {k : Nat} (o : Own (st.set l (.ins n (putD f d fs))) k) : Own st k ∨ d = .ref k := by
  have hl := (List.getElem?_eq_some_iff.mp b).1
  have get : ∀ k (m : MO), (st.set l (.ins n (putD f d fs)))[k]? = some m → (k = l ∧ m = .ins n (putD f d fs)) ∨ (k ≠ l ∧ st[k]? = some m) := fun k m q => by
    by_cases hk : l = k
    · subst hk
      rw [List.getElem?_set_self hl] at q
      cases q
      exact .inl ⟨rfl, rfl⟩
    · rw [List.getElem?_set_ne hk] at q
      exact .inr ⟨Ne.symm hk, q⟩
  rcases o with o | ⟨n', fs', o⟩ | ⟨k', n', fs', f', o, i⟩
  · exact .inl (.inl o)
  · rcases get k _ o with ⟨hk, _⟩ | ⟨_, o⟩
    · exact .inl (.inr (.inl ⟨n, fs, by rw [hk]; exact b⟩))
    · exact .inl (.inr (.inl ⟨n', fs', o⟩))
  · rcases get k' _ o with ⟨hk, o⟩ | ⟨_, o⟩
    · cases o
      rcases putD_mem i with w | w
      · cases w; exact .inr rfl
      · exact .inl (.inr (.inr ⟨l, n, fs, f', b, w⟩))
    · exact .inl (.inr (.inr ⟨k', n', fs', f', o, i⟩))
open Classical in
noncomputable def hsetF (nms : List Str) (f : Str) (l : Nat) (d : D) : Mt (OS A) Unit := fun s => match s.m l with
  | some (.ins n fs) => if n ∈ nms ∧ fs.length < 100 ∧ okF s d then .ok () (s.setF l n fs f d) else .bad
  | _ => .bad
theorem tn_setF {nms : List Str} {f : Str} {l : Nat} {β : Type} {e : β → D} {mo mv : Rho → M D} {q : Mt (OS A) β} (ho : HV (WO R) fr Γ mo (eR l)) (hv : HT (WO R) fr Γ mv q e fun _ => Γ) :
    TN (WO R) fr Γ (sSetFA nms f mo mv) (mbind q fun x => hsetF nms f l (e x)) fun _ => Γ := fun s ρ st H => by
  refine OR.fl (J := fun _ => Γ) (hv s ρ st H) fun x s1 st1 H1 => ?_
  rw [ho s1 ρ st1 H1, Out.fl_ok]
  unfold hsetF
  cases e1 : s1.m l with
  | none => trivial
  | some o =>
    cases o with
    | ins n fs =>
      dsimp only
      obtain ⟨_, b, _⟩ := H1.pre.has.at_ l _ e1
      by_cases hn : n ∈ nms ∧ fs.length < 100 ∧ okF s1 (e x)
      · rw [if_pos hn]
        show NR (WO R) fr _ (match st1[l]? with | some (.ins n fs) => if n ∈ nms ∧ fs.length < 100 then Fl.next ρ (st1.set l (.ins n (putD f (e x) fs))) else .bad | _ => .bad) _
        rw [b]
        dsimp only
        rw [if_pos ⟨hn.1, hn.2.1⟩]
        refine ⟨ρ, _, rfl, H1.call ⟨H1.pre.has.setF e1 fun k hk => ?_, by rw [List.length_set]; exact Nat.le_refl _, fun k hk no => ⟨fun o => ?_, ?_⟩⟩⟩
        · obtain ⟨n', fs', q⟩ := hn.2.2 k hk
          obtain ⟨x1, y1, _⟩ := H1.pre.has.at_ k _ q
          exact ⟨x1, (List.getElem?_eq_some_iff.mp y1).1⟩
        · rcases own_setF b o with o | o
          · exact no o
          · obtain ⟨n', fs', q⟩ := hn.2.2 k o
            obtain ⟨_, y1, _⟩ := H1.pre.has.at_ k _ q
            exact no (.inr (.inl ⟨n', fs', y1⟩))
        · rw [List.getElem?_set_ne (fun q => no (by rw [← q]; exact .inr (.inl ⟨n, fs, b⟩)))]
      · rw [if_neg hn]; trivial
    | _ => trivial
noncomputable def hsetN (nms : List Str) (f : Str) (l : Nat) (ds : List D) : Mt (OS A) Unit := fun s => match s.m l with
  | some (.ins n fs) => if n ∈ nms ∧ fs.length < 100 then .amb (fun k => 2 ≤ k ∧ k ≠ l ∧ s.m k = none) fun k => .ok () ((s.setF l n fs f (.ref k)).put k (.lst ds)) else .bad
  | _ => .bad
theorem HasO.fresh {l : Nat} (h : HasO R s st) (no : ¬ Own st l) : s.m l = none := by
  cases e : s.m l with
  | none => rfl
  | some o => exact absurd (h.at_ l o e).2.2 no
theorem HasO.putL (h : HasO R s st) {k : Nat} {ds : List D} (k2 : 2 ≤ k) (e : st[k]? = some (.lst ds)) (o : Own st k) : HasO R (s.put k (.lst ds)) st := by
  refine ⟨h.a0, h.a1, fun l u q => ?_, fun l n fs q => ?_, h.ref⟩
  · unfold OS.put at q
    dsimp only at q
    by_cases hk : l = k
    · subst hk
      rw [if_pos rfl] at q
      cases q
      exact ⟨k2, e, o⟩
    · rw [if_neg hk] at q; exact h.at_ l u q
  · unfold OS.put
    dsimp only
    by_cases hk : l = k
    · rw [if_pos hk]; simp
    · rw [if_neg hk]; exact h.ins l n fs q
theorem lookup_putD {f : Str} {d : D} : ∀ fs : List (Str × D), (f, d) ∈ putD f d fs
  | [] => by unfold putD; simp
  | (g, x) :: r => by
    unfold putD
    by_cases e : g = f
    · rw [if_pos e, e]; simp
    · rw [if_neg e]; exact List.mem_cons_of_mem _ (lookup_putD r)
theorem tn_setN {nms : List Str} {f : Str} {l : Nat} {β : Type} {e : β → List D} {mo : Rho → M D} {ml : Rho → M (List D)} {q : Mt (OS A) β} (ho : HV (WO R) fr Γ mo (eR l)) (hv : HT (WO R) fr Γ ml q e fun _ => Γ) :
    TN (WO R) fr Γ (sSetFA nms f mo (mNew ml)) (mbind q fun x => hsetN nms f l (e x)) fun _ => Γ := fun s ρ st H => by
  have e0 : sSetFA nms f mo (mNew ml) ρ st = (ml ρ st).fl ρ fun xs st1 => (mo ρ (st1 ++ [MO.lst xs])).fl ρ fun (d : D) (st2 : Sto) => match d with
    | .ref l => match st2[l]? with
      | some (.ins n fs) => if n ∈ nms ∧ fs.length < 100 then .next ρ (st2.set l (.ins n (putD f (.ref st1.length) fs))) else .bad
      | _ => .bad
    | _ => .bad := by
    unfold sSetFA mNew
    cases ml ρ st <;> rfl
  rw [e0]
  refine OR.fl (J := fun _ => Γ) (hv s ρ st H) fun x s1 st1 H1 => ?_
  unfold hsetN
  cases e1 : s1.m l with
  | none => trivial
  | some o =>
    cases o with
    | ins n fs =>
      dsimp only
      by_cases hn : n ∈ nms ∧ fs.length < 100
      · rw [if_pos hn]
        have H2 := H1.grow [.lst (e x)] (noIns1 rfl)
        have nown : ¬ Own (st1 ++ [.lst (e x)]) st1.length := H1.pre.fresh (.lst (e x)) rfl
        have b1 : 2 ≤ st1.length := H1.pre.has.len
        have hfr : s1.m st1.length = none := H2.pre.has.fresh nown
        have hne : st1.length ≠ l := fun q => by rw [q, e1] at hfr; cases hfr
        obtain ⟨_, b, _⟩ := H2.pre.has.at_ l _ e1
        refine ⟨st1.length, ⟨b1, hne, hfr⟩, ?_⟩
        rw [ho s1 ρ _ H2, Out.fl_ok]
        show NR (WO R) fr _ (match (st1 ++ [MO.lst (e x)] : Sto)[l]? with | some (.ins n fs) => if n ∈ nms ∧ fs.length < 100 then Fl.next ρ ((st1 ++ [MO.lst (e x)] : Sto).set l (.ins n (putD f (.ref st1.length) fs))) else .bad | _ => .bad) _
        rw [b]
        dsimp only
        rw [if_pos hn]
        have hh := H2.pre.has.setF (f := f) (d := .ref st1.length) e1 fun k hk => by
          cases hk
          exact ⟨b1, by simp⟩
        have hl := (List.getElem?_eq_some_iff.mp b).1
        have gk : ((st1 ++ [MO.lst (e x)] : Sto).set l (.ins n (putD f (.ref st1.length) fs)))[st1.length]? = some (.lst (e x)) := by
          rw [List.getElem?_set_ne (Ne.symm hne)]; simp
        have ok : Own ((st1 ++ [MO.lst (e x)] : Sto).set l (.ins n (putD f (.ref st1.length) fs))) st1.length := .inr (.inr ⟨l, n, _, f, by rw [List.getElem?_set_self hl], lookup_putD fs⟩)
        refine ⟨ρ, _, rfl, H1.call ⟨hh.putL b1 gk ok, by rw [List.length_set, List.length_append]; omega, fun k hk no => ⟨fun o => ?_, ?_⟩⟩⟩
        · rcases own_setF b o with o | o
          · exact no (o.unapp (noIns1 rfl))
          · cases o; exact Nat.lt_irrefl _ hk
        · have hkl : l ≠ k := fun q => no (by
            rw [← q]
            obtain ⟨_, _, c⟩ := H1.pre.has.at_ l _ e1
            exact c)
          rw [List.getElem?_set_ne hkl, List.getElem?_append_left hk]
      · rw [if_neg hn]; trivial
    | _ => trivial
def mmk (nm : Str) (init : Nat → Mt (OS A) Unit) : Mt (OS A) Nat := fun s => .amb (fun l => 2 ≤ l ∧ s.m l = none) fun l => rbind (init l (s.put l (.ins nm []))) fun _ => mpure l
theorem fn_mkM {nm : Str} {spec : List D → M D} {args : List D} {init : Nat → Mt (OS A) Unit} (h : ∀ l, FN (WO R) spec (eR l :: args) (init l) eU) : FN (WO R) (dMkM0 nm spec) args (mmk nm init) eR := fun st s hs => by
  have b2 := hs.len
  have nown : ∀ l, Own (st ++ [.ins nm []]) l → l = st.length ∨ Own st l := fun l o => by
    have get : ∀ k (m : MO), (st ++ [MO.ins nm []])[k]? = some m → (k = st.length ∧ m = .ins nm []) ∨ st[k]? = some m := fun k m q => by
      by_cases hk : k < st.length
      · rw [List.getElem?_append_left hk] at q; exact .inr q
      · have hk2 := (List.getElem?_eq_some_iff.mp q).1
        rw [List.length_append, List.length_singleton] at hk2
        have : k = st.length := by omega
        subst this
        simp at q
        exact .inl ⟨rfl, q.symm⟩
    rcases o with o | ⟨n, fs, o⟩ | ⟨k, n, fs, f, o, i⟩
    · exact .inr (.inl o)
    · rcases get l _ o with ⟨q, _⟩ | o
      · exact .inl q
      · exact .inr (.inr (.inl ⟨n, fs, o⟩))
    · rcases get k _ o with ⟨_, q⟩ | o
      · cases q; cases i
      · exact .inr (.inr (.inr ⟨k, n, fs, f, o, i⟩))
  have fre : s.m st.length = none := hs.fresh fun o => Nat.lt_irrefl _ (hs.inb o)
  have h1 : HasO R (s.put st.length (.ins nm [])) (st ++ [.ins nm []]) := by
    refine ⟨appGet hs.a0, appGet hs.a1, fun l o q => ?_, fun l n fs q => ?_, fun k n fs f l q i => ?_⟩
    · unfold OS.put at q
      dsimp only at q
      by_cases hl : l = st.length
      · subst hl
        rw [if_pos rfl] at q
        cases q
        exact ⟨b2, by simp, .inr (.inl ⟨nm, [], by simp⟩)⟩
      · rw [if_neg hl] at q
        obtain ⟨x, y, z⟩ := hs.at_ l o q
        exact ⟨x, appGet y, z.app⟩
    · unfold OS.put
      dsimp only
      by_cases hl : l = st.length
      · rw [if_pos hl]; simp
      · rw [if_neg hl]
        refine hs.ins l n fs ?_
        by_cases hk : l < st.length
        · rw [List.getElem?_append_left hk] at q; exact q
        · have hk2 := (List.getElem?_eq_some_iff.mp q).1
          rw [List.length_append, List.length_singleton] at hk2
          omega
    · by_cases hk : k < st.length
      · rw [List.getElem?_append_left hk] at q
        obtain ⟨x, y⟩ := hs.ref k n fs f l q i
        exact ⟨x, by rw [List.length_append]; omega⟩
      · have hk2 := (List.getElem?_eq_some_iff.mp q).1
        rw [List.length_append, List.length_singleton] at hk2
        have : k = st.length := by omega
        subst this
        simp at q
        rw [q.2] at i
        cases i
  have go := h st.length (st ++ [MO.ins nm []]) (s.put st.length (.ins nm [])) h1
  refine ⟨st.length, ⟨b2, fre⟩, ?_⟩
  have pre : ∀ {s' : OS A} {st' : Sto}, Pre (WO R) (st ++ [.ins nm []]) s' st' → Pre (WO R) st s' st' := fun p => ⟨p.has, by have := p.long; rw [List.length_append] at this; omega, fun l hl no => by
    obtain ⟨x, y⟩ := p.keep l (by rw [List.length_append]; omega) fun o => by
      rcases nown l o with q | q
      · omega
      · exact no q
    exact ⟨x, by rw [y, List.getElem?_append_left hl]⟩⟩
  unfold dMkM0
  revert go
  show FO (WO R) _ eU (spec (eR st.length :: args) (st ++ [.ins nm []])) _ → FO (WO R) st eR (match spec (eR st.length :: args) (st ++ [.ins nm []]) with
    | .ok .non st1 => .ok (.ref st.length) st1
    | .ok _ _ => .bad
    | .exc x st1 => .exc x st1
    | .bad => .bad) (rbind _ _)
  induction (init st.length (s.put st.length (.ins nm []))) with
  | ok u s' =>
    rintro ⟨st', e, p⟩
    rw [e]
    exact ⟨st', rfl, pre p⟩
  | exc x s' =>
    rintro ⟨st', e, p, hx⟩
    rw [e]
    exact ⟨st', rfl, pre p, hx⟩
  | bad => intro _; trivial
  | amb P_ f_ ih_ => rintro ⟨n_, p_, h_⟩; exact ⟨n_, p_, ih_ n_ h_⟩
end
end Dn
namespace Dn
open PySem PySem.Spec PyProof.Rows L2
section
variable {S : Type} {W : Wd S} {fr : Sto} {Γ : List Sl}
theorem fn_of {β : Type} {enc : β → D} {np nN : Nat} {m : Rho → Sto → Fl} {ds : List D} {q : Mt S β} (hn : ds.length = np) (hl : ds.length ≤ nN) (h : ∀ fr, TR W fr (ds.map .val ++ List.replicate (nN - ds.length) .any) m q enc) : FN W (fnD np nN m) ds q enc := fo_of hn hl h
theorem fnVN {β : Type} {n : Nat} {d : List D → M D} {pre args : List D} {q : Mt S β} {enc : β → D} (h : FN W d (pre ++ [.tup args]) q enc) (hn : pre.length = n) (hz : n + args.length ≤ SZ) : FN W (varN n d) (pre ++ args) q enc := fun st s hs => by
  unfold varN
  rw [if_pos ⟨by rw [List.length_append]; omega, by rw [List.length_append]; omega⟩, ← hn, List.take_left, List.drop_left]
  exact h st s hs
theorem ac_varS {α β : Type} {n : Nat} {d F : List D → M D} {m : Rho → M D} {e : α → D} {pre : List D} {xs : List α} {q : Mt S β} {enc : β → D} (hv : HV W fr Γ m (.lst (xs.map e))) (h : FN W d (pre ++ [.tup (xs.map e)]) q enc) (hn : pre.length = n)
    (hF : ∀ ds, F ds = varN n d (pre ++ ds) := by intro _; rfl) : AC W fr Γ (mStar m mNil) F (if n + xs.length ≤ 100000 then q else mbad) enc fun _ => Γ := fun s ρ st H => by
  unfold mStar
  rw [hv s ρ st H, Out.bind_ok]
  show OR W fr _ ρ enc (((mNil ρ st).bind fun ds st2 => Out.ok (xs.map e ++ ds) st2).bind F) ((if n + xs.length ≤ 100000 then q else mbad) s)
  unfold mNil
  rw [Out.bind_ok, Out.bind_ok, List.append_nil, hF]
  by_cases hz : n + xs.length ≤ 100000
  · rw [if_pos hz]
    have := fnVN (n := n) (args := xs.map e) h hn (by rw [List.length_map]; exact hz) st s H.pre.has
    revert this
    generalize q s = r
    show FO W st enc _ r → OR W fr _ ρ enc _ r
    induction r with
    | ok b s' => rintro ⟨st', e, p⟩; exact ⟨st', e, H.call p⟩
    | exc x s' => rintro ⟨st', e, p, hx⟩; exact ⟨st', e, H.pre.trans p, hx⟩
    | bad => intro _; trivial
    | amb P_ f_ ih_ => rintro ⟨n_, p_, h_⟩; exact ⟨n_, p_, ih_ n_ h_⟩
  · rw [if_neg hz]; trivial
def mstar1 {α β : Type} (q : α → Mt S β) : List α → Mt S β
  | [a] => q a
  | _ => mbad
def mstar2 {α β : Type} (q : α → α → Mt S β) : List α → Mt S β
  | [a, b] => q a b
  | _ => mbad
theorem ac_star1 {α β : Type} {F : List D → M D} {m : Rho → M D} {e : α → D} {xs : List α} {q : α → Mt S β} {enc : β → D} {Γ' : β → List Sl} (hv : HV W fr Γ m (.lst (xs.map e))) (h : ∀ a, AC W fr Γ mNil (fun ds => F (e a :: ds)) (q a) enc Γ') : AC W fr Γ (mStar m mNil) F (mstar1 q xs) enc Γ' := fun s ρ st H => by
  unfold mStar
  rw [hv s ρ st H, Out.bind_ok]
  show OR W fr _ ρ enc (((mNil ρ st).bind fun ds st2 => Out.ok (xs.map e ++ ds) st2).bind F) (mstar1 q xs s)
  match xs with
  | [] => trivial
  | [a] => exact h a s ρ st H
  | _ :: _ :: _ => trivial
theorem ac_star2 {α β : Type} {F : List D → M D} {m : Rho → M D} {e : α → D} {xs : List α} {q : α → α → Mt S β} {enc : β → D} {Γ' : β → List Sl} (hv : HV W fr Γ m (.lst (xs.map e))) (h : ∀ a b, AC W fr Γ mNil (fun ds => F (e a :: e b :: ds)) (q a b) enc Γ') : AC W fr Γ (mStar m mNil) F (mstar2 q xs) enc Γ' := fun s ρ st H => by
  unfold mStar
  rw [hv s ρ st H, Out.bind_ok]
  show OR W fr _ ρ enc (((mNil ρ st).bind fun ds st2 => Out.ok (xs.map e ++ ds) st2).bind F) (mstar2 q xs s)
  match xs with
  | [] => trivial
  | [_] => trivial
  | [a, b] => exact h a b s ρ st H
  | _ :: _ :: _ :: _ => trivial
def munstar (d : D) : Mt S (Str × List D) := match d with
  | .tup (.str w :: ds) => mpure (w, ds)
  | _ => mbad
theorem tn_unstar {i j : Nat} {m : Rho → M D} {d : D} (h : HV W fr Γ m d) : TN W fr Γ (sAsg (gS 1 (gsCons (gN i) (gsCons (gN j) gsNil))) m) (munstar d) fun z => (Γ.set i (.val (.str z.1))).set j (.val (.lst z.2)) := fun s ρ st H => by
  show NR W fr _ ((m ρ st).fl ρ fun d st1 => (nox (gS 1 (gsCons (gN i) (gsCons (gN j) gsNil)) d ρ st1)).fl ρ fun ρ2 st2 => .next ρ2 st2) (munstar d s)
  rw [h s ρ st H, Out.fl_ok]
  unfold munstar
  split
  · rename_i w ds
    exact ⟨_, st, rfl, (H.setVal i (.str w)).setVal j (.lst ds)⟩
  · trivial
theorem eD_map (xs : List D) : xs.map eD = xs := by
  show xs.map (fun d => d) = _
  rw [List.map_id']
theorem tn_unstarE {i j : Nat} {m : Rho → M D} {d : D} (h : HV W fr Γ m (eD d)) : TN W fr Γ (sAsg (gS 1 (gsCons (gN i) (gsCons (gN j) gsNil))) m) (munstar d) fun z => (Γ.set i (.val (eS z.1))).set j (.val (eL eD z.2)) := by
  have h2 := tn_unstar (i := i) (j := j) h
  have e : (fun z : Str × List D => (Γ.set i (.val (eS z.1))).set j (.val (eL eD z.2))) = fun z => (Γ.set i (.val (.str z.1))).set j (.val (.lst z.2)) := by
    funext z
    unfold eL
    rw [eD_map]
    rfl
  rw [e]
  exact h2
theorem ac_dec {α β : Type} {B : Type} {e : α → D} [Dec e] {d : D} {a : Rho → M (List D)} {F : List D → M B} {q : α → Mt S β} {enc : β → B} {Γ' : β → List Sl} (h : ∀ x, AC W fr Γ a (fun ds => F (e x :: ds)) (q x) enc Γ') : AC W fr Γ a (fun ds => F (eD d :: ds)) (mbind (mdec e d) q) enc Γ' := fun s ρ st H => by
  show OR W fr Γ' ρ enc _ (rbind (mdec e d s) q)
  unfold mdec
  cases h2 : Dec.dec e d with
  | none => trivial
  | some x =>
    have := h x s ρ st H
    rw [← Dec.ok _ _ h2] at this
    exact this
theorem ac_dec2 {α α' β : Type} {B : Type} {e : α → D} {e' : α' → D} [Dec e] [Dec e'] {d d' : D} {a : Rho → M (List D)} {F : List D → M B} {q : α → α' → Mt S β} {enc : β → B} {Γ' : β → List Sl} (h : ∀ x y, AC W fr Γ a (fun ds => F (e x :: e' y :: ds)) (q x y) enc Γ') : AC W fr Γ a (fun ds => F (eD d :: eD d' :: ds)) (mbind (mdec e d) fun x => mbind (mdec e' d') fun y => q x y) enc Γ' := fun s ρ st H => by
  show OR W fr Γ' ρ enc _ (rbind (mdec e d s) fun x => mbind (mdec e' d') fun y => q x y)
  unfold mdec
  cases h2 : Dec.dec e d with
  | none => trivial
  | some x =>
    show OR W fr Γ' ρ enc _ (rbind (mdec e' d' s) fun y => q x y)
    unfold mdec
    cases h3 : Dec.dec e' d' with
    | none => trivial
    | some y =>
      have := h x y s ρ st H
      rw [← Dec.ok _ _ h2, ← Dec.ok _ _ h3] at this
      exact this
theorem ac_star1D {α β : Type} {F : List D → M D} {m : Rho → M D} {e : α → D} [Dec e] {xs : List D} {q : α → Mt S β} {enc : β → D} {Γ' : β → List Sl} (hv : HV W fr Γ m (.lst (xs.map eD))) (h : ∀ b, AC W fr Γ mNil (fun ds => F (e b :: ds)) (q b) enc Γ') : AC W fr Γ (mStar m mNil) F (mstar1 (fun a => mbind (mdec e a) fun b => q b) xs) enc Γ' := ac_star1 (e := eD) hv fun _ => ac_dec h
theorem ac_star2D {α α' β : Type} {F : List D → M D} {m : Rho → M D} {e : α → D} {e' : α' → D} [Dec e] [Dec e'] {xs : List D} {q : α → α' → Mt S β} {enc : β → D} {Γ' : β → List Sl} (hv : HV W fr Γ m (.lst (xs.map eD))) (h : ∀ x y, AC W fr Γ mNil (fun ds => F (e x :: e' y :: ds)) (q x y) enc Γ') : AC W fr Γ (mStar m mNil) F (mstar2 (fun a b => mbind (mdec e a) fun x => mbind (mdec e' b) fun y => q x y) xs) enc Γ' := ac_star2 (e := eD) hv fun _ _ => ac_dec2 h
theorem tn_never {σ : Type} {J : σ → List Sl} : TN W fr Γ sNever (mbad : Mt S σ) J := fun s ρ st H => trivial
theorem tn_raise {σ : Type} {x : Str} {J : σ → List Sl} : TN W fr Γ (sRaise x) (mraise ⟨x, none⟩ : Mt S σ) J := fun s ρ st H => ⟨ρ, st, rfl, H.pre, trivial⟩
end
section
variable {A : Type} {R : DkR A} {fr : Sto} {Γ : List Sl}
theorem ht_getFV {nms : List Str} {f : Str} {mo : Rho → M D} {l : Nat} (h : HV (WO R) fr Γ mo (eR l)) : HT (WO R) fr Γ (mFldA nms f mo) (mgetF nms f l) eD fun _ => Γ := ht_getF (q := mpure l) (ht_ofV h)
end
end Dn
namespace Dn
open PySem PySem.Spec PyProof.Rows L2
def RunK (P : Program) (w : World) (K : PySem.W.Frag) (mg : Str → Option Value) (base : Heap) (k : Nat) (nm : Str) (f : Addr) (spec : List D → M D) : Prop :=
  ∀ (B : Around) (fr : List Env) (s : Shared) (H : Hp) (us : List Value) (u : Value) (vs : List V) (Q : VK) (E : XK), Room k B → (5 < k → B.guards = some []) → Env0 P w K mg base B fr s H → K.In s.heap → Vals vs (us ++ [u]) → spE K spec vs H Q E →
    codeAny (model P w) B (.call (.ref f) ⟨us, [(nm, u)]⟩) (CR (L2.CX P w) fr P w H s Q E) s
section
variable {P : Program} {w : World} {K : PySem.W.Frag} {mg : Str → Option Value} {base : Heap} {k k' : Nat} {f : Addr} {spec : List D → M D} {nm m n : Str} {t : Tbl}
theorem RunK.mono (h : RunK P w K mg base k nm f spec) (hk : k ≤ k') : RunK P w K mg base k' nm f spec := fun B fr s H us u vs Q E hr hg => h B fr s H us u vs Q E (hr.mono hk) fun h5 => hg (by omega)
end
section
variable {X : Cx} {W : WX} {k j : Nat} {m nm : Str} {t : Tbl} {e o ke : Expr} {es : List Expr} {mo mk : Rho → M D} {am : Rho → M (List D)} {pos apos kp : Pos} {spec : List D → M D}
end
section
variable {X : Cx} {x : Xc} {e : D} {a : Addr} {oe : Obj} {pn : List (Addr × Obj)} {i : Nat} {p p2 pos : Pos} {yes no : List Str} {y z u ev : Str} {p3 p4 p5 p6 : Pos} {kk : Nat}
end
end Dn
namespace Dn
open PySem PySem.Spec PyProof.Rows L2
def envK (ρ : Rho) (i : Nat) (e : D) : Rho := ρ.set i (some e)
section
variable {X : Cx} {W : WX} {y n : Str} {i : Nat} {body suite : List Stmt} {b₀ : Stmt} {np pos pos' : Pos} {mb : Rho → Sto → Fl} {mh : Xc → D → Rho → Sto → Fl} {yes no : List Str} {Cy : Addr}
end
structure AgI (i : Nat) (e e' : D) (ρ ρ' : Rho) : Prop where
  l : ρ'.length = ρ.length
  a : ρ[i]? = some (some e)
  b : ρ'[i]? = some (some e')
  o : ∀ j, j ≠ i → ρ'[j]? = ρ[j]?
def AgF (i : Nat) (e e' : D) (r r' : Fl) : Prop := match r, r' with
  | .next ρ st, .next ρ' st' => AgI i e e' ρ ρ' ∧ st = st'
  | .brk ρ st, .brk ρ' st' => AgI i e e' ρ ρ' ∧ st = st'
  | .cnt ρ st, .cnt ρ' st' => AgI i e e' ρ ρ' ∧ st = st'
  | .ret d st, .ret d' st' => d = d' ∧ st = st'
  | .exc _ _ _, .exc _ _ _ => True
  | .bad, .bad => True
  | _, _ => False
def IndS (i : Nat) (m : D → Rho → Sto → Fl) : Prop := ∀ e e' ρ ρ' st, AgI i e e' ρ ρ' → AgF i e e' (m e ρ st) (m e' ρ' st)
section
variable {i j : Nat} {α β : Type}
end
end Dn
namespace Dn
open PySem PySem.Spec PyProof.Rows L2
def KX (mb : Rho → Sto → Fl) : Prop := ∀ ρ st x ρ' st', mb ρ st = .exc x ρ' st' → ρ' = ρ
abbrev keepK : List Sl → List Sl := List.map fun a => match a with | .mut _ => .any | a => a
section
variable {S : Type} {W : Wd S} {fr : Sto} {Γ : List Sl} {σ : Type}
end
section
variable {S : Type} {W : Wd S} {fr : Sto} {α β σ : Type}
end
section
variable {S : Type} {W : Wd S} {fr : Sto} {Γ : List Sl} {β σ : Type}
end
end Dn
namespace Dn
open PySem PySem.Spec PyProof.Rows L2
inductive ClA (X : Cx) (n : Str) : List ExceptHandler → List (Value × (Addr → Value → Option Addr → TS)) → Prop
  | nil : ClA X n [] []
  | cons {x : Str} {c : Value} {ts : Addr → Value → Option Addr → TS} {b₀ : Stmt} {suite : List Stmt} {np pos' : Pos} {hds : List ExceptHandler} {l : List (Value × (Addr → Value → Option Addr → TS))} (hc : Names X x c)
      (hsu : ∀ (a : Addr) (oe : Obj) (cls : Value) (d : Option Addr) (pn : List (Addr × Obj)), Zc cls d oe → (∃ vs, oe.data = .fields vs) → PSs (X.suite a ((a, oe) :: pn)) (b₀ :: suite) (ts a cls d)) (r : ClA X n hds l) :
      ClA X n (.ExceptHandler (some (.Name x np)) (some n) (b₀ :: suite) pos' :: hds) ((c, ts) :: l)
section
variable {X : Cx} {n : Str} {i : Nat} {body : List Stmt} {h₀ : ExceptHandler} {hds : List ExceptHandler} {l : List (Value × (Addr → Value → Option Addr → TS))} {pos : Pos} {tb : WX → TS} {Wout : WX}
end
abbrev Clz := List (List Str × List Str × (Xc → D → Rho → Sto → Fl))
def hdC (i : Nat) (x : Xc) (ρ : Rho) (st : Sto) : Clz → Fl
  | [] => .exc x ρ st
  | (yes, no, mh) :: r => if x.nm ∈ yes then tidyF i (mh x (e0 x) (envK ρ i (e0 x)) st) else if x.nm ∈ no then hdC i x ρ st r else .bad
inductive CLs (X : Cx) (n : Str) (i : Nat) : List ExceptHandler → Clz → Prop
  | nil : CLs X n i [] []
  | cons {y : Str} {suite : List Stmt} {b₀ : Stmt} {np pos' : Pos} {mh : Xc → D → Rho → Sto → Fl} {yes no : List Str} {hds : List ExceptHandler} {cl : Clz} (hg : Gl X y) (T : ErrX X.K X.mg y) (hE1 : ∀ z ∈ yes, ErrX X.K X.mg z) (hE2 : ∀ z ∈ no, ErrX X.K X.mg z) (hyes : ∀ z ∈ yes, ExmB X.K z y true) (hno : ∀ z ∈ no, ExmB X.K z y false)
      (hh : ∀ (x : Xc) (e : D) (a : Addr) (oe : Obj) (pn : List (Addr × Obj)), x.nm ∈ yes → HC X x e a oe → DSs (X.suite a ((a, oe) :: pn)) wN (b₀ :: suite) (mh x e)) (hu : ∀ x, IndS i (mh x)) (r : CLs X n i hds cl) (hdb : (y == ("__debug__" : Str)) = false := by decide) :
      CLs X n i (.ExceptHandler (some (.Name y np)) (some n) (b₀ :: suite) pos' :: hds) ((yes, no, mh) :: cl)
section
variable {X : Cx} {W : WX} {n : Str} {i : Nat} {body : List Stmt} {h₀ : ExceptHandler} {hds : List ExceptHandler} {cl : Clz} {pos : Pos} {mb : Rho → Sto → Fl}
end
end Dn
namespace Dn
open PySem PySem.Spec PyProof.Rows L2
abbrev Clm (S σ : Type) := List (List Str × List Str × (Xc → Mt S σ))
section
variable {S : Type} {W : Wd S} {fr : Sto} {Γ : List Sl} {σ β : Type} {i : Nat}
inductive ClN (W : Wd S) (fr : Sto) (Γ : List Sl) (i : Nat) (J : σ → List Sl) : Clz → Clm S σ → Prop
  | nil : ClN W fr Γ i J [] []
  | cons {yes no : List Str} {mh : Xc → D → Rho → Sto → Fl} {qh : Xc → Mt S σ} {cl : Clz} {cm : Clm S σ} (hh : ∀ x, TN W fr ((keepK Γ).set i (.val (e0 x))) (mh x (e0 x)) (qh x) J) (r : ClN W fr Γ i J cl cm) : ClN W fr Γ i J ((yes, no, mh) :: cl) ((yes, no, qh) :: cm)
inductive ClR (W : Wd S) (fr : Sto) (Γ : List Sl) (i : Nat) (enc : β → D) : Clz → Clm S β → Prop
  | nil : ClR W fr Γ i enc [] []
  | cons {yes no : List Str} {mh : Xc → D → Rho → Sto → Fl} {qh : Xc → Mt S β} {cl : Clz} {cm : Clm S β} (hh : ∀ x, TR W fr ((keepK Γ).set i (.val (e0 x))) (mh x (e0 x)) (qh x) enc) (r : ClR W fr Γ i enc cl cm) : ClR W fr Γ i enc ((yes, no, mh) :: cl) ((yes, no, qh) :: cm)
end
section
variable {X : Cx} {W : WX} {k j : Nat} {m nm : Str} {t : Tbl} {o ke e1 : Expr} {mo mk m1 : Rho → M D} {pos apos kp : Pos}
end
section
variable {i : Nat}
end
section
variable {S : Type} {W : Wd S} {fr : Sto} {Γ : List Sl} {α : Type} {n : Nat}
end
end Dn
namespace Dn
open PySem PySem.Spec PyProof.Rows L2
inductive CK where
  | own (n : Str) | bt (T : String)
inductive KitL (K : PySem.W.Frag) (n : Str) : List CK → Bool → Prop
  | nil : KitL K n [] false
  | own1 {y : Str} {r : List CK} (h : KitB K n y true) : KitL K n (.own y :: r) true
  | own0 {y : Str} {r : List CK} {b : Bool} (h : KitB K n y false) (t : KitL K n r b) : KitL K n (.own y :: r) b
  | bt1 {T : String} {r : List CK} (h : KitT K n T true) : KitL K n (.bt T :: r) true
  | bt0 {T : String} {r : List CK} {b : Bool} (h : KitT K n T false) (t : KitL K n r b) : KitL K n (.bt T :: r) b
inductive CkV (K : PySem.W.Frag) : List CK → List V → List Value → Prop
  | nil : CkV K [] [] []
  | own {y : Str} {C : Addr} {r : List CK} {vs : List V} {us : List Value} (h : PySem.W.nsIn K mainGlobals y = some (some (.ref C))) (t : CkV K r vs us) : CkV K (.own y :: r) (.ref C :: vs) (.ref C :: us)
  | bt {T : String} {r : List CK} {vs : List V} {us : List Value} (t : CkV K r vs us) : CkV K (.bt T :: r) (.ty T :: vs) (.type T :: us)
section
variable {X : Cx} {x : Xc} {e : D} {a : Addr} {oe : Obj} {pn : List (Addr × Obj)} {i : Nat} {p p2 p5 pos : Pos} {yes no : List Str} {kk : Nat}
end
end Dn
namespace Dn
open PySem PySem.Spec PyProof.Rows L2
section
variable {S : Type} {W : Wd S} {fr : Sto} {Γ : List Sl} {α β : Type}
end
section
variable {A : Type} {R : DkR A} {fr : Sto} {Γ : List Sl} {α : Type}
end
end Dn
namespace Dn
open PySem PySem.Spec PyProof.Rows L2
section
variable {S : Type} {W : Wd S} {fr : Sto} {Γ : List Sl} {α σ β : Type} {e : α → D} {gf : D → Rho → M Rho} {mb : Rho → Sto → Fl} {J : σ → List Sl} {G : α → σ → List Sl} {js : List Nat} {i : Nat} {xs : List α} {z0 : σ}
end
section
variable {S : Type} {W : Wd S} {fr : Sto} {Γ : List Sl} {α β : Type} {e : α → D} {enc : β → D} {gf : D → Rho → M Rho} {mt : Rho → M Bool} {me : Rho → M D} {vs js : List Nat} {G : (Int × α) → List Sl} {i : Nat}
end
end Dn
namespace Dn
open PySem PySem.Spec PyProof.Rows L2
inductive GEn (P : Params) : List DictEntry → List (Str × Int) → Prop
  | nil : GEn P [] []
  | cons {h : Int} {x : Str} {i : Int} {t u : Tok} {es : List DictEntry} {kvs : List (Str × Int)} (e : h = PyData.keyHash P x) (r : GEn P es kvs) : GEn P (⟨h, .str x t, .int i u⟩ :: es) ((x, i) :: kvs)
structure GDict (K : PySem.W.Frag) (w : World) (mg : Str → Option Value) (x : Str) (kvs : List (Str × Int)) (d : Addr) : Prop where
  ex : ∃ (es : List DictEntry) (n : Nat), K.lookup d = some ⟨.type "dict", none, .dict es.toArray n, #[]⟩ ∧ GEn w.params es kvs
  low : (d == sysModules) = false
  mg_ : mg x = some (.ref d)
theorem GEn.lit {P : Params} {es : List DictEntry} {kvs : List (Str × Int)} (h : GEn P es kvs) : PySem.W.KeysLit P es := by
  induction h with
  | nil => trivial
  | cons e r ih => exact ⟨⟨_, _, rfl, e⟩, ih⟩
section
variable {X : Cx} {W : WX} {a : Expr} {x : Str} {p1 p2 : Pos} {kvs : List (Str × Int)} {m : Rho → M D} {d : Addr} {es : List DictEntry} {n : Nat}
theorem GEn.map {h : Heap} (g : GEn X.w.params es kvs) (I : X.K.In h) (hl : X.K.lookup d = some ⟨.type "dict", none, .dict es.toArray n, #[]⟩) : h.MapOf (strKind X.prog X.w) d (fun k => findBy Value.isStrOf es.toArray k) :=
  PySem.W.mapOf_K (prog := X.prog) I hl (by simpa using g.lit)
end
section
variable {X : Cx} {W : WX} {k : Nat} {body : List Stmt} {h₀ : ExceptHandler} {hds : List ExceptHandler} {pos : Pos} {mb : Rho → Sto → Fl}
end
theorem Bd.nx {X : Cx} {W : WX} {k : Nat} (b : Bd X W k) : Bd X.nox wN k := ⟨b.room, b.gd, b.calm, b.nd, takes_wN⟩
section
variable {X : Cx} {W : WX} {k : Nat} {body : List Stmt} {f₀ : Stmt} {fs : List Stmt} {pos : Pos} {mb mf : Rho → Sto → Fl}
end
section
variable {X : Cx} {W : WX} {pos : Pos}
end
section
variable {X : Cx} {W : WX} {tg e e2 e3 : Expr} {m1 m2 m3 : Rho → M D} {p pos : Pos}
end
section
variable {S : Type} {W : Wd S} {fr : Sto} {Γ : List Sl} {σ τ β : Type}
end
section
variable {X : Cx} {W : WX} {pos p p5 : Pos} {e : Expr} {es : List Expr} {m : Rho → M D} {ts : List String} {kk : Nat}
end
section
variable {S : Type} {W : Wd S} {fr : Sto} {Γ : List Sl}
end
end Dn
namespace Dn
open PySem PySem.Spec PyProof.Rows L2
section
variable {X : Cx} {W : WX} {pos p apos p2 : Pos} {o e tg : Expr} {mo m : Rho → M D}
end
section
variable {S : Type} {W : Wd S} {fr : Sto} {Γ : List Sl}
end
end Dn
namespace Dn
open PySem PySem.Spec PyProof.Rows L2
section
variable {X : Cx} {W : WX} {e : Expr} {te : TE} {lo hi : Option Expr} {st : Expr} {tl th tz : TO} {pos p2 : Pos}
end
section
variable {S : Type} {W : Wd S} {fr : Sto} {Γ : List Sl} {α : Type} {e : α → D}
end
end Dn
namespace PySem
open Sem (wp)
section
variable {M : Model} {A : Around} {R : GenEnd} {Y : Protocol} {n : Nat} {s₀ : Shared} {c : Code} {fs : List Frame} {s : Shared} {env : Env}
  {K : Flow → Sem Fin} {H : Value → Sem Fin} {gd : Bool → Bool} {lv : List Value → List Value}
end
section
variable {prog : Program} {w : World} {A : Around} {R : GenEnd} {Y : Protocol} {n : Nat} {s₀ : Shared} {fs : List Frame} {s : Shared} {env : Env}
end
end PySem
namespace L2
open PySem PySem.Spec PyProof.Rows GenW
section
variable {X : Cx} {tg : Expr}
end
end L2
namespace Dn
open PySem PySem.Spec PyProof.Rows L2
def Hid (F : Hp) (ι : List Addr) (K : PySem.W.Frag) (ρ : Rho) (σ : L2.St) (ys : List V) : Prop := ∃ yd, ρ.getLast? = some (some (.lst yd)) ∧ REnv K F ι ρ.dropLast σ ∧ Reps K F ι yd ys
theorem GS.weak {X : Cx} {e : Stmt} {t t' : TGn} (h : GS X e t) (w : ∀ D ys σ H, t' D ys σ H → t D ys σ H) : GS X e t' :=
  ⟨fun A S ip R n ys s₀ c fs K J gd lv s σ H D a1 a2 a3 a4 q => h.run A S ip R n ys s₀ c fs K J gd lv s σ H D a1 a2 a3 a4 (w D ys σ H q)⟩
theorem GSs.weak {X : Cx} {e : List Stmt} {t t' : TGn} (h : GSs X e t) (w : ∀ D ys σ H, t' D ys σ H → t D ys σ H) : GSs X e t' :=
  ⟨fun A S ip R n ys s₀ c fs K J gd lv s σ H D a1 a2 a3 a4 q => h.run A S ip R n ys s₀ c fs K J gd lv s σ H D a1 a2 a3 a4 (w D ys σ H q)⟩
theorem Hid.ext {K : PySem.W.Frag} {F F1 H H1 : Hp} {ι ι1 : List Addr} {ρ : Rho} {σ : L2.St} {ys : List V} (h : Hid F ι K ρ σ ys) (x : Ext F ι H F1 ι1 H1) : Hid F1 ι1 K ρ σ ys :=
  let ⟨yd, a, b, c⟩ := h; ⟨yd, a, b.ext x, c.ext x⟩
section
variable {X : Cx} {W : WX} {pos : Pos} {st : Stmt} {rest : List Stmt} {s1 s2 : Rho → Sto → Fl}
def Fl.push (r : Fl) (y : Option D) : Fl := match r with
  | .next ρ st => .next (ρ ++ [y]) st
  | .brk ρ st => .brk (ρ ++ [y]) st
  | .cnt ρ st => .cnt (ρ ++ [y]) st
  | .exc x ρ st => .exc x (ρ ++ [y]) st
  | .ret _ _ => .bad
  | .bad => .bad
end
end Dn
namespace Dn
open PySem PySem.Spec PyProof.Rows L2
section
variable {S : Type} {W : Wd S} {fr : Sto} {s : S} {Γ Γ' : List Sl} {ρ : Rho} {st : Sto} {y : D}
theorem Has.push (h : Has W fr s Γ ρ st) (y : D) : Has W fr s (Γ ++ [.val y]) (ρ ++ [some y]) st := by
  have hl := h.len
  have key : ∀ (i : Nat) (a : Sl), (Γ ++ [.val y])[i]? = some a → (i < Γ.length ∧ Γ[i]? = some a ∧ (ρ ++ [some y])[i]? = ρ[i]?) ∨ (i = Γ.length ∧ a = .val y) := fun i a e => by
    by_cases hi : i < Γ.length
    · rw [List.getElem?_append_left hi] at e
      exact .inl ⟨hi, e, List.getElem?_append_left (by omega)⟩
    · rw [List.getElem?_append_right (by omega)] at e
      have h0 : i - Γ.length = 0 := by
        cases q : i - Γ.length with
        | zero => rfl
        | succ n => rw [q] at e; simp at e
      rw [h0] at e
      exact .inr ⟨by omega, (Option.some.inj e).symm⟩
  refine ⟨by rw [List.length_append, List.length_append, hl]; rfl, h.pre, fun i d e => ?_, fun i m e => ?_, fun i j m1 m2 e1 e2 e3 => ?_, fun i m e => ?_⟩
  · rcases key i _ e with ⟨_, q, r⟩ | ⟨q, r⟩
    · rw [r]; exact h.val i d q
    · cases r
      rw [q, ← hl]
      simp
  · rcases key i _ e with ⟨_, q, r⟩ | ⟨_, r⟩
    · rw [r]; exact h.mt i m q
    · cases r
  · rcases key i _ e1 with ⟨_, q, r⟩ | ⟨_, r⟩
    · rcases key j _ e2 with ⟨_, q2, r2⟩ | ⟨_, r2⟩
      · exact h.nal i j m1 m2 q q2 (by rw [← r, ← r2]; exact e3)
      · cases r2
    · cases r
  · rcases key i _ e with ⟨_, q, r⟩ | ⟨_, r⟩
    · rw [r]; exact h.bo i m q
    · cases r
theorem Has.pop (h : Has W fr s (Γ ++ [.val y]) ρ st) : ∃ ρ0, ρ = ρ0 ++ [some y] ∧ Has W fr s Γ ρ0 st := by
  have hl := h.len
  rw [List.length_append] at hl
  have hlast := h.val Γ.length y (by simp)
  have hne : ρ ≠ [] := fun e => by rw [e] at hl; simp at hl
  have e0 : ρ.dropLast ++ [ρ.getLast hne] = ρ := List.dropLast_concat_getLast hne
  have hdl : ρ.dropLast.length = Γ.length := by rw [List.length_dropLast]; simp at hl; omega
  have ey : ρ.getLast hne = some y := by
    have : (ρ.dropLast ++ [ρ.getLast hne])[Γ.length]? = some (some y) := by rw [e0]; exact hlast
    rw [List.getElem?_append_right (by omega), hdl, Nat.sub_self] at this
    exact Option.some.inj this
  rw [ey] at e0
  refine ⟨ρ.dropLast, e0.symm, ?_⟩
  have low : ∀ (i : Nat) (a : Sl), Γ[i]? = some a → (Γ ++ [.val y])[i]? = some a ∧ ρ[i]? = ρ.dropLast[i]? := fun i a e => by
    have hi := (List.getElem?_eq_some_iff.mp e).1
    refine ⟨by rw [List.getElem?_append_left hi]; exact e, ?_⟩
    have : (ρ.dropLast ++ [some y])[i]? = ρ.dropLast[i]? := List.getElem?_append_left (by omega)
    rw [e0] at this
    exact this
  refine ⟨hdl, h.pre, fun i d e => ?_, fun i m e => ?_, fun i j m1 m2 e1 e2 e3 => ?_, fun i m e => ?_⟩
  · obtain ⟨a, b⟩ := low i _ e; rw [← b]; exact h.val i d a
  · obtain ⟨a, b⟩ := low i _ e; rw [← b]; exact h.mt i m a
  · obtain ⟨a, b⟩ := low i _ e1
    obtain ⟨a2, b2⟩ := low j _ e2
    exact h.nal i j m1 m2 a a2 (by rw [b, b2]; exact e3)
  · obtain ⟨a, b⟩ := low i _ e; rw [← b]; exact h.bo i m a
theorem OR.push {A β : Type} {J : β → List Sl} {enc : β → A} {r : Out A} {q : Rs S β} (h : OR W fr J ρ enc r q) (y : D) : OR W fr (fun b => J b ++ [.val y]) (ρ ++ [some y]) enc r q := by
  induction q with
  | ok b s' => obtain ⟨st', e, H⟩ := h; exact ⟨st', e, H.push y⟩
  | exc x s' => exact h
  | bad => trivial
  | amb P f ih => obtain ⟨n, p, q⟩ := h; exact ⟨n, p, ih n q⟩
theorem NR.push {σ : Type} {J : σ → List Sl} {r : Fl} {q : Rs S σ} (h : NR W fr J r q) (y : D) : NR W fr (fun z => J z ++ [.val y]) (r.push (some y)) q := by
  induction q with
  | ok b s' => obtain ⟨ρ', st', rfl, H⟩ := h; exact ⟨_, st', rfl, H.push y⟩
  | exc x s' => obtain ⟨ρ', st', rfl, H⟩ := h; exact ⟨_, st', rfl, H⟩
  | bad => trivial
  | amb P f ih => obtain ⟨n, p, q⟩ := h; exact ⟨n, p, ih n q⟩
end
end Dn
namespace Dn
open PySem PySem.Spec PyProof.Rows L2
structure FnCls (P : Program) (w : World) (K : PySem.W.Frag) (mg : Str → Option Value) (base : Heap) (k : Nat) (nm m : Str) (spec : List D → M D) : Prop where
  ex : ∃ (C f : Addr) (mc : Value), mg nm = some (.ref C) ∧ ClX.CRead K C mc ∧ PySem.W.findCls K (.ref C) mc m = some (.val (.ref f)) ∧ PySem.W.keepIn K (.ref f) = true ∧ RunE P w K mg base k f spec
section
variable {X : Cx} {W : WX} {k j : Nat} {nm m : Str} {spec : List D → M D} {e : Expr} {es : List Expr} {am : Rho → M (List D)} {pos apos p : Pos}
theorem de_clsM {pl : Sem Bool} (B : Bd X W j) (C : FnCls X.prog X.w X.K X.mg X.base k nm m spec) (hk : k ≤ j) (hg : Gl X nm) (ha : DA X W (e :: es) am) (hdb : (nm == ("__debug__" : Str)) = false := by decide)
    (he : starEach (e :: es) X.env = (false, eval e X.env) :: starEach es X.env := by rfl) (hpl : (backTo pos (starEach es X.env)).any (·.1) = false := by rfl)
    (ht : eval (.Call (.Attribute (.Name nm p) m apos) (e :: es) [] pos) X.env = (do
      let ov ← eval (.Name nm p) X.env
      standAt apos.atName
      let (f, first) ← holding [ov] (getMethod ov m pl)
      callWith pos f first (backTo pos (starEach (e :: es) X.env)) (backToKw pos (keywordEach [] X.env))) := by rfl) :
    DE X W (.Call (.Attribute (.Name nm p) m apos) (e :: es) [] pos) (mCall spec am) := by
  obtain ⟨C0, f, mc, hm, r, hf, kp, F⟩ := C.ex
  refine ⟨fun pins s σ H Q I ⟨F0, ι, ρ, st, S, R, q⟩ => ?_⟩
  refine PySem.W.methodCall_KW (pl := pl) (ld_glob I hg hm ?_ hdb) ht
  refine PySem.W.method_cls I.kIn r.ga (PySem.W.cls_value I.kIn r.rd hf rfl ?_)
  refine PySem.W.callWith_K (h₀ := X.base) (first := []) I.ok.mod.kin kp (thn (ha.run pos pins _ σ H (fun vs H1 => spE X.K spec vs H1 Q (fun cls dd H' => W cls dd σ H')) (I.tok _) ?_) fun us s1 ⟨vs, H1, I1, r, qq⟩ => ⟨I1.kIn, ?_⟩) he hpl
  · exact tG_seq back_V S R q fun ds st1 F1 ι1 H1 vs x1 S1 R1 r1 q1 => spE_of S1 r1 q1
  · exact runE_at F (B.room.mono hk) (fun h => B.gd (by omega)) B.tk I1 r qq
end
def mSup (nm : Str) (spec : List D → M D) (am : Rho → M (List D)) : Rho → M D := fun ρ st => match ρ[0]? with
  | some (some d) => match insAny st d with
    | some (n, _) => if n = nm then (am ρ st).bind fun ds st1 => spec (d :: ds) st1 else .bad
    | none => .bad
  | _ => .bad
structure FunS (K : PySem.W.Frag) (x qual : Str) (st : Stmt) (f : Addr) (fd : FuncData) (cda cc : Addr) : Prop where
  ex : ∃ (oc : Value) (od : Option Addr) (kV doc pm : Value) (an : Option Addr) (ct : Value) (osl : Array (Option Value)),
    fd = PySem.W.ksFn x qual (defArgs st) (defBody st) (defScope st) .none kV doc pm an (.ref cda) ct cc ∧ K.lookup f = some ⟨oc, od, .func fd, osl⟩ ∧ PySem.W.codeIn K (.ref cda) qual = true
structure SupK (P : Program) (K : PySem.W.Frag) (mg : Str → Option Value) (nm : Str) (cda cc Dc fD : Addr) : Prop where
  cell : ∃ cl cld csl, K.lookup cc = some ⟨cl, cld, .cell (some (.ref Dc)), csl⟩
  cls : ∃ cd, PySem.W.clsIn K Dc = some cd
  at_ : PySem.W.nsIn K mainGlobals nm = some (some (.ref Dc))
  own : PySem.W.mroIn K Dc (.ref Dc) = some true
  nsup : mg "super" = none
  code : ∃ ccl cdd vs ccs file tf, K.lookup cda = some ⟨ccl, cdd, .fields vs, ccs⟩ ∧ vs[2]? = some (.str file tf) ∧ ((P.main.file : Str) == file) = true
  top : (P.main.scope.names.lookup ("super" : Str)).isSome = false
  up : PySem.W.ks_superIn K Dc Dc "__init__" = some (some (.ref fD))
  ty : PySem.W.typeIn K (.ref fD) = some (.type "function")
  fi : PySem.W.fnIn K fD = true
  op : PySem.W.nsIn K cStatics "thirdparty.any" = some none
def cxS (CX : CXT) (P : Program) (w : World) (K : PySem.W.Frag) (mg : Str → Option Value) (base : Heap) (N : List Str) (qual : Str) (scope : Scope) (f : Addr) (cd : Value) (cc : Addr) (A : Around) (outer : List Env) (s : Shared) (H : Hp) (E : XK) : Cx where
  prog := P
  w := w
  K := K
  mg := mg
  base := base
  A := A.deeper (PySem.W.ksEnv qual scope s.heap.objs.size f cd cc)
  N := N
  s_0 := s
  H_0 := H
  env := PySem.W.ksEnv qual scope s.heap.objs.size f cd cc
  outer := outer
  stack := PySem.W.ksEnv qual scope s.heap.objs.size f cd cc :: outer
  ex := []
  calm := true
  fn := fun x => !(x == ("__class__" : Str))
  pn := []
  xe := fun e s' => wpAny (model P w) (A.deeper (PySem.W.ksEnv qual scope s.heap.objs.size f cd cc)) (leaving (PySem.W.ksEnv qual scope s.heap.objs.size f cd cc) e) (fun _ s'' => CX outer H s E e s'') (fun e' s'' => CX outer H s E e' s'') s'
structure ScS (sc : Scope) : Prop where
  kind : sc.kind = .function
  co : sc.isCoroutine = false
  gen : sc.isGenerator = false
  nocell : ∀ y ∈ sc.names, y.2 ≠ .cell
  free : ∀ y, sc.names.lookup y = some .free → y = "__class__"
  cl : sc.names.lookup ("__class__" : Str) = some .free
  p0 : sc.names.lookup ("self" : Str) = some .local
  p1 : sc.names.lookup ("panel" : Str) = some .local
  p2 : sc.names.lookup ("state" : Str) = some .local
  sup : sc.names.lookup ("super" : Str) = some .globalImplicit
theorem free_of {sc : Scope} {x : Str} (h : ∀ p ∈ sc.names, p.2 = .free → p.1 = x) : ∀ y, sc.names.lookup y = some .free → y = x := fun y e => h _ (PySem.mem_of_lookup e) rfl
def supArgs (b : List Stmt) : List Expr := match b with
  | .Expr (.Call _ args _ _) _ :: _ => args
  | _ => []
abbrev NS3 : List Str := ["self", "panel", "state"]
theorem lk3 {u0 u1 u2 : Value} : (NS3.zip [u0, u1, u2]).reverse.lookup ("self" : Str) = some u0 ∧ (NS3.zip [u0, u1, u2]).reverse.lookup ("panel" : Str) = some u1 ∧ (NS3.zip [u0, u1, u2]).reverse.lookup ("state" : Str) = some u2 := by
  have e : (NS3.zip [u0, u1, u2]).reverse = ([("state", u2), ("panel", u1), ("self", u0)] : List (Str × Value)) := rfl
  rw [e]
  refine ⟨?_, ?_, ?_⟩
  · rw [List.lookup_cons, show (("self" : Str) == ("state" : Str)) = false by decide, List.lookup_cons, show (("self" : Str) == ("panel" : Str)) = false by decide, List.lookup_cons, show (("self" : Str) == ("self" : Str)) = true by decide]
  · rw [List.lookup_cons, show (("panel" : Str) == ("state" : Str)) = false by decide, List.lookup_cons, show (("panel" : Str) == ("panel" : Str)) = true by decide]
  · rw [List.lookup_cons, show (("state" : Str) == ("state" : Str)) = true by decide]
theorem inv_startS {CX : CXT} {P : Program} {w : World} {K : PySem.W.Frag} {mg : Str → Option Value} {base : Heap} {qual : Str} {scope : Scope} {f cda cc Dc fD : Addr} {nm : Str} {A : Around} {outer : List Env} {s : Shared} {h1 : Heap} {tk : Nat} {H : Hp} {E : XK} {u0 u1 u2 : Value} {v0 v1 v2 : V}
    (S : ScS scope) (Z : SupK P K mg nm cda cc Dc fD) (hd : A.handled = none) (e0 : Env0 P w K mg base A outer s H) (r0 : RelV v0 u0) (r1 : RelV v1 u1) (r2 : RelV v2 u2)
    (ns : h1.Ns s.heap.objs.size fun x => (NS3.zip [u0, u1, u2]).reverse.lookup x) (kp : ∀ b o, s.heap.get? b = some o → h1.get? b = some o) :
    Inv (cxS CX P w K mg base NS3 qual scope f (.ref cda) cc A outer s H E) [] [some v0, some v1, some v2] H { s with heap := h1, toks := tk } := by
  have noA : ∀ b : Addr, b ∉ (cxS CX P w K mg base NS3 qual scope f (.ref cda) cc A outer s H E).ex := fun b z => absurd (show b ∈ ([] : List Addr) from z) (by simp)
  obtain ⟨cl, cld, csl, hcell⟩ := Z.cell
  have hcb := e0.mod.kin _ _ hcell
  obtain ⟨hcs, hcH⟩ := e0.bs _ _ hcb
  have hlk : ∀ y c, ([("__class__", cc)] : List (Str × Addr)).lookup y = some c → y = "__class__" ∧ c = cc := fun y c h => by
    rw [List.lookup_cons] at h
    cases q : (y == ("__class__" : Str)) with
    | true =>
      rw [q] at h
      cases h
      exact ⟨by simpa using q, rfl⟩
    | false => rw [q] at h; cases h
  refine ⟨⟨e0.mod, S.kind, rfl, rfl, Nat.le_refl _, fun y z c h1 h2 => ?_, fun y hy => ?_, fun y c hf h => ?_, fun _ => hd, Around.frames_deeper e0.frames, .inr ⟨rfl, rfl⟩, fun b z => absurd z (noA b), e0.bs, e0.bsz, fun b _ _ => noA b, fun b z => absurd z (noA b), e0.funs, e0.frf⟩,
    rfl, e0.bare, Un.kept kp, ⟨_, ns, fun i y v h1 h2 h3 => ?_⟩, fun y c h => ?_, e0.hok.fresh (Nat.le_refl _), fun y c h => ?_, fun p hp => absurd (show p ∈ ([] : List (Addr × Obj)) from hp) (by simp), e0.hok.kept kp, rfl⟩
  · rw [(hlk y c h1).1, (hlk z c h2).1]
  · have hy : scope.names.lookup y = some .cell ∨ scope.names.lookup y = some .free := hy
    rcases hy with hy | hy
    · exact absurd rfl (S.nocell _ (PySem.mem_of_lookup hy))
    · exact ⟨cc, by rw [S.free y hy]; show List.lookup _ [_] = _; rw [List.lookup_cons]; simp⟩
  · obtain ⟨rfl, rfl⟩ := hlk y c h
    exact absurd hf (by show ¬ ((!(("__class__" : Str) == ("__class__" : Str))) = true); simp)
  · obtain ⟨l0, l1, l2⟩ := lk3 (u0 := u0) (u1 := u1) (u2 := u2)
    match i, h1, h2 with
    | 0, h1, h2 => cases h1; cases h2; exact ⟨u0, r0, .inl ⟨S.p0, l0⟩⟩
    | 1, h1, h2 => cases h1; cases h2; exact ⟨u1, r1, .inl ⟨S.p1, l1⟩⟩
    | 2, h1, h2 => cases h1; cases h2; exact ⟨u2, r2, .inl ⟨S.p2, l2⟩⟩
    | n + 3, h1, h2 => cases h1
  · obtain ⟨rfl, rfl⟩ := hlk y c h
    exact ⟨_, _, kp _ _ hcs, rfl⟩
  · obtain ⟨rfl, rfl⟩ := hlk y c h
    exact hcH
section
variable {P : Program} {w : World} {K : PySem.W.Frag} {mg : Str → Option Value} {base : Heap} {qual nm : Str} {scope : Scope} {f cda cc Dc fD : Addr} {A : Around} {outer : List Env} {s0 : Shared} {H0 : Hp} {E : XK}
theorem at_sup {W : WX} {k j : Nat} {spec : List D → M D} {am : Rho → M (List D)} {body : List Stmt} {oc : Value} {od : Option Addr} {osl : Array (Option Value)} {fd : FuncData} {ar : Arg} {p0 p1 apos pos : Pos} {e : Expr} {es : List Expr} {pl : Sem Bool}
    {pins : List (Addr × Obj)} {σ : L2.St} {H : Hp} {s : Shared} {Q : VK}
    (S : ScS scope) (Z : SupK P K mg nm cda cc Dc fD) (lk : K.lookup f = some ⟨oc, od, .func fd, osl⟩) (hp : (fd.params.posonlyargs ++ fd.params.args).head? = some ar) (har : ar.arg = "self")
    (B : Bd (cxS (L2.CX P w) P w K mg base NS3 qual scope f (.ref cda) cc A outer s0 H0 E) W j) (Fn : RunE P w K mg base k fD spec) (hk : k ≤ j)
    (ha : DA (cxS (L2.CX P w) P w K mg base NS3 qual scope f (.ref cda) cc A outer s0 H0 E) W (e :: es) am)
    (he : starEach (e :: es) (PySem.W.ksEnv qual scope s0.heap.objs.size f (.ref cda) cc) = (false, eval e (PySem.W.ksEnv qual scope s0.heap.objs.size f (.ref cda) cc)) :: starEach es (PySem.W.ksEnv qual scope s0.heap.objs.size f (.ref cda) cc))
    (hpl : (backTo pos (starEach es (PySem.W.ksEnv qual scope s0.heap.objs.size f (.ref cda) cc))).any (·.1) = false)
    (hme : eval (.Call (.Attribute (.Call (.Name "super" p0) [] [] p1) "__init__" apos) (e :: es) [] pos) (PySem.W.ksEnv qual scope s0.heap.objs.size f (.ref cda) cc) = (do
        let ov ← attributeBase (.Call (.Name "super" p0) [] [] p1) "__init__" (PySem.W.ksEnv qual scope s0.heap.objs.size f (.ref cda) cc) (eval (.Call (.Name "super" p0) [] [] p1) (PySem.W.ksEnv qual scope s0.heap.objs.size f (.ref cda) cc))
        standAt apos.atName
        let (g, first) ← holding [ov] (getMethod ov "__init__" pl)
        callWith pos g first (backTo pos (starEach (e :: es) (PySem.W.ksEnv qual scope s0.heap.objs.size f (.ref cda) cc))) []))
    (I : Inv (cxS (L2.CX P w) P w K mg base NS3 qual scope f (.ref cda) cc A outer s0 H0 E) pins σ H s) (tv : tV K W (mSup nm spec am) σ H Q) :
    PySem.wpAt (model P w) (A.deeper (PySem.W.ksEnv qual scope s0.heap.objs.size f (.ref cda) cc)) (.func body (PySem.W.ksEnv qual scope s0.heap.objs.size f (.ref cda) cc))
      (eval (.Call (.Attribute (.Call (.Name "super" p0) [] [] p1) "__init__" apos) (e :: es) [] pos) (PySem.W.ksEnv qual scope s0.heap.objs.size f (.ref cda) cc))
      (EP (cxS (L2.CX P w) P w K mg base NS3 qual scope f (.ref cda) cc A outer s0 H0 E) pins σ Q) (cxS (L2.CX P w) P w K mg base NS3 qual scope f (.ref cda) cc A outer s0 H0 E).xe s := by
  obtain ⟨F0, ι, ρ, st, Sm, R, q⟩ := tv
  unfold mSup at q
  split at q
  · rename_i d e0
    split at q
    · rename_i n fs e1
      split at q
      · rename_i en
        subst en
        obtain ⟨v, hv, rv⟩ := R.at_ 0 d e0
        obtain ⟨a, C', dx, gs, rfl, hC', hH, rr⟩ := ins_of Sm rv (insAny_of e1)
        have hC : C' = Dc := by
          have := Z.at_.symm.trans hC'
          simpa using this.symm
        subst hC
        obtain ⟨m, hns, hloc⟩ := I.loc
        obtain ⟨u, ru, hlook⟩ := hloc 0 "self" _ rfl hv (.inl S.p0)
        obtain rfl : u = Value.ref a := ru
        have hm : m ("self" : Str) = some (.ref a) := by
          rcases hlook with ⟨_, h⟩ | ⟨h, _⟩
          · exact h
          · have h' : scope.names.lookup ("self" : Str) = some .cell ∨ scope.names.lookup ("self" : Str) = some .free := h
            rw [S.p0] at h'
            rcases h' with h' | h' <;> cases h'
        obtain ⟨cl, cld, csl, hcell⟩ := Z.cell
        obtain ⟨cd, hcd⟩ := Z.cls
        obtain ⟨ccl, cdd, vs, ccs, file, tf, hcode, hvs, hfile⟩ := Z.code
        obtain ⟨mA, O, _⟩ := ins_get I.hok hH
        obtain ⟨od', J, _⟩ := O.look
        obtain ⟨mb, hb1, hb2⟩ := I.mod.blt
        have KI : K.In s.heap := I.kIn
        obtain ⟨oD, hD1, hD2⟩ : ∃ oD, s.heap.get? C' = some oD ∧ oD.data = .cls cd := by
          unfold PySem.W.clsIn at hcd
          split at hcd
          · rename_i c d cd' sl ho
            cases hcd
            exact ⟨_, KI _ _ ho, rfl⟩
          · cases hcd
        have hxC : a ≠ C' := PySem.W.ks_ne KI J hcd
        have hup : PySem.W.alongIn K "__init__" ((cd.mro.dropWhile (· != .ref C')).drop 1) = some (some (.ref fD)) := by
          have := Z.up
          unfold PySem.W.ks_superIn at this
          rw [hcd] at this
          exact this
        obtain ⟨of, hof, hofc⟩ : ∃ of, K.lookup fD = some of ∧ of.cls = .type "function" := by
          have ht' : (K.lookup fD).map (·.cls) = some (.type "function") := Z.ty
          cases z : K.lookup fD with
          | none => rw [z] at ht'; cases ht'
          | some of => rw [z] at ht'; exact ⟨of, rfl, Option.some.inj ht'⟩
        obtain ⟨hh, g, dr, t, os⟩ := s
        refine PySem.ks_wpAt_MethodCall (pl := pl) ?_ hme
        refine PySem.ks_wpAt_super_base (env := PySem.W.ksEnv qual scope s0.heap.objs.size f (.ref cda) cc) S.sup S.cl (by decide) rfl (KI _ _ lk) rfl hp rfl (KI _ _ hcode) rfl hvs hfile Z.top ?_
        refine PySem.W.ks_loadName_global S.kind S.sup (Calls.loadGlobal_builtin (I.mod.glob.keeps I.bk) Z.nsup (hb1.keeps I.bk) ((hb2 _ (by decide)).trans PyProof.Rows.Boot.super) ⟨rfl, ?_⟩)
        refine wpAny_loadName_free S.kind S.cl (c := cc) (by show List.lookup _ [_] = _; rw [List.lookup_cons]; simp) ⟨_, KI _ _ hcell, rfl⟩ ?_
        rw [har]
        refine wpAny_loadName_local S.kind S.p0 hns hm ?_
        refine PySem.ks_wpAny_isType_cls hD1 hD2 ⟨rfl, ?_⟩
        refine PySem.ks_wpAny_call_super hD1 hD2 J.at_ J.cls (fun c e => ?_) (PySem.W.looks_mroIn KI Z.own) (fun h' e' k' => ?_)
        · have := J.no
          unfold PySem.W.notCls at this
          rw [e] at this
          exact Bool.noConfusion this
        have I1 := ClX.pin_new (h' := h') (a := hh.objs.size) (t' := t) I k' (Nat.le_refl _) e' (fun v z => nomatch z)
        have KI1 : K.In h' := I1.kIn
        refine PySem.ks_wpAny_getMethod_super (so := hh.objs.size) e' (PySem.W.looks_opaque KI1 Z.op) (l₀ := cd.mro) ?_ rfl KI1 hup (KI1 _ _ hof) hofc hxC (by decide) ?_
        · exact fun A Q E s k q => wpAny_bind ((PySem.W.looks_clsIn KI1 hcd) A _ E s k (wpAny_pure q))
        have I2 := ClX.met_new (g := fD) (C := a) I1
        refine ClX.callwith_cm (g := fD) (C := a) I2 (ClX.base_none I1 (Nat.le_refl _)) Z.fi (thn (ha.run pos _ _ σ H (fun vs H1 => spE K spec (.ref a :: vs) H1 Q (fun cls dd H' => W cls dd σ H')) I2 ?_) fun us s3 ⟨vs, H2, I3, rv3, q2⟩ => ⟨⟨ClX.pin_at I3, I3.kIn⟩, ?_⟩) he hpl
        · exact tG_seq back_V Sm R q fun ds st2 F2 ι2 H2 vs x2 S2 R2 r2 q2 => spE_of S2 (Reps.cons (rv.ext x2) r2) q2
        · exact thn (wpAny_call (PySem.W.method_call (ClX.pin_at I3) (codeE (us := .ref a :: us) (vs := .ref a :: vs) Fn (B.room.mono hk) (fun h => B.gd (by omega)) I3.env0 B.tk I3 (.cons rfl rv3) q2))) fun _ _ y => ClX.unpinE (ClX.unpinE y)
      · exact q.elim
    · exact q.elim
  · exact q.elim
theorem seq_drop {m : Rho → M D} {m2 : Rho → Sto → Fl} {ρ : Rho} {st : Sto} : sSeq (sDrop m) m2 ρ st = (m ρ st).fl ρ fun _ st1 => m2 ρ st1 := by
  unfold sSeq sDrop
  cases m ρ st <;> rfl
theorem fnG_sup {k kD : Nat} {spec : List D → M D} {am : Rho → M (List D)} {m2 : Rho → Sto → Fl} {x : Str} {stm : Stmt} {rest : List Stmt} {fd : FuncData} {ar : Arg} {p0 p1 apos pos ep : Pos} {e : Expr} {es : List Expr} {pl : Sem Bool}
    (Fn : FunS K x qual stm f fd cda cc) (Sc : ScS (defScope stm)) (Z : SupK P K mg nm cda cc Dc fD) (hp : ((defArgs stm).posonlyargs ++ (defArgs stm).args).head? = some ar) (har : ar.arg = "self")
    (hbody : defBody stm = .Expr (.Call (.Attribute (.Call (.Name "super" p0) [] [] p1) "__init__" apos) (e :: es) [] pos) ep :: rest) (FD : RunE P w K mg base kD fD spec) (hk : kD ≤ k)
    (hb : ∀ (B : Around) (fr : List Env) (s : Shared) (H : Hp) (E : XK), Bd (cxS (L2.CX P w) P w K mg base NS3 qual (defScope stm) f (.ref cda) cc B fr s H E) (wE E) k →
      DA (cxS (L2.CX P w) P w K mg base NS3 qual (defScope stm) f (.ref cda) cc B fr s H E) (wE E) (e :: es) am ∧ DSs (cxS (L2.CX P w) P w K mg base NS3 qual (defScope stm) f (.ref cda) cc B fr s H E) (wE E) rest m2)
    (he : ∀ L : Addr, starEach (e :: es) (PySem.W.ksEnv qual (defScope stm) L f (.ref cda) cc) = (false, eval e (PySem.W.ksEnv qual (defScope stm) L f (.ref cda) cc)) :: starEach es (PySem.W.ksEnv qual (defScope stm) L f (.ref cda) cc))
    (hpl : ∀ L : Addr, (backTo pos (starEach es (PySem.W.ksEnv qual (defScope stm) L f (.ref cda) cc))).any (·.1) = false)
    (hme : ∀ L : Addr, eval (.Call (.Attribute (.Call (.Name "super" p0) [] [] p1) "__init__" apos) (e :: es) [] pos) (PySem.W.ksEnv qual (defScope stm) L f (.ref cda) cc) = (do
        let ov ← attributeBase (.Call (.Name "super" p0) [] [] p1) "__init__" (PySem.W.ksEnv qual (defScope stm) L f (.ref cda) cc) (eval (.Call (.Name "super" p0) [] [] p1) (PySem.W.ksEnv qual (defScope stm) L f (.ref cda) cc))
        standAt apos.atName
        let (g, first) ← holding [ov] (getMethod ov "__init__" pl)
        callWith pos g first (backTo pos (starEach (e :: es) (PySem.W.ksEnv qual (defScope stm) L f (.ref cda) cc))) []))
    (hin : ∀ L : Addr, interactive (PySem.W.ksEnv qual (defScope stm) L f (.ref cda) cc) = false)
    (hsw : ∀ L : Addr, swapsWith (.Call (.Attribute (.Call (.Name "super" p0) [] [] p1) "__init__" apos) (e :: es) [] pos) none ep.line (PySem.W.ksEnv qual (defScope stm) L f (.ref cda) cc) = pure false) :
    FnG P w K mg base (k + 1) f fd NS3 (spD K 3 (fnD 3 3 (sSeq (sDrop (mSup nm spec am)) m2))) := by
  obtain ⟨oc, od, kV, doc, pm, an, ct, osl, rfl, lk, hcd⟩ := Fn.ex
  refine ⟨fun vs H Q E h => h.1, fun B fr s H ar' us vs Q E hr hgd e0 hbn rv hsp => ?_⟩
  have hl : vs.length = 3 := hsp.1
  obtain ⟨v0, v1, v2, rfl⟩ : ∃ v0 v1 v2, vs = [v0, v1, v2] := by
    match vs, hl with
    | [a, b, c], _ => exact ⟨a, b, c, rfl⟩
  obtain ⟨u0, u1, u2, rfl, r0, r1, r2⟩ : ∃ u0 u1 u2, us = [u0, u1, u2] ∧ RelV v0 u0 ∧ RelV v1 u1 ∧ RelV v2 u2 := by
    cases rv with
    | cons r0 rv =>
      cases rv with
      | cons r1 rv =>
        cases rv with
        | cons r2 rv =>
          cases rv
          exact ⟨_, _, _, rfl, r0, r1, r2⟩
  have hKs : K.In s.heap := e0.mod.kin.keeps fun b o e => (e0.bs b o e).1
  have hlim : s.heap.NoLimit := e0.mod.nolimit.keeps fun b o e => (e0.bs b o e).1
  refine PySem.ks_codeAny_call_defAt hr.depth (hKs _ _ lk) rfl hlim (PySem.W.codeRec_of hKs hcd) rfl hbn Sc.nocell (fun y hy => ?_) (fun h1 ns kp => ?_) Sc.co Sc.gen Sc.kind
  · have hy : y = (("self" : Str), u0) ∨ y = (("panel" : Str), u1) ∨ y = (("state" : Str), u2) := by
      have : y ∈ [(("self" : Str), u0), ("panel", u1), ("state", u2)] := hy
      simpa using this
    rcases hy with rfl | rfl | rfl
    · exact Sc.p0
    · exact Sc.p1
    · exact Sc.p2
  · have I := inv_startS (CX := L2.CX P w) (E := E) (f := f) (qual := qual) (tk := s.toks + (NS3.zip [u0, u1, u2]).length) Sc Z hr.hd e0 r0 r1 r2 ns kp
    have bd : Bd (cxS (L2.CX P w) P w K mg base NS3 qual (defScope stm) f (.ref cda) cc B fr s H E) (wE E) k :=
      ⟨hr.deeper _, fun h => hgd (by omega), rfl, by show NS3.Nodup; decide, takes_of (X := cxS (L2.CX P w) P w K mg base NS3 qual (defScope stm) f (.ref cda) cc B fr s H E) (E := E) (E₁ := fun e' s'' => L2.CX P w fr H s E e' s'') rfl rfl rfl rfl⟩
    obtain ⟨ha, hd⟩ := hb B fr s H E bd
    obtain ⟨_, F, ι, st, ds, S, rs, q⟩ := hsp
    have hds : ds.length = 3 := by rw [rs.length] <;> rfl
    unfold fnD at q
    rw [if_pos hds] at q
    have hs := body_end S q
    rw [seq_drop] at hs
    have R0 : REnv K F ι (rho0 3 ds) [some v0, some v1, some v2] := REnv.start (N := NS3) rs (by rw [hds]; decide)
    rw [hbody]
    refine PySem.ks_wpAt_execs_cons (PySem.ks_wpAt_Expr_any ?_ (hin _) (hsw _))
    refine PySem.ks_wpAt_mono (at_sup (body := _) Sc Z lk hp har bd FD hk ha (he _) (hpl _) (hme _) I (fl_seq S R0 hs (Q' := fun _ H1 => ∃ F1 ι1 st1, Sim K F1 ι1 st1 H1 ∧ REnv K F1 ι1 (rho0 3 ds) [some v0, some v1, some v2] ∧ sPost K (wE E) { nx := fun _ H' => Q .non H', rt := Q } F1 ι1 H1 (m2 (rho0 3 ds) st1)) fun a st1 F1 ι1 H1 b x1 S1 R1 r1 q1 => ⟨F1, ι1, st1, S1, R1, q1⟩)) (fun v s' hv => ?_) fun e s' h => h
    obtain ⟨v', H1, I1, _, F1, ι1, st1, S1, R1, q1⟩ := hv
    refine wpAt_of_wpAny (wpAny_mono (hd.run [] s' _ H1 { nx := fun _ H' => Q .non H', rt := Q } I1 ⟨F1, ι1, rho0 3 ds, st1, S1, R1, q1⟩) (fun fl s'' hs => ?_) fun e s'' hs => hs)
    cases fl with
    | ret u =>
      obtain ⟨v, σ', H', J, r', qq⟩ := hs
      exact ⟨v, H', J.os, J.bare, J.base, J.hok, r', qq⟩
    | next =>
      obtain ⟨σ', H', J, qq⟩ := hs
      exact ⟨V.non, H', J.os, J.bare, J.base, J.hok, rfl, qq⟩
    | brk =>
      obtain ⟨_, _, _, qq⟩ := hs
      exact False.elim qq
    | cont =>
      obtain ⟨_, _, _, qq⟩ := hs
      exact False.elim qq
end
end Dn
namespace Dn
open PySem PySem.Spec PyProof.Rows L2
section
variable {P : Program} {w : World} {A : Around} {E : Value → Shared → Prop} {s : Shared}
end
section
variable {X : Cx} {pos : Pos}
end
end Dn
namespace Dn
open PySem PySem.Spec PyProof.Rows L2
section
variable {A : Type} {R : DkR A} {fr : Sto} {Γ : List Sl} {ρ : Rho} {s s' : OS A} {st : Sto}
def hclsA (ns : List Str) (m : Str) (l : Nat) : Mt (OS A) Unit := fun s => match s.m l with
  | some (.ins n fs) => if n ∈ ns ∧ (fs.lookup m).isNone = true then .ok () s else .bad
  | _ => .bad
def hclA (ns : List Str) (l : Nat) : Mt (OS A) Unit := fun s => match s.m l with
  | some (.ins n fs) => if n ∈ ns then .ok () s else .bad
  | _ => .bad
theorem hclsA_ok {ns : List Str} {m : Str} {l : Nat} {β B : Type} {k : Unit → Mt (OS A) β} {e : β → B} {r : Out B} {Γ' : β → List Sl} {s : OS A} (hb : ∀ n fs, n ∈ ns → s.m l = some (.ins n fs) → (fs.lookup m).isNone = true → OR (WO R) fr Γ' ρ e r (k () s)) : OR (WO R) fr Γ' ρ e r (rbind (hclsA ns m l s) k) := by
  unfold hclsA
  cases e1 : s.m l with
  | none => trivial
  | some o =>
    cases o with
    | ins n' fs =>
      dsimp only
      by_cases hn : n' ∈ ns ∧ (fs.lookup m).isNone = true
      · rw [if_pos hn]
        exact hb n' fs hn.1 e1 hn.2
      · rw [if_neg hn]; trivial
    | _ => trivial
theorem hclA_ok {ns : List Str} {l : Nat} {β B : Type} {k : Unit → Mt (OS A) β} {e : β → B} {r : Out B} {Γ' : β → List Sl} {s : OS A} (hb : ∀ n fs, n ∈ ns → s.m l = some (.ins n fs) → OR (WO R) fr Γ' ρ e r (k () s)) : OR (WO R) fr Γ' ρ e r (rbind (hclA ns l s) k) := by
  unfold hclA
  cases e1 : s.m l with
  | none => trivial
  | some o =>
    cases o with
    | ins n' fs =>
      dsimp only
      by_cases hn : n' ∈ ns
      · rw [if_pos hn]
        exact hb n' fs hn e1
      · rw [if_neg hn]; trivial
    | _ => trivial
theorem tbl_at {ns : List Str} {n : Str} {spec : List D → M D} (h : n ∈ ns) : (ns.map fun n => (n, spec)).lookup n = some spec := by
  induction ns with
  | nil => cases h
  | cons a ns ih =>
    rw [List.map_cons, List.lookup_cons]
    by_cases e : n = a
    · subst e; simp
    · have hb : (n == a) = false := by simpa using e
      rw [hb]
      exact ih (by rcases List.mem_cons.mp h with q | q; exact absurd q e; exact q)
theorem ht_propAS {ns : List Str} {spec : List D → M D} {mo : Rho → M D} {β : Type} {q0 : Mt (OS A) Nat} {q : Nat → Mt (OS A) β} {enc : β → D} (hv : HT (WO R) fr Γ mo q0 eR fun _ => Γ) (h : ∀ l, AC (WO R) fr Γ mNil (fun ds => spec (eR l :: ds)) (q l) enc fun _ => Γ) :
    HT (WO R) fr Γ (mPropA (ns.map fun n => (n, spec)) mo) (mbind q0 fun l => mbind (hclA ns l) fun _ => calmly (q l)) enc fun _ => Γ := fun s ρ st H => by
  unfold mPropA
  refine OR.bind (hv s ρ st H) fun l s1 st1 H1 => ?_
  refine hclA_ok fun n fs hn e1 => ?_
  obtain ⟨_, b, _⟩ := H1.pre.has.at_ l _ e1
  have e3 : insAny st1 (eR l) = some (n, fs) := insAny_ref b
  rw [e3]
  dsimp only
  rw [tbl_at hn]
  dsimp only
  exact calm_OR (h l s1 ρ st1 H1)
theorem ht_methASV {ns : List Str} {m : Str} {spec : List D → M D} {mo : Rho → M D} {am : Rho → M (List D)} {β : Type} {l : Nat} {q : Mt (OS A) β} {enc : β → D} {Γ' : β → List Sl} (hv : HV (WO R) fr Γ mo (eR l)) (h : AC (WO R) fr Γ am (fun ds => spec (eR l :: ds)) q enc Γ') :
    HT (WO R) fr Γ (mMethA m (ns.map fun n => (n, spec)) mo am) (mbind (hclsA ns m l) fun _ => q) enc Γ' := fun s ρ st H => by
  unfold mMethA
  refine hclsA_ok fun n fs hn e1 e2 => ?_
  obtain ⟨_, b, _⟩ := H.pre.has.at_ l _ e1
  have e3 : insAny st (eR l) = some (n, fs) := insAny_ref b
  rw [hv s ρ st H, Out.bind_ok, e3]
  dsimp only
  rw [tbl_at hn]
  dsimp only
  rw [if_pos e2]
  exact h s ρ st H
theorem ht_sup {nm : Str} {l : Nat} {spec : List D → M D} {am : Rho → M (List D)} {β : Type} {q : Mt (OS A) β} {enc : β → D} {Γ' : β → List Sl} (hv : Γ[0]? = some (.val (eR l))) (h : AC (WO R) fr Γ am (fun ds => spec (eR l :: ds)) q enc Γ') :
    HT (WO R) fr Γ (mSup nm spec am) (mbind (hclA [nm] l) fun _ => q) enc Γ' := fun s ρ st H => by
  refine hclA_ok fun n fs hn e1 => ?_
  unfold mSup
  obtain ⟨_, b, _⟩ := H.pre.has.at_ l _ e1
  have e3 : insAny st (eR l) = some (n, fs) := insAny_ref b
  rw [H.val 0 _ hv]
  dsimp only
  rw [e3]
  dsimp only
  rw [if_pos (by simpa using hn)]
  exact h s ρ st H
end
section
variable {S : Type} {W : Wd S} {fr : Sto} {Γ : List Sl}
end
end Dn
namespace Dn
open PySem PySem.Spec PyProof.Rows L2
structure IsK (K : PySem.W.Frag) (n : Str) (Dc : Addr) (b : Bool) : Prop where
  ex : ∃ C, PySem.W.nsIn K mainGlobals n = some (some (.ref C)) ∧ Cls K C ∧ PySem.W.findIn K (.ref C) "__class__" = some (some (.builtin "object.__class__")) ∧ PySem.W.specialIn K (.builtin "object.__class__") "__get__" = some (some (.builtin "getset_descriptor.__get__")) ∧
    PySem.W.takesIn K (.builtin "object.__class__") = some true ∧ PySem.W.mroIn K C (.type "object") = some true ∧ PySem.W.kitOne K (.ref C) (.ref Dc) = some b
def IsT (K : PySem.W.Frag) (mg : Str → Option Value) (nm : Str) (t : List (Str × Bool)) : Prop := ∃ Dc, mg nm = some (.ref Dc) ∧ ∀ n b, t.lookup n = some b → IsK K n Dc b
theorem ist_mk {K : PySem.W.Frag} {mg : Str → Option Value} {nm : Str} {Dc : Addr} {t : List (Str × Bool)} (h : mg nm = some (.ref Dc)) (ht : ∀ p ∈ t, IsK K p.1 Dc p.2) : IsT K mg nm t := ⟨Dc, h, fun n b e => ht (n, b) (PySem.mem_of_lookup e)⟩
def mIsiO (t : List (Str × Bool)) (m : Rho → M D) : Rho → M D := fun ρ st => (m ρ st).bind fun d st1 => match insAny st1 d with
  | some (n, _) => match t.lookup n with
    | some b => .ok (.bl b) st1
    | none => .bad
  | none => .bad
section
variable {X : Cx} {W : WX} {pos p p2 : Pos} {e : Expr} {m : Rho → M D}
theorem de_isiO {nm : Str} {t : List (Str × Bool)} (T : IsT X.K X.mg nm t) (hg : Gl X "isinstance") (hm : X.mg "isinstance" = none) (hgT : Gl X nm) (h : DE X W e m) (hdT : (nm == ("__debug__" : Str)) = false := by decide)
    (hs : starEach [e, .Name nm p2] X.env = (false, eval e X.env) :: starEach [.Name nm p2] X.env := by rfl) (hs2 : starEach [.Name nm p2] X.env = (false, eval (.Name nm p2) X.env) :: starEach [] X.env := by rfl) (hpl : (backTo pos (starEach [.Name nm p2] X.env)).any (·.1) = false := by rfl) :
    DE X W (.Call (.Name "isinstance" p) [e, .Name nm p2] [] pos) (mIsiO t m) := by
  obtain ⟨Dc, hmg, ht⟩ := T
  refine PE.weak (pe_callB call_isi hg hm rfl (pa_cons h (pa_cons (pe_glob (v := .ref Dc) hgT hmg rfl hdT) pa_nil hs2) hs) (by decide) (by decide) hs hpl) fun σ H Q ⟨F, ι, ρ, st, S, R, q⟩ => ?_
  refine tG_seq back_V S R q fun d st1 F1 ι1 H1 v x1 S1 R1 r1 q1 => ?_
  cases e1 : insAny st1 d with
  | none => rw [e1] at q1; exact q1.elim
  | some pr =>
    obtain ⟨n, fs⟩ := pr
    rw [e1] at q1
    dsimp only at q1
    cases e2 : t.lookup n with
    | none => rw [e2] at q1; exact q1.elim
    | some b =>
      rw [e2] at q1
      obtain ⟨C, hC, cl, h1, h2, h3, h4, h5⟩ := (ht n b e2).ex
      obtain ⟨a, C', dx, gs, rfl, hC', hH, rr⟩ := ins_of S1 r1 (insAny_of e1)
      rw [hC] at hC'
      cases hC'
      exact ⟨.ref a, .ref Dc, .ref C, .ref Dc, b, rfl, .own Dc, .base (.ins hH cl h1 h2 h3 h4), h5, q1 F1 ι1 H1 _ Ext.refl S1 (by show Rep _ _ _ _ _; simp only [Rep])⟩
end
def CmpB (K : PySem.W.Frag) (n1 n2 : Str) (b : Bool) : Prop := ∀ C1 C2, PySem.W.nsIn K mainGlobals n1 = some (some (.ref C1)) → PySem.W.nsIn K mainGlobals n2 = some (some (.ref C2)) →
  if b = true then (C2 ≠ C1 ∧ PySem.W.subIn K (.ref C2) (.ref C1) = some true) else PySem.W.notFirst K C1 (.ref C2) = true
section
open PySem.W
variable {prog : Program} {w : World} {A : Around} {E : Value → Shared → Prop} {s : Shared} {K : Frag} {x C L f : Addr} {h₀ : Heap} {m : Str → Option Value} {ox : Obj} {od : Option Obj}
theorem cmp_Kr {y C2 : Addr} {oy : Obj} {ody : Option Obj} {Q : Value → Shared → Prop} (hu : A.units < cLine) (F : Fr h₀ L s.heap m) (X₀ : K.In h₀) (I : InstAt s.heap x ox C od) (J : InstAt s.heap y oy C2 ody) (hne : C2 ≠ C) (hn : subIn K (.ref C2) (.ref C) = some true)
    (hs : findIn K (.ref C2) "__eq__" = some (some (.ref f))) (hf : isFn K (.ref f) = true)
    (h : wpAny (model prog w) A (call (.ref f) [.ref y, .ref x]) (PySem.W.CmpBack Q) E s) : wpAny (model prog w) A (richCompare .Eq (.ref x) (.ref y)) Q E s := by
  have X := X₀.keeps F.keep
  have one : wpAny (model prog w) A (tryCompare (.ref y) (cmpInfo .Eq).2.2 (.ref x)) (fun r s' => ∃ v, r = some v ∧ Q v s') E s := by
    unfold tryCompare
    refine wpAny_bind (ifBound_K X J hs hf (wpAny_mono h (fun v s' hv => ?_) fun _ _ e => e))
    cases v <;> first | exact hv.elim | exact wpAny_pure ⟨_, rfl, hv⟩
  unfold richCompare
  simp only [oneThing_ref]
  refine wpAny_holding (wpAny_bind (wpAny_cRoomFor hu ?_))
  refine wpAny_bind (I.type.here (wpAny_bind (J.type.here ?_)))
  split
  · refine wpAny_bind ((looks_subIn X hn).here ?_)
    simp only [if_true]
    refine wpAny_bind (wpAny_mono one (fun r s' z => ?_) fun _ _ e => e)
    obtain ⟨v, rfl, hq⟩ := z
    exact wpAny_bind (wpAny_rule (wpAny_pure hq))
  · rename_i q
    exact absurd (by simpa using q) (fun e : C = C2 => hne e.symm)
end
def blO (r : Out D) : Out D := match r with
  | .ok (.bl b) st => .ok (.bl b) st
  | _ => .bad
def mEqA (t : Tbl) (rf : List (Str × Str)) (m1 m2 : Rho → M D) : Rho → M D := fun ρ st => (m1 ρ st).bind fun d1 s1 => (m2 ρ s1).bind fun d2 s2 => match insAny s2 d1, insAny s2 d2 with
  | some (n1, _), some (n2, _) => match t.lookup n1, t.lookup n2 with
    | some p1, some p2 => if (n1, n2) ∈ rf then blO (p2 [d2, d1] s2) else blO (p1 [d1, d2] s2)
    | _, _ => .bad
  | _, _ => .bad
section
variable {X : Cx} {W : WX} {k j : Nat} {t : Tbl} {rf : List (Str × Str)}
theorem post_bl {K : PySem.W.Frag} {W : WX} {σ : L2.St} {F : Hp} {ι : List Addr} {H : Hp} {r : Out D} {Q : VK} (q : post K W σ F ι H (pV K) (blO r) Q) : post K (fun _ _ _ _ => False) [] F ι H (pV K) (blO r) Q := by
  cases r with
  | bad => exact q.elim
  | exc x st => exact q.elim
  | ok d st => cases d <;> first | exact q | exact q.elim
def rEqA (X : Cx) (t : Tbl) (rf : List (Str × Str)) : R2 := fun x y H Q => ∃ F ι st d1 d2 n1 fs1 n2 fs2 p1 p2, Sim X.K F ι st H ∧ Rep X.K F ι d1 x ∧ Rep X.K F ι d2 y ∧ insAny st d1 = some (n1, fs1) ∧ insAny st d2 = some (n2, fs2) ∧ t.lookup n1 = some p1 ∧ t.lookup n2 = some p2 ∧
  post X.K (fun _ _ _ _ => False) [] F ι H (pV X.K) (if (n1, n2) ∈ rf then blO (p2 [d2, d1] st) else blO (p1 [d1, d2] st)) Q
theorem bl_val {K : PySem.W.Frag} {F : Hp} {ι : List Addr} {H : Hp} {r : Out D} {Q : VK} (q : post K (fun _ _ _ _ => False) [] F ι H (pV K) (blO r) Q) : post K (fun _ _ _ _ => False) [] F ι H (pV K) r (fun v H' => (∃ b, v = .bl b) ∧ Q v H') := by
  cases r with
  | bad => exact q.elim
  | exc x st => exact q.elim
  | ok d st =>
    cases d with
    | bl b => exact fun F' ι' H' v x S r => ⟨⟨b, by have r' : Rep K F' ι' (.bl b) v := r; simpa only [Rep] using r'⟩, q F' ι' H' v x S r⟩
    | _ => exact q.elim
theorem op_eqA (B : Bd X W j) (C : FnT X.prog X.w X.K X.mg X.base k "__eq__" t) (hk : k ≤ j) (hc : ∀ n1 n2 p1 p2, t.lookup n1 = some p1 → t.lookup n2 = some p2 → CmpB X.K n1 n2 (decide ((n1, n2) ∈ rf))) : OpR X (compareOp .Eq) (rEqA X t rf) := by
  intro pins s σ H x y v u Q I rx ry ⟨F, ι, st, d1, d2, n1, fs1, n2, fs2, p1, p2, S, r1, r2, e1, e2, t1, t2, q⟩
  obtain ⟨a, C1, dx, gs, rfl, hC1, hH1, _⟩ := ins_of S r1 (insAny_of e1)
  obtain ⟨b, C2, dy, gs2, rfl, hC2, hH2, _⟩ := ins_of S r2 (insAny_of e2)
  obtain rfl : v = Value.ref a := rx
  obtain rfl : u = Value.ref b := ry
  obtain ⟨Ca, f1, hCa, cl1, me1, ru1⟩ := C n1 p1 t1
  obtain ⟨Cb, f2, hCb, cl2, me2, ru2⟩ := C n2 p2 t2
  rw [hC1] at hCa
  cases hCa
  rw [hC2] at hCb
  cases hCb
  have hcb := hc n1 n2 p1 p2 t1 t2 C1 C2 hC1 hC2
  obtain ⟨mA, O, _⟩ := ins_get I.hok hH1
  obtain ⟨mB, O', _⟩ := ins_get I.hok hH2
  obtain ⟨od, J, _⟩ := O.look
  obtain ⟨od', J', _⟩ := O'.look
  obtain ⟨mF, hF⟩ := I.fr
  have back : ∀ v s', EP X pins σ (fun v H' => (∃ b, v = V.bl b) ∧ Q v H') v s' → PySem.W.CmpBack (EP X pins σ Q) v s' := fun v s' ⟨z, H', I', rz, ⟨bb, ez⟩, qz⟩ => by
    subst ez
    obtain rfl : v = Value.bool bb := rz
    exact ⟨.bl bb, H', I', rfl, qz⟩
  show wpAny (model X.prog X.w) X.A (richCompare .Eq (.ref a) (.ref b)) _ _ _
  by_cases hr : (n1, n2) ∈ rf
  · rw [decide_eq_true hr, if_pos rfl] at hcb
    rw [if_pos hr] at q
    refine cmp_Kr B.room.units0 hF I.ok.mod.kin J J' hcb.1 hcb.2 me2.at_ me2.fn ?_
    refine thn (runE_at (us := [.ref b, .ref a]) (vs := [.ref b, .ref a]) (W := W) (Q := fun v H' => (∃ b, v = V.bl b) ∧ Q v H') ru2 (B.room.mono hk) (fun h => B.gd (by omega)) B.tk I (.cons rfl (.cons rfl .nil)) ?_) back
    exact ⟨F, ι, st, [d2, d1], S, Reps.cons r2 (Reps.cons r1 Reps.nil), by
      have := bl_val q
      revert this
      cases p2 [d2, d1] st with
      | ok d st' => exact id
      | exc x st' => exact fun h F' ι' H' cls dd x S r => (h F' ι' H' cls dd x S r).elim
      | bad => exact id⟩
  · rw [decide_eq_false hr, if_neg (by decide)] at hcb
    rw [if_neg hr] at q
    refine PySem.W.cmp_K (op := .Eq) (tb := .ref C2) B.room.units0 hF I.ok.mod.kin J J'.type hcb me1.at_ me1.fn ?_
    refine thn (runE_at (us := [.ref a, .ref b]) (vs := [.ref a, .ref b]) (W := W) (Q := fun v H' => (∃ b, v = V.bl b) ∧ Q v H') ru1 (B.room.mono hk) (fun h => B.gd (by omega)) B.tk I (.cons rfl (.cons rfl .nil)) ?_) back
    exact ⟨F, ι, st, [d1, d2], S, Reps.cons r1 (Reps.cons r2 Reps.nil), by
      have := bl_val q
      revert this
      cases p1 [d1, d2] st with
      | ok d st' => exact id
      | exc x st' => exact fun h F' ι' H' cls dd x S r => (h F' ι' H' cls dd x S r).elim
      | bad => exact id⟩
variable {a b : Expr} {m1 m2 : Rho → M D} {pos : Pos}
theorem eqA_of {σ : L2.St} {H : Hp} {Q : VK} (h : tV X.K W (mEqA t rf m1 m2) σ H Q) : tOp (rEqA X t rf) (tV X.K W m1) (tV X.K W m2) σ H Q := by
  obtain ⟨F, ι, ρ, st, S, R, q⟩ := h
  refine tG_seq back_V S R q fun d1 st1 F1 ι1 H1 v1 x1 S1 R1 r1 q1 => ?_
  refine tG_seq back_V S1 R1 q1 fun d2 st2 F2 ι2 H2 v2 x2 S2 R2 r2 q2 => ?_
  cases e1 : insAny st2 d1 with
  | none => rw [e1] at q2; exact q2.elim
  | some z1 =>
    obtain ⟨n1, fs1⟩ := z1
    cases e2 : insAny st2 d2 with
    | none => rw [e1, e2] at q2; exact q2.elim
    | some z2 =>
      obtain ⟨n2, fs2⟩ := z2
      rw [e1, e2] at q2
      dsimp only at q2
      cases t1 : t.lookup n1 with
      | none => rw [t1] at q2; exact q2.elim
      | some p1 =>
        cases t2 : t.lookup n2 with
        | none => rw [t1, t2] at q2; exact q2.elim
        | some p2 =>
          rw [t1, t2] at q2
          dsimp only at q2
          refine ⟨F2, ι2, st2, d1, d2, n1, fs1, n2, fs2, p1, p2, S2, r1.ext x2, r2, e1, e2, t1, t2, ?_⟩
          by_cases hr : (n1, n2) ∈ rf
          · rw [if_pos hr] at q2 ⊢
            exact post_bl q2
          · rw [if_neg hr] at q2 ⊢
            exact post_bl q2
theorem dt_eqA (B : Bd X W j) (C : FnT X.prog X.w X.K X.mg X.base k "__eq__" t) (hk : k ≤ j) (hc : ∀ n1 n2 p1 p2, t.lookup n1 = some p1 → t.lookup n2 = some p2 → CmpB X.K n1 n2 (decide ((n1, n2) ∈ rf))) (ha : DE X W a m1) (hb : DE X W b m2) (hm : behindInMarks .Eq b = false := by rfl) :
    DT X W (.Compare a [.Eq] [b] pos) (isB (mEqA t rf m1 m2)) := PT.weak (pt_cmpR (op_eqA B C hk hc) ha hb hm) fun σ H Q h => by
  have q := isB_of h
  unfold tTest at q ⊢
  exact eqA_of q
theorem cmpB_all {K : PySem.W.Frag} {t : Tbl} {rf : List (Str × Str)} (h : ∀ p1 ∈ t, ∀ p2 ∈ t, CmpB K p1.1 p2.1 (decide ((p1.1, p2.1) ∈ rf))) : ∀ n1 n2 p1 p2, t.lookup n1 = some p1 → t.lookup n2 = some p2 → CmpB K n1 n2 (decide ((n1, n2) ∈ rf)) :=
  fun n1 n2 p1 p2 e1 e2 => h (n1, p1) (PySem.mem_of_lookup e1) (n2, p2) (PySem.mem_of_lookup e2)
theorem cmpB_f {K : PySem.W.Frag} {n1 n2 : Str} {C1 C2 : Addr} (h1 : PySem.W.nsIn K mainGlobals n1 = some (some (.ref C1))) (h2 : PySem.W.nsIn K mainGlobals n2 = some (some (.ref C2))) (h : PySem.W.notFirst K C1 (.ref C2) = true) : CmpB K n1 n2 false := fun D1 D2 e1 e2 => by
  rw [h1] at e1
  rw [h2] at e2
  cases e1
  cases e2
  rw [if_neg (by decide)]
  exact h
end
section
variable {A : Type} {R : DkR A} {fr : Sto} {Γ : List Sl} {ρ : Rho} {s s' : OS A} {st : Sto}
def heqA (ns : List Str) (rf : List (Str × Str)) (l1 l2 : Nat) (q12 q21 : Mt (OS A) Bool) : Mt (OS A) Bool := fun s => match s.m l1, s.m l2 with
  | some (.ins n1 _), some (.ins n2 _) => if n1 ∈ ns ∧ n2 ∈ ns then (if (n1, n2) ∈ rf then calmly q21 s else calmly q12 s) else .bad
  | _, _ => .bad
theorem bl_OR {ρ : Rho} {q : Rs (OS A) Bool} {r : Out D} (h : OR (WO R) fr (fun _ => Γ) ρ eB r q) : OR (WO R) fr (fun _ => Γ) ρ eB (blO r) (rcalm q) := by
  induction q with
  | ok b s' => obtain ⟨st', rfl, h2⟩ := h; exact ⟨st', rfl, h2⟩
  | exc x s' => trivial
  | bad => trivial
  | amb P_ f_ ih_ => obtain ⟨n_, p_, h⟩ := h; exact ⟨n_, p_, ih_ n_ h⟩
theorem ht_eqA {ns : List Str} {rf : List (Str × Str)} {spec : List D → M D} {m1 m2 : Rho → M D} {q1 q2 : Mt (OS A) Nat} {q12 q21 : Nat → Nat → Mt (OS A) Bool} (h1 : HT (WO R) fr Γ m1 q1 eR fun _ => Γ) (h2 : HT (WO R) fr Γ m2 q2 eR fun _ => Γ)
    (h12 : ∀ l1 l2, AC (WO R) fr Γ mNil (fun ds => spec (eR l1 :: eR l2 :: ds)) (q12 l1 l2) eB fun _ => Γ) (h21 : ∀ l1 l2, AC (WO R) fr Γ mNil (fun ds => spec (eR l2 :: eR l1 :: ds)) (q21 l1 l2) eB fun _ => Γ) :
    HT (WO R) fr Γ (mEqA (ns.map fun n => (n, spec)) rf m1 m2) (mbind q1 fun l1 => mbind q2 fun l2 => heqA ns rf l1 l2 (q12 l1 l2) (q21 l1 l2)) eB fun _ => Γ := fun s ρ st H => by
  unfold mEqA
  refine OR.bind (h1 s ρ st H) fun l1 s1 st1 H1 => ?_
  refine OR.bind (h2 s1 ρ st1 H1) fun l2 s2 st2 H2 => ?_
  unfold heqA
  cases e1 : s2.m l1 with
  | none => trivial
  | some o1 =>
    cases o1 with
    | ins n1 fs1 =>
      cases e2 : s2.m l2 with
      | none => trivial
      | some o2 =>
        cases o2 with
        | ins n2 fs2 =>
          dsimp only
          by_cases hn : n1 ∈ ns ∧ n2 ∈ ns
          · rw [if_pos hn]
            obtain ⟨_, b1, _⟩ := H2.pre.has.at_ l1 _ e1
            obtain ⟨_, b2, _⟩ := H2.pre.has.at_ l2 _ e2
            have g1 : insAny st2 (eR l1) = some (n1, fs1) := insAny_ref b1
            have g2 : insAny st2 (eR l2) = some (n2, fs2) := insAny_ref b2
            rw [g1, g2]
            dsimp only
            rw [tbl_at hn.1, tbl_at hn.2]
            dsimp only
            by_cases hr : (n1, n2) ∈ rf
            · rw [if_pos hr, if_pos hr]
              exact bl_OR (h21 l1 l2 s2 ρ st2 H2)
            · rw [if_neg hr, if_neg hr]
              exact bl_OR (h12 l1 l2 s2 ρ st2 H2)
          · rw [if_neg hn]; trivial
        | _ => trivial
    | _ => trivial
def hisiO (t : List (Str × Bool)) (l : Nat) : Mt (OS A) Bool := fun s => match s.m l with
  | some (.ins n _) => match t.lookup n with
    | some b => .ok b s
    | none => .bad
  | _ => .bad
theorem ht_isiO {t : List (Str × Bool)} {m : Rho → M D} {q : Mt (OS A) Nat} (h : HT (WO R) fr Γ m q eR fun _ => Γ) : HT (WO R) fr Γ (mIsiO t m) (mbind q (hisiO t)) eB fun _ => Γ := fun s ρ st H => by
  unfold mIsiO
  refine OR.bind (h s ρ st H) fun l s1 st1 H1 => ?_
  unfold hisiO
  cases e1 : s1.m l with
  | none => trivial
  | some o1 =>
    cases o1 with
    | ins n1 fs1 =>
      dsimp only
      obtain ⟨_, b1, _⟩ := H1.pre.has.at_ l _ e1
      have g1 : insAny st1 (eR l) = some (n1, fs1) := insAny_ref b1
      rw [g1]
      dsimp only
      cases e2 : t.lookup n1 with
      | none => trivial
      | some b => exact ⟨st1, rfl, H1⟩
    | _ => trivial
end
def pEqE (st : Sto) (a b : D) : Option D := match a, b with
  | .lst [], .lst [] => pEq st a b
  | .lst (_ :: _), .lst [] => some (.bl false)
  | _, _ => none
theorem op_pEqE {X : Cx} (hu : X.A.units + 64 < cLine) : OpR X (compareOp .Eq) (rP X.K pEqE) := by
  intro pins s σ H x y v u Q I rx ry ⟨F, ι, st, a, b, d, S, ra, rb, e, q⟩
  unfold pEqE at e
  split at e
  · exact op_pEq hu pins s σ H x y v u Q I rx ry ⟨F, ι, st, _, _, d, S, ra, rb, e, q⟩
  · rename_i d1 ds
    cases e
    simp only [Rep] at ra rb
    obtain ⟨l, vs, rfl, h1, r1⟩ := ra
    obtain ⟨l2, vs2, rfl, h2, r2⟩ := rb
    obtain rfl : v = Value.ref l := rx
    obtain rfl : u = Value.ref l2 := ry
    obtain ⟨its, q1, pl, _⟩ := I.list (SqL.of (S.sub _ _ h1))
    obtain ⟨its2, q2, pl2, _⟩ := I.list (SqL.of (S.sub _ _ h2))
    simp only [Reps] at r1 r2
    subst r2
    cases q2
    obtain ⟨v0, r, rfl, _, _⟩ := r1
    cases q1 with
    | @cons a b as bs h t =>
      exact SeqAt.RcAt.lists_lengths pl.isList pl2.isList (by simp) (by omega) _ _ _ _ ⟨.bl false, H, I, rfl, q F H _ Ext.refl S (by simp only [Rep])⟩
  · cases e
theorem t_eqE {α : Type} {e : α → D} (xs : List α) (st : Sto) : pEqE st (eL e xs) (.lst []) = some (.bl xs.isEmpty) := by
  cases xs with
  | nil =>
    have := t_eq (e := eL eI) ([] : List Int) [] (by decide) st
    exact this
  | cons x xs => rfl
theorem cmpB_of {K : PySem.W.Frag} {a b : Str} {v v' : Bool} (h : CmpB K a b v) (e : v' = v) : CmpB K a b v' := e ▸ h
end Dn
namespace Dn
open PySem PySem.Spec PyProof.Rows L2
section
variable {A : Type} {R : DkR A} {fr : Sto} {Γ : List Sl} {α σ β : Type} {e : α → D} {J : σ → List Sl} {gf : D → Rho → M Rho} {mb : Rho → Sto → Fl} {G : α → σ → List Sl} {js : List Nat}
open Classical in
noncomputable def mheld (l : Nat) (ds : List D) : Mt (OS A) Unit := fun s => if s.m l = some (.lst ds) then .ok () s else .bad
noncomputable def mheldN (l : Nat) (ds : List D) (z : σ) : Mt (OS A) σ := mbind (mheld l ds) fun _ => mpure z
theorem held_st {l : Nat} {ds : List D} {s : OS A} {ρ : Rho} {st : Sto} (H : Has (WO R) fr s Γ ρ st) (h : s.m l = some (.lst ds)) : heldOk [(l, ds)] st := by
  obtain ⟨_, b, _⟩ := H.pre.has.at_ l _ h
  exact (heldOk_one _ _ _).mpr b
open Classical in
theorem forL_UH {l : Nat} {ds : List D} {body : α → σ → Mt (OS A) σ} (hg : ∀ x z, GT1 (WO R) fr (J z) gf (e x) (G x z) js) (hb : ∀ x z, TN (WO R) fr (G x z) mb (body x z) J) :
    ∀ (xs : List α) (z : σ) s ρ st, Has (WO R) fr s (J z) ρ st → s.m l = some (.lst ds) → NR (WO R) fr J (forL [(l, ds)] (forB gf mb) (xs.map e) ρ st) (forU (fun x z => mbind (body x z) (mheldN l ds)) xs z s)
  | [], z, s, ρ, st, H, hl => by
    rw [List.map_nil]
    unfold forL
    rw [if_pos (held_st H hl)]
    exact ⟨ρ, st, rfl, H⟩
  | x :: xs, z, s, ρ, st, H, hl => by
    rw [List.map_cons]
    unfold forL
    rw [if_pos (held_st H hl)]
    obtain ⟨ρ1, e1, H1, _⟩ := hg x z s ρ st H
    have h1 := hb x z s ρ1 st H1
    have eb : forB gf mb (e x) ρ st = mb ρ1 st := by unfold forB; rw [e1]; rfl
    rw [eb]
    show NR (WO R) fr J _ (rbind (rbind (body x z s) (mheldN l ds)) _)
    revert h1
    induction (body x z s) with
    | ok z' s' =>
      rintro ⟨ρ', st', e2, h2⟩
      rw [e2]
      show NR (WO R) fr J _ (rbind (rbind (if s'.m l = some (.lst ds) then Rs.ok () s' else .bad) fun _ => mpure z') _)
      by_cases q : s'.m l = some (.lst ds)
      · rw [if_pos q]
        exact forL_UH hg hb xs z' s' ρ' st' h2 q
      · rw [if_neg q]; trivial
    | exc y s' => rintro ⟨ρ', st', e2, h2⟩; rw [e2]; exact ⟨ρ', st', rfl, h2⟩
    | bad => intro _; trivial
    | amb P_ f_ ih_ => rintro ⟨n_, p_, h_⟩; exact ⟨n_, p_, ih_ n_ h_⟩
theorem tn_forHE [Dec e] {G : (Int × α) → σ → List Sl} {m : Rho → M D} {q : Mt (OS A) Nat} {body : (Int × α) → σ → Mt (OS A) σ} {z0 : σ} (h : HT (WO R) fr Γ m q eR fun _ => Γ) (w : Wk Γ (J z0))
    (hg : ∀ x z, GT1 (WO R) fr (J z) gf (eP eI e x) (G x z) js) (hb : ∀ x z, TN (WO R) fr (G x z) mb (body x z) J) :
    TN (WO R) fr Γ (sFor (iEnumD m) gf mb) (mbind q fun l => mbind (hgetT e l) fun xs => forU (fun x z => mbind (body x z) (mheldN l (xs.map e))) (enumZ 0 xs) z0) J := fun s ρ st H => by
  unfold sFor iEnumD
  rw [fl_bind]
  refine OR.fl (f := fun d st1 => ((lift (srcOf st1 d) st1).bind fun src st2 => Out.ok (⟨enumD 0 src.items, src.held⟩ : Src) st2).fl ρ fun src st1 => forL src.held (forB gf mb) src.items ρ st1) (h s ρ st H) fun l s1 st1 H1 => ?_
  show NR (WO R) fr J _ (rbind (hgetT e l s1) _)
  unfold hgetT
  cases e1 : s1.m l with
  | none => trivial
  | some o =>
    cases o with
    | lst ds =>
      dsimp only
      cases e2 : decs e ds with
      | none => trivial
      | some xs =>
        obtain ⟨_, b, _⟩ := H1.pre.has.at_ l _ e1
        have e3 := decs_ok ds xs e2
        subst e3
        have es : (lift (srcOf st1 (eR l)) st1).bind (fun src st2 => Out.ok (⟨enumD 0 src.items, src.held⟩ : Src) st2) = .ok ⟨(enumZ 0 xs).map (eP eI e), [(l, xs.map e)]⟩ st1 := by
          unfold srcOf eR
          dsimp only
          rw [b]
          show Out.ok (⟨enumD 0 (xs.map e), [(l, xs.map e)]⟩ : Src) st1 = _
          rw [enumD_map] <;> rfl
        dsimp only
        rw [es]
        exact forL_UH hg hb (enumZ 0 xs) z0 s1 ρ st1 (H1.wk w) e1
    | _ => trivial
end
end Dn

namespace Lw
open PySem PySem.Spec PyProof.Rows L2 Dn
-- ### the text by places
def top (i : Nat) : Stmt := PySem.Challenge.pw_pressrelease_k58_whole_known_from_all_fi.main.body.getD i (.Pass ⟨0, 0, 0, 0⟩)
abbrev s_Desk_require_idle : Stmt := inClass (top 42) 9
abbrev N_Desk_require_idle : List Str := ["self"]
abbrev s_Desk_undo : Stmt := inClass (top 42) 15
abbrev N_Desk_undo : List Str := ["self"]
abbrev s_is_within : Stmt := top 36
abbrev N_is_within : List Str := ["value", "low", "high"]
abbrev s_is_state : Stmt := top 37
abbrev N_is_state : List Str := ["panel", "value", "one", "other"]
abbrev s_is_number : Stmt := top 23
abbrev N_is_number : List Str := ["value", "low", "high"]
abbrev s_are_buttons : Stmt := top 24
abbrev N_are_buttons : List Str := ["count", "value", "item", "one", "other"]
abbrev s_panel_error : Stmt := top 25
abbrev N_panel_error : List Str := ["value", "index", "released"]
abbrev s_require_panel : Stmt := top 38
abbrev N_require_panel : List Str := ["panel", "error"]
abbrev s_Desk___init__ : Stmt := inClass (top 42) 1
abbrev N_Desk___init__ : List Str := ["self", "panel", "state"]
abbrev s_Guess___init__ : Stmt := inClass (top 43) 0
abbrev N_Guess___init__ : List Str := ["self", "panel"]
abbrev s_GuessDesk___init__ : Stmt := inClass (top 44) 0
abbrev N_GuessDesk___init__ : List Str := ["self", "panel", "state"]
abbrev s__law_deck : Stmt := top 46
abbrev N__law_deck : List Str := ["_law_script", "_law_cell"]
abbrev s__law_draw : Stmt := top 47
abbrev N__law_draw : List Str := ["_law_deck_here", "_law_many", "_law_cell", "_law_place"]
abbrev s__law_panel : Stmt := top 48
abbrev N__law_panel : List Str := ["_law_deck_here", "_law_most", "_law_n", "_law_way", "_law_share", "_law_found", "_law_button", "_law_own", "_law_one"]
abbrev s__law_pressed : Stmt := top 49
abbrev N__law_pressed : List Str := ["_law_panel_here", "_law_state", "_law_button", "_law_left", "_law_one"]
abbrev s__law_changed : Stmt := top 50
abbrev N__law_changed : List Str := ["_law_panel_here", "_law_one", "_law_other", "_law_is_link", "_law_own", "_law_at"]
abbrev s__law_after : Stmt := top 51
abbrev N__law_after : List Str := ["_law_state", "_law_edit_here", "_law_panel_here", "_law_latched"]
abbrev s__law_edit : Stmt := top 52
abbrev N__law_edit : List Str := ["_law_deck_here", "_law_state", "_law_panel_here", "_law_latched", "_law_n", "_law_one", "_law_other"]
abbrev s_press_button : Stmt := top 26
abbrev N_press_button : List Str := ["panel", "state", "button", "kept", "other"]
abbrev s_require_buttons : Stmt := top 39
abbrev N_require_buttons : List Str := ["panel", "buttons", "button"]
abbrev s_with_list : Stmt := top 16
abbrev N_with_list : List Str := ["panel", "button", "released"]
abbrev s_linked : Stmt := top 17
abbrev N_linked : List Str := ["panel", "one", "other", "button"]
abbrev s_unlinked : Stmt := top 18
abbrev N_unlinked : List Str := ["panel", "one", "other", "button"]
abbrev s_changed : Stmt := top 40
abbrev N_changed : List Str := ["panel", "word", "one", "other", "found"]
abbrev s_Desk_state_after : Stmt := inClass (top 42) 10
abbrev N_Desk_state_after : List Str := ["self", "edit", "panel", "state", "word", "values"]
abbrev s_Desk_perform : Stmt := inClass (top 42) 11
abbrev N_Desk_perform : List Str := ["self", "edit"]
abbrev s_Desk_press : Stmt := inClass (top 42) 12
abbrev N_Desk_press : List Str := ["self", "button"]
abbrev s_Desk_link : Stmt := inClass (top 42) 13
abbrev N_Desk_link : List Str := ["self", "one", "other"]
abbrev s_Desk_unlink : Stmt := inClass (top 42) 14
abbrev N_Desk_unlink : List Str := ["self", "one", "other"]
abbrev s__law_do : Stmt := top 53
abbrev N__law_do : List Str := ["_law_table", "_law_edit_here"]
abbrev s__law_states : Stmt := top 54
abbrev N__law_states : List Str := ["_law_n", "_law_found", "_law_button", "_law_state"]
abbrev s_Desk_latched : Stmt := inClass (top 42) 4
abbrev N_Desk_latched : List Str := ["self"]
abbrev s_Desk___eq__ : Stmt := inClass (top 42) 7
abbrev N_Desk___eq__ : List Str := ["self", "other"]
abbrev s_known_after : Stmt := top 41
abbrev N_known_after : List Str := ["known", "panel", "button", "at", "word"]
abbrev s_GuessDesk_known : Stmt := inClass (top 44) 1
abbrev N_GuessDesk_known : List Str := ["self", "found", "at", "edit"]
abbrev s__law_known_right : Stmt := top 55
abbrev N__law_known_right : List Str := ["_law_tables", "_law_firsts", "_law_n", "_law_known", "_law_table", "_law_button", "_law_now", "_law_due", "_law_first"]
abbrev s_law : Stmt := top 56
abbrev N_law : List Str := ["_law_script", "_law_deck_here", "_law_panel_here", "_law_n", "_law_firsts", "_law_states_here", "_law_tables", "_law_first", "_law_turn", "_law_table", "_law_edit_here"]
-- ### what the defs mean
noncomputable def m_Desk_require_idle : Rho → Sto → Fl := (sIf (mTru (mFldA ["Desk", "GuessDesk"] "watching" (mVar 0))) (sRaise "Busy") sNext)
noncomputable def d_Desk_require_idle : List D → M D := fnD 1 1 m_Desk_require_idle
theorem nn_Desk_require_idle : NeedN 1 d_Desk_require_idle := needN_fnD
noncomputable def m_Desk_undo : Rho → Sto → Fl := (sSeq (sDrop (mMethA "require_idle" [("Desk", d_Desk_require_idle), ("GuessDesk", d_Desk_require_idle)] (mVar 0) mNil))
  (sSeq (sIf (isB (mOp pEq (mB pLen (mCons (mFldA ["Desk", "GuessDesk"] "standing" (mVar 0)) mNil)) (mLit (.int 0)))) (sRaise "NothingToUndo") sNext)
  (sSeq (sDrop (mMeth "list" pPop (mFldA ["Desk", "GuessDesk"] "standing" (mVar 0)) mNil))
  (sSeq (sDrop (mMeth "list" pPop (mFldA ["Desk", "GuessDesk"] "states" (mVar 0)) mNil))
  (sRet (mB pLen (mCons (mFldA ["Desk", "GuessDesk"] "standing" (mVar 0)) mNil)))))))
noncomputable def d_Desk_undo : List D → M D := fnD 1 1 m_Desk_undo
theorem nn_Desk_undo : NeedN 1 d_Desk_undo := needN_fnD
noncomputable def m_is_within : Rho → Sto → Fl := (sRet (mAndV (mIsi "int" (mVar 0)) (mAndV (mNotV (mIsi "bool" (mVar 0))) (mChain pLe pLe (mVar 1) (mVar 0) (mVar 2)))))
noncomputable def d_is_within : List D → M D := fnD 3 3 m_is_within
theorem nn_is_within : NeedN 3 d_is_within := needN_fnD
noncomputable def c_is_state_1 : Rho → M (List D) := lLc (iSeq (mVar 1)) (gN 2) bYes (mCall d_is_within (mCons (mVar 2) (mCons (mLit (.int 0)) (mCons (mOp pSub (mB pLen (mCons (mVar 0) mNil)) (mLit (.int 1))) mNil)))) [2]
noncomputable def c_is_state_2 : Rho → M (List D) := lLc (iZipD (mVar 1) (mSlT (mVar 1) (oSome (mLit (.int 1))) oNone)) (gT 2 (gsCons (gN 2) (gsCons (gN 3) gsNil))) bYes (mOp pLt (mVar 2) (mVar 3)) [2, 3]
noncomputable def m_is_state : Rho → Sto → Fl := (sSeq (sIf (bOr (bNot (mTru (mIsi "tuple" (mVar 1)))) (bNot (mTru (mB pAll (mCons (mFrz c_is_state_1) mNil))))) (sRet (mLit (.bl false))) sNext)
  (sRet (mB pAll (mCons (mFrz c_is_state_2) mNil))))
noncomputable def d_is_state : List D → M D := fnD 2 4 m_is_state
theorem nn_is_state : NeedN 2 d_is_state := needN_fnD
noncomputable def m_is_number : Rho → Sto → Fl := (sRet (mAndV (mIsi "int" (mVar 0)) (mAndV (mNotV (mIsi "bool" (mVar 0))) (mChain pLe pLe (mVar 1) (mVar 0) (mVar 2)))))
noncomputable def d_is_number : List D → M D := fnD 3 3 m_is_number
theorem nn_is_number : NeedN 3 d_is_number := needN_fnD
noncomputable def c_are_buttons_1 : Rho → M (List D) := lLc (iSeq (mVar 1)) (gN 2) bYes (mCall d_is_number (mCons (mVar 2) (mCons (mLit (.int 0)) (mCons (mOp pSub (mVar 0) (mLit (.int 1))) mNil)))) [2]
noncomputable def c_are_buttons_2 : Rho → M (List D) := lLc (iZipD (mVar 1) (mSlT (mVar 1) (oSome (mLit (.int 1))) oNone)) (gT 2 (gsCons (gN 3) (gsCons (gN 4) gsNil))) bYes (mOp pLt (mVar 3) (mVar 4)) [3, 4]
noncomputable def m_are_buttons : Rho → Sto → Fl := (sSeq (sIf (bOr (bNot (mTru (mIsi "tuple" (mVar 1)))) (bNot (mTru (mB pAll (mCons (mFrz c_are_buttons_1) mNil))))) (sRet (mLit (.bl false))) sNext)
  (sRet (mB pAll (mCons (mFrz c_are_buttons_2) mNil))))
noncomputable def d_are_buttons : List D → M D := fnD 2 5 m_are_buttons
theorem nn_are_buttons : NeedN 2 d_are_buttons := needN_fnD
noncomputable def l_panel_error_1 : Rho → Sto → Fl := (sSeq (sIf (bNot (mTru (mCall d_are_buttons (mCons (mB pLen (mCons (mVar 0) mNil)) (mCons (mVar 2) mNil))))) (sRet (mTup (mCons (mVar 1) (mCons (mLit (.str ("list" : Str))) mNil)))) sNext)
    (sIf (isB (mOp pIn (mVar 1) (mVar 2))) (sRet (mTup (mCons (mVar 1) (mCons (mLit (.str ("itself" : Str))) mNil)))) sNext))
noncomputable def m_panel_error : Rho → Sto → Fl := (sSeq (sIf (bOr (bNot (mTru (mIsi "tuple" (mVar 0)))) (bNot (isB (mChain pLe pLe (mLit (.int 1)) (mB pLen (mCons (mVar 0) mNil)) (mLit (.int 10)))))) (sRet (mTup (mCons (mLit .non) (mCons (mLit (.str ("panel" : Str))) mNil)))) sNext)
  (sSeq (sFor (iEnumD (mVar 0)) (gT 2 (gsCons (gN 1) (gsCons (gN 2) gsNil))) l_panel_error_1)
  (sRet (mLit .non))))
noncomputable def d_panel_error : List D → M D := fnD 1 3 m_panel_error
theorem nn_panel_error : NeedN 1 d_panel_error := needN_fnD
noncomputable def m_require_panel : Rho → Sto → Fl := (sSeq (sAsg (gN 1) (mCall d_panel_error (mCons (mVar 0) mNil)))
  (sIf (isB (mOp pIsNot (mVar 1) (mLit .non))) sNever sNext))
noncomputable def d_require_panel : List D → M D := fnD 1 2 m_require_panel
theorem nn_require_panel : NeedN 1 d_require_panel := needN_fnD
noncomputable def m_Desk___init__ : Rho → Sto → Fl := (sSeq (sDrop (mCall d_require_panel (mCons (mVar 1) mNil)))
  (sSeq (sIf (bNot (mTru (mCall d_is_state (mCons (mVar 1) (mCons (mVar 2) mNil))))) sNever sNext)
  (sSeq (sSetFA ["Desk", "GuessDesk"] "states" (mVar 0) (mNew (lDisp (mCons (mTup (mCons (mVar 1) (mCons (mVar 2) mNil))) mNil))))
  (sSeq (sSetFA ["Desk", "GuessDesk"] "standing" (mVar 0) (mNew (lDisp mNil)))
  (sSetFA ["Desk", "GuessDesk"] "watching" (mVar 0) (mLit (.bl false)))))))
noncomputable def d_Desk___init__ : List D → M D := fnD 3 3 m_Desk___init__
theorem nn_Desk___init__ : NeedN 3 d_Desk___init__ := needN_fnD
noncomputable def m_Guess___init__ : Rho → Sto → Fl := (sSeq (sDrop (mCall d_require_panel (mCons (mVar 1) mNil)))
  (sSeq (sSetFA ["Guess", "GuessDesk"] "base" (mVar 0) (mVar 1))
  (sSetFA ["Guess", "GuessDesk"] "told" (mVar 0) (mOp pMul (mTup (mCons (mLit (.str ("same" : Str))) mNil)) (mB pLen (mCons (mVar 1) mNil))))))
noncomputable def d_Guess___init__ : List D → M D := fnD 2 2 m_Guess___init__
theorem nn_Guess___init__ : NeedN 2 d_Guess___init__ := needN_fnD
noncomputable def m_GuessDesk___init__ : Rho → Sto → Fl := (sSeq (sDrop (mSup "GuessDesk" d_Desk___init__ (mCons (mVar 1) (mCons (mVar 2) mNil))))
  (sDrop (mCall d_Guess___init__ (mCons (mVar 0) (mCons (mVar 1) mNil)))))
noncomputable def d_GuessDesk___init__ : List D → M D := fnD 3 3 m_GuessDesk___init__
theorem nn_GuessDesk___init__ : NeedN 3 d_GuessDesk___init__ := needN_fnD
noncomputable def c__law_deck_1 : Rho → M (List D) := lLc (iSeq (mFrz (lSlL (mVar 0) oNone (oSome (mLit (.int 63)))))) (gN 1) bYes (mB pAbs (mCons (mVar 1) mNil)) [1]
noncomputable def m__law_deck : Rho → Sto → Fl := (sRet (mNew (lDisp (mCons (mNew c__law_deck_1) (mCons (mLit (.int 0)) mNil)))))
noncomputable def d__law_deck : List D → M D := fnD 1 2 m__law_deck
theorem nn__law_deck : NeedN 1 d__law_deck := needN_fnD
noncomputable def m__law_draw : Rho → Sto → Fl := (sSeq (sAsg (gSubD (mVar 0) (mLit (.int 1))) (mOp pAdd (mOp pIdx (mVar 0) (mLit (.int 1))) (mLit (.int 1))))
  (sSeq (sAsg (gN 2) (mLit (.int 0)))
  (sSeq (sAsg (gN 3) (mUn pNeg (mLit (.int 1))))
  (sSeq (sIf (isB (mOp pGt (mB pLen (mCons (mOp pIdx (mVar 0) (mLit (.int 0))) mNil)) (mLit (.int 0)))) (sSeq (sAsg (gN 3) (mOp pMod (mOp pIdx (mVar 0) (mLit (.int 1))) (mB pLen (mCons (mOp pIdx (mVar 0) (mLit (.int 0))) mNil))))
    (sAsg (gN 2) (mOp pIdx (mOp pIdx (mVar 0) (mLit (.int 0))) (mVar 3)))) sNext)
  (sSeq (sIf (isB (mOp pGe (mVar 2) (mOp pPow (mLit (.int 10)) (mLit (.int 18))))) (sSeq (sAsg (gSubD (mOp pIdx (mVar 0) (mLit (.int 0))) (mVar 3)) (mOp pDiv (mVar 2) (mVar 1)))
    (sRet (mOp pMod (mVar 2) (mVar 1)))) sNext)
  (sRet (mOp pMod (mOp pMod (mOp pPow (mOp pAdd (mOp pAdd (mOp pMod (mVar 2) (mLit (.int 2147483587))) (mOp pMul (mLit (.int 7919)) (mOp pIdx (mVar 0) (mLit (.int 1))))) (mLit (.int 1))) (mLit (.int 5))) (mLit (.int 2147483647))) (mVar 1))))))))
noncomputable def d__law_draw : List D → M D := fnD 2 4 m__law_draw
theorem nn__law_draw : NeedN 2 d__law_draw := needN_fnD
noncomputable def c__law_panel_1 : Rho → M (List D) := lLc (iRng1D (mVar 2)) (gN 8) (isB (mOp pLt (mCall d__law_draw (mCons (mVar 0) (mCons (mLit (.int 5)) mNil))) (mVar 4))) (mVar 8) [8]
noncomputable def c__law_panel_2 : Rho → M (List D) := lLc (iSeq (mVar 7)) (gN 8) (isB (mOp pGt (mVar 8) (mVar 6))) (mVar 8) [8]
noncomputable def c__law_panel_3 : Rho → M (List D) := lLc (iSeq (mVar 7)) (gN 8) (isB (mOp pNe (mVar 8) (mVar 6))) (mVar 8) [8]
noncomputable def l__law_panel_1 : Rho → Sto → Fl := (sSeq (sAsg (gN 7) (mFrz c__law_panel_1))
    (sSeq (sIf (isB (mOp pEq (mVar 3) (mLit (.int 0)))) (sAsg (gN 7) (mFrz (lDisp (mCons (mOp pMod (mOp pAdd (mVar 6) (mLit (.int 1))) (mVar 2)) mNil)))) sNext)
    (sSeq (sIf (bAnd (isB (mOp pEq (mVar 3) (mLit (.int 1)))) (isB (mOp pEq (mCall d__law_draw (mCons (mVar 0) (mCons (mLit (.int 2)) mNil))) (mLit (.int 0))))) (sAsg (gN 7) (mFrz (lLstRg (mVar 2)))) sNext)
    (sSeq (sIf (isB (mOp pEq (mVar 3) (mLit (.int 2)))) (sAsg (gN 7) (mFrz c__law_panel_2)) sNext)
    (sDrop (mMeth "list" pAppend (mVar 5) (mCons (mB pTuple (mCons (mFrz c__law_panel_3) mNil)) mNil)))))))
noncomputable def m__law_panel : Rho → Sto → Fl := (sSeq (sAsg (gN 2) (mOp pIdx (mFrz (lDisp (mCons (mOp pAdd (mLit (.int 1)) (mCall d__law_draw (mCons (mVar 0) (mCons (mVar 1) mNil)))) (mCons (mVar 1) (mCons (mOp pAdd (mLit (.int 1)) (mCall d__law_draw (mCons (mVar 0) (mCons (mB pMin2 (mCons (mLit (.int 4)) (mCons (mVar 1) mNil))) mNil)))) mNil))))) (mCall d__law_draw (mCons (mVar 0) (mCons (mLit (.int 3)) mNil)))))
  (sSeq (sAsg (gT 3 (gsCons (gN 3) (gsCons (gN 4) (gsCons (gN 5) gsNil)))) (mTup (mCons (mCall d__law_draw (mCons (mVar 0) (mCons (mLit (.int 5)) mNil))) (mCons (mOp pAdd (mLit (.int 1)) (mCall d__law_draw (mCons (mVar 0) (mCons (mLit (.int 4)) mNil)))) (mCons (mNew (lDisp mNil)) mNil)))))
  (sSeq (sFor (iRng1D (mVar 2)) (gN 6) l__law_panel_1)
  (sFz 5 (sRet (mB pTuple (mCons (mVar 5) mNil)))))))
noncomputable def d__law_panel : List D → M D := fnD 2 9 m__law_panel
theorem nn__law_panel : NeedN 2 d__law_panel := needN_fnD
noncomputable def c__law_pressed_1 : Rho → M (List D) := lLc (iSeq (mVar 1)) (gN 4) (bAnd (isB (mOp pNotIn (mVar 4) (mOp pIdx (mVar 0) (mVar 2)))) (isB (mOp pNe (mVar 4) (mVar 2)))) (mVar 4) [4]
noncomputable def m__law_pressed : Rho → Sto → Fl := (sSeq (sAsg (gN 3) (mFrz c__law_pressed_1))
  (sRet (mB pTuple (mCons (mFrz (lB pSorted (mCons (mFrz (lOp pCat (mVar 3) (mFrz (lDisp (mCons (mVar 2) mNil))))) mNil))) mNil))))
noncomputable def d__law_pressed : List D → M D := fnD 3 5 m__law_pressed
theorem nn__law_pressed : NeedN 3 d__law_pressed := needN_fnD
noncomputable def c__law_changed_1 : Rho → M (List D) := lLc (iSeq (mOp pIdx (mVar 0) (mVar 1))) (gN 5) (isB (mOp pNe (mVar 5) (mVar 2))) (mVar 5) [5]
noncomputable def m__law_changed : Rho → Sto → Fl := (sSeq (sAsg (gN 4) (mFrz (lOp pCat (mFrz c__law_changed_1) (mFrz (lOp pRepL (mFrz (lDisp (mCons (mVar 2) mNil))) (mB pInt (mCons (mVar 3) mNil)))))))
  (sRet (mOp pAdd (mOp pAdd (mSlT (mVar 0) oNone (oSome (mVar 1))) (mTup (mCons (mB pTuple (mCons (mFrz (lB pSorted (mCons (mVar 4) mNil))) mNil)) mNil))) (mSlT (mVar 0) (oSome (mOp pAdd (mVar 1) (mLit (.int 1)))) oNone))))
noncomputable def d__law_changed : List D → M D := fnD 4 6 m__law_changed
theorem nn__law_changed : NeedN 4 d__law_changed := needN_fnD
noncomputable def m__law_after : Rho → Sto → Fl := (sSeq (sAsg (gL 2 (gsCons (gN 2) (gsCons (gN 3) gsNil))) (mVar 0))
  (sSeq (sIf (isB (mOp pEq (mOp pIdx (mVar 1) (mLit (.int 0))) (mLit (.str ("press" : Str))))) (sRet (mFrz (lDisp (mCons (mVar 2) (mCons (mCall d__law_pressed (mCons (mVar 2) (mCons (mVar 3) (mCons (mOp pIdx (mVar 1) (mLit (.int 1))) mNil)))) mNil))))) sNext)
  (sRet (mFrz (lDisp (mCons (mCall d__law_changed (mCons (mVar 2) (mCons (mOp pIdx (mVar 1) (mLit (.int 1))) (mCons (mOp pIdx (mVar 1) (mLit (.int 2))) (mCons (mOp pEq (mOp pIdx (mVar 1) (mLit (.int 0))) (mLit (.str ("link" : Str)))) mNil))))) (mCons (mVar 3) mNil)))))))
noncomputable def d__law_after : List D → M D := fnD 2 4 m__law_after
theorem nn__law_after : NeedN 2 d__law_after := needN_fnD
noncomputable def m__law_edit : Rho → Sto → Fl := (sSeq (sAsg (gL 2 (gsCons (gN 2) (gsCons (gN 3) gsNil))) (mVar 1))
  (sSeq (sAsg (gN 4) (mB pLen (mCons (mVar 2) mNil)))
  (sSeq (sPar 5 6 (mCons (mCall d__law_draw (mCons (mVar 0) (mCons (mVar 4) mNil))) (mCons (mCall d__law_draw (mCons (mVar 0) (mCons (mVar 4) mNil))) mNil)))
  (sSeq (sIf (bOr (isB (mOp pGt (mCall d__law_draw (mCons (mVar 0) (mCons (mLit (.int 3)) mNil))) (mLit (.int 0)))) (isB (mOp pEq (mVar 5) (mVar 6)))) (sRet (mTup (mCons (mLit (.str ("press" : Str))) (mCons (mVar 5) mNil)))) sNext)
  (sRet (mTup (mCons (mOp pIdx (mFrz (lDisp (mCons (mLit (.str ("link" : Str))) (mCons (mLit (.str ("unlink" : Str))) mNil)))) (mB pInt (mCons (mOp pIn (mVar 6) (mOp pIdx (mVar 2) (mVar 5))) mNil))) (mCons (mVar 5) (mCons (mVar 6) mNil)))))))))
noncomputable def d__law_edit : List D → M D := fnD 2 7 m__law_edit
theorem nn__law_edit : NeedN 2 d__law_edit := needN_fnD
noncomputable def c_press_button_1 : Rho → M (List D) := lLc (iSeq (mVar 1)) (gN 4) (bAnd (isB (mOp pNotIn (mVar 4) (mOp pIdx (mVar 0) (mVar 2)))) (isB (mOp pNe (mVar 4) (mVar 2)))) (mVar 4) [4]
noncomputable def m_press_button : Rho → Sto → Fl := (sSeq (sAsg (gN 3) (mFrz c_press_button_1))
  (sRet (mB pTuple (mCons (mFrz (lB pSorted (mCons (mFrz (lDisp (mStar (mVar 3) (mCons (mVar 2) mNil)))) mNil))) mNil))))
noncomputable def d_press_button : List D → M D := fnD 3 5 m_press_button
theorem nn_press_button : NeedN 3 d_press_button := needN_fnD
noncomputable def l_require_buttons_1 : Rho → Sto → Fl := (sIf (bNot (mTru (mCall d_is_within (mCons (mVar 2) (mCons (mLit (.int 0)) (mCons (mOp pSub (mB pLen (mCons (mVar 0) mNil)) (mLit (.int 1))) mNil)))))) sNever sNext)
noncomputable def m_require_buttons : Rho → Sto → Fl := (sFor (iSeq (mVar 1)) (gN 2) l_require_buttons_1)
noncomputable def d_require_buttons : List D → M D := fnD 2 3 m_require_buttons
theorem nn_require_buttons : NeedN 2 d_require_buttons := needN_fnD
noncomputable def m_with_list : Rho → Sto → Fl := (sRet (mTup (mStar (mSlT (mVar 0) oNone (oSome (mVar 1))) (mCons (mB pTuple (mCons (mFrz (lB pSorted (mCons (mVar 2) mNil))) mNil)) (mStar (mSlT (mVar 0) (oSome (mOp pAdd (mVar 1) (mLit (.int 1)))) oNone) mNil)))))
noncomputable def d_with_list : List D → M D := fnD 3 3 m_with_list
theorem nn_with_list : NeedN 3 d_with_list := needN_fnD
noncomputable def c_linked_1 : Rho → M (List D) := lLc (iSeq (mOp pIdx (mVar 0) (mVar 1))) (gN 3) (isB (mOp pNe (mVar 3) (mVar 2))) (mVar 3) [3]
noncomputable def m_linked : Rho → Sto → Fl := (sRet (mCall d_with_list (mCons (mVar 0) (mCons (mVar 1) (mCons (mFrz (lDisp (mStar (mFrz c_linked_1) (mCons (mVar 2) mNil)))) mNil)))))
noncomputable def d_linked : List D → M D := fnD 3 4 m_linked
theorem nn_linked : NeedN 3 d_linked := needN_fnD
noncomputable def c_unlinked_1 : Rho → M (List D) := lLc (iSeq (mOp pIdx (mVar 0) (mVar 1))) (gN 3) (isB (mOp pNe (mVar 3) (mVar 2))) (mVar 3) [3]
noncomputable def m_unlinked : Rho → Sto → Fl := (sRet (mCall d_with_list (mCons (mVar 0) (mCons (mVar 1) (mCons (mFrz c_unlinked_1) mNil)))))
noncomputable def d_unlinked : List D → M D := fnD 3 4 m_unlinked
theorem nn_unlinked : NeedN 3 d_unlinked := needN_fnD
noncomputable def m_changed : Rho → Sto → Fl := (sSeq (sDrop (mCall (varN 1 d_require_buttons) (mCons (mVar 0) (mCons (mVar 2) (mCons (mVar 3) mNil)))))
  (sSeq (sIf (isB (mOp pEq (mVar 2) (mVar 3))) sNever sNext)
  (sSeq (sAsg (gN 4) (mIf (isB (mOp pEq (mVar 1) (mLit (.str ("link" : Str))))) (mCall d_linked (mCons (mVar 0) (mCons (mVar 2) (mCons (mVar 3) mNil)))) (mCall d_unlinked (mCons (mVar 0) (mCons (mVar 2) (mCons (mVar 3) mNil))))))
  (sSeq (sIf (isB (mOp pEq (mVar 4) (mVar 0))) (sRaise "NoChange") sNext)
  (sRet (mVar 4))))))
noncomputable def d_changed : List D → M D := fnD 4 5 m_changed
theorem nn_changed : NeedN 4 d_changed := needN_fnD
noncomputable def m_Desk_state_after : Rho → Sto → Fl := (sSeq (sAsg (gT 2 (gsCons (gN 2) (gsCons (gN 3) gsNil))) (mOp pIdx (mFldA ["Desk", "GuessDesk"] "states" (mVar 0)) (mUn pNeg (mLit (.int 1)))))
  (sSeq (sAsg (gS 1 (gsCons (gN 4) (gsCons (gN 5) gsNil))) (mVar 1))
  (sMatch2 (mVar 4) ("press" : Str) (sSeq (sDrop (mCall (varN 1 d_require_buttons) (mCons (mVar 2) (mStar (mVar 5) mNil))))
    (sRet (mTup (mCons (mVar 2) (mCons (mCall d_press_button (mCons (mVar 2) (mCons (mVar 3) (mStar (mVar 5) mNil)))) mNil))))) (sRet (mTup (mCons (mCall d_changed (mCons (mVar 2) (mCons (mVar 4) (mStar (mVar 5) mNil)))) (mCons (mVar 3) mNil)))))))
noncomputable def d_Desk_state_after : List D → M D := fnD 2 6 m_Desk_state_after
theorem nn_Desk_state_after : NeedN 2 d_Desk_state_after := needN_fnD
noncomputable def m_Desk_perform : Rho → Sto → Fl := (sSeq (sIf (isB (mOp pGe (mB pLen (mCons (mFldA ["Desk", "GuessDesk"] "standing" (mVar 0)) mNil)) (mLit (.int 60)))) (sRaise "TooManyEdits") sNext)
  (sSeq (sDrop (mMeth "list" pAppend (mFldA ["Desk", "GuessDesk"] "states" (mVar 0)) (mCons (mMethA "state_after" [("Desk", d_Desk_state_after), ("GuessDesk", d_Desk_state_after)] (mVar 0) (mCons (mVar 1) mNil)) mNil)))
  (sSeq (sDrop (mMeth "list" pAppend (mFldA ["Desk", "GuessDesk"] "standing" (mVar 0)) (mCons (mVar 1) mNil)))
  (sRet (mB pLen (mCons (mFldA ["Desk", "GuessDesk"] "standing" (mVar 0)) mNil))))))
noncomputable def d_Desk_perform : List D → M D := fnD 2 2 m_Desk_perform
theorem nn_Desk_perform : NeedN 2 d_Desk_perform := needN_fnD
noncomputable def m_Desk_press : Rho → Sto → Fl := (sSeq (sDrop (mMethA "require_idle" [("Desk", d_Desk_require_idle), ("GuessDesk", d_Desk_require_idle)] (mVar 0) mNil))
  (sRet (mMethA "perform" [("Desk", d_Desk_perform), ("GuessDesk", d_Desk_perform)] (mVar 0) (mCons (mTup (mCons (mLit (.str ("press" : Str))) (mCons (mVar 1) mNil))) mNil))))
noncomputable def d_Desk_press : List D → M D := fnD 2 2 m_Desk_press
theorem nn_Desk_press : NeedN 2 d_Desk_press := needN_fnD
noncomputable def m_Desk_link : Rho → Sto → Fl := (sSeq (sDrop (mMethA "require_idle" [("Desk", d_Desk_require_idle), ("GuessDesk", d_Desk_require_idle)] (mVar 0) mNil))
  (sRet (mMethA "perform" [("Desk", d_Desk_perform), ("GuessDesk", d_Desk_perform)] (mVar 0) (mCons (mTup (mCons (mLit (.str ("link" : Str))) (mCons (mVar 1) (mCons (mVar 2) mNil)))) mNil))))
noncomputable def d_Desk_link : List D → M D := fnD 3 3 m_Desk_link
theorem nn_Desk_link : NeedN 3 d_Desk_link := needN_fnD
noncomputable def m_Desk_unlink : Rho → Sto → Fl := (sSeq (sDrop (mMethA "require_idle" [("Desk", d_Desk_require_idle), ("GuessDesk", d_Desk_require_idle)] (mVar 0) mNil))
  (sRet (mMethA "perform" [("Desk", d_Desk_perform), ("GuessDesk", d_Desk_perform)] (mVar 0) (mCons (mTup (mCons (mLit (.str ("unlink" : Str))) (mCons (mVar 1) (mCons (mVar 2) mNil)))) mNil))))
noncomputable def d_Desk_unlink : List D → M D := fnD 3 3 m_Desk_unlink
theorem nn_Desk_unlink : NeedN 3 d_Desk_unlink := needN_fnD
noncomputable def m__law_do : Rho → Sto → Fl := (sSeq (sIf (isB (mOp pEq (mOp pIdx (mVar 1) (mLit (.int 0))) (mLit (.str ("press" : Str))))) (sRet (mMethA "press" [("GuessDesk", d_Desk_press)] (mVar 0) (mCons (mOp pIdx (mVar 1) (mLit (.int 1))) mNil))) sNext)
  (sSeq (sIf (isB (mOp pEq (mOp pIdx (mVar 1) (mLit (.int 0))) (mLit (.str ("link" : Str))))) (sRet (mMethA "link" [("GuessDesk", d_Desk_link)] (mVar 0) (mCons (mOp pIdx (mVar 1) (mLit (.int 1))) (mCons (mOp pIdx (mVar 1) (mLit (.int 2))) mNil)))) sNext)
  (sRet (mMethA "unlink" [("GuessDesk", d_Desk_unlink)] (mVar 0) (mCons (mOp pIdx (mVar 1) (mLit (.int 1))) (mCons (mOp pIdx (mVar 1) (mLit (.int 2))) mNil))))))
noncomputable def d__law_do : List D → M D := fnD 2 2 m__law_do
theorem nn__law_do : NeedN 2 d__law_do := needN_fnD
noncomputable def c__law_states_1 : Rho → M (List D) := lLc (iSeq (mVar 1)) (gN 3) bYes (mOp pAdd (mVar 3) (mTup (mCons (mVar 2) mNil))) [3]
noncomputable def l__law_states_1 : Rho → Sto → Fl := (sAsg (gN 1) (mFrz (lOp pCat (mVar 1) (mFrz c__law_states_1))))
noncomputable def m__law_states : Rho → Sto → Fl := (sSeq (sAsg (gN 1) (mFrz (lDisp (mCons (mTup mNil) mNil))))
  (sSeq (sFor (iRng1D (mVar 0)) (gN 2) l__law_states_1)
  (sRet (mVar 1))))
noncomputable def d__law_states : List D → M D := fnD 1 4 m__law_states
theorem nn__law_states : NeedN 1 d__law_states := needN_fnD
noncomputable def m_Desk_latched : Rho → Sto → Fl := (sRet (mOp pIdx (mOp pIdx (mFldA ["Desk", "GuessDesk"] "states" (mVar 0)) (mUn pNeg (mLit (.int 1)))) (mLit (.int 1))))
noncomputable def d_Desk_latched : List D → M D := fnD 1 1 m_Desk_latched
theorem nn_Desk_latched : NeedN 1 d_Desk_latched := needN_fnD
noncomputable def m_Desk___eq__ : Rho → Sto → Fl := (sRet (mAndV (mIsiO [("GuessDesk", true)] (mVar 1)) (mOp pEq (mOp pIdx (mFldA ["Desk", "GuessDesk"] "states" (mVar 0)) (mUn pNeg (mLit (.int 1)))) (mOp pIdx (mFldA ["GuessDesk"] "states" (mVar 1)) (mUn pNeg (mLit (.int 1)))))))
noncomputable def d_Desk___eq__ : List D → M D := fnD 2 2 m_Desk___eq__
theorem nn_Desk___eq__ : NeedN 2 d_Desk___eq__ := needN_fnD
noncomputable def c_known_after_1 : Rho → M (List D) := lLc (iEnumD (mVar 0)) (gT 2 (gsCons (gN 3) (gsCons (gN 4) gsNil))) bYes (mIf (isB (mOp pEq (mVar 3) (mVar 2))) (mLit (.str ("on" : Str))) (mIf (isB (mOp pIn (mVar 3) (mOp pIdx (mVar 1) (mVar 2)))) (mLit (.str ("off" : Str))) (mVar 4))) [3, 4]
noncomputable def m_known_after : Rho → Sto → Fl := (sRet (mB pTuple (mCons (mFrz c_known_after_1) mNil)))
noncomputable def d_known_after : List D → M D := fnD 3 5 m_known_after
theorem nn_known_after : NeedN 3 d_known_after := needN_fnD
noncomputable def l_GuessDesk_known_1 : Rho → Sto → Fl := (sIf (isB (mOp pEq (mOp pIdx (mVar 3) (mLit (.int 0))) (mLit (.str ("press" : Str))))) (sAsg (gN 1) (mCall d_known_after (mCons (mVar 1) (mCons (mOp pIdx (mOp pIdx (mFldA ["GuessDesk"] "states" (mVar 0)) (mVar 2)) (mLit (.int 0))) (mCons (mOp pIdx (mVar 3) (mLit (.int 1))) mNil))))) sNext)
noncomputable def m_GuessDesk_known : Rho → Sto → Fl := (sSeq (sAsg (gN 1) (mFldA ["GuessDesk"] "told" (mVar 0)))
  (sSeq (sFor (iEnumD (mFldA ["GuessDesk"] "standing" (mVar 0))) (gT 2 (gsCons (gN 2) (gsCons (gN 3) gsNil))) l_GuessDesk_known_1)
  (sRet (mVar 1))))
noncomputable def d_GuessDesk_known : List D → M D := fnD 1 4 m_GuessDesk_known
theorem nn_GuessDesk_known : NeedN 1 d_GuessDesk_known := needN_fnD
noncomputable def c__law_known_right_1 : Rho → M (List D) := lLc (iSeq (mVar 0)) (gN 4) (isB (mOp pNe (mPropA [("GuessDesk", d_GuessDesk_known)] (mVar 4)) (mVar 3))) (mVar 4) [4]
noncomputable def c__law_known_right_2 : Rho → M (List D) := lLc (iSeq (mVar 0)) (gN 4) bYes (mOp pIn (mVar 5) (mPropA [("GuessDesk", d_Desk_latched)] (mVar 4))) [4]
noncomputable def c__law_known_right_3 : Rho → M (List D) := lLc (iSeq (mVar 1)) (gN 8) bYes (mOp pIn (mVar 5) (mVar 8)) [8]
noncomputable def l__law_known_right_1 : Rho → Sto → Fl := (sSeq (sAsg (gN 6) (mFrz c__law_known_right_2))
    (sSeq (sAsg (gN 7) (mLit (.str ("same" : Str))))
    (sSeq (sIf (isB (mOp pNotIn (mLit (.bl false)) (mVar 6))) (sAsg (gN 7) (mLit (.str ("on" : Str)))) (sIf (isB (mOp pNotIn (mLit (.bl true)) (mVar 6))) (sAsg (gN 7) (mLit (.str ("off" : Str)))) (sIf (isB (mOp pNe (mVar 6) (mFrz c__law_known_right_3))) (sRet (mLit (.bl false))) sNext)))
    (sIf (isB (mOp pNe (mOp pIdx (mVar 3) (mVar 5)) (mVar 7))) (sRet (mLit (.bl false))) sNext))))
noncomputable def c__law_known_right_4 : Rho → M (List D) := lLc (iSeq (mVar 0)) (gN 4) (bNot (isB (mEqA [("GuessDesk", d_Desk___eq__)] [] (mVar 4) (mOp pIdx (mVar 0) (mLit (.int 0)))))) (mVar 4) [4]
noncomputable def m__law_known_right : Rho → Sto → Fl := (sSeq (sAsg (gN 3) (mPropA [("GuessDesk", d_GuessDesk_known)] (mOp pIdx (mVar 0) (mLit (.int 0)))))
  (sSeq (sIf (isB (mOp pNeR (mFrz c__law_known_right_1) (mFrz (lDisp mNil)))) (sRet (mLit (.bl false))) sNext)
  (sSeq (sFor (iRng1D (mVar 2)) (gN 5) l__law_known_right_1)
  (sRet (mOrV (mOp pIn (mLit (.str ("same" : Str))) (mVar 3)) (mOp pEqE (mFrz c__law_known_right_4) (mFrz (lDisp mNil))))))))
noncomputable def d__law_known_right : List D → M D := fnD 3 9 m__law_known_right
theorem nn__law_known_right : NeedN 3 d__law_known_right := needN_fnD
noncomputable def c_law_1 : Rho → M (List D) := lLc (iSeq (mVar 4)) (gN 7) bYes (mCall (dMkM0 "GuessDesk" d_GuessDesk___init__) (mCons (mVar 2) (mCons (mVar 7) mNil))) [7]
noncomputable def c_law_2 : Rho → M (List D) := lLc (iSeq (mVar 6)) (gN 9) (isB (mOp pNe (mMethA "undo" [("GuessDesk", d_Desk_undo)] (mVar 9) mNil) (mOp pSub (mB pLen (mCons (mVar 5) mNil)) (mLit (.int 1))))) (mVar 9) [9]
noncomputable def c_law_3 : Rho → M (List D) := lLc (iSeq (mVar 6)) (gN 9) (isB (mOp pNe (mCall d__law_do (mCons (mVar 9) (mCons (mVar 10) mNil))) (mOp pSub (mB pLen (mCons (mVar 5) mNil)) (mLit (.int 1))))) (mVar 9) [9]
noncomputable def l_law_1 : Rho → Sto → Fl := (sSeq (sIf (bAnd (isB (mOp pEq (mCall d__law_draw (mCons (mVar 1) (mCons (mLit (.int 4)) mNil))) (mLit (.int 0)))) (isB (mOp pGt (mB pLen (mCons (mVar 5) mNil)) (mLit (.int 1))))) (sSeq (sDrop (mMeth "list" pPop (mVar 5) mNil))
      (sIf (isB (mOp pNeR (mFrz c_law_2) (mFrz (lDisp mNil)))) (sRet (mLit (.bl false))) sNext)) (sSeq (sAsg (gN 10) (mCall d__law_edit (mCons (mVar 1) (mCons (mOp pIdx (mVar 5) (mUn pNeg (mLit (.int 1)))) mNil))))
      (sSeq (sDrop (mMeth "list" pAppend (mVar 5) (mCons (mCall d__law_after (mCons (mOp pIdx (mVar 5) (mUn pNeg (mLit (.int 1)))) (mCons (mVar 10) mNil))) mNil)))
      (sIf (isB (mOp pNeR (mFrz c_law_3) (mFrz (lDisp mNil)))) (sRet (mLit (.bl false))) sNext))))
    (sIf (bNot (mTru (mCall d__law_known_right (mCons (mVar 6) (mCons (mVar 4) (mCons (mVar 3) mNil)))))) (sRet (mLit (.bl false))) sNext))
noncomputable def rest_law_1 : Rho → Sto → Fl := (sSeq (sAsg (gN 2) (mCall d__law_panel (mCons (mVar 1) (mCons (mLit (.int 5)) mNil))))
  (sSeq (sAsg (gN 3) (mB pLen (mCons (mVar 2) mNil)))
  (sSeq (sAsg (gT 2 (gsCons (gN 4) (gsCons (gN 5) gsNil))) (mTup (mCons (mCall d__law_states (mCons (mVar 3) mNil)) (mCons (mNew (lDisp (mCons (mFrz (lDisp (mCons (mVar 2) (mCons (mTup mNil) mNil)))) mNil))) mNil))))
  (sSeq (sAsg (gN 6) (mFrz c_law_1))
  (sSeq (sFor (iRng1D (mOp pAdd (mLit (.int 1)) (mCall d__law_draw (mCons (mVar 1) (mCons (mLit (.int 12)) mNil))))) (gN 8) l_law_1)
  (sRet (mLit (.bl true))))))))
noncomputable def m_law : Rho → Sto → Fl := (sSeq (sAsg (gN 1) (mCall d__law_deck (mCons (mVar 0) mNil))) rest_law_1)
noncomputable def d_law : List D → M D := fnD 1 11 m_law
theorem nn_law : NeedN 1 d_law := needN_fnD

/-! ### the deck -/
def dk (cells : List Int) (k : Nat) (rest : Sto) : Sto := .lst (cells.map .int) :: .lst [.ref 0, nI k] :: rest
def Good (cells : List Int) : Prop := ∀ z ∈ cells, 0 ≤ z
theorem good_set {cells : List Int} (g : Good cells) {j : Nat} {z : Int} (h : 0 ≤ z) : Good (cells.set j z) := fun y hy => by
  rcases List.mem_or_eq_of_mem_set hy with q | q
  · exact g y q
  · rw [q]; exact h
theorem mix_ok (c : Int) (k m : Nat) (h0 : 0 ≤ c) (hk : k ≤ 1000000001) (hm : 1 ≤ m) : ∃ z : Nat, z < m ∧
    (c % 2147483587 + 7919 * (k : Int) + 1) ^ 5 % 2147483647 % (m : Int) = (z : Int) ∧ 0 ≤ c % 2147483587 + 7919 * (k : Int) + 1 ∧ c % 2147483587 + 7919 * (k : Int) + 1 < 18446744073709551616 := by
  have e1 : 0 ≤ c % 2147483587 := Int.emod_nonneg _ (by decide)
  have e2 : c % 2147483587 < 2147483587 := Int.emod_lt_of_pos _ (by decide)
  have e3 : 0 ≤ (c % 2147483587 + 7919 * (k : Int) + 1) ^ 5 % 2147483647 % (m : Int) := Int.emod_nonneg _ (by omega)
  have e4 : (c % 2147483587 + 7919 * (k : Int) + 1) ^ 5 % 2147483647 % (m : Int) < m := Int.emod_lt_of_pos _ (by omega)
  exact ⟨((c % 2147483587 + 7919 * (k : Int) + 1) ^ 5 % 2147483647 % (m : Int)).toNat, by omega, by omega, by omega, by omega⟩
section
variable (c : List Int) (k : Nat) (r : Sto)
theorem dk_idx1 : pIdx (dk c k r) (.ref 1) (.int 1) = some (.int (k : Int)) := by rw [pIdx_ref (xs := [.ref 0, nI k]) rfl] <;> rfl
theorem dk_idx0 : pIdx (dk c k r) (.ref 1) (.int 0) = some (.ref 0) := by rw [pIdx_ref (xs := [.ref 0, nI k]) rfl] <;> rfl
theorem dk_len : pLen (dk c k r) [.ref 0] = some (.int (c.length : Int)) := by rw [pLen_ref (xs := c.map .int) rfl, List.length_map]
theorem dk_cell {j : Nat} (h : j < c.length) : pIdx (dk c k r) (.ref 0) (.int (j : Int)) = some (.int c[j]) := by
  rw [pIdx_ref (xs := c.map .int) rfl, atI_cast, List.getElem?_map, List.getElem?_eq_getElem h] <;> rfl
theorem dk_put (ρ : Rho) : gSubD (mVar 0) (mLit (.int 1)) (.int ((k : Int) + 1)) (some (.ref 1) :: ρ) (dk c k r) = .ok (some (.ref 1) :: ρ) (dk c (k + 1) r) := by
  rw [gSubD_ref (l := 1) (j := 1) (xs := [.ref 0, nI k]) rfl rfl rfl rfl] <;> rfl
theorem dk_set {j : Nat} {z : Int} {a b : Option D} (h : j < c.length) : gSubD (mOp pIdx (mVar 0) (mLit (.int 0))) (mVar 3) (.int z) [some (.ref 1), a, b, some (.int (j : Int))] (dk c k r) = .ok [some (.ref 1), a, b, some (.int (j : Int))] (dk (c.set j z) k r) := by
  rw [gSubD_ref (l := 0) (j := j) (xs := c.map .int) (s1 := dk c k r) (s2 := dk c k r) (k := (j : Int)) (by simp only [mOp_ap, mVar_ap, mLit_ap, List.getElem?_cons_zero, Out.bind_ok, dk_idx0, lift_some]) rfl rfl ?_]
  · show Out.ok _ _ = Out.ok _ _
    unfold dk
    rw [List.map_set]
    rfl
  · rw [List.length_map]
    unfold ixN
    rw [if_pos (by omega), if_pos (by omega), Int.toNat_natCast]
end
theorem draw_ok {cells : List Int} {k m : Nat} (g : Good cells) (hk : k ≤ 1000000000) (h1 : 1 ≤ m) (h2 : m < 1073741824) :
    ∃ z cells', z < m ∧ Good cells' ∧ cells'.length = cells.length ∧ ∀ rest, d__law_draw [.ref 1, nI m] (dk cells k rest) = .ok (nI z) (dk cells' (k + 1) rest) := by
  have hm : (0 : Int) < (m : Int) := by omega
  have hm2 : (m : Int) < 1073741824 := by omega
  have hu : ∀ z cells' rest, m__law_draw [some (.ref 1), some (nI m), none, none] (dk cells k rest) = .ret (nI z) (dk cells' (k + 1) rest) → d__law_draw [.ref 1, nI m] (dk cells k rest) = .ok (nI z) (dk cells' (k + 1) rest) := fun z c2 rest e => by
    show clean _ (flOut (m__law_draw [some (.ref 1), some (nI m), none, none] (dk cells k rest))) = _
    rw [e, flOut_ret]
    exact clean_same rfl
  have p18 : ∀ s : Sto, pPow s (.int 10) (.int 18) = some (.int 1000000000000000000) := fun s => by rw [pPow_int _ _ _ (by decide)] <;> rfl
  have q2 : ∀ s : Sto, pMul s (.int 7919) (.int ((k : Int) + 1)) = some (.int (7919 * ((k : Int) + 1))) := fun s => pMul_int _ _ _ (.inl (by decide))
  have q4 : ∀ (s : Sto) (x : Int), pMod s (.int x) (.int 2147483647) = some (.int (x % 2147483647)) := fun s x => pMod_int _ _ _ (by decide)
  have e' : ((k + 1 : Nat) : Int) = (k : Int) + 1 := by omega
  have q1 : ∀ (s : Sto) (c : Int), pMod s (.int c) (.int 2147483587) = some (.int (c % 2147483587)) := fun s c => pMod_int _ _ _ (by decide)
  by_cases h0 : cells.length = 0
  · -- no cells
    obtain rfl : cells = [] := List.length_eq_zero_iff.mp h0
    obtain ⟨z, hz, e, b1, b2⟩ := mix_ok 0 (k + 1) m (by decide) (by omega) h1
    refine ⟨z, [], hz, fun y hy => (nomatch hy), rfl, fun rest => hu z [] rest ?_⟩
    rw [e'] at e b1 b2
    have q1' : ∀ s : Sto, pMod s (.int 0) (.int 2147483587) = some (.int (0 % 2147483587)) := fun s => q1 s 0
    have q3 : ∀ s : Sto, pPow s (.int (0 % 2147483587 + 7919 * ((k : Int) + 1) + 1)) (.int 5) = some (.int ((0 % 2147483587 + 7919 * ((k : Int) + 1) + 1) ^ 5)) := fun s => by rw [pPow_int _ _ _ ⟨by decide, by decide, by omega⟩] <;> rfl
    have q7 : ∀ s : Sto, pMod s (.int ((0 % 2147483587 + 7919 * ((k : Int) + 1) + 1) ^ 5 % 2147483647)) (nI m) = some (nI z) := fun s => by unfold nI; rw [pMod_int _ _ _ hm, e]
    have z0 : (0 : Int) % 2147483587 = 0 := by decide
    rw [z0] at q1' q3 q7
    unfold m__law_draw
    simp only [Int.zero_add] at q3 q7
    simp [mVar_ap, dk_idx1, dk_idx0, dk_len, dk_put, p18, q1', q2, q3, q4, q7, -Int.zero_add]
    simp [q3, q4, q7]
  · obtain ⟨j, ej⟩ : ∃ j, (k + 1) % cells.length = j := ⟨_, rfl⟩
    have hj : j < cells.length := by rw [← ej]; exact Nat.mod_lt _ (by omega)
    have hc := g cells[j] (List.getElem_mem hj)
    have hl : (0 : Int) < (cells.length : Int) := by omega
    have hl0 : 0 < cells.length := by omega
    have em : ∀ s : Sto, pMod s (.int ((k : Int) + 1)) (.int (cells.length : Int)) = some (.int (j : Int)) := fun s => by
      rw [pMod_int _ _ _ hl]
      have : ((k : Int) + 1) % (cells.length : Int) = (j : Int) := by rw [← ej]; simp
      rw [this]
    by_cases hb : (1000000000000000000 : Int) ≤ cells[j]
    · obtain ⟨z, ez⟩ : ∃ z : Nat, cells[j] % (m : Int) = z := ⟨(cells[j] % (m : Int)).toNat, by have := Int.emod_nonneg cells[j] (Int.ne_of_gt hm); omega⟩
      have hz : z < m := by have := Int.emod_lt_of_pos cells[j] hm; omega
      refine ⟨z, cells.set j (cells[j] / (m : Int)), hz, good_set g (Int.ediv_nonneg hc (by omega)), List.length_set, fun rest => hu z _ rest ?_⟩
      have dv : ∀ s : Sto, pDiv s (.int cells[j]) (nI m) = some (.int (cells[j] / (m : Int))) := fun s => pDiv_int _ _ _ ⟨hm, hm2⟩
      have md : ∀ s : Sto, pMod s (.int cells[j]) (nI m) = some (nI z) := fun s => by unfold nI; rw [pMod_int _ _ _ hm, ez]
      unfold m__law_draw
      simp [mVar_ap, dk_idx1, dk_idx0, dk_len, dk_put, p18, em, dk_cell _ _ _ hj, hb, dv, md, dk_set _ _ _ hj, hl0]
    · obtain ⟨c, ec⟩ : ∃ c : Int, cells[j] = c := ⟨_, rfl⟩
      rw [ec] at hc hb
      obtain ⟨z, hz, e, b1, b2⟩ := mix_ok c (k + 1) m hc (by omega) h1
      refine ⟨z, cells, hz, g, rfl, fun rest => hu z _ rest ?_⟩
      rw [e'] at e b1 b2
      have hcell : ∀ (k : Nat) (rest : Sto), pIdx (dk cells k rest) (.ref 0) (.int (j : Int)) = some (.int c) := fun k rest => by rw [dk_cell cells k rest hj, ec]
      have q3 : ∀ s : Sto, pPow s (.int (c % 2147483587 + 7919 * ((k : Int) + 1) + 1)) (.int 5) = some (.int ((c % 2147483587 + 7919 * ((k : Int) + 1) + 1) ^ 5)) := fun s => by rw [pPow_int _ _ _ ⟨by decide, by decide, by omega⟩] <;> rfl
      have q7 : ∀ s : Sto, pMod s (.int ((c % 2147483587 + 7919 * ((k : Int) + 1) + 1) ^ 5 % 2147483647)) (nI m) = some (nI z) := fun s => by unfold nI; rw [pMod_int _ _ _ hm, e]
      unfold m__law_draw
      simp [mVar_ap, dk_idx1, dk_idx0, dk_len, dk_put, p18, em, hcell, hb, hl0, q1, q2, q3, q4, q7]
theorem cutD_map {α β : Type} (f : α → β) (xs : List α) (lo hi : Option Int) : Dn.cutD (xs.map f) lo hi = (Dn.cutD xs lo hi).map f := by
  unfold Dn.cutD
  rw [List.length_map, List.map_take, List.map_drop]
theorem cutD_len {α : Type} (xs : List α) (lo hi : Option Int) : (Dn.cutD xs lo hi).length ≤ xs.length := by
  unfold Dn.cutD
  rw [List.length_take, List.length_drop]
  omega
theorem deck_ok (ns : List Int) (h : ns.length ≤ 63) : ∃ cells, Good cells ∧ cells.length ≤ 63 ∧ d__law_deck [.scr (ns.map .int)] [] = .ok (.ref 1) (dk cells 0 []) := by
  obtain ⟨ms, em⟩ : ∃ ms, Dn.cutD ns none (some 63) = ms := ⟨_, rfl⟩
  have hl : ms.length ≤ 63 := by rw [← em]; exact Nat.le_trans (cutD_len _ _ _) h
  refine ⟨ms.map fun i => if i < 0 then -i else i, fun z hz => ?_, by rw [List.length_map]; exact hl, ?_⟩
  · obtain ⟨i, _, rfl⟩ := List.mem_map.mp hz
    split <;> omega
  have key : lcL [] (lcF (gN 1) bYes (mB pAbs (mCons (mVar 1) mNil)) (wipeD [some (.scr (ns.map .int)), none] [1])) (ms.map .int) [] = .ok (((ms.map fun i => if i < 0 then -i else i)).map .int) [] := by
    rw [lcL_pure (g := fun d => match d with | .int i => some (.int (if i < 0 then -i else i)) | _ => none) (by simp)]
    · congr 1
      clear em hl
      induction ms with
      | nil => rfl
      | cons a ms ih => rw [List.map_cons, List.filterMap_cons, ih] <;> rfl
    · intro d hd
      obtain ⟨i, _, rfl⟩ := List.mem_map.mp hd
      simp [lcF, wipeD, mVar_ap, pAbs]
  have hs : iSeq (mFrz (lSlL (mVar 0) oNone (oSome (mLit (.int 63))))) [some (.scr (ns.map .int)), none] [] = .ok ⟨ms.map .int, []⟩ [] := by
    simp [iSeq_ap, mFrz_ap, lSlL, mVar_ap, oSome, cutD_map, em]
  show clean [] (flOut (m__law_deck [some (.scr (ns.map .int)), none] [])) = _
  have hm : m__law_deck [some (.scr (ns.map .int)), none] [] = .ret (.ref 1) (dk (ms.map fun i => if i < 0 then -i else i) 0 []) := by
    unfold m__law_deck c__law_deck_1
    simp only [sRet_ap, mNew_ap, lDisp_ap, mCons_ap, mNil_ap, lLc_ap, hs, Out.bind_ok]
    rw [if_pos (by simp; omega), key]
    simp [dk, nI]
  rw [hm, flOut_ret]
  unfold clean
  dsimp only
  rw [if_neg]
  rintro ⟨h1, _⟩
  simp [D.low] at h1
/-! ### the drawn numbers, and instances, as a world -/
def Dk : Type := { x : List Int × Nat // Good x.1 ∧ x.1.length ≤ 63 }
def RDk : DkR Dk where
  d0 s := .lst (s.1.1.map .int)
  d1 s := .lst [.ref 0, nI s.1.2]
  n0 _ := rfl
  n1 _ := rfl
abbrev ST := OS Dk
def _root_.Dn.OS.k (s : ST) : Nat := s.dk.1.2
theorem dk_of {s : ST} {st : Sto} (h : HasO RDk s st) : st = dk s.dk.1.1 s.dk.1.2 (st.drop 2) := by
  match st, h.a0, h.a1 with
  | a :: b :: r, h0, h1 =>
    obtain rfl := Option.some.inj h0
    obtain rfl := Option.some.inj h1
    rfl
theorem has_dk {s : ST} {c : List Int} {k : Nat} {d : Dk} {r : Sto} (h : HasO RDk s (dk c k r)) : HasO RDk ⟨d, s.m⟩ (dk d.1.1 d.1.2 r) := by
  have get : ∀ l (m : MO), 2 ≤ l → ((dk c k r)[l]? = some m ↔ (dk d.1.1 d.1.2 r)[l]? = some m) := fun l m hl => by
    match l, hl with
    | l + 2, _ => exact Iff.rfl
  have ins : ∀ (l : Nat) (n : Str) (fs : List (Str × D)), (dk d.1.1 d.1.2 r)[l]? = some (MO.ins n fs) ↔ (dk c k r)[l]? = some (MO.ins n fs) := fun l n fs => by
    match l with
    | 0 => exact ⟨fun h => (nomatch Option.some.inj h), fun h => (nomatch Option.some.inj h)⟩
    | 1 => exact ⟨fun h => (nomatch Option.some.inj h), fun h => (nomatch Option.some.inj h)⟩
    | l + 2 => exact Iff.rfl
  refine ⟨rfl, rfl, fun l o e => ?_, fun l n fs e => h.ins l n fs ((ins _ _ _).mp e), fun k' n fs f l e i => ?_⟩
  · obtain ⟨a, b, o'⟩ := h.at_ l o e
    refine ⟨a, (get l _ a).mp b, ?_⟩
    rcases o' with q | ⟨n, fs, q⟩ | ⟨k', n, fs, f, q, i⟩
    · exact .inl q
    · exact .inr (.inl ⟨n, fs, (ins _ _ _).mpr q⟩)
    · exact .inr (.inr ⟨k', n, fs, f, (ins _ _ _).mpr q, i⟩)
  · exact h.ref k' n fs f l ((ins _ _ _).mp e) i
open Classical in
noncomputable def draw (m : Int) : Mt ST Int := fun s => if h : ∃ z d', (0 ≤ z ∧ z < m ∧ d'.1.2 = s.k + 1) ∧ ∀ r, d__law_draw [.ref 1, eI m] (dk s.dk.1.1 s.dk.1.2 r) = .ok (eI z) (dk (d' : Dk).1.1 d'.1.2 r) then .ok h.choose ⟨h.choose_spec.choose, s.m⟩ else .bad
theorem fn_draw (m : Int) : FN (WO RDk) d__law_draw [.ref 1, eI m] (draw m) eI := fun st s hs => by
  have hs : HasO RDk s st := hs
  unfold draw
  split
  · rename_i h
    have e := h.choose_spec.choose_spec.2 (st.drop 2)
    rw [← dk_of hs] at e
    have hd := dk_of hs
    have h2 : HasO RDk s (dk s.dk.1.1 s.dk.1.2 (st.drop 2)) := by rw [← hd]; exact hs
    refine ⟨_, e, has_dk h2, ?_, fun l hl no => ?_⟩
    · have := congrArg List.length hd
      rw [this]
      exact Nat.le_refl _
    · have l2 : 2 ≤ l := by
        by_cases q : 2 ≤ l
        · exact q
        · exact absurd (Or.inl (by omega)) no
      have e2 : st[l]? = (dk h.choose_spec.choose.1.1 h.choose_spec.choose.1.2 (st.drop 2))[l]? := by
        rw [hd]
        match l, l2 with
        | l + 2, _ => rfl
      refine ⟨fun o => no ?_, e2.symm⟩
      have ins : ∀ (k' : Nat) (n : Str) (fs : List (Str × D)), (dk h.choose_spec.choose.1.1 h.choose_spec.choose.1.2 (st.drop 2))[k']? = some (MO.ins n fs) → st[k']? = some (MO.ins n fs) := fun k' n fs q => by
        rw [hd]
        match k', q with
        | 0, q => exact (nomatch Option.some.inj q)
        | 1, q => exact (nomatch Option.some.inj q)
        | k' + 2, q => exact q
      rcases o with q | ⟨n, fs, q⟩ | ⟨k', n, fs, f, q, i⟩
      · exact .inl q
      · exact .inr (.inl ⟨n, fs, ins _ _ _ q⟩)
      · exact .inr (.inr ⟨k', n, fs, f, ins _ _ _ q, i⟩)
  · trivial
theorem draw_run {m : Int} {s : ST} (h1 : 1 ≤ m) (h2 : m < 1073741824) (hk : s.k ≤ 10000000) : ∃ z s', draw m s = .ok z s' ∧ 0 ≤ z ∧ z < m ∧ s'.k = s.k + 1 ∧ s'.m = s.m := by
  have h : ∃ z d', (0 ≤ z ∧ z < m ∧ d'.1.2 = s.k + 1) ∧ ∀ r, d__law_draw [.ref 1, eI m] (dk s.dk.1.1 s.dk.1.2 r) = .ok (eI z) (dk (d' : Dk).1.1 d'.1.2 r) := by
    obtain ⟨⟨⟨c, k⟩, g⟩, hm⟩ := s
    have hk' : k ≤ 10000000 := hk
    have g2 : c.length ≤ 63 := g.2
    obtain ⟨z, e', hz, g', hl', hd⟩ := draw_ok (m := m.toNat) g.1 (by show k ≤ 1000000000; omega) (by omega) (by omega)
    have em : (m.toNat : Int) = m := by omega
    have hl2 : e'.length = c.length := hl'
    refine ⟨z, ⟨(e', k + 1), ⟨g', by show e'.length ≤ 63; omega⟩⟩, ⟨by omega, by omega, rfl⟩, fun r => ?_⟩
    have := hd r
    unfold nI at this
    rw [em] at this
    exact this
  refine ⟨h.choose, ⟨h.choose_spec.choose, s.m⟩, ?_, h.choose_spec.choose_spec.1.1, h.choose_spec.choose_spec.1.2.1, h.choose_spec.choose_spec.1.2.2, rfl⟩
  unfold draw
  rw [dif_pos h]
/-! ### what is drawn: whatever the cells are -/
def Runs {α : Type} (n : Nat) (q : Mt ST α) (Q : α → Prop) : Prop := ∀ s : ST, s.k + n ≤ 10000000 → ∃ a s', q s = .ok a s' ∧ (s'.k ≤ s.k + n ∧ s'.m = s.m) ∧ Q a
section
variable {α β σ : Type}
theorem runs_pure {a : α} {Q : α → Prop} (h : Q a) : Runs 0 (mpure a) Q := fun s _ => ⟨a, s, rfl, ⟨Nat.le_refl _, rfl⟩, h⟩
theorem runs_bind {n m : Nat} {q : Mt ST α} {k : α → Mt ST β} {Q : α → Prop} {R : β → Prop} (h : Runs n q Q) (hk : ∀ a, Q a → Runs m (k a) R) : Runs (n + m) (mbind q k) R := fun s hs => by
  obtain ⟨a, s1, e1, ⟨h1, g1⟩, ha⟩ := h s (by omega)
  obtain ⟨b, s2, e2, ⟨h2, g2⟩, hb⟩ := hk a ha s1 (by omega)
  exact ⟨b, s2, by unfold mbind; rw [e1]; exact e2, ⟨by omega, g2.trans g1⟩, hb⟩
theorem runs_mono {n m : Nat} {q : Mt ST α} {Q R : α → Prop} (h : Runs n q Q) (hn : n ≤ m) (hq : ∀ a, Q a → R a) : Runs m q R := fun s hs => by
  obtain ⟨a, s1, e1, ⟨h1, g1⟩, ha⟩ := h s (by omega)
  exact ⟨a, s1, e1, ⟨by omega, g1⟩, hq a ha⟩
theorem runs_le {n m : Nat} {q : Mt ST α} {Q : α → Prop} (h : Runs n q Q) (hn : n ≤ m) : Runs m q Q := runs_mono h hn fun _ h => h
theorem runs_draw {m : Int} (h1 : 1 ≤ m) (h2 : m < 1073741824) : Runs 1 (draw m) fun z => 0 ≤ z ∧ z < m := fun s hs => by
  obtain ⟨z, s', e, h3, h4, h5, h6⟩ := draw_run h1 h2 (s := s) (by omega)
  exact ⟨z, s', e, ⟨by omega, h6⟩, h3, h4⟩
theorem runs_calm {n : Nat} {q : Mt ST α} {Q : α → Prop} (h : Runs n q Q) : Runs n (calmly q) Q := fun s hs => by
  obtain ⟨a, s1, e1, h1, ha⟩ := h s hs
  exact ⟨a, s1, by unfold calmly; rw [e1] <;> rfl, h1, ha⟩
/-- a loop, its state told by the items behind it -/
theorem runs_forU {c : Nat} {body : α → σ → Mt ST σ} (I : List α → σ → Prop) (xs : List α) (hb : ∀ pre x post z, xs = pre ++ x :: post → I pre z → Runs c (body x z) (I (pre ++ [x]))) :
    ∀ (post pre : List α) (z : σ), xs = pre ++ post → I pre z → Runs (post.length * c) (forU body post z) (I xs)
  | [], pre, z, e, h => by
    rw [List.append_nil] at e
    subst e
    exact runs_le (runs_pure h) (Nat.zero_le _)
  | x :: post, pre, z, e, h => by
    unfold forU
    refine runs_le (runs_bind (hb pre x post z e h) fun z' h' => runs_forU I xs hb post (pre ++ [x]) z' (by rw [e]; simp) h') ?_
    rw [List.length_cons, Nat.succ_mul]
    omega
theorem runs_for {c : Nat} {body : α → σ → Mt ST σ} (I : List α → σ → Prop) {xs : List α} {z : σ} (h : I [] z) (hb : ∀ pre x post z, xs = pre ++ x :: post → I pre z → Runs c (body x z) (I (pre ++ [x]))) : Runs (xs.length * c) (forU body xs z) (I xs) := runs_forU I xs hb xs [] z rfl h
/-- a loop in which nothing returns -/
theorem runs_forX {c : Nat} {body : α → σ → Mt ST (Lp σ β)} (I : σ → Prop) : ∀ (xs : List α) (z : σ), I z → (∀ x ∈ xs, ∀ z, I z → Runs c (body x z) fun r => ∃ z', r = .nx z' ∧ I z') → Runs (xs.length * c) (forX body xs z) fun r => ∃ z', r = .inl z' ∧ I z'
  | [], z, h, _ => runs_le (runs_pure ⟨z, rfl, h⟩) (Nat.zero_le _)
  | x :: xs, z, h, hb => by
    unfold forX
    refine runs_le (runs_bind (m := xs.length * c) (hb x (by simp) z h) ?_) ?_
    · rintro r ⟨z', rfl, h'⟩
      exact runs_forX I xs z' h' fun y hy => hb y (by simp [hy])
    · rw [List.length_cons, Nat.succ_mul]
      omega
theorem runs_mapT {c : Nat} {f : α → Mt ST β} (P : α → β → Prop) : ∀ (xs : List α), (∀ x ∈ xs, Runs c (f x) (P x)) → Runs (xs.length * c) (mapT f xs) fun ys => ys.length = xs.length ∧ ∀ y ∈ ys, ∃ x ∈ xs, P x y
  | [], _ => runs_le (runs_pure ⟨rfl, fun _ h => nomatch h⟩) (Nat.zero_le _)
  | x :: xs, hf => by
    unfold mapT
    refine runs_le (runs_bind (m := xs.length * c + 0) (hf x (by simp)) fun y hy => runs_bind (runs_mapT P xs fun z hz => hf z (by simp [hz])) fun ys hys => runs_pure ⟨by simp [hys.1], fun z hz => ?_⟩) ?_
    · rcases List.mem_cons.mp hz with e | e
      · exact ⟨x, by simp, by rw [e]; exact hy⟩
      · obtain ⟨w, hw, hp⟩ := hys.2 z e
        exact ⟨w, by simp [hw], hp⟩
    · rw [List.length_cons, Nat.succ_mul]
      omega
theorem runs_compM {c : Nat} {p : α → Bool} {f : α → Mt ST β} (P : α → β → Prop) {xs : List α} (hl : xs.length ≤ 100000) (hf : ∀ x ∈ xs, Runs c (f x) (P x)) : Runs (xs.length * c) (compM p f xs) fun ys => ys.length = (xs.filter p).length ∧ ∀ y ∈ ys, ∃ x ∈ xs, P x y := by
  unfold compM
  rw [if_pos hl]
  refine runs_mono (runs_mapT P (xs.filter p) fun x hx => hf x (List.mem_filter.mp hx).1) (Nat.mul_le_mul_right _ (List.length_filter_le _ _)) ?_
  rintro ys ⟨h1, h2⟩
  exact ⟨h1, fun y hy => let ⟨x, hx, hp⟩ := h2 y hy; ⟨x, (List.mem_filter.mp hx).1, hp⟩⟩
/-- a drawn part of a list -/
theorem runs_sub {c : Nat} {p : α → Mt ST Bool} {xs : List α} (hl : xs.length ≤ 100000) (hp : ∀ x ∈ xs, Runs c (p x) fun _ => True) : Runs (xs.length * c) (compG p (fun x => mpure x) xs) fun ys => ys.Sublist xs := by
  unfold compG
  rw [if_pos hl]
  clear hl
  induction xs with
  | nil => exact runs_le (runs_pure (List.Sublist.refl _)) (Nat.zero_le _)
  | cons x xs ih =>
    unfold compT
    refine runs_le (runs_bind (n := c + 0) (m := xs.length * c + 0) (Q := fun o => o = none ∨ o = some x) ?_ fun o ho => runs_bind (ih fun y hy => hp y (by simp [hy])) fun ys hys => runs_pure ?_) ?_
    · refine runs_bind (hp x (by simp)) fun b _ => ?_
      cases b
      · exact runs_pure (.inl rfl)
      · exact runs_pure (.inr rfl)
    · rcases ho with rfl | rfl
      · exact hys.cons x
      · exact hys.cons_cons x
    · rw [List.length_cons, Nat.succ_mul]
      omega
/-- .. with another item for each -/
theorem runs_subF {c : Nat} {p : α → Mt ST Bool} {f : α → β} {xs : List α} (hl : xs.length ≤ 100000) (hp : ∀ x ∈ xs, Runs c (p x) fun _ => True) : Runs (xs.length * c) (compG p (fun x => mpure (f x)) xs) fun ys => ∃ zs : List α, ys = zs.map f ∧ zs.Sublist xs := by
  unfold compG
  rw [if_pos hl]
  clear hl
  induction xs with
  | nil => exact runs_le (runs_pure ⟨[], rfl, List.Sublist.refl _⟩) (Nat.zero_le _)
  | cons x xs ih =>
    unfold compT
    refine runs_le (runs_bind (n := c + 0) (m := xs.length * c + 0) (Q := fun o => o = none ∨ o = some (f x)) ?_ fun o ho => runs_bind (ih fun y hy => hp y (by simp [hy])) fun ys hys => runs_pure ?_) ?_
    · refine runs_bind (hp x (by simp)) fun b _ => ?_
      cases b
      · exact runs_pure (.inl rfl)
      · exact runs_pure (.inr rfl)
    · obtain ⟨zs, e, hz⟩ := hys
      rcases ho with rfl | rfl
      · exact ⟨zs, e, hz.cons x⟩
      · exact ⟨x :: zs, by rw [e]; rfl, hz.cons_cons x⟩
    · rw [List.length_cons, Nat.succ_mul]
      omega
end
noncomputable def p_Desk_require_idle (vself : Nat) : Mt ST Unit := mbind (mbind (mbind (mbind (mbind (mgetF ["Desk", "GuessDesk"] "watching" vself) (mdec eB)) fun vx2 => mpure vx2) fun vb5 => if vb5 = true then (mbind (mraise ⟨"Busy", none⟩ : Mt _ Unit) fun vu4 => mpure ()) else (mpure ())) fun vz3 => mpure ()) fun _ => mpure ()
theorem fn_Desk_require_idle (vself : Nat) : FN (WO RDk) d_Desk_require_idle [eR vself] (p_Desk_require_idle vself) eU := fnT_ofN (J := fun (_ : Unit) => [.any]) rfl (le_c rfl) fun fr => (tn_map (f := fun vz3 => ()) (tn_if (J := fun (vz3 : Unit) => [.val (eR vself)]) (ht_tru (ht_dec (e := eB) (ht_getFV (hv_var rfl))) (fun x => tr_B x)) (tn_map (f := fun vu4 => ()) tn_raise (fun vu4 => (.same .nil))) (tn_skip (.same .nil))) (fun vz3 => (.any .nil)))
noncomputable def p_Desk_undo (vself : Nat) : Mt ST Int := mbind (mbind (hclsA ["Desk", "GuessDesk"] "require_idle" vself) fun _ => p_Desk_require_idle vself) fun vu1 => mbind (mbind (mbind (mbind (mgetF ["Desk", "GuessDesk"] "standing" vself) (mdec eR)) fun vk3 => mbind (hgetT eD vk3) fun vxs2 => mpure (vxs2.length : Int)) fun vx4 => mpure (decide (vx4 = (0 : Int)))) fun vb5 => if vb5 = true then (mraise ⟨"NothingToUndo", none⟩) else (mbind (mbind (mbind (mgetF ["Desk", "GuessDesk"] "standing" vself) (mdec eR)) hpop) fun vu6 => mbind (mbind (mbind (mgetF ["Desk", "GuessDesk"] "states" vself) (mdec eR)) hpop) fun vu8 => mbind (mbind (mgetF ["Desk", "GuessDesk"] "standing" vself) (mdec eR)) fun vk11 => mbind (hgetT eD vk11) fun vxs10 => mpure (vxs10.length : Int))
theorem fn_Desk_undo (vself : Nat) : FN (WO RDk) d_Desk_undo [eR vself] (p_Desk_undo vself) eI := fn_of rfl (le_c rfl) fun fr => (tr_seqN (tn_drop (ht_methASV (ns := ["Desk", "GuessDesk"]) (hv_var rfl) (ac_fn (fn_Desk_require_idle vself)))) fun vu1 => (tr_ifseq (ht_isB (ht_op (ac_T (ht_b (ac_H (e := eD) (ht_dec (e := eR) (ht_getFV (hv_var rfl))) hv_nil (fun st _ _ h => by show lift _ _ = lift _ _; rw [dr_len h]) fun vxs2 => (af_b1 (enc := eI) (t_lenL (e := eD) _)))) fun vx4 => (ac_V hv_lit (af_op (enc := eB) (t_eq (e := eI) _ _ (by decide))))))) (tr_seqR tr_raise) (tr_nextR (tr_seqN (tn_drop (ht_hpop (ht_dec (e := eR) (ht_getFV (hv_var rfl))))) fun vu6 => (tr_seqN (tn_drop (ht_hpop (ht_dec (e := eR) (ht_getFV (hv_var rfl))))) fun vu8 => (tr_ret (ht_b (ac_H (e := eD) (ht_dec (e := eR) (ht_getFV (hv_var rfl))) hv_nil (fun st _ _ h => by show lift _ _ = lift _ _; rw [dr_len h]) fun vxs10 => (af_b1 (enc := eI) (t_lenL (e := eD) _))))))))))
noncomputable def p_is_within {S : Type} (vvalue : D) (vlow : Int) (vhigh : Int) : Mt S Bool := mbind (mbind (mpure vvalue) fun vd1 => misiD "int" vd1) fun vb8 => if vb8 = true then mbind (mbind (mbind (mpure vvalue) fun vd2 => misiD "bool" vd2) fun vx3 => mpure (!vx3)) fun vb7 => if vb7 = true then mbind (mpure vlow) fun vx4 => mbind (mbind (mpure vvalue) mcastI) fun vx5 => if (decide (vx4 ≤ vx5)) = true then mbind (mpure vhigh) fun vx6 => mpure (decide (vx5 ≤ vx6)) else mpure false else mpure false else mpure false
theorem fn_is_within {S : Type} {W : Wd S} (vvalue : D) (vlow : Int) (vhigh : Int) : FN W d_is_within [eD vvalue, eI vlow, eI vhigh] (p_is_within vvalue vlow vhigh) eB := fnT_of (fun b => Pl.p b) rfl (le_c rfl) fun fr => (tr_ret (ht_andV (ht_isiD (ht_ofV (hv_var rfl))) (ht_andV (ht_notV (ht_isiD (ht_ofV (hv_var rfl))) (fun x => tr_B x)) (ht_chain (e := eI) (c := fun a b => decide (a ≤ b)) (c' := fun a b => decide (a ≤ b)) (ht_ofV (hv_var rfl)) (ht_castI (ht_ofV (hv_var rfl))) (ht_ofV (hv_var rfl)) (fun a b => (t_le _ _)) (fun a b => (t_le _ _))))))
noncomputable def p_is_state {S : Type} (vpanel : (List (List Int))) (vvalue : (List Int)) : Mt S Bool := mbind (mbind (mpure (!true)) fun vb6 => if vb6 = true then mpure true else mbind (mbind (mbind (mbind (mpure vvalue) fun vxs2 => calmly (compM (fun (vx1 : Int) => true) (fun (vx1 : Int) => p_is_within (eI vx1) (0 : Int) ((vpanel.length : Int) - (1 : Int))) vxs2)) fun vx3 => mpure (vx3.all id)) fun vx4 => mpure vx4) fun vb5 => mpure (!vb5)) fun vb7 => if vb7 = true then (mpure false) else (mbind (mbind (mbind (mpure vvalue) fun vxs8 => mbind (mpure (cutD vvalue (some (1 : Int)) none)) fun vys9 => mpure (vxs8.zip vys9)) fun vxs11 => compV (fun (vx10 : (Int × Int)) => true) (fun (vx10 : (Int × Int)) => (decide (vx10.1 < vx10.2))) vxs11) fun vx12 => mpure (vx12.all id))
theorem fn_is_state {S : Type} {W : Wd S} (vpanel : (List (List Int))) (vvalue : (List Int)) : FN W d_is_state [(eT (eT eI)) vpanel, (eT eI) vvalue] (p_is_state vpanel vvalue) eB := fnT_of (fun b => Pl.p b) rfl (le_c rfl) fun fr => (tr_ifseq (ht_or (ht_ofV (enc := id) (hv_not (hv_tru (hv_isi (hv_var rfl) (t_isi kb_tuple_tuple (fun _ => rfl))) (tr_B _)))) (ht_not (ht_tru (ht_b (ac_T (ht_frz (ht_compM (enc := eB) (c := (fun (vx1 : Int) => true)) (f := (fun (vx1 : Int) => p_is_within (eI vx1) (0 : Int) ((vpanel.length : Int) - (1 : Int)))) (src_seq (sT (e := eI)) (ht_ofV (hv_var rfl))) rfl (fun vx1 => (gt1_N 2 _)) (by decide) (fun _ => (kp_of trivial)) (fun vx1 => hv_yes) (fun vx1 => (ht_call (ac_V (hv_var rfl) (ac_V hv_lit (ac_V (hv_op (hv_b (A := D) (hv_cons (hv_var rfl) hv_nil) (t_lenT (e := (eT eI)) _)) hv_lit (t_sub _ _)) (ac_fn (fn_is_within (eI vx1) (0 : Int) ((vpanel.length : Int) - (1 : Int))))))))))) fun vx3 => (af_b1 (enc := eB) (t_all _)))) (fun x => tr_B x)))) (tr_seqR (tr_ret (ht_ofV hv_lit))) (tr_nextR (tr_ret (ht_b (ac_T (ht_frz (ht_compV (enc := eB) (c := (fun (vx10 : (Int × Int)) => true)) (f := (fun (vx10 : (Int × Int)) => (decide (vx10.1 < vx10.2)))) (src_zip (sT (e := eI)) (sT (e := eI)) (ht_ofV (hv_var rfl)) (ht_ofV (hv_slT (hv_var rfl) (hv_oSome hv_lit) hv_oNone))) rfl (fun vx10 => (gt1_T (gts_cons (gt1_N 2 _) (gts_cons (gt1_N 3 _) gts_nil)) rfl)) (by decide) (fun _ => (kp_of trivial)) (fun vx10 => hv_yes) (fun vx10 => (hv_op (hv_var rfl) (hv_var rfl) (t_lt _ _))))) fun vx12 => (af_b1 (enc := eB) (t_all _)))))))
noncomputable def p_is_number {S : Type} (vvalue : Int) (vlow : Int) (vhigh : Int) : Mt S Bool := mpure (true && ((!false) && (decide (vlow ≤ vvalue) && decide (vvalue ≤ vhigh))))
theorem fn_is_number {S : Type} {W : Wd S} (vvalue : Int) (vlow : Int) (vhigh : Int) : FN W d_is_number [eI vvalue, eI vlow, eI vhigh] (p_is_number vvalue vlow vhigh) eB := fnT_of (fun b => Pl.p b) rfl (le_c rfl) fun fr => (tr_ret (ht_ofV (hv_andV (hv_isi (hv_var rfl) (t_isi kb_int_int (fun _ => rfl))) (hv_andV (hv_notV (hv_isi (hv_var rfl) (t_isi kb_int_bool (fun _ => rfl))) (tr_B _)) (hv_chain (hv_var rfl) (hv_var rfl) (hv_var rfl) (t_le _ _) (t_le _ _))))))
noncomputable def p_are_buttons {S : Type} (vcount : Int) (vvalue : (List Int)) : Mt S Bool := mbind (mbind (mpure (!true)) fun vb6 => if vb6 = true then mpure true else mbind (mbind (mbind (mbind (mpure vvalue) fun vxs2 => calmly (compM (fun (vx1 : Int) => true) (fun (vx1 : Int) => p_is_number vx1 (0 : Int) (vcount - (1 : Int))) vxs2)) fun vx3 => mpure (vx3.all id)) fun vx4 => mpure vx4) fun vb5 => mpure (!vb5)) fun vb7 => if vb7 = true then (mpure false) else (mbind (mbind (mbind (mpure vvalue) fun vxs8 => mbind (mpure (cutD vvalue (some (1 : Int)) none)) fun vys9 => mpure (vxs8.zip vys9)) fun vxs11 => compV (fun (vx10 : (Int × Int)) => true) (fun (vx10 : (Int × Int)) => (decide (vx10.1 < vx10.2))) vxs11) fun vx12 => mpure (vx12.all id))
theorem fn_are_buttons {S : Type} {W : Wd S} (vcount : Int) (vvalue : (List Int)) : FN W d_are_buttons [eI vcount, (eT eI) vvalue] (p_are_buttons vcount vvalue) eB := fnT_of (fun b => Pl.p b) rfl (le_c rfl) fun fr => (tr_ifseq (ht_or (ht_ofV (enc := id) (hv_not (hv_tru (hv_isi (hv_var rfl) (t_isi kb_tuple_tuple (fun _ => rfl))) (tr_B _)))) (ht_not (ht_tru (ht_b (ac_T (ht_frz (ht_compM (enc := eB) (c := (fun (vx1 : Int) => true)) (f := (fun (vx1 : Int) => p_is_number vx1 (0 : Int) (vcount - (1 : Int)))) (src_seq (sT (e := eI)) (ht_ofV (hv_var rfl))) rfl (fun vx1 => (gt1_N 2 _)) (by decide) (fun _ => (kp_of trivial)) (fun vx1 => hv_yes) (fun vx1 => (ht_call (ac_V (hv_var rfl) (ac_V hv_lit (ac_V (hv_op (hv_var rfl) hv_lit (t_sub _ _)) (ac_fn (fn_is_number vx1 (0 : Int) (vcount - (1 : Int))))))))))) fun vx3 => (af_b1 (enc := eB) (t_all _)))) (fun x => tr_B x)))) (tr_seqR (tr_ret (ht_ofV hv_lit))) (tr_nextR (tr_ret (ht_b (ac_T (ht_frz (ht_compV (enc := eB) (c := (fun (vx10 : (Int × Int)) => true)) (f := (fun (vx10 : (Int × Int)) => (decide (vx10.1 < vx10.2)))) (src_zip (sT (e := eI)) (sT (e := eI)) (ht_ofV (hv_var rfl)) (ht_ofV (hv_slT (hv_var rfl) (hv_oSome hv_lit) hv_oNone))) rfl (fun vx10 => (gt1_T (gts_cons (gt1_N 3 _) (gts_cons (gt1_N 4 _) gts_nil)) rfl)) (by decide) (fun _ => (kp_of trivial)) (fun vx10 => hv_yes) (fun vx10 => (hv_op (hv_var rfl) (hv_var rfl) (t_lt _ _))))) fun vx12 => (af_b1 (enc := eB) (t_all _)))))))
noncomputable def p_panel_error {S : Type} (vvalue : (List (List Int))) : Mt S (Option ((Option Int) × Str)) := mbind (mpure ((!true) || (!(decide ((1 : Int) ≤ (vvalue.length : Int)) && decide ((vvalue.length : Int) ≤ (10 : Int)))))) fun vb1 => if vb1 = true then (mpure (some ((none : Option Int), ("panel" : Str)))) else (mfin (mbind (mbind (mpure vvalue) fun vxs3 => mpure (enumZ 0 vxs3)) fun vxs11 => forX (fun (vx4 : (Int × (List Int))) (vz2 : Unit) => mbind (mbind (mbind (p_are_buttons (vvalue.length : Int) vx4.2) fun vx5 => mpure vx5) fun vb6 => mpure (!vb6)) fun vb7 => if vb7 = true then (mbind (mpure (some ((some vx4.1), ("list" : Str)))) fun vr8 => mpure (.rt vr8)) else (mbind (mpure (decide (vx4.1 ∈ vx4.2))) fun vb9 => if vb9 = true then (mbind (mpure (some ((some vx4.1), ("itself" : Str)))) fun vr10 => mpure (.rt vr10)) else (mpure (.nx ())))) vxs11 ()) fun vz2 => mpure (none : Option ((Option Int) × Str)))
theorem fn_panel_error {S : Type} {W : Wd S} (vvalue : (List (List Int))) : FN W d_panel_error [(eT (eT eI)) vvalue] (p_panel_error vvalue) (eO (eP (eO eI) eS)) := fnT_of (fun b => Pl.p b) rfl (le_c rfl) fun fr => (tr_ifseq (ht_ofV (enc := id) (hv_or (hv_not (hv_tru (hv_isi (hv_var rfl) (t_isi kb_tuple_tuple (fun _ => rfl))) (tr_B _))) (hv_not (hv_isB (hv_chain hv_lit (hv_b (A := D) (hv_cons (hv_var rfl) hv_nil) (t_lenT (e := (eT eI)) _)) hv_lit (t_le _ _) (t_le _ _)))))) (tr_seqR (tr_ret (ht_ofV (hv_tup (hv_cons hv_lit (hv_cons hv_lit hv_nil)) (le_c rfl))))) (tr_nextR (tr_seqF (J := _) (tf_for (J := fun (vz2 : Unit) => [.val ((eT (eT eI)) vvalue), .any, .any]) (z0 := ()) (src_enum (sT (e := (eT eI))) (ht_ofV (hv_var rfl))) (fun _ => (.same (.any (.any .nil)))) (fun vx4 vz2 => (gt1_T (gts_cons (gt1_N 1 _) (gts_cons (gt1_N 2 _) gts_nil)) rfl)) (fun vx4 vz2 => (tl_ifseq (ht_not (ht_tru (ht_call (ac_V (hv_b (A := D) (hv_cons (hv_var rfl) hv_nil) (t_lenT (e := (eT eI)) _)) (ac_V (hv_var rfl) (ac_fn (fn_are_buttons (vvalue.length : Int) vx4.2))))) (fun x => tr_B x))) (tl_seqX (tx_ofR (tr_ret (ht_ofV (hv_tup (hv_cons (hv_var rfl) (hv_cons hv_lit hv_nil)) (le_c rfl)))))) (tl_nextR (tl_if (ht_ofV (enc := id) (hv_isB (hv_op (hv_var rfl) (hv_var rfl) (t_inT (e := eI) vx4.1 vx4.2 (by decide))))) (tl_ofX (tx_ofR (tr_ret (ht_ofV (hv_tup (hv_cons (hv_var rfl) (hv_cons hv_lit hv_nil)) (le_c rfl)))))) (tl_nextR (tl_next (.same (.any (.any .nil)))))))))) fun vz2 => (tr_ret (ht_ofV hv_lit)))))
noncomputable def p_require_panel {S : Type} (vpanel : (List (List Int))) : Mt S Unit := mbind (mbind (p_panel_error vpanel) fun verror2 => mbind (mbind (mpure (verror2.isSome)) fun vb5 => if vb5 = true then (mbind (mbad : Mt _ Unit) fun vu4 => mpure ()) else (mpure ())) fun vz3 => mpure ()) fun _ => mpure ()
theorem fn_require_panel {S : Type} {W : Wd S} (vpanel : (List (List Int))) : FN W d_require_panel [(eT (eT eI)) vpanel] (p_require_panel vpanel) eU := fnT_ofN (J := fun (_ : Unit) => [.any, .any]) rfl (le_c rfl) fun fr => (tn_seq (tn_asg (ht_call (ac_V (hv_var rfl) (ac_fn (fn_panel_error vpanel))))) fun verror2 => (tn_map (f := fun vz3 => ()) (tn_if (J := fun (vz3 : Unit) => [.val ((eT (eT eI)) vpanel), .val ((eO (eP (eO eI) eS)) verror2)]) (ht_ofV (enc := id) (hv_isB (hv_op (hv_var rfl) hv_lit (t_isNotO (e := (eP (eO eI) eS)) _)))) (tn_map (f := fun vu4 => ()) tn_never (fun vu4 => (.same (.same .nil)))) (tn_skip (.same (.same .nil)))) (fun vz3 => (.any (.any .nil)))))
noncomputable def p_Desk___init__ (vself : Nat) (vpanel : (List (List Int))) (vstate : (List Int)) : Mt ST Unit := mbind (mbind (p_require_panel vpanel) fun vu2 => mbind (mbind (mbind (mbind (p_is_state vpanel vstate) fun vx3 => mpure vx3) fun vb4 => mpure (!vb4)) fun vb7 => if vb7 = true then (mbind (mbad : Mt _ Unit) fun vu6 => mpure ()) else (mpure ())) fun vz5 => mbind (mbind (mpure ([(vpanel, vstate)])) fun vxs9 => hsetN ["Desk", "GuessDesk"] "states" vself (List.map (eP (eT (eT eI)) (eT eI)) vxs9)) fun vu8 => mbind (mbind (mpure ([] : (List D))) fun vxs11 => hsetN ["Desk", "GuessDesk"] "standing" vself (List.map eD vxs11)) fun vu10 => mbind (mbind (mpure false) fun vx13 => hsetF ["Desk", "GuessDesk"] "watching" vself (eB vx13)) fun vu12 => mpure ()) fun _ => mpure ()
theorem fn_Desk___init__ (vself : Nat) (vpanel : (List (List Int))) (vstate : (List Int)) : FN (WO RDk) d_Desk___init__ [eR vself, (eT (eT eI)) vpanel, (eT eI) vstate] (p_Desk___init__ vself vpanel vstate) eU := fnT_ofN (J := fun (_ : Unit) => [.any, .any, .any]) rfl (le_c rfl) fun fr => (tn_seq (tn_drop (ht_call (ac_V (hv_var rfl) (ac_fn (fn_require_panel vpanel))))) fun vu2 => (tn_seq (tn_if (J := fun (vz5 : Unit) => [.val (eR vself), .val ((eT (eT eI)) vpanel), .val ((eT eI) vstate)]) (ht_not (ht_tru (ht_call (ac_V (hv_var rfl) (ac_V (hv_var rfl) (ac_fn (fn_is_state vpanel vstate))))) (fun x => tr_B x))) (tn_map (f := fun vu6 => ()) tn_never (fun vu6 => (.same (.same (.same .nil))))) (tn_skip (.same (.same (.same .nil))))) fun vz5 => (tn_seq (tn_setN (e := fun zs => List.map (eP (eT (eT eI)) (eT eI)) zs) (hv_var rfl) (ht_ofV (enc := fun zs => List.map (eP (eT (eT eI)) (eT eI)) zs) (hv_disp (hv_cons (hv_tup (hv_cons (hv_var rfl) (hv_cons (hv_var rfl) hv_nil)) (le_c rfl)) hv_nil) (le_c rfl)))) fun vu8 => (tn_seq (tn_setN (e := fun zs => List.map eD zs) (hv_var rfl) (ht_ofV (enc := fun zs => List.map eD zs) (hv_disp hv_nil (le_c rfl)))) fun vu10 => (tn_map (f := fun vu12 => ()) (tn_setF (e := eB) (hv_var rfl) (ht_ofV hv_lit)) (fun vu12 => (.any (.any (.any .nil)))))))))
noncomputable def p_Guess___init__ (vself : Nat) (vpanel : (List (List Int))) : Mt ST Unit := mbind (mbind (p_require_panel vpanel) fun vu2 => mbind (mbind (mpure vpanel) fun vx4 => hsetF ["Guess", "GuessDesk"] "base" vself ((eT (eT eI)) vx4)) fun vu3 => mbind (mbind (mrepT ([("same" : Str)]) (vpanel.length : Int)) fun vx6 => hsetF ["Guess", "GuessDesk"] "told" vself ((eT eS) vx6)) fun vu5 => mpure ()) fun _ => mpure ()
theorem fn_Guess___init__ (vself : Nat) (vpanel : (List (List Int))) : FN (WO RDk) d_Guess___init__ [eR vself, (eT (eT eI)) vpanel] (p_Guess___init__ vself vpanel) eU := fnT_ofN (J := fun (_ : Unit) => [.any, .any]) rfl (le_c rfl) fun fr => (tn_seq (tn_drop (ht_call (ac_V (hv_var rfl) (ac_fn (fn_require_panel vpanel))))) fun vu2 => (tn_seq (tn_setF (e := (eT (eT eI))) (hv_var rfl) (ht_ofV (hv_var rfl))) fun vu3 => (tn_map (f := fun vu5 => ()) (tn_setF (e := (eT eS)) (hv_var rfl) (ht_op (ac_V (hv_tup (hv_cons hv_lit hv_nil) (le_c rfl)) (ac_V (hv_b (A := D) (hv_cons (hv_var rfl) hv_nil) (t_lenT (e := (eT eI)) _)) (af_repT (e := eS) ([("same" : Str)]) (vpanel.length : Int)))))) (fun vu5 => (.any (.any .nil))))))
noncomputable def p_GuessDesk___init__ (vself : Nat) (vpanel : (List (List Int))) (vstate : (List Int)) : Mt ST Unit := mbind (mbind (mbind (hclA ["GuessDesk"] vself) fun _ => p_Desk___init__ vself vpanel vstate) fun vu2 => mbind (p_Guess___init__ vself vpanel) fun vu3 => mpure ()) fun _ => mpure ()
theorem fn_GuessDesk___init__ (vself : Nat) (vpanel : (List (List Int))) (vstate : (List Int)) : FN (WO RDk) d_GuessDesk___init__ [eR vself, (eT (eT eI)) vpanel, (eT eI) vstate] (p_GuessDesk___init__ vself vpanel vstate) eU := fnT_ofN (J := fun (_ : Unit) => [.any, .any, .any]) rfl (le_c rfl) fun fr => (tn_seq (tn_drop (ht_sup rfl (ac_V (hv_var rfl) (ac_V (hv_var rfl) (ac_fn (fn_Desk___init__ vself vpanel vstate)))))) fun vu2 => (tn_map (f := fun vu3 => ()) (tn_drop (ht_call (ac_V (hv_var rfl) (ac_V (hv_var rfl) (ac_fn (fn_Guess___init__ vself vpanel)))))) (fun vu3 => (.any (.any (.any .nil))))))
noncomputable def p__law_panel (vmost : Int) : Mt ST (List (List Int)) := mbind (mbind (mbind (mbind (draw vmost) fun vx1 => mpure ((1 : Int) + vx1)) fun vx3 => mbind (mbind (draw (min (4 : Int) vmost)) fun vx2 => mpure ((1 : Int) + vx2)) fun vx4 => mpure [vx3, vmost, vx4]) fun vx5 => mbind (draw (3 : Int)) fun vx6 => midx vx5 vx6) fun vn7 => mbind (mbind (draw (5 : Int)) fun vx9 => mbind (mbind (draw (4 : Int)) fun vx8 => mpure ((1 : Int) + vx8)) fun vx10 => mpure (vx9, vx10, ([] : (List (List Int))))) fun vp11 => mbind (mbind (mbind (mpure vn7) fun vn13 => mrng (0 : Int) vn13) fun vxs40 => forU (fun (vx14 : Int) (vz12 : (List (List Int))) => mbind (mbind (mbind (mpure vn7) fun vn15 => mrng (0 : Int) vn15) fun vxs18 => calmly (compG (fun (vx16 : Int) => mbind (draw (5 : Int)) fun vx17 => mpure (decide (vx17 < vp11.2.1))) (fun (vx16 : Int) => mpure vx16) vxs18)) fun vown19 => mbind (mbind (mpure (decide (vp11.1 = (0 : Int)))) fun vb23 => if vb23 = true then (mbind (mbind (mmod (vx14 + (1 : Int)) vn7) fun vx21 => mpure [vx21]) fun vown22 => mpure vown22) else (mpure vown19)) fun vz20 => mbind (mbind (mbind (mpure (decide (vp11.1 = (1 : Int)))) fun vb25 => if vb25 = true then mbind (draw (2 : Int)) fun vx24 => mpure (decide (vx24 = (0 : Int))) else mpure false) fun vb29 => if vb29 = true then (mbind (mbind (mpure vn7) fun vn27 => mrngL (0 : Int) vn27) fun vown28 => mpure vown28) else (mpure vz20)) fun vz26 => mbind (mbind (mpure (decide (vp11.1 = (2 : Int)))) fun vb34 => if vb34 = true then (mbind (mbind (mpure vz26) fun vxs32 => compV (fun (vx31 : Int) => (decide (vx31 > vx14))) (fun (vx31 : Int) => vx31) vxs32) fun vown33 => mpure vown33) else (mpure vz26)) fun vz30 => mbind (mbind (mbind (mbind (mpure vz30) fun vxs37 => compV (fun (vx36 : Int) => (!decide (vx36 = vx14))) (fun (vx36 : Int) => vx36) vxs37) fun vx38 => mpure vx38) fun vx39 => mapp vz12 vx39) fun vfound35 => mpure vfound35) vxs40 vp11.2.2) fun vz12 => mpure vz12
theorem fn__law_panel (vmost : Int) : FN (WO RDk) d__law_panel [.ref 1, eI vmost] (p__law_panel vmost) (eT (eT eI)) := fn_of rfl (le_c rfl) fun fr => (tr_seqN (tn_asg (ht_op (ac_T (ht_frz (ht_disp (enc := fun (zs : List Int) => List.map eI zs) (ac_T (ht_op (ac_V hv_lit (ac_T (ht_call (ac_V (hv_var rfl) (ac_V (hv_var rfl) (ac_fn (fn_draw vmost))))) fun vx1 => (af_op (t_add _ _))))) fun vx3 => (ac_V (hv_var rfl) (ac_T (ht_op (ac_V hv_lit (ac_T (ht_call (ac_V (hv_var rfl) (ac_V (hv_b (A := D) (hv_cons hv_lit (hv_cons (hv_var rfl) hv_nil)) (t_min _ _)) (ac_fn (fn_draw (min (4 : Int) vmost)))))) fun vx2 => (af_op (t_add _ _))))) fun vx4 => (ac_ret fun _ => rfl)))))) fun vx5 => (ac_T (ht_call (ac_V (hv_var rfl) (ac_V hv_lit (ac_fn (fn_draw (3 : Int)))))) fun vx6 => (af_idxL (e := eI) vx5 vx6))))) fun vn7 => (tr_seqN (tn_tup3 (J := fun (vp11 : Int × Int × (List (List Int))) => [.val (.ref 1), .val (eI vmost), .val (eI vn7), .val (eI vp11.1), .val (eI vp11.2.1), .mut (.lst (List.map (eT eI) vp11.2.2)), .any, .any, .any]) (ap_T (ht_call (ac_V (hv_var rfl) (ac_V hv_lit (ac_fn (fn_draw (5 : Int)))))) (fun _ => rfl) fun vx9 => (ap_T1 (ht_op (ac_V hv_lit (ac_T (ht_call (ac_V (hv_var rfl) (ac_V hv_lit (ac_fn (fn_draw (4 : Int)))))) fun vx8 => (af_op (t_add _ _))))) fun vx10 => (ap_New (hv_disp hv_nil (le_c rfl)) fun _ => (ap_three (lt_c rfl) (lt_c rfl) (lt_c rfl)))))) fun vp11 => (tr_seqN (tn_for (J := fun (vz12 : (List (List Int))) => [.val (.ref 1), .val (eI vmost), .val (eI vn7), .val (eI vp11.1), .val (eI vp11.2.1), .mut (.lst (List.map (eT eI) vz12)), .any, .any, .any]) (z0 := vp11.2.2) (src_rng1 (ht_ofV (hv_var rfl))) (fun _ => (.same (.same (.same (.same (.same (.same (.any (.any (.any .nil)))))))))) (fun vx14 vz12 => (gt1_N 6 _)) (fun vx14 vz12 => (tn_seq (tn_asg (ht_frz (ht_compG (enc := eI) (c := (fun (vx16 : Int) => mbind (draw (5 : Int)) fun vx17 => mpure (decide (vx17 < vp11.2.1)))) (f := (fun (vx16 : Int) => mpure vx16)) (src_rng1 (ht_ofV (hv_var rfl))) rfl (fun vx16 => (gt1_N 8 _)) (by decide) (fun _ => (kp_of ⟨by decide, rfl, trivial⟩)) (fun vx16 => (ht_isB (ht_op (ac_T (ht_call (ac_V (hv_var rfl) (ac_V hv_lit (ac_fn (fn_draw (5 : Int)))))) fun vx17 => (ac_V (hv_var rfl) (af_op (enc := eB) (t_lt _ _))))))) (fun vx16 => (ht_ofV (hv_var rfl)))))) fun vown19 => (tn_seq (tn_if (J := fun (vz20 : (List Int)) => [.val (.ref 1), .val (eI vmost), .val (eI vn7), .val (eI vp11.1), .val (eI vp11.2.1), .mut (.lst (List.map (eT eI) vz12)), .val (eI vx14), .val ((eL eI) vz20), .any]) (ht_ofV (enc := id) (hv_isB (hv_op (hv_var rfl) hv_lit (t_eq (e := eI) _ _ (by decide))))) (tn_map (f := fun (vown22 : (List Int)) => vown22) (tn_asg (ht_frz (ht_disp (enc := fun (zs : List Int) => List.map eI zs) (ac_T (ht_op (ac_V (hv_op (hv_var rfl) hv_lit (t_add _ _)) (ac_V (hv_var rfl) (af_mod _ _)))) fun vx21 => (ac_ret fun _ => rfl))))) (fun vown22 => (.same (.same (.same (.same (.same (.same (.same (.same (.any .nil))))))))))) (tn_skip (.same (.same (.same (.same (.same (.same (.same (.same (.any .nil))))))))))) fun vz20 => (tn_seq (tn_if (J := fun (vz26 : (List Int)) => [.val (.ref 1), .val (eI vmost), .val (eI vn7), .val (eI vp11.1), .val (eI vp11.2.1), .mut (.lst (List.map (eT eI) vz12)), .val (eI vx14), .val ((eL eI) vz26), .any]) (ht_and (ht_ofV (enc := id) (hv_isB (hv_op (hv_var rfl) hv_lit (t_eq (e := eI) _ _ (by decide))))) (ht_isB (ht_op (ac_T (ht_call (ac_V (hv_var rfl) (ac_V hv_lit (ac_fn (fn_draw (2 : Int)))))) fun vx24 => (ac_V hv_lit (af_op (enc := eB) (t_eq (e := eI) _ _ (by decide)))))))) (tn_map (f := fun (vown28 : (List Int)) => vown28) (tn_asg (ht_frz (ht_lstRg (ht_ofV (hv_var rfl))))) (fun vown28 => (.same (.same (.same (.same (.same (.same (.same (.same (.any .nil))))))))))) (tn_skip (.same (.same (.same (.same (.same (.same (.same (.same (.any .nil))))))))))) fun vz26 => (tn_seq (tn_if (J := fun (vz30 : (List Int)) => [.val (.ref 1), .val (eI vmost), .val (eI vn7), .val (eI vp11.1), .val (eI vp11.2.1), .mut (.lst (List.map (eT eI) vz12)), .val (eI vx14), .val ((eL eI) vz30), .any]) (ht_ofV (enc := id) (hv_isB (hv_op (hv_var rfl) hv_lit (t_eq (e := eI) _ _ (by decide))))) (tn_map (f := fun (vown33 : (List Int)) => vown33) (tn_asg (ht_frz (ht_compV (enc := eI) (c := (fun (vx31 : Int) => (decide (vx31 > vx14)))) (f := (fun (vx31 : Int) => vx31)) (src_seq (sL (e := eI)) (ht_ofV (hv_var rfl))) rfl (fun vx31 => (gt1_N 8 _)) (by decide) (fun _ => (kp_of ⟨by decide, rfl, trivial⟩)) (fun vx31 => (hv_isB (hv_op (hv_var rfl) (hv_var rfl) (t_gt _ _)))) (fun vx31 => (hv_var rfl))))) (fun vown33 => (.same (.same (.same (.same (.same (.same (.same (.same (.any .nil))))))))))) (tn_skip (.same (.same (.same (.same (.same (.same (.same (.same (.any .nil))))))))))) fun vz30 => (tn_map (f := fun (vfound35 : (List (List Int))) => vfound35) (tn_drop (ht_append rfl (ht_b (ac_T (ht_frz (ht_compV (enc := eI) (c := (fun (vx36 : Int) => (!decide (vx36 = vx14)))) (f := (fun (vx36 : Int) => vx36)) (src_seq (sL (e := eI)) (ht_ofV (hv_var rfl))) rfl (fun vx36 => (gt1_N 8 _)) (by decide) (fun _ => (kp_of ⟨by decide, rfl, trivial⟩)) (fun vx36 => (hv_isB (hv_op (hv_var rfl) (hv_var rfl) (t_ne (e := eI) _ _ (by decide))))) (fun vx36 => (hv_var rfl)))) fun vx38 => (af_b1 (enc := (eT eI)) (t_tupL (e := eI) _)))))) (fun vfound35 => (.same (.same (.same (.same (.same (.same (.any (.any (.any .nil))))))))))))))))) fun vz12 => (tr_fz rfl (tr_ret (ht_ofV (hv_b (A := D) (hv_cons (hv_var rfl) hv_nil) (t_tupL (e := (eT eI)) _))))))))
noncomputable def p__law_pressed {S : Type} (vpanel_here : (List (List Int))) (vstate : (List Int)) (vbutton : Int) : Mt S (List Int) := mbind (mbind (mpure vstate) fun vxs4 => calmly (compG (fun (vx1 : Int) => mbind (mbind (midx vpanel_here vbutton) fun vx2 => mpure (!decide (vx1 ∈ vx2))) fun vb3 => if vb3 = true then mpure (!decide (vx1 = vbutton)) else mpure false) (fun (vx1 : Int) => mpure vx1) vxs4)) fun vleft5 => mbind (mbind (mcat vleft5 ([vbutton])) fun vx6 => msort ltI vx6) fun vx7 => mpure vx7
theorem fn__law_pressed {S : Type} {W : Wd S} (vpanel_here : (List (List Int))) (vstate : (List Int)) (vbutton : Int) : FN W d__law_pressed [(eT (eT eI)) vpanel_here, (eT eI) vstate, eI vbutton] (p__law_pressed vpanel_here vstate vbutton) (eT eI) := fnT_of (fun b => Pl.p b) rfl (le_c rfl) fun fr => (tr_seqN (tn_asg (ht_frz (ht_compG (enc := eI) (c := (fun (vx1 : Int) => mbind (mbind (midx vpanel_here vbutton) fun vx2 => mpure (!decide (vx1 ∈ vx2))) fun vb3 => if vb3 = true then mpure (!decide (vx1 = vbutton)) else mpure false)) (f := (fun (vx1 : Int) => mpure vx1)) (src_seq (sT (e := eI)) (ht_ofV (hv_var rfl))) rfl (fun vx1 => (gt1_N 4 _)) (by decide) (fun _ => (kp_of trivial)) (fun vx1 => (ht_and (ht_isB (ht_op (ac_V (hv_var rfl) (ac_T (ht_op (ac_V (hv_var rfl) (ac_V (hv_var rfl) (af_idxT (e := (eT eI)) vpanel_here vbutton)))) fun vx2 => (af_op (enc := eB) (t_ninT (e := eI) vx1 vx2 (by decide))))))) (ht_ofV (enc := id) (hv_isB (hv_op (hv_var rfl) (hv_var rfl) (t_ne (e := eI) _ _ (by decide))))))) (fun vx1 => (ht_ofV (hv_var rfl)))))) fun vleft5 => (tr_ret (ht_b (ac_T (ht_frz (ht_bL (ac_T (ht_frz (ht_opL (ac_V (hv_var rfl) (ac_V (hv_frz (hv_disp (hv_cons (hv_var rfl) hv_nil) (le_c rfl))) (af_catL (e := eI) vleft5 ([vbutton])))))) fun vx6 => (af_sortL (e := eI) (by decide) vx6)))) fun vx7 => (af_b1 (enc := (eT eI)) (t_tupL (e := eI) _))))))
noncomputable def p__law_changed {S : Type} (vpanel_here : (List (List Int))) (vone : Int) (vother : Int) (vis_link : Bool) : Mt S (List (List Int)) := mbind (mbind (mbind (midx vpanel_here vone) fun vxs2 => compV (fun (vx1 : Int) => (!decide (vx1 = vother))) (fun (vx1 : Int) => vx1) vxs2) fun vx3 => mbind (mrepL ([vother]) (b2z vis_link)) fun vx4 => mcat vx3 vx4) fun vown5 => mbind (mbind (mbind (mbind (msort ltI vown5) fun vx6 => mpure vx6) fun vx7 => mpure [vx7]) fun vx8 => mcat (cutD vpanel_here none (some vone)) vx8) fun vx9 => mcat vx9 (cutD vpanel_here (some (vone + (1 : Int))) none)
theorem fn__law_changed {S : Type} {W : Wd S} (vpanel_here : (List (List Int))) (vone : Int) (vother : Int) (vis_link : Bool) : FN W d__law_changed [(eT (eT eI)) vpanel_here, eI vone, eI vother, eB vis_link] (p__law_changed vpanel_here vone vother vis_link) (eT (eT eI)) := fnT_of (fun b => Pl.p b) rfl (le_c rfl) fun fr => (tr_seqN (tn_asg (ht_frz (ht_opL (ac_T (ht_frz (ht_compV (enc := eI) (c := (fun (vx1 : Int) => (!decide (vx1 = vother)))) (f := (fun (vx1 : Int) => vx1)) (src_seq (sT (e := eI)) (ht_op (ac_V (hv_var rfl) (ac_V (hv_var rfl) (af_idxT (e := (eT eI)) vpanel_here vone))))) rfl (fun vx1 => (gt1_N 5 _)) (by decide) (fun _ => (kp_of trivial)) (fun vx1 => (hv_isB (hv_op (hv_var rfl) (hv_var rfl) (t_ne (e := eI) _ _ (by decide))))) (fun vx1 => (hv_var rfl)))) fun vx3 => (ac_T (ht_frz (ht_opL (ac_V (hv_frz (hv_disp (hv_cons (hv_var rfl) hv_nil) (le_c rfl))) (ac_V (hv_b (A := D) (hv_cons (hv_var rfl) hv_nil) (t_intB _)) (af_repL (e := eI) ([vother]) (b2z vis_link)))))) fun vx4 => (af_catL (e := eI) vx3 vx4)))))) fun vown5 => (tr_ret (ht_op (ac_T (ht_op (ac_V (hv_slT (hv_var rfl) hv_oNone (hv_oSome (hv_var rfl))) (ac_T (ht_tup (enc := (eT (eT eI))) (ac_T (ht_b (ac_T (ht_frz (ht_bL (ac_V (hv_var rfl) (af_sortL (e := eI) (by decide) vown5)))) fun vx6 => (af_b1 (enc := (eT eI)) (t_tupL (e := eI) _)))) fun vx7 => (ac_ret fun _ => rfl))) fun vx8 => (af_catT (e := (eT eI)) (cutD vpanel_here none (some vone)) vx8)))) fun vx9 => (ac_V (hv_slT (hv_var rfl) (hv_oSome (hv_op (hv_var rfl) hv_lit (t_add _ _))) hv_oNone) (af_catT (e := (eT eI)) vx9 (cutD vpanel_here (some (vone + (1 : Int))) none)))))))
noncomputable def p__law_after {S : Type} (vstate : ((List (List Int)) × (List Int))) (vedit_here : D) : Mt S ((List (List Int)) × (List Int)) := mbind (mpure vstate) fun vp1 => mbind (mbind (midxD vedit_here (0 : Int)) fun vx2 => meqD vx2 (eS ("press" : Str))) fun vb3 => if vb3 = true then (mbind (mbind (mbind (midxD vedit_here (1 : Int)) mcastI) fun vx4 => p__law_pressed vp1.1 vp1.2 vx4) fun vx5 => mpure (vp1.1, vx5)) else (mbind (mbind (mbind (midxD vedit_here (1 : Int)) mcastI) fun vx7 => mbind (mbind (midxD vedit_here (2 : Int)) mcastI) fun vx8 => mbind (mbind (midxD vedit_here (0 : Int)) fun vx6 => meqD vx6 (eS ("link" : Str))) fun vx9 => p__law_changed vp1.1 vx7 vx8 vx9) fun vx10 => mpure (vx10, vp1.2))
theorem fn__law_after {S : Type} {W : Wd S} (vstate : ((List (List Int)) × (List Int))) (vedit_here : D) : FN W d__law_after [(eQ (eT (eT eI)) (eT eI)) vstate, eD vedit_here] (p__law_after vstate vedit_here) (eQ (eT (eT eI)) (eT eI)) := fnT_of (fun b => Pl.p b) rfl (le_c rfl) fun fr => (tr_seqN (tn_asgG (ht_ofV (hv_var rfl)) (fun vp1 => (gt1_L (gts_cons (gt1_N 2 _) (gts_cons (gt1_N 3 _) gts_nil)) rfl))) fun vp1 => (tr_ifseq (ht_isB (ht_op (ac_T (ht_op (ac_V (hv_var rfl) (ac_V hv_lit (af_idxD vedit_here (0 : Int))))) fun vx2 => (ac_V hv_lit (af_eqD _ _))))) (tr_seqR (tr_ret (ht_frz (ht_disp (enc := fun (z : ((List (List Int)) × (List Int))) => [(eT (eT eI)) z.1, (eT eI) z.2]) (ac_V (hv_var rfl) (ac_T (ht_call (ac_V (hv_var rfl) (ac_V (hv_var rfl) (ac_T (ht_castI (ht_op (ac_V (hv_var rfl) (ac_V hv_lit (af_idxD vedit_here (1 : Int)))))) fun vx4 => (ac_fn (fn__law_pressed vp1.1 vp1.2 vx4)))))) fun vx5 => (ac_ret fun _ => rfl))))))) (tr_nextR (tr_ret (ht_frz (ht_disp (enc := fun (z : ((List (List Int)) × (List Int))) => [(eT (eT eI)) z.1, (eT eI) z.2]) (ac_T (ht_call (ac_V (hv_var rfl) (ac_T (ht_castI (ht_op (ac_V (hv_var rfl) (ac_V hv_lit (af_idxD vedit_here (1 : Int)))))) fun vx7 => (ac_T (ht_castI (ht_op (ac_V (hv_var rfl) (ac_V hv_lit (af_idxD vedit_here (2 : Int)))))) fun vx8 => (ac_T (ht_op (ac_T (ht_op (ac_V (hv_var rfl) (ac_V hv_lit (af_idxD vedit_here (0 : Int))))) fun vx6 => (ac_V hv_lit (af_eqD _ _)))) fun vx9 => (ac_fn (fn__law_changed vp1.1 vx7 vx8 vx9))))))) fun vx10 => (ac_V (hv_var rfl) (ac_ret fun _ => rfl)))))))))
noncomputable def p__law_edit (vstate : ((List (List Int)) × (List Int))) : Mt ST D := mbind (mpure vstate) fun vp1 => mbind (mpure (vp1.1.length : Int)) fun vn2 => mbind (mbind (draw vn2) fun vx3 => mbind (draw vn2) fun vx4 => mpure (vx3, vx4)) fun vp5 => mbind (mbind (mbind (draw (3 : Int)) fun vx6 => mpure (decide (vx6 > (0 : Int)))) fun vb7 => if vb7 = true then mpure true else mpure (decide (vp5.1 = vp5.2))) fun vb8 => if vb8 = true then (mpure ((eP eS eI) (("press" : Str), vp5.1))) else (mbind (mbind (mbind (mbind (mbind (midx vp1.1 vp5.1) fun vx9 => mpure (decide (vp5.2 ∈ vx9))) fun vx10 => mpure (b2z vx10)) fun vx11 => midx ([("link" : Str), ("unlink" : Str)]) vx11) fun vx12 => mpure (vx12, vp5.1, vp5.2)) fun vx13 => mpure ((eP3 eS eI eI) vx13))
theorem fn__law_edit (vstate : ((List (List Int)) × (List Int))) : FN (WO RDk) d__law_edit [.ref 1, (eQ (eT (eT eI)) (eT eI)) vstate] (p__law_edit vstate) eD := fn_of rfl (le_c rfl) fun fr => (tr_seqN (tn_asgG (ht_ofV (hv_var rfl)) (fun vp1 => (gt1_L (gts_cons (gt1_N 2 _) (gts_cons (gt1_N 3 _) gts_nil)) rfl))) fun vp1 => (tr_seqN (tn_asg (ht_ofV (hv_b (A := D) (hv_cons (hv_var rfl) hv_nil) (t_lenT (e := (eT eI)) _)))) fun vn2 => (tr_seqN (tn_par (J := fun (vp5 : Int × Int) => [.val (.ref 1), .val ((eQ (eT (eT eI)) (eT eI)) vstate), .val ((eT (eT eI)) vp1.1), .val ((eT eI) vp1.2), .val (eI vn2), .val (eI vp5.1), .val (eI vp5.2)]) (ap_T (ht_call (ac_V (hv_var rfl) (ac_V (hv_var rfl) (ac_fn (fn_draw vn2))))) (fun _ => rfl) fun vx3 => (ap_T1 (ht_call (ac_V (hv_var rfl) (ac_V (hv_var rfl) (ac_fn (fn_draw vn2))))) fun vx4 => (ap_two (lt_c rfl) (lt_c rfl))))) fun vp5 => (tr_ifseq (ht_or (ht_isB (ht_op (ac_T (ht_call (ac_V (hv_var rfl) (ac_V hv_lit (ac_fn (fn_draw (3 : Int)))))) fun vx6 => (ac_V hv_lit (af_op (enc := eB) (t_gt _ _)))))) (ht_ofV (enc := id) (hv_isB (hv_op (hv_var rfl) (hv_var rfl) (t_eq (e := eI) _ _ (by decide)))))) (tr_seqR (tr_ret (ht_ofV (hv_tup (hv_cons hv_lit (hv_cons (hv_var rfl) hv_nil)) (le_c rfl))))) (tr_nextR (tr_ret (ht_conv (e := (eP3 eS eI eI)) (f := fun (vx13 : (Str × Int × Int)) => ((eP3 eS eI eI) vx13)) (ht_tup (ac_T (ht_op (ac_V (hv_frz (hv_disp (hv_cons hv_lit (hv_cons hv_lit hv_nil)) (le_c rfl))) (ac_T (ht_b (ac_T (ht_op (ac_V (hv_var rfl) (ac_T (ht_op (ac_V (hv_var rfl) (ac_V (hv_var rfl) (af_idxT (e := (eT eI)) vp1.1 vp5.1)))) fun vx9 => (af_op (enc := eB) (t_inT (e := eI) vp5.2 vx9 (by decide)))))) fun vx10 => (af_b1 (enc := eI) (t_intB _)))) fun vx11 => (af_idxL (e := eS) ([("link" : Str), ("unlink" : Str)]) vx11)))) fun vx12 => (ac_V (hv_var rfl) (ac_V (hv_var rfl) (ac_ret fun _ => rfl))))) (fun _ => rfl))))))))
noncomputable def p_press_button {S : Type} (vpanel : (List (List Int))) (vstate : (List Int)) (vbutton : Int) : Mt S (List Int) := mbind (mbind (mpure vstate) fun vxs4 => calmly (compG (fun (vx1 : Int) => mbind (mbind (midx vpanel vbutton) fun vx2 => mpure (!decide (vx1 ∈ vx2))) fun vb3 => if vb3 = true then mpure (!decide (vx1 = vbutton)) else mpure false) (fun (vx1 : Int) => mpure vx1) vxs4)) fun vkept5 => mbind (mbind (mdisp (vkept5 ++ [vbutton])) fun vx6 => msort ltI vx6) fun vx7 => mpure vx7
theorem fn_press_button {S : Type} {W : Wd S} (vpanel : (List (List Int))) (vstate : (List Int)) (vbutton : Int) : FN W d_press_button [(eT (eT eI)) vpanel, (eT eI) vstate, eI vbutton] (p_press_button vpanel vstate vbutton) (eT eI) := fnT_of (fun b => Pl.p b) rfl (le_c rfl) fun fr => (tr_seqN (tn_asg (ht_frz (ht_compG (enc := eI) (c := (fun (vx1 : Int) => mbind (mbind (midx vpanel vbutton) fun vx2 => mpure (!decide (vx1 ∈ vx2))) fun vb3 => if vb3 = true then mpure (!decide (vx1 = vbutton)) else mpure false)) (f := (fun (vx1 : Int) => mpure vx1)) (src_seq (sT (e := eI)) (ht_ofV (hv_var rfl))) rfl (fun vx1 => (gt1_N 4 _)) (by decide) (fun _ => (kp_of trivial)) (fun vx1 => (ht_and (ht_isB (ht_op (ac_V (hv_var rfl) (ac_T (ht_op (ac_V (hv_var rfl) (ac_V (hv_var rfl) (af_idxT (e := (eT eI)) vpanel vbutton)))) fun vx2 => (af_op (enc := eB) (t_ninT (e := eI) vx1 vx2 (by decide))))))) (ht_ofV (enc := id) (hv_isB (hv_op (hv_var rfl) (hv_var rfl) (t_ne (e := eI) _ _ (by decide))))))) (fun vx1 => (ht_ofV (hv_var rfl)))))) fun vkept5 => (tr_ret (ht_b (ac_T (ht_frz (ht_bL (ac_T (ht_frz (ht_disp (ac_starV (hv_var rfl) (fun _ => rfl) (ac_V (hv_var rfl) (af_dispE (e := eI) (vkept5 ++ [vbutton]) (by first | rfl | (simp only [List.map_append, List.map_cons, List.map_nil, List.append_nil, List.nil_append, List.append_assoc] <;> rfl))))))) fun vx6 => (af_sortL (e := eI) (by decide) vx6)))) fun vx7 => (af_b1 (enc := (eT eI)) (t_tupL (e := eI) _))))))
noncomputable def p_require_buttons {S : Type} (vpanel : (List (List Int))) (vbuttons : (List D)) : Mt S Unit := mbind (mbind (mbind (mpure vbuttons) fun vxs9 => forU (fun (vx3 : D) (vz2 : Unit) => mbind (mbind (mbind (mbind (p_is_within vx3 (0 : Int) ((vpanel.length : Int) - (1 : Int))) fun vx4 => mpure vx4) fun vb5 => mpure (!vb5)) fun vb8 => if vb8 = true then (mbind (mbad : Mt _ Unit) fun vu7 => mpure ()) else (mpure ())) fun vz6 => mpure ()) vxs9 ()) fun vz2 => mpure ()) fun _ => mpure ()
theorem fn_require_buttons {S : Type} {W : Wd S} (vpanel : (List (List Int))) (vbuttons : (List D)) : FN W d_require_buttons [(eT (eT eI)) vpanel, (eT eD) vbuttons] (p_require_buttons vpanel vbuttons) eU := fnT_ofN (J := fun (_ : Unit) => [.any, .any, .any]) rfl (le_c rfl) fun fr => (tn_map (f := fun vz2 => ()) (tn_for (J := fun (vz2 : Unit) => [.val ((eT (eT eI)) vpanel), .val ((eT eD) vbuttons), .any]) (z0 := ()) (src_seq (sT (e := eD)) (ht_ofV (hv_var rfl))) (fun _ => (.same (.same (.any .nil)))) (fun vx3 vz2 => (gt1_N 2 _)) (fun vx3 vz2 => (tn_map (f := fun vz6 => ()) (tn_if (J := fun (vz6 : Unit) => [.val ((eT (eT eI)) vpanel), .val ((eT eD) vbuttons), .val (eD vx3)]) (ht_not (ht_tru (ht_call (ac_V (hv_var rfl) (ac_V hv_lit (ac_V (hv_op (hv_b (A := D) (hv_cons (hv_var rfl) hv_nil) (t_lenT (e := (eT eI)) _)) hv_lit (t_sub _ _)) (ac_fn (fn_is_within vx3 (0 : Int) ((vpanel.length : Int) - (1 : Int)))))))) (fun x => tr_B x))) (tn_map (f := fun vu7 => ()) tn_never (fun vu7 => (.same (.same (.same .nil))))) (tn_skip (.same (.same (.same .nil))))) (fun vz6 => (.same (.same (.any .nil))))))) (fun vz2 => (.any (.any (.any .nil)))))
noncomputable def p_with_list {S : Type} (vpanel : (List (List Int))) (vbutton : Int) (vreleased : (List Int)) : Mt S (List (List Int)) := mbind (mbind (msort ltI vreleased) fun vx1 => mpure vx1) fun vx2 => mdisp ((cutD vpanel none (some vbutton)) ++ [vx2] ++ (cutD vpanel (some (vbutton + (1 : Int))) none))
theorem fn_with_list {S : Type} {W : Wd S} (vpanel : (List (List Int))) (vbutton : Int) (vreleased : (List Int)) : FN W d_with_list [(eT (eT eI)) vpanel, eI vbutton, (eL eI) vreleased] (p_with_list vpanel vbutton vreleased) (eT (eT eI)) := fnT_of (fun b => Pl.p b) rfl (le_c rfl) fun fr => (tr_ret (ht_tup (ac_starV (hv_slT (hv_var rfl) hv_oNone (hv_oSome (hv_var rfl))) (fun _ => rfl) (ac_T (ht_b (ac_T (ht_frz (ht_bL (ac_V (hv_var rfl) (af_sortL (e := eI) (by decide) vreleased)))) fun vx1 => (af_b1 (enc := (eT eI)) (t_tupL (e := eI) _)))) fun vx2 => (ac_starV (hv_slT (hv_var rfl) (hv_oSome (hv_op (hv_var rfl) hv_lit (t_add _ _))) hv_oNone) (fun _ => rfl) (af_tupE (e := (eT eI)) ((cutD vpanel none (some vbutton)) ++ [vx2] ++ (cutD vpanel (some (vbutton + (1 : Int))) none)) (by first | rfl | (simp only [List.map_append, List.map_cons, List.map_nil, List.append_nil, List.nil_append, List.append_assoc] <;> rfl))))))))
noncomputable def p_linked {S : Type} (vpanel : (List (List Int))) (vone : Int) (vother : Int) : Mt S (List (List Int)) := mbind (mbind (mbind (midx vpanel vone) fun vxs2 => compV (fun (vx1 : Int) => (!decide (vx1 = vother))) (fun (vx1 : Int) => vx1) vxs2) fun vx3 => mdisp (vx3 ++ [vother])) fun vx4 => p_with_list vpanel vone vx4
theorem fn_linked {S : Type} {W : Wd S} (vpanel : (List (List Int))) (vone : Int) (vother : Int) : FN W d_linked [(eT (eT eI)) vpanel, eI vone, eI vother] (p_linked vpanel vone vother) (eT (eT eI)) := fnT_of (fun b => Pl.p b) rfl (le_c rfl) fun fr => (tr_ret (ht_call (ac_V (hv_var rfl) (ac_V (hv_var rfl) (ac_T (ht_frz (ht_disp (ac_star (ht_frz (ht_compV (enc := eI) (c := (fun (vx1 : Int) => (!decide (vx1 = vother)))) (f := (fun (vx1 : Int) => vx1)) (src_seq (sT (e := eI)) (ht_op (ac_V (hv_var rfl) (ac_V (hv_var rfl) (af_idxT (e := (eT eI)) vpanel vone))))) rfl (fun vx1 => (gt1_N 3 _)) (by decide) (fun _ => (kp_of trivial)) (fun vx1 => (hv_isB (hv_op (hv_var rfl) (hv_var rfl) (t_ne (e := eI) _ _ (by decide))))) (fun vx1 => (hv_var rfl)))) (fun _ _ => rfl) fun vx3 => (ac_V (hv_var rfl) (af_dispE (e := eI) (vx3 ++ [vother]) (by first | rfl | (simp only [List.map_append, List.map_cons, List.map_nil, List.append_nil, List.nil_append, List.append_assoc] <;> rfl))))))) fun vx4 => (ac_fn (fn_with_list vpanel vone vx4)))))))
noncomputable def p_unlinked {S : Type} (vpanel : (List (List Int))) (vone : Int) (vother : Int) : Mt S (List (List Int)) := mbind (mbind (midx vpanel vone) fun vxs2 => compV (fun (vx1 : Int) => (!decide (vx1 = vother))) (fun (vx1 : Int) => vx1) vxs2) fun vx3 => p_with_list vpanel vone vx3
theorem fn_unlinked {S : Type} {W : Wd S} (vpanel : (List (List Int))) (vone : Int) (vother : Int) : FN W d_unlinked [(eT (eT eI)) vpanel, eI vone, eI vother] (p_unlinked vpanel vone vother) (eT (eT eI)) := fnT_of (fun b => Pl.p b) rfl (le_c rfl) fun fr => (tr_ret (ht_call (ac_V (hv_var rfl) (ac_V (hv_var rfl) (ac_T (ht_frz (ht_compV (enc := eI) (c := (fun (vx1 : Int) => (!decide (vx1 = vother)))) (f := (fun (vx1 : Int) => vx1)) (src_seq (sT (e := eI)) (ht_op (ac_V (hv_var rfl) (ac_V (hv_var rfl) (af_idxT (e := (eT eI)) vpanel vone))))) rfl (fun vx1 => (gt1_N 3 _)) (by decide) (fun _ => (kp_of trivial)) (fun vx1 => (hv_isB (hv_op (hv_var rfl) (hv_var rfl) (t_ne (e := eI) _ _ (by decide))))) (fun vx1 => (hv_var rfl)))) fun vx3 => (ac_fn (fn_with_list vpanel vone vx3)))))))
noncomputable def p_changed {S : Type} (vpanel : (List (List Int))) (vword : Str) (vone : Int) (vother : Int) : Mt S (List (List Int)) := mbind (p_require_buttons vpanel [(eI vone), (eI vother)]) fun vu1 => mbind (mpure (decide (vone = vother))) fun vb2 => if vb2 = true then mbad else (mbind (mbind (mpure (decide (vword = ("link" : Str)))) fun vb3 => if vb3 = true then p_linked vpanel vone vother else p_unlinked vpanel vone vother) fun vfound4 => mbind (mpure (decide (vfound4 = vpanel))) fun vb5 => if vb5 = true then (mraise ⟨"NoChange", none⟩) else (mpure vfound4))
theorem fn_changed {S : Type} {W : Wd S} (vpanel : (List (List Int))) (vword : Str) (vone : Int) (vother : Int) : FN W d_changed [(eT (eT eI)) vpanel, eS vword, eI vone, eI vother] (p_changed vpanel vword vone vother) (eT (eT eI)) := fnT_of (fun b => Pl.p b) rfl (le_c rfl) fun fr => (tr_seqN (tn_drop (ht_call (ac_V (hv_var rfl) (ac_V (hv_var rfl) (ac_V (hv_var rfl) (ac_fn (fnVN (n := 1) (pre := [(eT (eT eI)) vpanel]) (fn_require_buttons vpanel [(eI vone), (eI vother)]) rfl (by show 3 ≤ SZ; decide)))))))) fun vu1 => (tr_ifseq (ht_ofV (enc := id) (hv_isB (hv_op (hv_var rfl) (hv_var rfl) (t_eq (e := eI) _ _ (by decide))))) (tr_seqR tr_never) (tr_nextR (tr_seqN (tn_asg (ht_if (ht_ofV (hv_isB (hv_op (hv_var rfl) hv_lit (t_eq (e := eS) _ _ (by decide))))) (ht_call (ac_V (hv_var rfl) (ac_V (hv_var rfl) (ac_V (hv_var rfl) (ac_fn (fn_linked vpanel vone vother)))))) (ht_call (ac_V (hv_var rfl) (ac_V (hv_var rfl) (ac_V (hv_var rfl) (ac_fn (fn_unlinked vpanel vone vother)))))))) fun vfound4 => (tr_ifseq (ht_ofV (enc := id) (hv_isB (hv_op (hv_var rfl) (hv_var rfl) (t_eq (e := (eT (eT eI))) vfound4 vpanel (by decide))))) (tr_seqR tr_raise) (tr_nextR (tr_ret (ht_ofV (hv_var rfl)))))))))
noncomputable def p_Desk_state_after (vself : Nat) (vedit : D) : Mt ST ((List (List Int)) × (List Int)) := mbind (mbind (mbind (mgetF ["Desk", "GuessDesk"] "states" vself) (mdec eR)) fun vk2 => mbind (hgetT (eP (eT (eT eI)) (eT eI)) vk2) fun vxs1 => midx vxs1 (-(1 : Int))) fun vp3 => mbind (munstar vedit) fun vp4 => mbind (mpure vp4.1) fun vw5 => if vw5 = ("press" : Str) then (mbind (if 1 + vp4.2.length ≤ 100000 then p_require_buttons vp3.1 vp4.2 else mbad) fun vu6 => mbind (mstar1 (fun (va7 : D) => mbind (mdec eI va7) fun vb8 => p_press_button vp3.1 vp3.2 vb8) vp4.2) fun vx9 => mpure (vp3.1, vx9)) else (mbind (mstar2 (fun (va10 : D) (va11 : D) => mbind (mdec eI va10) fun vb12 => mbind (mdec eI va11) fun vb13 => p_changed vp3.1 vp4.1 vb12 vb13) vp4.2) fun vx14 => mpure (vx14, vp3.2))
theorem fn_Desk_state_after (vself : Nat) (vedit : D) : FN (WO RDk) d_Desk_state_after [eR vself, eD vedit] (p_Desk_state_after vself vedit) (eP (eT (eT eI)) (eT eI)) := fn_of rfl (le_c rfl) fun fr => (tr_seqN (tn_asgG (ht_op (ac_H (e := (eP (eT (eT eI)) (eT eI))) (ht_dec (e := eR) (ht_getFV (hv_var rfl))) (hv_cons (hv_un hv_lit (t_neg _)) hv_nil) (fun st _ _ h => by show lift _ _ = lift _ _; rw [dr_idx1 h]) fun vxs1 => (ac_V (hv_un hv_lit (t_neg _)) (af_idxL (e := (eP (eT (eT eI)) (eT eI))) _ _)))) (fun vp3 => (gt1_T (gts_cons (gt1_N 2 _) (gts_cons (gt1_N 3 _) gts_nil)) rfl))) fun vp3 => (tr_seqN (tn_unstarE (hv_var rfl)) fun vp4 => (tr_match2 (ht_ofV (hv_var rfl)) (tr_seqN (tn_drop (ht_call (ac_V (hv_var rfl) (ac_varS (n := 1) (pre := [(eT (eT eI)) vp3.1]) (hv_var rfl) (fn_require_buttons vp3.1 vp4.2) rfl)))) fun vu6 => (tr_ret (ht_tup (ac_V (hv_var rfl) (ac_T (ht_call (ac_V (hv_var rfl) (ac_V (hv_var rfl) (ac_star1D (xs := vp4.2) (hv_var rfl) fun vb8 => (ac_fn (fn_press_button vp3.1 vp3.2 vb8)))))) fun vx9 => (ac_ret fun _ => rfl)))))) (tr_ret (ht_tup (ac_T (ht_call (ac_V (hv_var rfl) (ac_V (hv_var rfl) (ac_star2D (xs := vp4.2) (hv_var rfl) fun vb12 vb13 => (ac_fn (fn_changed vp3.1 vp4.1 vb12 vb13)))))) fun vx14 => (ac_V (hv_var rfl) (ac_ret fun _ => rfl))))))))
noncomputable def p_Desk_perform (vself : Nat) (vedit : D) : Mt ST Int := mbind (mbind (mbind (mbind (mgetF ["Desk", "GuessDesk"] "standing" vself) (mdec eR)) fun vk2 => mbind (hgetT eD vk2) fun vxs1 => mpure (vxs1.length : Int)) fun vx3 => mpure (decide (vx3 ≥ (60 : Int)))) fun vb4 => if vb4 = true then (mraise ⟨"TooManyEdits", none⟩) else (mbind (mbind (mbind (mgetF ["Desk", "GuessDesk"] "states" vself) (mdec eR)) fun vk6 => mbind (hgetT eD vk6) fun _ => mbind (mbind (hclsA ["Desk", "GuessDesk"] "state_after" vself) fun _ => p_Desk_state_after vself vedit) fun vx7 => happ vk6 ((eP (eT (eT eI)) (eT eI)) vx7)) fun vu5 => mbind (mbind (mbind (mgetF ["Desk", "GuessDesk"] "standing" vself) (mdec eR)) fun vk9 => mbind (hgetT eD vk9) fun _ => mbind (mpure vedit) fun vx10 => happ vk9 (eD vx10)) fun vu8 => mbind (mbind (mgetF ["Desk", "GuessDesk"] "standing" vself) (mdec eR)) fun vk12 => mbind (hgetT eD vk12) fun vxs11 => mpure (vxs11.length : Int))
theorem fn_Desk_perform (vself : Nat) (vedit : D) : FN (WO RDk) d_Desk_perform [eR vself, eD vedit] (p_Desk_perform vself vedit) eI := fn_of rfl (le_c rfl) fun fr => (tr_ifseq (ht_isB (ht_op (ac_T (ht_b (ac_H (e := eD) (ht_dec (e := eR) (ht_getFV (hv_var rfl))) hv_nil (fun st _ _ h => by show lift _ _ = lift _ _; rw [dr_len h]) fun vxs1 => (af_b1 (enc := eI) (t_lenL (e := eD) _)))) fun vx3 => (ac_V hv_lit (af_op (enc := eB) (t_ge _ _)))))) (tr_seqR tr_raise) (tr_nextR (tr_seqN (tn_drop (ht_happ (e := (eP (eT (eT eI)) (eT eI))) (ht_dec (e := eR) (ht_getFV (hv_var rfl))) (ht_methASV (ns := ["Desk", "GuessDesk"]) (hv_var rfl) (ac_V (hv_var rfl) (ac_fn (fn_Desk_state_after vself vedit)))))) fun vu5 => (tr_seqN (tn_drop (ht_happ (e := eD) (ht_dec (e := eR) (ht_getFV (hv_var rfl))) (ht_ofV (hv_var rfl)))) fun vu8 => (tr_ret (ht_b (ac_H (e := eD) (ht_dec (e := eR) (ht_getFV (hv_var rfl))) hv_nil (fun st _ _ h => by show lift _ _ = lift _ _; rw [dr_len h]) fun vxs11 => (af_b1 (enc := eI) (t_lenL (e := eD) _)))))))))
noncomputable def p_Desk_press (vself : Nat) (vbutton : D) : Mt ST Int := mbind (mbind (hclsA ["Desk", "GuessDesk"] "require_idle" vself) fun _ => p_Desk_require_idle vself) fun vu1 => mbind (hclsA ["Desk", "GuessDesk"] "perform" vself) fun _ => p_Desk_perform vself ((eP eS eD) (("press" : Str), vbutton))
theorem fn_Desk_press (vself : Nat) (vbutton : D) : FN (WO RDk) d_Desk_press [eR vself, eD vbutton] (p_Desk_press vself vbutton) eI := fn_of rfl (le_c rfl) fun fr => (tr_seqN (tn_drop (ht_methASV (ns := ["Desk", "GuessDesk"]) (hv_var rfl) (ac_fn (fn_Desk_require_idle vself)))) fun vu1 => (tr_ret (ht_methASV (ns := ["Desk", "GuessDesk"]) (hv_var rfl) (ac_V (hv_tup (hv_cons hv_lit (hv_cons (hv_var rfl) hv_nil)) (le_c rfl)) (ac_fn (fn_Desk_perform vself ((eP eS eD) (("press" : Str), vbutton))))))))
noncomputable def p_Desk_link (vself : Nat) (vone : D) (vother : D) : Mt ST Int := mbind (mbind (hclsA ["Desk", "GuessDesk"] "require_idle" vself) fun _ => p_Desk_require_idle vself) fun vu1 => mbind (hclsA ["Desk", "GuessDesk"] "perform" vself) fun _ => p_Desk_perform vself ((eP3 eS eD eD) (("link" : Str), vone, vother))
theorem fn_Desk_link (vself : Nat) (vone : D) (vother : D) : FN (WO RDk) d_Desk_link [eR vself, eD vone, eD vother] (p_Desk_link vself vone vother) eI := fn_of rfl (le_c rfl) fun fr => (tr_seqN (tn_drop (ht_methASV (ns := ["Desk", "GuessDesk"]) (hv_var rfl) (ac_fn (fn_Desk_require_idle vself)))) fun vu1 => (tr_ret (ht_methASV (ns := ["Desk", "GuessDesk"]) (hv_var rfl) (ac_V (hv_tup (hv_cons hv_lit (hv_cons (hv_var rfl) (hv_cons (hv_var rfl) hv_nil))) (le_c rfl)) (ac_fn (fn_Desk_perform vself ((eP3 eS eD eD) (("link" : Str), vone, vother))))))))
noncomputable def p_Desk_unlink (vself : Nat) (vone : D) (vother : D) : Mt ST Int := mbind (mbind (hclsA ["Desk", "GuessDesk"] "require_idle" vself) fun _ => p_Desk_require_idle vself) fun vu1 => mbind (hclsA ["Desk", "GuessDesk"] "perform" vself) fun _ => p_Desk_perform vself ((eP3 eS eD eD) (("unlink" : Str), vone, vother))
theorem fn_Desk_unlink (vself : Nat) (vone : D) (vother : D) : FN (WO RDk) d_Desk_unlink [eR vself, eD vone, eD vother] (p_Desk_unlink vself vone vother) eI := fn_of rfl (le_c rfl) fun fr => (tr_seqN (tn_drop (ht_methASV (ns := ["Desk", "GuessDesk"]) (hv_var rfl) (ac_fn (fn_Desk_require_idle vself)))) fun vu1 => (tr_ret (ht_methASV (ns := ["Desk", "GuessDesk"]) (hv_var rfl) (ac_V (hv_tup (hv_cons hv_lit (hv_cons (hv_var rfl) (hv_cons (hv_var rfl) hv_nil))) (le_c rfl)) (ac_fn (fn_Desk_perform vself ((eP3 eS eD eD) (("unlink" : Str), vone, vother))))))))
noncomputable def p__law_do (vtable : Nat) (vedit_here : D) : Mt ST Int := mbind (mbind (midxD vedit_here (0 : Int)) fun vx1 => meqD vx1 (eS ("press" : Str))) fun vb2 => if vb2 = true then (mbind (hcls "GuessDesk" "press" vtable) fun _ => mbind (midxD vedit_here (1 : Int)) fun vx3 => p_Desk_press vtable vx3) else (mbind (mbind (midxD vedit_here (0 : Int)) fun vx4 => meqD vx4 (eS ("link" : Str))) fun vb5 => if vb5 = true then (mbind (hcls "GuessDesk" "link" vtable) fun _ => mbind (midxD vedit_here (1 : Int)) fun vx6 => mbind (midxD vedit_here (2 : Int)) fun vx7 => p_Desk_link vtable vx6 vx7) else (mbind (hcls "GuessDesk" "unlink" vtable) fun _ => mbind (midxD vedit_here (1 : Int)) fun vx8 => mbind (midxD vedit_here (2 : Int)) fun vx9 => p_Desk_unlink vtable vx8 vx9))
theorem fn__law_do (vtable : Nat) (vedit_here : D) : FN (WO RDk) d__law_do [eR vtable, eD vedit_here] (p__law_do vtable vedit_here) eI := fn_of rfl (le_c rfl) fun fr => (tr_ifseq (ht_isB (ht_op (ac_T (ht_op (ac_V (hv_var rfl) (ac_V hv_lit (af_idxD vedit_here (0 : Int))))) fun vx1 => (ac_V hv_lit (af_eqD _ _))))) (tr_seqR (tr_ret (ht_methA1 (hv_var rfl) (ac_T (ht_op (ac_V (hv_var rfl) (ac_V hv_lit (af_idxD vedit_here (1 : Int))))) fun vx3 => (ac_fn (fn_Desk_press vtable vx3)))))) (tr_nextR (tr_ifseq (ht_isB (ht_op (ac_T (ht_op (ac_V (hv_var rfl) (ac_V hv_lit (af_idxD vedit_here (0 : Int))))) fun vx4 => (ac_V hv_lit (af_eqD _ _))))) (tr_seqR (tr_ret (ht_methA1 (hv_var rfl) (ac_T (ht_op (ac_V (hv_var rfl) (ac_V hv_lit (af_idxD vedit_here (1 : Int))))) fun vx6 => (ac_T (ht_op (ac_V (hv_var rfl) (ac_V hv_lit (af_idxD vedit_here (2 : Int))))) fun vx7 => (ac_fn (fn_Desk_link vtable vx6 vx7))))))) (tr_nextR (tr_ret (ht_methA1 (hv_var rfl) (ac_T (ht_op (ac_V (hv_var rfl) (ac_V hv_lit (af_idxD vedit_here (1 : Int))))) fun vx8 => (ac_T (ht_op (ac_V (hv_var rfl) (ac_V hv_lit (af_idxD vedit_here (2 : Int))))) fun vx9 => (ac_fn (fn_Desk_unlink vtable vx8 vx9))))))))))
noncomputable def p__law_states {S : Type} (vn : Int) : Mt S (List (List Int)) := mbind (mpure ([([] : (List Int))])) fun vfound1 => mbind (mbind (mbind (mpure vn) fun vn3 => mrng (0 : Int) vn3) fun vxs9 => forU (fun (vx4 : Int) (vz2 : (List (List Int))) => mbind (mbind (mbind (mpure vz2) fun vxs6 => calmly (compM (fun (vx5 : (List Int)) => true) (fun (vx5 : (List Int)) => mcat vx5 ([vx4])) vxs6)) fun vx7 => mcat vz2 vx7) fun vfound8 => mpure vfound8) vxs9 vfound1) fun vz2 => mpure vz2
theorem fn__law_states {S : Type} {W : Wd S} (vn : Int) : FN W d__law_states [eI vn] (p__law_states vn) (eL (eT eI)) := fnT_of (fun b => Pl.p b) rfl (le_c rfl) fun fr => (tr_seqN (tn_asg (ht_ofV (enc := (eL (eT eI))) (hv_frz (hv_disp (hv_cons (hv_tup hv_nil (le_c rfl)) hv_nil) (le_c rfl))))) fun vfound1 => (tr_seqN (tn_for (J := fun (vz2 : (List (List Int))) => [.val (eI vn), .val ((eL (eT eI)) vz2), .any, .any]) (z0 := vfound1) (src_rng1 (ht_ofV (hv_var rfl))) (fun _ => (.same (.same (.any (.any .nil))))) (fun vx4 vz2 => (gt1_N 2 _)) (fun vx4 vz2 => (tn_map (f := fun (vfound8 : (List (List Int))) => vfound8) (tn_asg (ht_frz (ht_opL (ac_V (hv_var rfl) (ac_T (ht_frz (ht_compM (enc := (eT eI)) (c := (fun (vx5 : (List Int)) => true)) (f := (fun (vx5 : (List Int)) => mcat vx5 ([vx4]))) (src_seq (sL (e := (eT eI))) (ht_ofV (hv_var rfl))) rfl (fun vx5 => (gt1_N 3 _)) (by decide) (fun _ => (kp_of trivial)) (fun vx5 => hv_yes) (fun vx5 => (ht_op (ac_V (hv_var rfl) (ac_V (hv_tup (hv_cons (hv_var rfl) hv_nil) (le_c rfl)) (af_catT (e := eI) vx5 ([vx4])))))))) fun vx7 => (af_catL (e := (eT eI)) vz2 vx7)))))) (fun vfound8 => (.same (.same (.any (.any .nil)))))))) fun vz2 => (tr_ret (ht_ofV (hv_var rfl)))))
noncomputable def p_Desk_latched (vself : Nat) : Mt ST (List Int) := mbind (mbind (mbind (mgetF ["Desk", "GuessDesk"] "states" vself) (mdec eR)) fun vk2 => mbind (hgetT (eP (eT (eT eI)) (eT eI)) vk2) fun vxs1 => midx vxs1 (-(1 : Int))) fun vx3 => mpure vx3.2
theorem fn_Desk_latched (vself : Nat) : FN (WO RDk) d_Desk_latched [eR vself] (p_Desk_latched vself) (eT eI) := fn_of rfl (le_c rfl) fun fr => (tr_ret (ht_op (ac_T (ht_op (ac_H (e := (eP (eT (eT eI)) (eT eI))) (ht_dec (e := eR) (ht_getFV (hv_var rfl))) (hv_cons (hv_un hv_lit (t_neg _)) hv_nil) (fun st _ _ h => by show lift _ _ = lift _ _; rw [dr_idx1 h]) fun vxs1 => (ac_V (hv_un hv_lit (t_neg _)) (af_idxL (e := (eP (eT (eT eI)) (eT eI))) _ _)))) fun vx3 => (ac_V hv_lit (af_op (enc := (eT eI)) (fun _ => rfl))))))
noncomputable def p_Desk___eq__ (vself : Nat) (vother : Nat) : Mt ST Bool := mbind (mbind (mpure vother) (hisiO [("GuessDesk", true)])) fun vb7 => if vb7 = true then mbind (mbind (mbind (mgetF ["Desk", "GuessDesk"] "states" vself) (mdec eR)) fun vk2 => mbind (hgetT (eP (eT (eT eI)) (eT eI)) vk2) fun vxs1 => midx vxs1 (-(1 : Int))) fun vx5 => mbind (mbind (mbind (mgetF ["GuessDesk"] "states" vother) (mdec eR)) fun vk4 => mbind (hgetT (eP (eT (eT eI)) (eT eI)) vk4) fun vxs3 => midx vxs3 (-(1 : Int))) fun vx6 => mpure (decide (vx5 = vx6)) else mpure false
theorem fn_Desk___eq__ (vself : Nat) (vother : Nat) : FN (WO RDk) d_Desk___eq__ [eR vself, eR vother] (p_Desk___eq__ vself vother) eB := fn_of rfl (le_c rfl) fun fr => (tr_ret (ht_andV (ht_isiO (ht_ofV (hv_var rfl))) (ht_op (ac_T (ht_op (ac_H (e := (eP (eT (eT eI)) (eT eI))) (ht_dec (e := eR) (ht_getFV (hv_var rfl))) (hv_cons (hv_un hv_lit (t_neg _)) hv_nil) (fun st _ _ h => by show lift _ _ = lift _ _; rw [dr_idx1 h]) fun vxs1 => (ac_V (hv_un hv_lit (t_neg _)) (af_idxL (e := (eP (eT (eT eI)) (eT eI))) _ _)))) fun vx5 => (ac_T (ht_op (ac_H (e := (eP (eT (eT eI)) (eT eI))) (ht_dec (e := eR) (ht_getFV (hv_var rfl))) (hv_cons (hv_un hv_lit (t_neg _)) hv_nil) (fun st _ _ h => by show lift _ _ = lift _ _; rw [dr_idx1 h]) fun vxs3 => (ac_V (hv_un hv_lit (t_neg _)) (af_idxL (e := (eP (eT (eT eI)) (eT eI))) _ _)))) fun vx6 => (af_op (enc := eB) (t_eq (e := (eP (eT (eT eI)) (eT eI))) vx5 vx6 (by decide))))))))
noncomputable def p_known_after {S : Type} (vknown : (List Str)) (vpanel : (List (List Int))) (vbutton : Int) : Mt S (List Str) := mbind (mbind (mbind (mpure vknown) fun vxs1 => mpure (enumZ 0 vxs1)) fun vxs6 => calmly (compM (fun (vx2 : (Int × Str)) => true) (fun (vx2 : (Int × Str)) => mbind (mpure (decide (vx2.1 = vbutton))) fun vb5 => if vb5 = true then mpure ("on" : Str) else mbind (mbind (midx vpanel vbutton) fun vx3 => mpure (decide (vx2.1 ∈ vx3))) fun vb4 => if vb4 = true then mpure ("off" : Str) else mpure vx2.2) vxs6)) fun vx7 => mpure vx7
theorem fn_known_after {S : Type} {W : Wd S} (vknown : (List Str)) (vpanel : (List (List Int))) (vbutton : Int) : FN W d_known_after [(eT eS) vknown, (eT (eT eI)) vpanel, eI vbutton] (p_known_after vknown vpanel vbutton) (eT eS) := fnT_of (fun b => Pl.p b) rfl (le_c rfl) fun fr => (tr_ret (ht_b (ac_T (ht_frz (ht_compM (enc := eS) (c := (fun (vx2 : (Int × Str)) => true)) (f := (fun (vx2 : (Int × Str)) => mbind (mpure (decide (vx2.1 = vbutton))) fun vb5 => if vb5 = true then mpure ("on" : Str) else mbind (mbind (midx vpanel vbutton) fun vx3 => mpure (decide (vx2.1 ∈ vx3))) fun vb4 => if vb4 = true then mpure ("off" : Str) else mpure vx2.2)) (src_enum (sT (e := eS)) (ht_ofV (hv_var rfl))) rfl (fun vx2 => (gt1_T (gts_cons (gt1_N 3 _) (gts_cons (gt1_N 4 _) gts_nil)) rfl)) (by decide) (fun _ => (kp_of trivial)) (fun vx2 => hv_yes) (fun vx2 => (ht_if (ht_ofV (hv_isB (hv_op (hv_var rfl) (hv_var rfl) (t_eq (e := eI) _ _ (by decide))))) (ht_ofV hv_lit) (ht_if (ht_isB (ht_op (ac_V (hv_var rfl) (ac_T (ht_op (ac_V (hv_var rfl) (ac_V (hv_var rfl) (af_idxT (e := (eT eI)) vpanel vbutton)))) fun vx3 => (af_op (enc := eB) (t_inT (e := eI) vx2.1 vx3 (by decide))))))) (ht_ofV hv_lit) (ht_ofV (hv_var rfl))))))) fun vx7 => (af_b1 (enc := (eT eS)) (t_tupL (e := eS) _)))))
noncomputable def p_GuessDesk_known (vself : Nat) : Mt ST (List Str) := mbind (mbind (mgetF ["GuessDesk"] "told" vself) (mdec (eT eS))) fun vfound1 => mbind (mbind (mbind (mgetF ["GuessDesk"] "standing" vself) (mdec eR)) fun vl13 => mbind (hgetT eD vl13) fun vxs14 => forU (fun (vx3 : (Int × D)) (vz2 : (List Str)) => mbind (mbind (mbind (mbind (midxD vx3.2 (0 : Int)) fun vx4 => meqD vx4 (eS ("press" : Str))) fun vb12 => if vb12 = true then (mbind (mbind (mbind (mbind (mbind (mgetF ["GuessDesk"] "states" vself) (mdec eR)) fun vk7 => mbind (hgetT (eP (eT (eT eI)) (eT eI)) vk7) fun vxs6 => midx vxs6 vx3.1) fun vx8 => mpure vx8.1) fun vx9 => mbind (mbind (midxD vx3.2 (1 : Int)) mcastI) fun vx10 => p_known_after vz2 vx9 vx10) fun vfound11 => mpure vfound11) else (mpure vz2)) fun vz5 => mpure vz5) (mheldN vl13 (List.map eD vxs14))) (enumZ 0 vxs14) vfound1) fun vz2 => mpure vz2
theorem fn_GuessDesk_known (vself : Nat) : FN (WO RDk) d_GuessDesk_known [eR vself] (p_GuessDesk_known vself) (eT eS) := fn_of rfl (le_c rfl) fun fr => (tr_seqN (tn_asg (ht_dec (e := (eT eS)) (ht_getFV (hv_var rfl)))) fun vfound1 => (tr_seqN (tn_forHE (e := eD) (J := fun (vz2 : (List Str)) => [.val (eR vself), .val ((eT eS) vz2), .any, .any]) (z0 := vfound1) (ht_dec (e := eR) (ht_getFV (hv_var rfl))) (.same (.same (.any (.any .nil)))) (fun vx3 vz2 => (gt1_T (gts_cons (gt1_N 2 _) (gts_cons (gt1_N 3 _) gts_nil)) rfl)) (fun vx3 vz2 => (tn_map (f := fun (vz5 : (List Str)) => vz5) (tn_if (J := fun (vz5 : (List Str)) => [.val (eR vself), .val ((eT eS) vz5), .val (eI vx3.1), .val (eD vx3.2)]) (ht_isB (ht_op (ac_T (ht_op (ac_V (hv_var rfl) (ac_V hv_lit (af_idxD vx3.2 (0 : Int))))) fun vx4 => (ac_V hv_lit (af_eqD _ _))))) (tn_map (f := fun (vfound11 : (List Str)) => vfound11) (tn_asg (ht_call (ac_V (hv_var rfl) (ac_T (ht_op (ac_T (ht_op (ac_H (e := (eP (eT (eT eI)) (eT eI))) (ht_dec (e := eR) (ht_getFV (hv_var rfl))) (hv_cons (hv_var rfl) hv_nil) (fun st _ _ h => by show lift _ _ = lift _ _; rw [dr_idx1 h]) fun vxs6 => (ac_V (hv_var rfl) (af_idxL (e := (eP (eT (eT eI)) (eT eI))) _ _)))) fun vx8 => (ac_V hv_lit (af_op (enc := (eT (eT eI))) (fun _ => rfl))))) fun vx9 => (ac_T (ht_castI (ht_op (ac_V (hv_var rfl) (ac_V hv_lit (af_idxD vx3.2 (1 : Int)))))) fun vx10 => (ac_fn (fn_known_after vz2 vx9 vx10))))))) (fun vfound11 => (.same (.same (.same (.same .nil)))))) (tn_skip (.same (.same (.same (.same .nil)))))) (fun vz5 => (.same (.same (.any (.any .nil)))))))) fun vz2 => (tr_ret (ht_ofV (hv_var rfl)))))
noncomputable def p__law_known_right (vtables : (List Nat)) (vfirsts : (List (List Int))) (vn : Int) : Mt ST Bool := mbind (mbind (midx vtables (0 : Int)) fun vl1 => mbind (hclA ["GuessDesk"] vl1) fun _ => calmly (p_GuessDesk_known vl1)) fun vknown2 => mbind (mbind (mbind (mpure vtables) fun vxs5 => calmly (compG (fun (vx3 : Nat) => mbind (mbind (hcl "GuessDesk" vx3) fun _ => calmly (p_GuessDesk_known vx3)) fun vx4 => mpure (!decide (vx4 = vknown2))) (fun (vx3 : Nat) => mpure vx3) vxs5)) fun vx6 => mpure (!vx6.isEmpty)) fun vb7 => if vb7 = true then (mpure false) else (mfin (mbind (mbind (mpure vn) fun vn9 => mrng (0 : Int) vn9) fun vxs34 => forX (fun (vx10 : Int) (vz8 : Unit) => mbind (mbind (mpure vtables) fun vxs13 => calmly (compM (fun (vx11 : Nat) => true) (fun (vx11 : Nat) => mbind (mbind (hcl "GuessDesk" vx11) fun _ => calmly (p_Desk_latched vx11)) fun vx12 => mpure (decide (vx10 ∈ vx12))) vxs13)) fun vnow14 => mbind (mpure ("same" : Str)) fun vdue15 => mbind (mpure (!decide (false ∈ vnow14))) fun vb16 => if vb16 = true then (mbind (mpure ("on" : Str)) fun vdue17 => mbind (mbind (midx vknown2 vx10) fun vx18 => mpure (!decide (vx18 = vdue17))) fun vb19 => if vb19 = true then (mbind (mpure false) fun vr20 => mpure (.rt vr20)) else (mpure (.nx ()))) else (mbind (mpure (!decide (true ∈ vnow14))) fun vb21 => if vb21 = true then (mbind (mpure ("off" : Str)) fun vdue22 => mbind (mbind (midx vknown2 vx10) fun vx23 => mpure (!decide (vx23 = vdue22))) fun vb24 => if vb24 = true then (mbind (mpure false) fun vr25 => mpure (.rt vr25)) else (mpure (.nx ()))) else (mbind (mbind (mbind (mpure vfirsts) fun vxs27 => compV (fun (vx26 : (List Int)) => true) (fun (vx26 : (List Int)) => (decide (vx10 ∈ vx26))) vxs27) fun vx28 => mpure (!decide (vnow14 = vx28))) fun vb29 => if vb29 = true then (mbind (mpure false) fun vr30 => mpure (.rt vr30)) else (mbind (mbind (midx vknown2 vx10) fun vx31 => mpure (!decide (vx31 = vdue15))) fun vb32 => if vb32 = true then (mbind (mpure false) fun vr33 => mpure (.rt vr33)) else (mpure (.nx ())))))) vxs34 ()) fun vz8 => mbind (mpure (decide (("same" : Str) ∈ vknown2))) fun vb41 => if vb41 = true then mpure true else mbind (mbind (mpure vtables) fun vxs39 => calmly (compG (fun (vx35 : Nat) => mbind (mbind (mpure vx35) fun vl36 => mbind (midx vtables (0 : Int)) fun vl37 => heqA ["GuessDesk"] [] vl36 vl37 (p_Desk___eq__ vl36 vl37) (p_Desk___eq__ vl37 vl36)) fun vb38 => mpure (!vb38)) (fun (vx35 : Nat) => mpure vx35) vxs39)) fun vx40 => mpure (vx40.isEmpty))
theorem fn__law_known_right (vtables : (List Nat)) (vfirsts : (List (List Int))) (vn : Int) : FN (WO RDk) d__law_known_right [(eL eR) vtables, (eL (eT eI)) vfirsts, eI vn] (p__law_known_right vtables vfirsts vn) eB := fn_of rfl (le_c rfl) fun fr => (tr_seqN (tn_asg (ht_propAS (ns := ["GuessDesk"]) (ht_op (ac_V (hv_var rfl) (ac_V hv_lit (af_idxL (e := eR) vtables (0 : Int))))) fun vl1 => (ac_fn (fn_GuessDesk_known vl1)))) fun vknown2 => (tr_ifseq (ht_isB (ht_op (ac_T (ht_frz (ht_compG (enc := eR) (c := (fun (vx3 : Nat) => mbind (mbind (hcl "GuessDesk" vx3) fun _ => calmly (p_GuessDesk_known vx3)) fun vx4 => mpure (!decide (vx4 = vknown2)))) (f := (fun (vx3 : Nat) => mpure vx3)) (src_seq (sL (e := eR)) (ht_ofV (hv_var rfl))) rfl (fun vx3 => (gt1_N 4 _)) (by decide) (fun _ => (kp_of trivial)) (fun vx3 => (ht_isB (ht_op (ac_T (ht_propA1 (hv_var rfl) (ac_fn (fn_GuessDesk_known vx3))) fun vx4 => (ac_V (hv_var rfl) (af_op (enc := eB) (t_ne (e := (eT eS)) vx4 vknown2 (by decide)))))))) (fun vx3 => (ht_ofV (hv_var rfl))))) fun vx6 => (ac_V (hv_frz (hv_disp hv_nil (le_c rfl))) (af_op (enc := eB) (t_neE (e := eR) _)))))) (tr_seqR (tr_ret (ht_ofV hv_lit))) (tr_nextR (tr_seqF (J := _) (tf_for (J := fun (vz8 : Unit) => [.val ((eL eR) vtables), .val ((eL (eT eI)) vfirsts), .val (eI vn), .val ((eT eS) vknown2), .any, .any, .any, .any, .any]) (z0 := ()) (src_rng1 (ht_ofV (hv_var rfl))) (fun _ => (.same (.same (.same (.same (.any (.any (.any (.any (.any .nil)))))))))) (fun vx10 vz8 => (gt1_N 5 _)) (fun vx10 vz8 => (tl_seqN (tn_asg (ht_frz (ht_compM (enc := eB) (c := (fun (vx11 : Nat) => true)) (f := (fun (vx11 : Nat) => mbind (mbind (hcl "GuessDesk" vx11) fun _ => calmly (p_Desk_latched vx11)) fun vx12 => mpure (decide (vx10 ∈ vx12)))) (src_seq (sL (e := eR)) (ht_ofV (hv_var rfl))) rfl (fun vx11 => (gt1_N 4 _)) (by decide) (fun _ => (kp_of trivial)) (fun vx11 => hv_yes) (fun vx11 => (ht_op (ac_V (hv_var rfl) (ac_T (ht_propA1 (hv_var rfl) (ac_fn (fn_Desk_latched vx11))) fun vx12 => (af_op (enc := eB) (t_inT (e := eI) vx10 vx12 (by decide)))))))))) fun vnow14 => (tl_seqN (tn_asg (ht_ofV (enc := eS) hv_lit)) fun vdue15 => (tl_ifseq (ht_ofV (enc := id) (hv_isB (hv_op hv_lit (hv_var rfl) (t_ninL (e := eB) false vnow14 (by decide))))) (tl_seqN (tn_asg (ht_ofV (enc := eS) hv_lit)) fun vdue17 => (tl_if (ht_isB (ht_op (ac_T (ht_op (ac_V (hv_var rfl) (ac_V (hv_var rfl) (af_idxT (e := eS) vknown2 vx10)))) fun vx18 => (ac_V (hv_var rfl) (af_op (enc := eB) (t_ne (e := eS) _ _ (by decide))))))) (tl_ofX (tx_ofR (tr_ret (ht_ofV hv_lit)))) (tl_nextR (tl_next (.same (.same (.same (.same (.any (.any (.any (.any (.any .nil))))))))))))) (tl_ifseq (ht_ofV (enc := id) (hv_isB (hv_op hv_lit (hv_var rfl) (t_ninL (e := eB) true vnow14 (by decide))))) (tl_seqN (tn_asg (ht_ofV (enc := eS) hv_lit)) fun vdue22 => (tl_if (ht_isB (ht_op (ac_T (ht_op (ac_V (hv_var rfl) (ac_V (hv_var rfl) (af_idxT (e := eS) vknown2 vx10)))) fun vx23 => (ac_V (hv_var rfl) (af_op (enc := eB) (t_ne (e := eS) _ _ (by decide))))))) (tl_ofX (tx_ofR (tr_ret (ht_ofV hv_lit)))) (tl_nextR (tl_next (.same (.same (.same (.same (.any (.any (.any (.any (.any .nil))))))))))))) (tl_ifseq (ht_isB (ht_op (ac_V (hv_var rfl) (ac_T (ht_frz (ht_compV (enc := eB) (c := (fun (vx26 : (List Int)) => true)) (f := (fun (vx26 : (List Int)) => (decide (vx10 ∈ vx26)))) (src_seq (sL (e := (eT eI))) (ht_ofV (hv_var rfl))) rfl (fun vx26 => (gt1_N 8 _)) (by decide) (fun _ => (kp_of trivial)) (fun vx26 => hv_yes) (fun vx26 => (hv_op (hv_var rfl) (hv_var rfl) (t_inT (e := eI) vx10 vx26 (by decide)))))) fun vx28 => (af_op (enc := eB) (t_ne (e := (eL eB)) vnow14 vx28 (by decide))))))) (tl_seqX (tx_ofR (tr_ret (ht_ofV hv_lit)))) (tl_nextR (tl_if (ht_isB (ht_op (ac_T (ht_op (ac_V (hv_var rfl) (ac_V (hv_var rfl) (af_idxT (e := eS) vknown2 vx10)))) fun vx31 => (ac_V (hv_var rfl) (af_op (enc := eB) (t_ne (e := eS) _ _ (by decide))))))) (tl_ofX (tx_ofR (tr_ret (ht_ofV hv_lit)))) (tl_nextR (tl_next (.same (.same (.same (.same (.any (.any (.any (.any (.any .nil)))))))))))))))))))) fun vz8 => (tr_ret (ht_orV (ht_ofV (hv_op hv_lit (hv_var rfl) (t_inT (e := eS) ("same" : Str) vknown2 (by decide)))) (ht_op (ac_T (ht_frz (ht_compG (enc := eR) (c := (fun (vx35 : Nat) => mbind (mbind (mpure vx35) fun vl36 => mbind (midx vtables (0 : Int)) fun vl37 => heqA ["GuessDesk"] [] vl36 vl37 (p_Desk___eq__ vl36 vl37) (p_Desk___eq__ vl37 vl36)) fun vb38 => mpure (!vb38))) (f := (fun (vx35 : Nat) => mpure vx35)) (src_seq (sL (e := eR)) (ht_ofV (hv_var rfl))) rfl (fun vx35 => (gt1_N 4 _)) (by decide) (fun _ => (kp_of trivial)) (fun vx35 => (ht_not (ht_isB (ht_eqA (ns := ["GuessDesk"]) (spec := d_Desk___eq__) (ht_ofV (hv_var rfl)) (ht_op (ac_V (hv_var rfl) (ac_V hv_lit (af_idxL (e := eR) vtables (0 : Int))))) (fun l1 l2 => ac_fn (fn_Desk___eq__ l1 l2)) (fun l1 l2 => ac_fn (fn_Desk___eq__ l2 l1)))))) (fun vx35 => (ht_ofV (hv_var rfl))))) fun vx40 => (ac_V (hv_frz (hv_disp hv_nil (le_c rfl))) (af_op (enc := eB) (t_eqE (e := eR) _)))))))))))
noncomputable def p_law : Mt ST Bool := mbind (p__law_panel (5 : Int)) fun vpanel_here1 => mbind (mpure (vpanel_here1.length : Int)) fun vn2 => mbind (mbind (p__law_states vn2) fun vx3 => mpure (vx3, [(vpanel_here1, ([] : (List Int)))])) fun vp4 => mbind (mbind (mpure vp4.1) fun vxs7 => calmly (compM (fun (vx5 : (List Int)) => true) (fun (vx5 : (List Int)) => mmk "GuessDesk" fun vl6 => p_GuessDesk___init__ vl6 vpanel_here1 vx5) vxs7)) fun vtables8 => mfin (mbind (mbind (mbind (draw (12 : Int)) fun vx10 => mpure ((1 : Int) + vx10)) fun vn11 => mrng (0 : Int) vn11) fun vxs44 => forX (fun (vx12 : Int) (vz9 : (List ((List (List Int)) × (List Int)))) => mbind (mbind (mbind (draw (4 : Int)) fun vx13 => mpure (decide (vx13 = (0 : Int)))) fun vb14 => if vb14 = true then mpure (decide ((vz9.length : Int) > (1 : Int))) else mpure false) fun vb15 => if vb15 = true then (mbind (mpop vz9) fun vz17 => mbind (mbind (mbind (mpure vtables8) fun vxs21 => calmly (compG (fun (vx19 : Nat) => mbind (mbind (hcls "GuessDesk" "undo" vx19) fun _ => p_Desk_undo vx19) fun vx20 => mpure (!decide (vx20 = ((vz17.2.length : Int) - (1 : Int))))) (fun (vx19 : Nat) => mpure vx19) vxs21)) fun vx22 => mpure (!vx22.isEmpty)) fun vb23 => if vb23 = true then (mbind (mpure false) fun vr24 => mpure (.rt vr24)) else (mbind (mbind (mbind (p__law_known_right vtables8 vp4.1 vn2) fun vx25 => mpure vx25) fun vb26 => mpure (!vb26)) fun vb27 => if vb27 = true then (mbind (mpure false) fun vr28 => mpure (.rt vr28)) else (mpure (.nx vz17.2)))) else (mbind (mbind (midx vz9 (-(1 : Int))) fun vx29 => p__law_edit vx29) fun vedit_here30 => mbind (mbind (mbind (midx vz9 (-(1 : Int))) fun vx32 => p__law_after vx32 vedit_here30) fun vx33 => mapp vz9 vx33) fun vstates_here31 => mbind (mbind (mbind (mpure vtables8) fun vxs36 => calmly (compG (fun (vx34 : Nat) => mbind (p__law_do vx34 vedit_here30) fun vx35 => mpure (!decide (vx35 = ((vstates_here31.length : Int) - (1 : Int))))) (fun (vx34 : Nat) => mpure vx34) vxs36)) fun vx37 => mpure (!vx37.isEmpty)) fun vb38 => if vb38 = true then (mbind (mpure false) fun vr39 => mpure (.rt vr39)) else (mbind (mbind (mbind (p__law_known_right vtables8 vp4.1 vn2) fun vx40 => mpure vx40) fun vb41 => mpure (!vb41)) fun vb42 => if vb42 = true then (mbind (mpure false) fun vr43 => mpure (.rt vr43)) else (mpure (.nx vstates_here31))))) vxs44 vp4.2) fun vz9 => mpure true
theorem tr_law (fr : Sto) : TR (WO RDk) fr [.any, .val (.ref 1), .any, .any, .any, .any, .any, .any, .any, .any, .any] rest_law_1 p_law eB := (tr_seqN (tn_asg (ht_call (ac_V (hv_var rfl) (ac_V hv_lit (ac_fn (fn__law_panel (5 : Int))))))) fun vpanel_here1 => (tr_seqN (tn_asg (ht_ofV (hv_b (A := D) (hv_cons (hv_var rfl) hv_nil) (t_lenT (e := (eT eI)) _)))) fun vn2 => (tr_seqN (tn_tup2 (J := fun (vp4 : (List (List Int)) × (List ((List (List Int)) × (List Int)))) => [.any, .val (.ref 1), .val ((eT (eT eI)) vpanel_here1), .val (eI vn2), .val ((eL (eT eI)) vp4.1), .mut (.lst (List.map (eQ (eT (eT eI)) (eT eI)) vp4.2)), .any, .any, .any, .any, .any]) (ap_T (ht_call (ac_V (hv_var rfl) (ac_fn (fn__law_states vn2)))) (fun _ => rfl) fun vx3 => (ap_New (hv_disp (hv_cons (hv_frz (hv_disp (hv_cons (hv_var rfl) (hv_cons (hv_tup hv_nil (le_c rfl)) hv_nil)) (le_c rfl))) hv_nil) (le_c rfl)) fun _ => (ap_two (lt_c rfl) (lt_c rfl))))) fun vp4 => (tr_seqN (tn_asg (ht_frz (ht_compM (enc := eR) (c := (fun (vx5 : (List Int)) => true)) (f := (fun (vx5 : (List Int)) => mmk "GuessDesk" fun vl6 => p_GuessDesk___init__ vl6 vpanel_here1 vx5)) (src_seq (sL (e := (eT eI))) (ht_ofV (hv_var rfl))) rfl (fun vx5 => (gt1_N 7 _)) (by decide) (fun _ => (kp_of ⟨by decide, rfl, trivial⟩)) (fun vx5 => hv_yes) (fun vx5 => (ht_call (ac_V (hv_var rfl) (ac_V (hv_var rfl) (ac_fn (fn_mkM fun vl6 => (fn_GuessDesk___init__ vl6 vpanel_here1 vx5)))))))))) fun vtables8 => (tr_seqF (J := _) (tf_for (J := fun (vz9 : (List ((List (List Int)) × (List Int)))) => [.any, .val (.ref 1), .val ((eT (eT eI)) vpanel_here1), .val (eI vn2), .val ((eL (eT eI)) vp4.1), .mut (.lst (List.map (eQ (eT (eT eI)) (eT eI)) vz9)), .val ((eL eR) vtables8), .any, .any, .any, .any]) (z0 := vp4.2) (src_rng1 (ht_op (ac_V hv_lit (ac_T (ht_call (ac_V (hv_var rfl) (ac_V hv_lit (ac_fn (fn_draw (12 : Int)))))) fun vx10 => (af_op (t_add _ _)))))) (fun _ => (.any (.same (.same (.same (.same (.same (.same (.any (.any (.any (.any .nil)))))))))))) (fun vx12 vz9 => (gt1_N 8 _)) (fun vx12 vz9 => (tl_ifseq (ht_and (ht_isB (ht_op (ac_T (ht_call (ac_V (hv_var rfl) (ac_V hv_lit (ac_fn (fn_draw (4 : Int)))))) fun vx13 => (ac_V hv_lit (af_op (enc := eB) (t_eq (e := eI) _ _ (by decide))))))) (ht_ofV (enc := id) (hv_isB (hv_op (hv_bM rfl (fun _ _ h => dr_len h) (t_lenL (e := (eQ (eT (eT eI)) (eT eI))) _)) hv_lit (t_gt _ _))))) (tl_seqA (tl_seqN (tn_drop (ht_pop rfl)) fun vz17 => (tl_ifseq (ht_isB (ht_op (ac_T (ht_frz (ht_compG (enc := eR) (c := (fun (vx19 : Nat) => mbind (mbind (hcls "GuessDesk" "undo" vx19) fun _ => p_Desk_undo vx19) fun vx20 => mpure (!decide (vx20 = ((vz17.2.length : Int) - (1 : Int)))))) (f := (fun (vx19 : Nat) => mpure vx19)) (src_seq (sL (e := eR)) (ht_ofV (hv_var rfl))) rfl (fun vx19 => (gt1_N 9 _)) (by decide) (fun _ => (kp_of ⟨by decide, rfl, trivial⟩)) (fun vx19 => (ht_isB (ht_op (ac_T (ht_methA1 (hv_var rfl) (ac_fn (fn_Desk_undo vx19))) fun vx20 => (ac_V (hv_op (hv_bM rfl (fun _ _ h => dr_len h) (t_lenL (e := (eQ (eT (eT eI)) (eT eI))) _)) hv_lit (t_sub _ _)) (af_op (enc := eB) (t_ne (e := eI) _ _ (by decide)))))))) (fun vx19 => (ht_ofV (hv_var rfl))))) fun vx22 => (ac_V (hv_frz (hv_disp hv_nil (le_c rfl))) (af_op (enc := eB) (t_neE (e := eR) _)))))) (tl_seqX (tx_ofR (tr_ret (ht_ofV hv_lit)))) (tl_nextR (tl_if (ht_not (ht_tru (ht_call (ac_V (hv_var rfl) (ac_V (hv_var rfl) (ac_V (hv_var rfl) (ac_fn (fn__law_known_right vtables8 vp4.1 vn2)))))) (fun x => tr_B x))) (tl_ofX (tx_ofR (tr_ret (ht_ofV hv_lit)))) (tl_nextR (tl_next (.any (.same (.same (.same (.same (.same (.same (.any (.any (.any (.any .nil)))))))))))))))))) (tl_seqA (tl_seqN (tn_asg (ht_call (ac_V (hv_var rfl) (ac_T (ht_op (ac_M rfl (hv_cons (hv_un hv_lit (t_neg _)) hv_nil) (fun st _ h => by show lift _ _ = lift _ _; rw [dr_idx1 h]) (ac_V (hv_un hv_lit (t_neg _)) (af_idxL _ _)))) fun vx29 => (ac_fn (fn__law_edit vx29)))))) fun vedit_here30 => (tl_seqA (tl_seqN (tn_drop (ht_append rfl (ht_call (ac_T (ht_op (ac_M rfl (hv_cons (hv_un hv_lit (t_neg _)) hv_nil) (fun st _ h => by show lift _ _ = lift _ _; rw [dr_idx1 h]) (ac_V (hv_un hv_lit (t_neg _)) (af_idxL _ _)))) fun vx32 => (ac_V (hv_var rfl) (ac_fn (fn__law_after vx32 vedit_here30))))))) fun vstates_here31 => (tl_ifseq (ht_isB (ht_op (ac_T (ht_frz (ht_compG (enc := eR) (c := (fun (vx34 : Nat) => mbind (p__law_do vx34 vedit_here30) fun vx35 => mpure (!decide (vx35 = ((vstates_here31.length : Int) - (1 : Int)))))) (f := (fun (vx34 : Nat) => mpure vx34)) (src_seq (sL (e := eR)) (ht_ofV (hv_var rfl))) rfl (fun vx34 => (gt1_N 9 _)) (by decide) (fun _ => (kp_of ⟨by decide, rfl, trivial⟩)) (fun vx34 => (ht_isB (ht_op (ac_T (ht_call (ac_V (hv_var rfl) (ac_V (hv_var rfl) (ac_fn (fn__law_do vx34 vedit_here30))))) fun vx35 => (ac_V (hv_op (hv_bM rfl (fun _ _ h => dr_len h) (t_lenL (e := (eQ (eT (eT eI)) (eT eI))) _)) hv_lit (t_sub _ _)) (af_op (enc := eB) (t_ne (e := eI) _ _ (by decide)))))))) (fun vx34 => (ht_ofV (hv_var rfl))))) fun vx37 => (ac_V (hv_frz (hv_disp hv_nil (le_c rfl))) (af_op (enc := eB) (t_neE (e := eR) _)))))) (tl_seqX (tx_ofR (tr_ret (ht_ofV hv_lit)))) (tl_nextR (tl_if (ht_not (ht_tru (ht_call (ac_V (hv_var rfl) (ac_V (hv_var rfl) (ac_V (hv_var rfl) (ac_fn (fn__law_known_right vtables8 vp4.1 vn2)))))) (fun x => tr_B x))) (tl_ofX (tx_ofR (tr_ret (ht_ofV hv_lit)))) (tl_nextR (tl_next (.any (.same (.same (.same (.same (.same (.same (.any (.any (.any (.any .nil))))))))))))))))))))))) fun vz9 => (tr_ret (ht_ofV hv_lit)))))))
/-! ### runs with a budget -/
section
variable {α β σ : Type}
theorem runs_b {N n : Nat} {q : Mt ST α} {k : α → Mt ST β} {Q : α → Prop} {R : β → Prop} (h : Runs n q Q) (hn : n ≤ N) (hk : ∀ a, Q a → Runs (N - n) (k a) R) : Runs N (mbind q k) R :=
  runs_le (runs_bind h hk) (by omega)
theorem runs_d {N : Nat} {m : Int} {k : Int → Mt ST β} {R : β → Prop} (h1 : 1 ≤ m) (h2 : m < 1073741824) (hn : 1 ≤ N) (hk : ∀ a, 0 ≤ a → a < m → Runs (N - 1) (k a) R) : Runs N (mbind (draw m) k) R :=
  runs_b (runs_draw h1 h2) hn fun a ha => hk a ha.1 ha.2
theorem runs_p {N : Nat} {a : α} {Q : α → Prop} (h : Q a) : Runs N (mpure a) Q := runs_le (runs_pure h) (Nat.zero_le _)
theorem runs_forL {N c : Nat} {body : α → σ → Mt ST σ} (I : List α → σ → Prop) {xs : List α} {z : σ} {k : σ → Mt ST β} {R : β → Prop} (h : I [] z) (hn : xs.length * c ≤ N) (hb : ∀ pre x post z, xs = pre ++ x :: post → I pre z → Runs c (body x z) (I (pre ++ [x]))) (hk : ∀ z, I xs z → Runs (N - xs.length * c) (k z) R) : Runs N (mbind (forU body xs z) k) R :=
  runs_b (runs_for I h hb) hn hk
/-- a loop with a leaving return that nothing reaches -/
theorem runs_fin {N c : Nat} {body : α → σ → Mt ST (Lp σ β)} (I : σ → Prop) {xs : List α} {z : σ} {k : σ → Mt ST β} {R : β → Prop} (h : I z) (hn : xs.length * c ≤ N) (hb : ∀ x ∈ xs, ∀ z, I z → Runs c (body x z) fun r => ∃ z', r = .nx z' ∧ I z') (hk : ∀ z, I z → Runs (N - xs.length * c) (k z) R) : Runs N (mfin (forX body xs z) k) R := by
  unfold mfin
  refine runs_b (runs_forX I xs z h hb) hn ?_
  rintro r ⟨z', rfl, hz⟩
  exact hk z' hz
theorem runs_finL {γ : Type} {N c : Nat} {body : α → σ → Mt ST (Lp σ β)} (I : σ → Prop) {xs : List α} {z : σ} {k : σ → Mt ST (Lp γ β)} {R : Lp γ β → Prop} (h : I z) (hn : xs.length * c ≤ N) (hb : ∀ x ∈ xs, ∀ z, I z → Runs c (body x z) fun r => ∃ z', r = .nx z' ∧ I z') (hk : ∀ z, I z → Runs (N - xs.length * c) (k z) R) : Runs N (mfinL (forX body xs z) k) R := by
  unfold mfinL
  refine runs_b (runs_forX I xs z h hb) hn ?_
  rintro r ⟨z', rfl, hz⟩
  exact hk z' hz
end
theorem mfin_bind {S β σ ω : Type} (q : Mt S ω) (l : ω → Mt S (σ ⊕ β)) (k : σ → Mt S β) : mfin (mbind q l) k = mbind q fun a => mfin (l a) k := by
  unfold mfin
  rw [mbind_assoc]
theorem mfinL_bind {S β σ τ ω : Type} (q : Mt S ω) (l : ω → Mt S (σ ⊕ β)) (k : σ → Mt S (Lp τ β)) : mfinL (mbind q l) k = mbind q fun a => mfinL (l a) k := by
  unfold mfinL
  rw [mbind_assoc]
theorem perm_erase {α : Type} : ∀ (l : List α) (i : Nat) (h : i < l.length), (l[i] :: l.eraseIdx i).Perm l
  | x :: l, 0, _ => List.Perm.refl _
  | x :: l, i + 1, h => (List.Perm.swap _ _ _).trans ((perm_erase l i (by simpa using h)).cons x)
theorem compG_id {S α : Type} {c : α → Mt S Bool} (p : α → Bool) {xs : List α} (hl : xs.length ≤ 100000) (hc : ∀ x ∈ xs, c x = mpure (p x)) : compG c (fun x => mpure x) xs = mpure (xs.filter p) := by
  have := compG_pure (f := fun x => mpure x) p id hl hc fun _ _ _ => rfl
  rw [List.map_id] at this
  exact this
/-! ### what holds whatever is chosen -/
def EndsR {S α : Type} (r : Rs S α) (Q : α → S → Prop) : Prop := match r with
  | .ok a s => Q a s
  | .amb P f => ∀ n, P n → EndsR (f n) Q
  | _ => False
theorem ends_bind {S α β : Type} {r : Rs S α} {k : α → Mt S β} {Q : α → S → Prop} {R : β → S → Prop} (h : EndsR r Q) (hk : ∀ a s, Q a s → EndsR (k a s) R) : EndsR (rbind r k) R := by
  induction r with
  | ok a s => exact hk a s h
  | exc x s => exact (h : False).elim
  | bad => exact (h : False).elim
  | amb P f ih => exact fun n p => ih n (h n p)
theorem ends_mono {S α : Type} {r : Rs S α} {Q R : α → S → Prop} (h : EndsR r Q) (hq : ∀ a s, Q a s → R a s) : EndsR r R := by
  induction r with
  | ok a s => exact hq a s h
  | exc x s => exact (h : False).elim
  | bad => exact (h : False).elim
  | amb P f ih => exact fun n p => ih n (h n p)
abbrev Hpo := Nat → Option MO
/-- from the heap m, with at most n draws -/
def RunH {α : Type} (n : Nat) (m : Hpo) (q : Mt ST α) (Q : α → Hpo → Prop) : Prop := ∀ s : ST, s.m = m → s.k + n ≤ 10000000 → EndsR (q s) fun a s' => s'.k ≤ s.k + n ∧ Q a s'.m
section
variable {α β σ : Type} {m : Hpo}
theorem rh_pure {N : Nat} {a : α} {Q : α → Hpo → Prop} (h : Q a m) : RunH N m (mpure a) Q := fun s e _ => ⟨Nat.le_add_right _ _, by rw [e]; exact h⟩
theorem rh_bind {n n' : Nat} {q : Mt ST α} {k : α → Mt ST β} {Q : α → Hpo → Prop} {R : β → Hpo → Prop} (h : RunH n m q Q) (hk : ∀ a m', Q a m' → RunH n' m' (k a) R) : RunH (n + n') m (mbind q k) R := fun s e hs => by
  refine ends_bind (h s e (by omega)) fun a s1 ⟨h1, ha⟩ => ?_
  exact ends_mono (hk a s1.m ha s1 rfl (by omega)) fun b s2 ⟨h2, hb⟩ => ⟨by omega, hb⟩
theorem rh_mono {n n' : Nat} {q : Mt ST α} {Q R : α → Hpo → Prop} (h : RunH n m q Q) (hn : n ≤ n') (hq : ∀ a m', Q a m' → R a m') : RunH n' m q R := fun s e hs => ends_mono (h s e (by omega)) fun a s1 ⟨h1, ha⟩ => ⟨by omega, hq a _ ha⟩
theorem rh_b {N n : Nat} {q : Mt ST α} {k : α → Mt ST β} {Q : α → Hpo → Prop} {R : β → Hpo → Prop} (h : RunH n m q Q) (hn : n ≤ N) (hk : ∀ a m', Q a m' → RunH (N - n) m' (k a) R) : RunH N m (mbind q k) R :=
  rh_mono (rh_bind h hk) (by omega) fun _ _ h => h
/-- what leaves the heap alone -/
theorem rh_r {n : Nat} {q : Mt ST α} {Q : α → Prop} (h : Runs n q Q) : RunH n m q fun a m' => m' = m ∧ Q a := fun s e hs => by
  obtain ⟨a, s', e1, ⟨h1, h2⟩, ha⟩ := h s hs
  rw [e1]
  exact ⟨h1, h2.trans e, ha⟩
theorem rh_rb {N n : Nat} {q : Mt ST α} {k : α → Mt ST β} {Q : α → Prop} {R : β → Hpo → Prop} (h : Runs n q Q) (hn : n ≤ N) (hk : ∀ a, Q a → RunH (N - n) m (k a) R) : RunH N m (mbind q k) R :=
  rh_b (rh_r h) hn fun a m' ⟨e, ha⟩ => by rw [e]; exact hk a ha
theorem rh_d {N : Nat} {b : Int} {k : Int → Mt ST β} {R : β → Hpo → Prop} (h1 : 1 ≤ b) (h2 : b < 1073741824) (hn : 1 ≤ N) (hk : ∀ a, 0 ≤ a → a < b → RunH (N - 1) m (k a) R) : RunH N m (mbind (draw b) k) R :=
  rh_rb (runs_draw h1 h2) hn fun a ha => hk a ha.1 ha.2
theorem rh_calm {n : Nat} {q : Mt ST α} {Q : α → Hpo → Prop} (h : RunH n m q Q) : RunH n m (calmly q) Q := fun s e hs => by
  have := h s e hs
  unfold calmly
  revert this
  generalize q s = r
  intro this
  induction r with
  | ok a s => exact this
  | exc x s => exact this
  | bad => exact this
  | amb P f ih => exact fun n p => ih n (this n p)
theorem rh_forU {c : Nat} {body : α → σ → Mt ST σ} (I : List α → σ → Hpo → Prop) (xs : List α) (hb : ∀ pre x post z m', xs = pre ++ x :: post → I pre z m' → RunH c m' (body x z) (I (pre ++ [x]))) :
    ∀ (post pre : List α) (z : σ) (m' : Hpo), xs = pre ++ post → I pre z m' → RunH (post.length * c) m' (forU body post z) (I xs)
  | [], pre, z, m', e, h => by
    rw [List.append_nil] at e
    subst e
    exact rh_pure h
  | x :: post, pre, z, m', e, h => by
    unfold forU
    refine rh_mono (rh_bind (hb pre x post z m' e h) fun z' m2 h' => rh_forU I xs hb post (pre ++ [x]) z' m2 (by rw [e]; simp) h') ?_ fun _ _ h => h
    rw [List.length_cons, Nat.succ_mul]
    omega
theorem rh_for {c : Nat} {body : α → σ → Mt ST σ} (I : List α → σ → Hpo → Prop) {xs : List α} {z : σ} (h : I [] z m) (hb : ∀ pre x post z m', xs = pre ++ x :: post → I pre z m' → RunH c m' (body x z) (I (pre ++ [x]))) : RunH (xs.length * c) m (forU body xs z) (I xs) := rh_forU I xs hb xs [] z m rfl h
theorem rh_forX {c : Nat} {body : α → σ → Mt ST (Lp σ β)} (I : List α → σ → Hpo → Prop) (xs : List α) (hb : ∀ pre x post z m', xs = pre ++ x :: post → I pre z m' → RunH c m' (body x z) fun r m2 => ∃ z', r = .nx z' ∧ I (pre ++ [x]) z' m2) :
    ∀ (post pre : List α) (z : σ) (m' : Hpo), xs = pre ++ post → I pre z m' → RunH (post.length * c) m' (forX body post z) fun r m2 => ∃ z', r = .inl z' ∧ I xs z' m2
  | [], pre, z, m', e, h => by
    rw [List.append_nil] at e
    subst e
    exact rh_pure ⟨z, rfl, h⟩
  | x :: post, pre, z, m', e, h => by
    unfold forX
    refine rh_mono (rh_bind (n' := post.length * c) (hb pre x post z m' e h) ?_) ?_ fun _ _ h => h
    · rintro r m2 ⟨z', rfl, h'⟩
      exact rh_forX I xs hb post (pre ++ [x]) z' m2 (by rw [e]; simp) h'
    · rw [List.length_cons, Nat.succ_mul]
      omega
theorem rh_fin {N c : Nat} {body : α → σ → Mt ST (Lp σ β)} (I : List α → σ → Hpo → Prop) {xs : List α} {z : σ} {k : σ → Mt ST β} {R : β → Hpo → Prop} (h : I [] z m) (hn : xs.length * c ≤ N) (hb : ∀ pre x post z m', xs = pre ++ x :: post → I pre z m' → RunH c m' (body x z) fun r m2 => ∃ z', r = .nx z' ∧ I (pre ++ [x]) z' m2) (hk : ∀ z m', I xs z m' → RunH (N - xs.length * c) m' (k z) R) : RunH N m (mfin (forX body xs z) k) R := by
  unfold mfin
  refine rh_b (rh_forX I xs hb xs [] z m rfl h) hn ?_
  rintro r m' ⟨z', rfl, hz⟩
  exact hk z' m' hz
theorem rh_finL {γ : Type} {N c : Nat} {body : α → σ → Mt ST (Lp σ β)} (I : List α → σ → Hpo → Prop) {xs : List α} {z : σ} {k : σ → Mt ST (Lp γ β)} {R : Lp γ β → Hpo → Prop} (h : I [] z m) (hn : xs.length * c ≤ N) (hb : ∀ pre x post z m', xs = pre ++ x :: post → I pre z m' → RunH c m' (body x z) fun r m2 => ∃ z', r = .nx z' ∧ I (pre ++ [x]) z' m2) (hk : ∀ z m', I xs z m' → RunH (N - xs.length * c) m' (k z) R) : RunH N m (mfinL (forX body xs z) k) R := by
  unfold mfinL
  refine rh_b (rh_forX I xs hb xs [] z m rfl h) hn ?_
  rintro r m' ⟨z', rfl, hz⟩
  exact hk z' m' hz
/-- what is told by its steps -/
theorem rh_at {N : Nat} {q : Mt ST α} {Q : α → Hpo → Prop} (h : ∀ d : Dk, EndsR (q ⟨d, m⟩) fun a s' => s'.dk = d ∧ Q a s'.m) : RunH N m q Q := fun s e hs => by
  have := h s.dk
  have es : (⟨s.dk, m⟩ : ST) = s := by rw [← e]
  rw [es] at this
  refine ends_mono this fun a s' ⟨h1, h2⟩ => ⟨?_, h2⟩
  have : s'.k = s.k := by unfold OS.k; rw [h1]
  omega
end
/-! ### the law's end -/
theorem has_nil {c : List Int} {k : Nat} (g : Good c ∧ c.length ≤ 63) : HasO RDk (⟨⟨(c, k), g⟩, fun _ => none⟩ : ST) (dk c k []) := by
  refine ⟨rfl, rfl, fun l o e => (nomatch e), fun l n fs e => ?_, fun k' n fs f l e i => ?_⟩
  · match l, e with
    | 0, e => exact (nomatch Option.some.inj e)
    | 1, e => exact (nomatch Option.some.inj e)
    | l + 2, e => exact (nomatch e)
  · match k', e with
    | 0, e => exact (nomatch Option.some.inj e)
    | 1, e => exact (nomatch Option.some.inj e)
    | k' + 2, e => exact (nomatch e)
theorem rr_ends {α : Type} {fr : Sto} {enc : α → D} {r : Fl} {q : Rs ST α} {Q : α → ST → Prop} (h : RR (WO RDk) fr enc r q) (e : EndsR q Q) : ∃ b s' st', r = .ret (enc b) st' ∧ Q b s' := by
  induction q with
  | ok b s' =>
    obtain ⟨st', e1, _⟩ := h
    exact ⟨b, s', st', e1, e⟩
  | exc x s => exact (e : False).elim
  | bad => exact (e : False).elim
  | amb P f ih =>
    obtain ⟨n, p, h⟩ := h
    exact ih n h (e n p)
theorem law_end {c : Nat} {nN : Nat} {rest : Rho → Sto → Fl} {p : Mt ST Bool} (ht : TR (WO RDk) [] (.any :: .val (.ref 1) :: List.replicate nN .any) rest p eB) (hr : RunH c (fun _ => none) p fun b _ => b = true) (hc : c ≤ 10000000) (ns : List Int) (hl : ns.length ≤ 63) :
    ∃ st', fnD 1 (nN + 2) (sSeq (sAsg (gN 1) (mCall d__law_deck (mCons (mVar 0) mNil))) rest) [.scr (ns.map .int)] [] = .ok (.bl true) st' := by
  obtain ⟨cells, g, hl2, e⟩ := deck_ok ns hl
  have hs := has_nil (k := 0) ⟨g, hl2⟩
  have h1 := ht (⟨⟨(cells, 0), ⟨g, hl2⟩⟩, fun _ => none⟩ : ST) (some (.scr (ns.map .int)) :: some (.ref 1) :: List.replicate nN none) (dk cells 0 []) ⟨by simp, ⟨hs, Nat.zero_le _, fun l hl => absurd hl (Nat.not_lt_zero l)⟩, fun i d h => ?_, fun i m h => ?_, fun i j m1 m2 h => ?_, fun i m h => ?_⟩
  · obtain ⟨b, s', st', e3, hb⟩ := rr_ends h1 (hr _ rfl (by show 0 + c ≤ _; omega))
    obtain rfl := hb.2
    have hm : sSeq (sAsg (gN 1) (mCall d__law_deck (mCons (mVar 0) mNil))) rest (rho0 (nN + 2) [.scr (ns.map .int)]) [] = .ret (.bl true) st' := by
      have er : rho0 (nN + 2) [.scr (ns.map .int)] = some (.scr (ns.map .int)) :: none :: List.replicate nN none := rfl
      rw [er]
      simp [mVar_ap, e]
      exact e3
    obtain ⟨st2, hc⟩ := clean_some [] (.bl true) st'
    refine ⟨st2, ?_⟩
    show clean [] (flOut (sSeq (sAsg (gN 1) (mCall d__law_deck (mCons (mVar 0) mNil))) rest (rho0 (nN + 2) [.scr (ns.map .int)]) [])) = _
    rw [hm, flOut_ret, hc]
  · match i, h with
    | 0, h => simp at h
    | 1, h => simp at h; subst h; rfl
    | i + 2, h =>
      rw [List.getElem?_cons_succ, List.getElem?_cons_succ, List.getElem?_replicate] at h
      split at h <;> cases h
  · match i, h with
    | 0, h => simp at h
    | 1, h => simp at h
    | i + 2, h =>
      rw [List.getElem?_cons_succ, List.getElem?_cons_succ, List.getElem?_replicate] at h
      split at h <;> cases h
  · match i, h with
    | 0, h => simp at h
    | 1, h => simp at h
    | i + 2, h =>
      rw [List.getElem?_cons_succ, List.getElem?_cons_succ, List.getElem?_replicate] at h
      split at h <;> cases h
  · match i, h with
    | 0, h => simp at h
    | 1, h => simp at h
    | i + 2, h =>
      rw [List.getElem?_cons_succ, List.getElem?_cons_succ, List.getElem?_replicate] at h
      split at h <;> cases h
/-! ### panels -/
theorem sub_of_sorted : ∀ {L r : List Int}, r.Pairwise (· < ·) → L.Pairwise (· < ·) → (∀ a ∈ r, a ∈ L) → r.Sublist L
  | L, [], _, _, _ => List.nil_sublist L
  | [], a :: r, _, _, h => nomatch h a (by simp)
  | b :: L, a :: r, hr, hL, h => by
    have hr' := List.pairwise_cons.mp hr
    have hL' := List.pairwise_cons.mp hL
    by_cases e : a = b
    · subst e
      refine List.Sublist.cons_cons a (sub_of_sorted hr'.2 hL'.2 fun c hc => ?_)
      rcases List.mem_cons.mp (h c (by simp [hc])) with q | q
      · have := hr'.1 c hc
        omega
      · exact q
    · refine List.Sublist.cons b (sub_of_sorted hr hL'.2 fun c hc => ?_)
      have ha : a ∈ L := (List.mem_cons.mp (h a (by simp))).resolve_left e
      have hab := hL'.1 a ha
      rcases List.mem_cons.mp (h c hc) with q | q
      · rcases List.mem_cons.mp hc with q2 | q2
        · omega
        · have := hr'.1 c q2
          omega
      · exact q
theorem sorted_ext {L r : List Int} (hr : r.Pairwise (· < ·)) (hL : L.Pairwise (· < ·)) (h : ∀ a, a ∈ r ↔ a ∈ L) : r = L := by
  have h1 := sub_of_sorted hr hL fun a ha => (h a).mp ha
  have h2 := sub_of_sorted hL hr fun a ha => (h a).mpr ha
  exact h1.eq_of_length (Nat.le_antisymm h1.length_le h2.length_le)
/-- the other buttons -/
def oth (n : Nat) (b : Int) : List Int := (upto n).filter fun o => !decide (o = b)
structure PanA (pan : List (List Int)) : Prop where
  pos : 1 ≤ pan.length
  le : pan.length ≤ 10
  row : ∀ (i : Nat) r, pan[i]? = some r → r.Sublist (oth pan.length i)
theorem mem_oth {n : Nat} {b a : Int} : a ∈ oth n b ↔ (0 ≤ a ∧ a < n) ∧ a ≠ b := by
  unfold oth
  rw [List.mem_filter, mem_upto]
  simp
theorem sorted_oth (n : Nat) (b : Int) : (oth n b).Pairwise (· < ·) := (sorted_upto n).sublist List.filter_sublist
theorem oth_len (n : Nat) (b : Int) : (oth n b).length ≤ n := Nat.le_trans (List.length_filter_le _ _) (by rw [upto_length]; exact Nat.le_refl _)
theorem PanA.pan {pan : List (List Int)} (h : PanA pan) : Pan 10 pan := by
  have hle := h.le
  refine ⟨h.pos, hle, fun r hr => ?_, fun r hr a ha => ?_⟩
  · obtain ⟨i, hi⟩ := List.getElem?_of_mem hr
    have := (h.row i r hi).length_le
    have := oth_len pan.length i
    omega
  · obtain ⟨i, hi⟩ := List.getElem?_of_mem hr
    exact (mem_oth.mp ((h.row i r hi).subset ha)).1
theorem PanA.sorted {pan : List (List Int)} (h : PanA pan) {r : List Int} (hr : r ∈ pan) : r.Pairwise (· < ·) := by
  obtain ⟨i, hi⟩ := List.getElem?_of_mem hr
  exact (sorted_oth _ _).sublist (h.row i r hi)
theorem splitA {n : Nat} {pre post : List Int} {b : Int} (e : upto n = pre ++ b :: post) : b = (pre.length : Int) ∧ pre.length < n := by
  have h : (upto n)[pre.length]? = some b := by rw [e]; simp
  rw [upto_get] at h
  split at h
  · exact ⟨(Option.some.inj h).symm, by assumption⟩
  · cases h
theorem panA_app {n : Nat} {pan : List (List Int)} {row : List Int} (hp : ∀ (i : Nat) r, pan[i]? = some r → r.Sublist (oth n i)) (hr : row.Sublist (oth n pan.length)) : ∀ (i : Nat) r, (pan ++ [row])[i]? = some r → r.Sublist (oth n i) := fun i r h => by
  by_cases hi : i < pan.length
  · rw [List.getElem?_append_left hi] at h
    exact hp i r h
  · rw [List.getElem?_append_right (by omega)] at h
    have hi2 : i - pan.length = 0 := by
      apply Classical.byContradiction
      intro hne
      rw [List.getElem?_eq_none (by simp; omega)] at h
      cases h
    rw [hi2] at h
    cases h
    have : i = pan.length := by omega
    rw [this]
    exact hr
theorem panel_runs {M : Int} (h1 : 1 ≤ M) (h2 : M ≤ 10) : Runs 120 (p__law_panel M) fun pan => PanA pan ∧ (pan.length : Int) ≤ M := by
  unfold p__law_panel
  simp only [mbind_pure, mbind_ret]
  simp only [mbind_assoc]
  simp only [mbind_pure, mbind_ret]
  refine runs_d h1 (by omega) (by omega) fun x hx1 hx2 => ?_
  refine runs_d (by omega) (by omega) (by omega) fun y hy1 hy2 => ?_
  refine runs_d (by omega) (by omega) (by omega) fun o ho1 ho2 => ?_
  rw [midx_getD 1 ho1 (by simpa using ho2), mbind_pure]
  have hn := getD_mem (xs := [1 + x, M, 1 + y]) 1 ho1 (by simpa using ho2)
  obtain ⟨z, ez⟩ : ∃ z, [1 + x, M, 1 + y].getD o.toNat 1 = z := ⟨_, rfl⟩
  rw [ez] at hn ⊢
  have hz : 1 ≤ z ∧ z ≤ M := by
    simp only [List.mem_cons, List.not_mem_nil, or_false] at hn
    omega
  obtain ⟨n, rfl⟩ : ∃ n : Nat, z = (n : Int) := ⟨z.toNat, by omega⟩
  refine runs_d (by omega) (by omega) (by omega) fun way hw1 hw2 => ?_
  refine runs_d (by omega) (by omega) (by omega) fun share hs1 hs2 => ?_
  rw [mrng_nat n (by omega), mrngL_nat n (by omega)]
  simp only [mbind_pure, mbind_ret]
  refine runs_mono (runs_for (c := 11) (fun pre (pan : List (List Int)) => pan.length = pre.length ∧ ∀ (i : Nat) r, pan[i]? = some r → r.Sublist (oth n i)) ⟨rfl, fun i r h => by simp at h⟩ (fun pre b post pan e hI => ?_)) (by rw [upto_length]; omega) fun pan hI => ?_
  · have hb := mem_upto.mp (show b ∈ upto n by rw [e]; simp)
    have hsp := splitA e
    have hpl := hsp.2
    refine runs_b (n := 10) (Q := fun ys => ys.Sublist (upto n)) (runs_calm (runs_mono (runs_sub (c := 1) (by rw [upto_length]; omega) fun y hy => ?_) (by rw [upto_length]; omega) fun ys hys => hys)) (by omega) fun own hown => ?_
    · exact runs_d (by omega) (by omega) (by omega) fun a _ _ => runs_p trivial
    · have step : ∀ row : List Int, (row.Sublist (upto n) ∨ ∃ a, row = [a] ∧ 0 ≤ a ∧ a < (n : Int)) → Runs 0 (mbind (compV (fun (q : Int) => (!decide (q = b))) (fun (q : Int) => q) row) fun x => mapp pan x) fun q => q.length = (pre ++ [b]).length ∧ ∀ (i : Nat) r, q[i]? = some r → r.Sublist (oth n i) := fun row hrow => by
        have hle : row.length ≤ 10 := by
          rcases hrow with h | ⟨a, rfl, _⟩
          · have := h.length_le
            rw [upto_length] at this
            omega
          · simp
        have hsub : (row.filter fun q => !decide (q = b)).Sublist (oth n b) := by
          rcases hrow with h | ⟨a, rfl, h0, h1⟩
          · exact h.filter _
          · by_cases q : a = b
            · simp [q]
            · have : a ∈ oth n b := mem_oth.mpr ⟨⟨h0, h1⟩, q⟩
              simpa [q] using this
        rw [compV_ok (by omega), List.map_id', mbind_pure, mapp_ok (by omega)]
        refine runs_p ⟨by simp [hI.1], panA_app hI.2 ?_⟩
        rw [hI.1, ← hsp.1]
        exact hsub
      have gt : ∀ row : List Int, row.Sublist (upto n) → Runs 0 (mbind (compV (fun (q : Int) => (decide (q > b))) (fun (q : Int) => q) row) fun x => mbind (compV (fun (q : Int) => (!decide (q = b))) (fun (q : Int) => q) x) fun x => mapp pan x) fun q => q.length = (pre ++ [b]).length ∧ ∀ (i : Nat) r, q[i]? = some r → r.Sublist (oth n i) := fun row hrow => by
        have := hrow.length_le
        rw [upto_length] at this
        rw [compV_ok (by omega), List.map_id', mbind_pure]
        exact step _ (.inl (List.filter_sublist.trans hrow))
      by_cases w0 : way = 0
      · subst w0
        rw [mmod_ok (by omega)]
        simp only [mbind_pure, decide_true, if_true, show ((0 : Int) = 1) = False by simp, show ((0 : Int) = 2) = False by simp, decide_false, Bool.false_eq_true, if_false]
        exact runs_le (step _ (.inr ⟨_, rfl, Int.emod_nonneg _ (by omega), Int.emod_lt_of_pos _ (by omega)⟩)) (Nat.zero_le _)
      · by_cases w1 : way = 1
        · subst w1
          simp only [mbind_pure, decide_true, if_true, show ((1 : Int) = 0) = False by simp, show ((1 : Int) = 2) = False by simp, decide_false, Bool.false_eq_true, if_false]
          simp only [mbind_assoc]
          refine runs_d (by omega) (by omega) (by omega) fun a _ _ => ?_
          simp only [mbind_pure]
          by_cases ha : a = 0
          · simp only [ha, decide_true, if_true, mbind_pure]
            exact runs_le (step _ (.inl (List.Sublist.refl _))) (Nat.zero_le _)
          · simp only [ha, decide_false, Bool.false_eq_true, if_false, mbind_pure]
            exact runs_le (step _ (.inl hown)) (Nat.zero_le _)
        · simp only [w0, w1, decide_false, Bool.false_eq_true, if_false, mbind_pure]
          by_cases w2 : way = 2
          · simp only [w2, decide_true, if_true, mbind_assoc, mbind_pure]
            exact runs_le (gt _ hown) (Nat.zero_le _)
          · simp only [w2, decide_false, Bool.false_eq_true, if_false, mbind_pure]
            exact runs_le (step _ (.inl hown)) (Nat.zero_le _)
  · rw [upto_length] at hI
    refine ⟨⟨by omega, by omega, fun i r hr => ?_⟩, by omega⟩
    rw [hI.1]
    exact hI.2 i r hr
/-- a state: ascending numbers below n -/
def Stt (n : Nat) (r : List Int) : Prop := r.length ≤ 10 ∧ Bel n r ∧ r.Pairwise (· < ·)
theorem stt_sub {n : Nat} (hn : n ≤ 10) {r : List Int} (h : r.Sublist (upto n)) : Stt n r := by
  have := h.length_le
  rw [upto_length] at this
  exact ⟨by omega, fun a ha => mem_upto.mp (h.subset ha), (sorted_upto n).sublist h⟩
/-! ### links made and cut -/
theorem cutD_take {α : Type} (L : List α) {i : Int} (h0 : 0 ≤ i) (h1 : i ≤ L.length) : Dn.cutD L none (some i) = L.take i.toNat := by
  obtain ⟨n, rfl⟩ : ∃ n : Nat, i = n := ⟨i.toNat, by omega⟩
  unfold Dn.cutD
  have e : HT.sIx L.length L.length (some (n : Int)) = n := by
    rw [HT.sIx_nat]
    omega
  have e2 : HT.sIx L.length 0 none = 0 := rfl
  rw [e, e2]
  simp
theorem cutD_dropA {α : Type} (L : List α) {i : Int} (h0 : 0 ≤ i) (h1 : i ≤ L.length) : Dn.cutD L (some i) none = L.drop i.toNat := by
  obtain ⟨n, rfl⟩ : ∃ n : Nat, i = n := ⟨i.toNat, by omega⟩
  unfold Dn.cutD
  have e : HT.sIx L.length 0 (some (n : Int)) = n := by
    rw [HT.sIx_nat]
    omega
  have e2 : HT.sIx L.length L.length none = L.length := rfl
  rw [e, e2]
  exact List.take_of_length_le (by rw [List.length_drop]; omega)
/-- another list for a button -/
def setR (pan : List (List Int)) (a : Int) (r : List Int) : List (List Int) := pan.take a.toNat ++ [r] ++ pan.drop (a.toNat + 1)
theorem setR_len {pan : List (List Int)} {a : Int} (h0 : 0 ≤ a) (h1 : a < pan.length) (r : List Int) : (setR pan a r).length = pan.length := by
  unfold setR
  rw [List.length_append, List.length_append, List.length_take, List.length_drop, List.length_singleton]
  omega
theorem setR_get {pan : List (List Int)} {a : Int} (h0 : 0 ≤ a) (h1 : a < pan.length) (r : List Int) (i : Nat) : (setR pan a r)[i]? = if i = a.toNat then some r else pan[i]? := by
  unfold setR
  have hl : (pan.take a.toNat).length = a.toNat := by rw [List.length_take]; omega
  by_cases h2 : i < a.toNat
  · rw [if_neg (by omega), List.append_assoc, List.getElem?_append_left (by omega), List.getElem?_take, if_pos h2]
  · rw [List.append_assoc, List.getElem?_append_right (by omega), hl]
    by_cases h3 : i = a.toNat
    · rw [if_pos h3, h3, Nat.sub_self]
      rfl
    · rw [if_neg h3]
      obtain ⟨k, hk⟩ : ∃ k, i - a.toNat = k + 1 := ⟨i - a.toNat - 1, by omega⟩
      rw [hk]
      show (pan.drop (a.toNat + 1))[k]? = _
      rw [List.getElem?_drop]
      congr 1
      omega
theorem setR_set {pan : List (List Int)} {a : Int} (h0 : 0 ≤ a) (h1 : a < pan.length) (r q : List Int) : setR (setR pan a r) a q = setR pan a q := by
  have hl := setR_len h0 h1 r
  refine List.ext_getElem? fun i => ?_
  rw [setR_get h0 (by rw [hl]; exact h1), setR_get h0 h1, setR_get h0 h1]
  split <;> rfl
theorem setR_row {pan : List (List Int)} {a : Int} (h0 : 0 ≤ a) (h1 : a < pan.length) (r : List Int) {x : Int} (hx : 0 ≤ x) : rowAt (setR pan a r) x = if x = a then r else rowAt pan x := by
  unfold rowAt
  rw [List.getD_eq_getElem?_getD, setR_get h0 h1, List.getD_eq_getElem?_getD]
  by_cases h : x = a
  · rw [if_pos h, if_pos (by rw [h])]
    rfl
  · rw [if_neg h, if_neg (by omega)]
def rowU (pan : List (List Int)) (a o : Int) : List Int := ((rowAt pan a).filter fun b => !decide (b = o)).mergeSort (leOf ltI)
def rowL (pan : List (List Int)) (a o : Int) : List Int := (((rowAt pan a).filter fun b => !decide (b = o)) ++ [o]).mergeSort (leOf ltI)
theorem mem_rowU {pan : List (List Int)} {a o b : Int} : b ∈ rowU pan a o ↔ b ∈ rowAt pan a ∧ b ≠ o := by
  unfold rowU
  rw [(List.mergeSort_perm _ _).mem_iff, List.mem_filter]
  simp
theorem mem_rowL {pan : List (List Int)} {a o b : Int} : b ∈ rowL pan a o ↔ (b ∈ rowAt pan a ∧ b ≠ o) ∨ b = o := by
  unfold rowL
  rw [(List.mergeSort_perm _ _).mem_iff, List.mem_append, List.mem_filter, List.mem_singleton]
  simp
theorem sort_perm {xs ys : List Int} (h : xs.Perm ys) : xs.mergeSort (leOf ltI) = ys.mergeSort (leOf ltI) := by
  rw [sort_ints, sort_ints]
  have h1 : (xs.mergeSort (fun a b => decide (a ≤ b))).Pairwise (fun a b => decide (a ≤ b) = true) := List.pairwise_mergeSort (by intro a b c; simp; omega) (by intro a b; simp; omega) xs
  have h2 : (ys.mergeSort (fun a b => decide (a ≤ b))).Pairwise (fun a b => decide (a ≤ b) = true) := List.pairwise_mergeSort (by intro a b c; simp; omega) (by intro a b; simp; omega) ys
  exact List.Perm.eq_of_pairwise (fun a b _ _ h1 h2 => by simp at h1 h2; omega) h1 h2 ((List.mergeSort_perm _ _).trans (h.trans (List.mergeSort_perm _ _).symm))
theorem with_ok {S : Type} {pan : List (List Int)} (h : Pan 10 pan) {a : Int} (h0 : 0 ≤ a) (h1 : a < pan.length) {r : List Int} (hr : r.length ≤ 20) : p_with_list (S := S) pan a r = mpure (setR pan a (r.mergeSort (leOf ltI))) := by
  have hle := h.le
  unfold p_with_list
  rw [msort_ok (by omega)]
  simp only [mbind_pure]
  rw [cutD_take pan h0 (by omega), cutD_dropA pan (by omega) (by omega)]
  have e : (a + 1).toNat = a.toNat + 1 := by omega
  rw [e]
  refine mdisp_ok ?_
  have := setR_len h0 h1 (r.mergeSort (leOf ltI))
  unfold setR at this
  omega
theorem unlinked_ok {S : Type} {pan : List (List Int)} (h : Pan 10 pan) {a o : Int} (h0 : 0 ≤ a) (h1 : a < pan.length) : p_unlinked (S := S) pan a o = mpure (setR pan a (rowU pan a o)) := by
  have hl := h.len _ (h.row h0 h1)
  have hf := List.length_filter_le (fun b => !decide (b = o)) (rowAt pan a)
  unfold p_unlinked
  rw [midx_row h0 h1, mbind_pure, compV_ok (by omega), List.map_id', mbind_pure, with_ok h h0 h1 (by omega)]
  rfl
theorem linked_ok {S : Type} {pan : List (List Int)} (h : Pan 10 pan) {a o : Int} (h0 : 0 ≤ a) (h1 : a < pan.length) : p_linked (S := S) pan a o = mpure (setR pan a (rowL pan a o)) := by
  have hl := h.len _ (h.row h0 h1)
  have hf := List.length_filter_le (fun b => !decide (b = o)) (rowAt pan a)
  unfold p_linked
  rw [midx_row h0 h1, mbind_pure, compV_ok (by omega), List.map_id', mbind_pure, mdisp_ok (by rw [List.length_append, List.length_singleton]; omega), mbind_pure, with_ok h h0 h1 (by rw [List.length_append, List.length_singleton]; omega)]
  rfl
theorem setR_panA {pan : List (List Int)} (h : PanA pan) {a : Int} (h0 : 0 ≤ a) (h1 : a < pan.length) {r : List Int} (hr : r.Sublist (oth pan.length a)) : PanA (setR pan a r) := by
  have hl := setR_len h0 h1 r
  refine ⟨by rw [hl]; exact h.pos, by rw [hl]; exact h.le, fun i q hq => ?_⟩
  rw [hl]
  rw [setR_get h0 h1] at hq
  split at hq
  · rename_i e
    cases hq
    rw [e, Int.toNat_of_nonneg h0]
    exact hr
  · exact h.row i q hq
theorem PanA.rowS {pan : List (List Int)} (h : PanA pan) {a : Int} (h0 : 0 ≤ a) (h1 : a < pan.length) : (rowAt pan a).Sublist (oth pan.length a) := by
  have hl : a.toNat < pan.length := by omega
  have := h.row a.toNat pan[a.toNat] (List.getElem?_eq_getElem hl)
  rw [Int.toNat_of_nonneg h0] at this
  unfold rowAt
  rw [List.getD_eq_getElem?_getD, List.getElem?_eq_getElem hl]
  exact this
theorem nodup_lt {xs : List Int} (h : xs.Pairwise (· < ·)) : xs.Nodup := h.imp fun q => Int.ne_of_lt q
theorem sort_sorted {xs : List Int} (h : xs.Nodup) : (xs.mergeSort (leOf ltI)).Pairwise (· < ·) := by
  have hp : (xs.mergeSort (leOf ltI)).Perm xs := List.mergeSort_perm _ _
  have hle : (xs.mergeSort (leOf ltI)).Pairwise (fun a c => a ≤ c) := by
    have : (xs.mergeSort (fun a b => decide (a ≤ b))).Pairwise (fun a b => decide (a ≤ b) = true) := List.pairwise_mergeSort (by intro a b c; simp; omega) (by intro a b; simp; omega) _
    rw [sort_ints]
    exact this.imp fun h => by simpa using h
  exact (hle.and (hp.nodup_iff.mpr h)).imp fun q => by
    have := q.1
    have := q.2
    omega
theorem rowU_sub {pan : List (List Int)} (h : PanA pan) {a o : Int} (h0 : 0 ≤ a) (h1 : a < pan.length) : (rowU pan a o).Sublist (oth pan.length a) := by
  have hr := h.rowS h0 h1
  have hs := (sorted_oth _ _).sublist hr
  refine sub_of_sorted (sort_sorted ((nodup_lt hs).sublist List.filter_sublist)) (sorted_oth _ _) fun b hb => ?_
  exact hr.subset (mem_rowU.mp hb).1
theorem rowL_sub {pan : List (List Int)} (h : PanA pan) {a o : Int} (h0 : 0 ≤ a) (h1 : a < pan.length) (o0 : 0 ≤ o) (o1 : o < pan.length) (hne : a ≠ o) : (rowL pan a o).Sublist (oth pan.length a) := by
  have hr := h.rowS h0 h1
  have hs := (sorted_oth _ _).sublist hr
  refine sub_of_sorted (sort_sorted ?_) (sorted_oth _ _) fun b hb => ?_
  · refine List.nodup_append.mpr ⟨(nodup_lt hs).sublist List.filter_sublist, by simp, fun x hx y hy e => ?_⟩
    rw [List.mem_singleton.mp hy] at e
    have := (List.mem_filter.mp hx).2
    simp [e] at this
  · rcases mem_rowL.mp hb with q | q
    · exact hr.subset q.1
    · rw [q]
      exact mem_oth.mpr ⟨⟨o0, o1⟩, fun e => hne e.symm⟩
/-! ### presses -/
/-- the state behind a press -/
def keptS (pan : List (List Int)) (s : List Int) (b : Int) : List Int := s.filter fun o => !decide (o ∈ rowAt pan b) && !decide (o = b)
def pr (pan : List (List Int)) (s : List Int) (b : Int) : List Int := (keptS pan s b ++ [b]).mergeSort (leOf ltI)
theorem pr_stt {n : Nat} (hn : n ≤ 10) {pan : List (List Int)} {s : List Int} {b : Int} (hs : Stt n s) (h0 : 0 ≤ b) (h1 : b < (n : Int)) : Stt n (pr pan s b) := by
  have hp : (pr pan s b).Perm (keptS pan s b ++ [b]) := List.mergeSort_perm _ _
  have hb : Bel n (pr pan s b) := fun a ha => by
    rcases List.mem_append.mp (hp.mem_iff.mp ha) with q | q
    · exact hs.2.1 a (List.mem_filter.mp q).1
    · rw [List.mem_singleton.mp q]; exact ⟨h0, h1⟩
  have hk : (keptS pan s b).Nodup := (hs.2.2.imp fun h => Int.ne_of_lt h).sublist List.filter_sublist
  have hn1 : (keptS pan s b ++ [b]).Nodup := by
    refine List.nodup_append.mpr ⟨hk, by simp, fun x hx y hy e => ?_⟩
    rw [List.mem_singleton.mp hy] at e
    have := (List.mem_filter.mp hx).2
    simp [e] at this
  have hn2 : (pr pan s b).Nodup := hp.nodup_iff.mpr hn1
  have hle : (pr pan s b).Pairwise (fun a c => a ≤ c) := by
    have : ((keptS pan s b ++ [b]).mergeSort (fun a b => decide (a ≤ b))).Pairwise (fun a b => decide (a ≤ b) = true) := List.pairwise_mergeSort (by intro a b c; simp; omega) (by intro a b; simp; omega) _
    unfold pr
    rw [sort_ints]
    exact this.imp fun h => by simpa using h
  refine ⟨?_, hb, (hle.and hn2).imp fun h => ?_⟩
  · have := nodup_len_sub hn2 (m := upto n) fun a ha => mem_upto.mpr (hb a ha)
    rw [upto_length] at this
    omega
  · have := h.1
    have := h.2
    omega
theorem press_ok {S : Type} {pan : List (List Int)} (h : Pan 10 pan) {s : List Int} {b : Int} (hs : s.length ≤ 10) (h0 : 0 ≤ b) (h1 : b < (pan.length : Int)) : p_press_button (S := S) pan s b = mpure (pr pan s b) := by
  unfold p_press_button
  simp only [mbind_pure, mbind_ret]
  rw [compG_id (fun o => !decide (o ∈ rowAt pan b) && !decide (o = b)) (by omega) fun x _ => ?_, calmly_pure', mbind_pure]
  · have hl : (keptS pan s b).length ≤ s.length := List.length_filter_le _ _
    show mbind (mdisp (keptS pan s b ++ [b])) _ = _
    rw [mdisp_ok (by rw [List.length_append, List.length_singleton]; omega), mbind_pure, msort_ok (by rw [List.length_append, List.length_singleton]; omega)]
    rfl
  · rw [midx_row h0 h1, mbind_pure]
    by_cases q : x ∈ rowAt pan b <;> simp [q]
/-! ### steps that leave the drawn numbers alone -/
def hput (m : Hpo) (l : Nat) (o : MO) : Hpo := fun k => if k = l then some o else m k
theorem hput_same {m : Hpo} {l : Nat} {o : MO} : hput m l o l = some o := if_pos rfl
theorem hput_ne {m : Hpo} {l k : Nat} {o : MO} (h : k ≠ l) : hput m l o k = m k := if_neg h
def Wr {α : Type} (m : Hpo) (q : Mt ST α) (a : α) (m' : Hpo) : Prop := ∀ d : Dk, q ⟨d, m⟩ = .ok a ⟨d, m'⟩
section
variable {α β : Type} {m m1 m' : Hpo}
theorem wr_pure {a : α} : Wr m (mpure a) a m := fun _ => rfl
theorem wr_bind {q : Mt ST α} {k : α → Mt ST β} {a : α} {b : β} (h : Wr m q a m1) (hk : Wr m1 (k a) b m') : Wr m (mbind q k) b m' := fun d => by
  unfold mbind
  rw [h d]
  exact hk d
theorem wr_calm {q : Mt ST α} {a : α} (h : Wr m q a m') : Wr m (calmly q) a m' := fun d => by
  unfold calmly
  rw [h d] <;> rfl
theorem wr_of {q : Mt ST α} {a : α} (h : q = mpure a) : Wr m q a m := fun _ => by rw [h] <;> rfl
theorem rh_w {N : Nat} {q : Mt ST α} {k : α → Mt ST β} {a : α} {R : β → Hpo → Prop} (h : Wr m q a m') (hk : RunH N m' (k a) R) : RunH N m (mbind q k) R := fun s e hs => by
  have h1 : q s = .ok a ⟨s.dk, m'⟩ := by
    have := h s.dk
    rw [← e] at this
    exact this
  unfold mbind
  rw [h1]
  exact hk ⟨s.dk, m'⟩ rfl hs
theorem wr_get {nms : List Str} {f n : Str} {l : Nat} {fs : List (Str × D)} {x : α} {e : α → D} [Dec e] (h : m l = some (.ins n fs)) (hn : n ∈ nms) (hf : fs.lookup f = some (e x)) : Wr m (mbind (mgetF nms f l) (mdec e)) x m := fun d => by
  have h1 : mgetF (A := Dk) nms f l ⟨d, m⟩ = .ok (e x) ⟨d, m⟩ := by
    unfold mgetF
    dsimp only
    rw [h]
    dsimp only
    rw [if_pos hn, hf]
  unfold mbind
  rw [h1]
  show mdec e (e x) _ = _
  rw [mdec_full] <;> rfl
theorem wr_lst {e : α → D} [Dec e] {k : Nat} {xs : List α} (h : m k = some (.lst (xs.map e))) : Wr m (hgetT e k) xs m := fun d => by
  unfold hgetT
  dsimp only
  rw [h]
  dsimp only
  rw [show decs e (xs.map e) = some xs from decs_full xs]
theorem wr_app {k : Nat} {xs : List D} {x : D} (h : m k = some (.lst xs)) (hl : xs.length < 100000) : Wr m (happ k x) () (hput m k (.lst (xs ++ [x]))) := fun d => by
  unfold happ
  dsimp only
  rw [h]
  dsimp only
  rw [if_pos hl]
  rfl
theorem wr_pop {k : Nat} {xs : List D} {x : D} (h : m k = some (.lst xs)) (hl : xs[xs.length - 1]? = some x) : Wr m (hpop k) x (hput m k (.lst xs.dropLast)) := fun d => by
  unfold hpop
  dsimp only
  rw [h]
  dsimp only
  rw [hl]
  rfl
theorem wr_cls {n x : Str} {l : Nat} {fs : List (Str × D)} (h : m l = some (.ins n fs)) (hf : (fs.lookup x).isNone = true) : Wr m (hcls n x l) () m := fun d => by
  unfold hcls
  dsimp only
  rw [h]
  dsimp only
  rw [if_pos ⟨rfl, hf⟩]
theorem wr_clsA {ns : List Str} {n x : Str} {l : Nat} {fs : List (Str × D)} (h : m l = some (.ins n fs)) (hn : n ∈ ns) (hf : (fs.lookup x).isNone = true) : Wr m (hclsA ns x l) () m := fun d => by
  unfold hclsA
  dsimp only
  rw [h]
  dsimp only
  rw [if_pos ⟨hn, hf⟩]
theorem wr_clA {ns : List Str} {n : Str} {l : Nat} {fs : List (Str × D)} (h : m l = some (.ins n fs)) (hn : n ∈ ns) : Wr m (hclA ns l) () m := fun d => by
  unfold hclA
  dsimp only
  rw [h]
  dsimp only
  rw [if_pos hn]
theorem wr_cl {n : Str} {l : Nat} {fs : List (Str × D)} (h : m l = some (.ins n fs)) : Wr m (hcl n l) () m := fun d => by
  unfold hcl
  dsimp only
  rw [h]
  dsimp only
  rw [if_pos rfl]
end
/-! ### a desk in the heap: a Desk (none), or a GuessDesk with its first panel and what it was told -/
abbrev PS := List (List Int) × List Int
abbrev ePS : PS → D := eP (eT (eT eI)) (eT eI)
abbrev DN : List Str := ["Desk", "GuessDesk"]
abbrev GX := Option (List (List Int) × List Str)
def dkN : GX → Str
  | none => "Desk"
  | some _ => "GuessDesk"
def dkF : GX → List (Str × D)
  | none => []
  | some p => [("base", eT (eT eI) p.1), ("told", eT eS p.2)]
theorem dkN_in (g : GX) : dkN g ∈ DN := by cases g <;> simp [dkN]
def dskF (g : GX) (k1 k2 : Nat) (w : Bool) : List (Str × D) := ("states", .ref k1) :: ("standing", .ref k2) :: ("watching", .bl w) :: dkF g
structure Dsk (g : GX) (m : Hpo) (l k1 k2 : Nat) (S : List PS) (E : List D) (w : Bool) : Prop where
  o : m l = some (.ins (dkN g) (dskF g k1 k2 w))
  s : m k1 = some (.lst (S.map ePS))
  e : m k2 = some (.lst (E.map eD))
  ne : k1 ≠ k2
def noFld (x : Str) : Prop := (x == ("states" : Str)) = false ∧ (x == ("standing" : Str)) = false ∧ (x == ("watching" : Str)) = false ∧ (x == ("base" : Str)) = false ∧ (x == ("told" : Str)) = false
instance (x : Str) : Decidable (noFld x) := by unfold noFld; infer_instance
section
variable {g : GX} {m : Hpo} {l k1 k2 : Nat} {S : List PS} {E : List D} {w : Bool}
theorem lk_states : (dskF g k1 k2 w).lookup ("states" : Str) = some (eR k1) := rfl
theorem lk_standing : (dskF g k1 k2 w).lookup ("standing" : Str) = some (eR k2) := by
  unfold dskF
  rw [List.lookup_cons, show (("standing" : Str) == ("states" : Str)) = false by decide, List.lookup_cons, show (("standing" : Str) == ("standing" : Str)) = true by decide] <;> rfl
theorem lk_watching : (dskF g k1 k2 w).lookup ("watching" : Str) = some (eB w) := by
  unfold dskF
  rw [List.lookup_cons, show (("watching" : Str) == ("states" : Str)) = false by decide, List.lookup_cons, show (("watching" : Str) == ("standing" : Str)) = false by decide, List.lookup_cons, show (("watching" : Str) == ("watching" : Str)) = true by decide] <;> rfl
theorem lk_told {p : List (List Int)} {t : List Str} : (dskF (some (p, t)) k1 k2 w).lookup ("told" : Str) = some (eT eS t) := by
  unfold dskF dkF
  rw [List.lookup_cons, show (("told" : Str) == ("states" : Str)) = false by decide, List.lookup_cons, show (("told" : Str) == ("standing" : Str)) = false by decide, List.lookup_cons, show (("told" : Str) == ("watching" : Str)) = false by decide, List.lookup_cons, show (("told" : Str) == ("base" : Str)) = false by decide, List.lookup_cons, show (("told" : Str) == ("told" : Str)) = true by decide] <;> rfl
theorem lk_none {x : Str} (h : noFld x) : ((dskF g k1 k2 w).lookup x).isNone = true := by
  unfold dskF
  rw [List.lookup_cons, h.1, List.lookup_cons, h.2.1, List.lookup_cons, h.2.2.1]
  cases g with
  | none => rfl
  | some p =>
    unfold dkF
    rw [List.lookup_cons, h.2.2.2.1, List.lookup_cons, h.2.2.2.2] <;> rfl
theorem Dsk.states (h : Dsk g m l k1 k2 S E w) : Wr m (mbind (mgetF DN "states" l) (mdec eR)) k1 m := wr_get h.o (dkN_in g) lk_states
theorem Dsk.standing (h : Dsk g m l k1 k2 S E w) : Wr m (mbind (mgetF DN "standing" l) (mdec eR)) k2 m := wr_get h.o (dkN_in g) lk_standing
theorem Dsk.watching (h : Dsk g m l k1 k2 S E w) : Wr m (mbind (mgetF DN "watching" l) (mdec eB)) w m := wr_get h.o (dkN_in g) lk_watching
theorem Dsk.cls (h : Dsk g m l k1 k2 S E w) {x : Str} (hx : noFld x) : Wr m (hclsA DN x l) () m := wr_clsA h.o (dkN_in g) (lk_none hx)
theorem Dsk.cl (h : Dsk g m l k1 k2 S E w) : Wr m (hclA DN l) () m := wr_clA h.o (dkN_in g)
theorem Dsk.lS (h : Dsk g m l k1 k2 S E w) : Wr m (hgetT ePS k1) S m := wr_lst h.s
theorem Dsk.lE (h : Dsk g m l k1 k2 S E w) : Wr m (hgetT eD k2) E m := wr_lst h.e
theorem Dsk.lSD (h : Dsk g m l k1 k2 S E w) : Wr m (hgetT eD k1) (S.map ePS) m := wr_lst (e := eD) (by rw [h.s]; congr 2; exact (List.map_id _).symm)
theorem Dsk.n1 (h : Dsk g m l k1 k2 S E w) : l ≠ k1 := fun e => by
  have := h.o
  rw [e, h.s] at this
  cases this
theorem Dsk.n2 (h : Dsk g m l k1 k2 S E w) : l ≠ k2 := fun e => by
  have := h.o
  rw [e, h.e] at this
  cases this
/-- with other lists -/
theorem Dsk.put (h : Dsk g m l k1 k2 S E w) (S' : List PS) (E' : List D) : Dsk g (hput (hput m k1 (.lst (S'.map ePS))) k2 (.lst (E'.map eD))) l k1 k2 S' E' w :=
  ⟨by rw [hput_ne h.n2, hput_ne h.n1]; exact h.o, by rw [hput_ne h.ne, hput_same], hput_same, h.ne⟩
/-- the same in a heap that shows the same -/
theorem Dsk.mv {m' : Hpo} (h : Dsk g m l k1 k2 S E w) (e : ∀ x, m x ≠ none → m' x = m x) : Dsk g m' l k1 k2 S E w :=
  ⟨by rw [e l (by rw [h.o]; simp)]; exact h.o, by rw [e k1 (by rw [h.s]; simp)]; exact h.s, by rw [e k2 (by rw [h.e]; simp)]; exact h.e, h.ne⟩
/-- what the desk does not hold is as it was -/
def Off (m m' : Hpo) (k1 k2 : Nat) : Prop := ∀ x, x ≠ k1 → x ≠ k2 → m' x = m x
theorem off_put {o1 o2 : MO} : Off m (hput (hput m k1 o1) k2 o2) k1 k2 := fun x h1 h2 => by rw [hput_ne h2, hput_ne h1]
end
/-! ### edits -/
inductive Ed where
  | press (b : Int)
  | link (a o : Int)
  | cut (a o : Int)
def eEd : Ed → D
  | .press b => eP eS eI (("press" : Str), b)
  | .link a o => eP3 eS eI eI (("link" : Str), a, o)
  | .cut a o => eP3 eS eI eI (("unlink" : Str), a, o)
def doE (z : PS) : Ed → PS
  | .press b => (z.1, pr z.1 z.2 b)
  | .link a o => (setR z.1 a (rowL z.1 a o), z.2)
  | .cut a o => (setR z.1 a (rowU z.1 a o), z.2)
def inP (z : PS) (b : Int) : Prop := 0 ≤ b ∧ b < (z.1.length : Int)
def okE (z : PS) : Ed → Prop
  | .press b => inP z b
  | .link a o => inP z a ∧ inP z o ∧ a ≠ o ∧ o ∉ rowAt z.1 a
  | .cut a o => inP z a ∧ inP z o ∧ a ≠ o ∧ o ∈ rowAt z.1 a
structure OkS (z : PS) : Prop where
  pan : PanA z.1
  st : Stt z.1.length z.2
theorem OkS.do {z : PS} {e : Ed} (h : OkS z) (oe : okE z e) : OkS (doE z e) ∧ (doE z e).1.length = z.1.length := by
  cases e with
  | press b => exact ⟨⟨h.pan, pr_stt h.pan.le h.st oe.1 oe.2⟩, rfl⟩
  | link a o =>
    obtain ⟨ha, ho, hne, _⟩ := oe
    have hl := setR_len ha.1 ha.2 (rowL z.1 a o)
    refine ⟨⟨setR_panA h.pan ha.1 ha.2 (rowL_sub h.pan ha.1 ha.2 ho.1 ho.2 hne), ?_⟩, hl⟩
    show Stt (setR z.1 a (rowL z.1 a o)).length z.2
    rw [hl]
    exact h.st
  | cut a o =>
    obtain ⟨ha, ho, hne, _⟩ := oe
    have hl := setR_len ha.1 ha.2 (rowU z.1 a o)
    refine ⟨⟨setR_panA h.pan ha.1 ha.2 (rowU_sub h.pan ha.1 ha.2), ?_⟩, hl⟩
    show Stt (setR z.1 a (rowU z.1 a o)).length z.2
    rw [hl]
    exact h.st
theorem link_new {pan : List (List Int)} {a o : Int} (h0 : 0 ≤ a) (h1 : a < pan.length) (ho : o ∉ rowAt pan a) : setR pan a (rowL pan a o) ≠ pan := fun e => ho (by
  rw [← e, setR_row h0 h1 _ h0, if_pos rfl]
  exact mem_rowL.mpr (.inr rfl))
theorem cut_new {pan : List (List Int)} {a o : Int} (h0 : 0 ≤ a) (h1 : a < pan.length) (ho : o ∈ rowAt pan a) : setR pan a (rowU pan a o) ≠ pan := fun e => by
  rw [← e, setR_row h0 h1 _ h0, if_pos rfl] at ho
  exact (mem_rowU.mp ho).2 rfl
/-! ### what the program asks -/
theorem misi_int {S : Type} (b : Int) : misiD (S := S) "int" (eI b) = mpure true := by
  show (match kitB "int" "int" with | some b => mpure b | none => mbad) = _
  rw [kb_int_int]
theorem misi_bool {S : Type} (b : Int) : misiD (S := S) "bool" (eI b) = mpure false := by
  show (match kitB "int" "bool" with | some b => mpure b | none => mbad) = _
  rw [kb_int_bool]
theorem within_ok {S : Type} {b lo hi : Int} (h0 : lo ≤ b) (h1 : b ≤ hi) : p_is_within (S := S) (eI b) lo hi = mpure true := by
  unfold p_is_within
  simp only [mbind_pure, misi_int, misi_bool, Bool.not_false, if_true]
  show mbind (mpure b) _ = _
  simp only [mbind_pure, decide_eq_true h0, decide_eq_true h1, if_true]
theorem number_ok {S : Type} {b lo hi : Int} (h0 : lo ≤ b) (h1 : b ≤ hi) : p_is_number (S := S) b lo hi = mpure true := by
  unfold p_is_number
  rw [decide_eq_true h0, decide_eq_true h1] <;> rfl
theorem pairs_up : ∀ {r : List Int}, r.Pairwise (· < ·) → (((r.zip (Dn.cutD r (some (1 : Int)) none)).filter fun _ => true).map fun p => decide (p.1 < p.2)).all id = true := by
  intro r h
  have hc : Dn.cutD r (some (1 : Int)) none = r.drop 1 := by
    cases r with
    | nil => rfl
    | cons a r => exact cutD_dropA _ (by decide) (by simp; omega)
  rw [hc, filter_true, List.all_map, List.all_eq_true]
  intro p hp
  obtain ⟨i, hi⟩ := List.getElem?_of_mem hp
  rw [List.getElem?_zip_eq_some] at hi
  rw [List.getElem?_drop] at hi
  obtain ⟨g1, e1⟩ := List.getElem?_eq_some_iff.mp hi.1
  obtain ⟨g2, e2⟩ := List.getElem?_eq_some_iff.mp hi.2
  have := List.pairwise_iff_getElem.mp h i (1 + i) g1 g2 (by omega)
  rw [e1, e2] at this
  simpa using this
theorem ups_ok {S : Type} {r : List Int} (h : r.Pairwise (· < ·)) (hl : r.length ≤ 1000) : (mbind (compV (fun (_ : (Int × Int)) => true) (fun (x : (Int × Int)) => decide (x.1 < x.2)) (r.zip (Dn.cutD r (some (1 : Int)) none))) fun y => mpure (y.all id) : Mt S Bool) = mpure true := by
  rw [compV_ok (by rw [List.length_zip]; omega), mbind_pure, pairs_up h]
theorem is_state_ok {S : Type} {pan : List (List Int)} {r : List Int} (h : Stt pan.length r) : p_is_state (S := S) pan r = mpure true := by
  have h1 : r.length ≤ 10 := h.1
  unfold p_is_state
  simp only [mbind_pure, Bool.not_true, Bool.false_eq_true, if_false]
  rw [compM_pure (fun _ => true) (by omega) (fun x hx _ => within_ok (h.2.1 x hx).1 (by have := (h.2.1 x hx).2; omega)), filter_true, calmly_pure']
  simp only [mbind_pure]
  have e : (r.map fun _ => true).all id = true := by simp
  rw [e]
  simp only [Bool.not_true, Bool.false_eq_true, if_false]
  exact ups_ok h.2.2 (by omega)
theorem are_buttons_ok {S : Type} {n : Nat} {r : List Int} (h : Stt n r) : p_are_buttons (S := S) (n : Int) r = mpure true := by
  have h1 : r.length ≤ 10 := h.1
  unfold p_are_buttons
  simp only [mbind_pure, Bool.not_true, Bool.false_eq_true, if_false]
  rw [compM_pure (fun _ => true) (by omega) (fun x hx _ => number_ok (h.2.1 x hx).1 (by have := (h.2.1 x hx).2; omega)), filter_true, calmly_pure']
  simp only [mbind_pure]
  have e : (r.map fun _ => true).all id = true := by simp
  rw [e]
  simp only [Bool.not_true, Bool.false_eq_true, if_false]
  exact ups_ok h.2.2 (by omega)
theorem PanA.stt {pan : List (List Int)} (h : PanA pan) {r : List Int} (hr : r ∈ pan) : Stt pan.length r := by
  have hp := h.pan
  exact ⟨hp.len r hr, hp.rng r hr, h.sorted hr⟩
theorem panel_error_ok {S : Type} {pan : List (List Int)} (h : PanA pan) : p_panel_error (S := S) pan = mpure none := by
  have h1 := h.pos
  have h2 := h.le
  unfold p_panel_error
  have e : ((!true) || (!(decide ((1 : Int) ≤ (pan.length : Int)) && decide ((pan.length : Int) ≤ (10 : Int))))) = false := by
    rw [decide_eq_true (by omega), decide_eq_true (by omega)] <;> rfl
  rw [e]
  simp only [mbind_pure, Bool.false_eq_true, if_false]
  have key : ∀ xs : List (Int × List Int), (∀ x ∈ xs, x.2 ∈ pan ∧ x.1 ∉ x.2) → forX (S := S) (β := Option (Option Int × Str)) (fun (vx4 : (Int × (List Int))) (vz2 : Unit) => mbind (p_are_buttons (pan.length : Int) vx4.2) fun vx5 => if (!vx5) = true then (mpure (.rt (some ((some vx4.1), ("list" : Str))))) else (if (decide (vx4.1 ∈ vx4.2)) = true then (mpure (.rt (some ((some vx4.1), ("itself" : Str))))) else (mpure (.nx ())))) xs () = mpure (.inl ()) := by
    intro xs
    induction xs with
    | nil => intro _; rfl
    | cons x xs ih =>
      intro hx
      have g := hx x (by simp)
      unfold forX
      rw [are_buttons_ok (h.stt g.1), mbind_pure, decide_eq_false g.2]
      simp only [Bool.not_true, Bool.false_eq_true, if_false, mbind_pure]
      exact ih fun y hy => hx y (by simp [hy])
  unfold mfin
  simp only [mbind_pure, mbind_assoc]
  rw [key (enumZ 0 pan) fun x hx => ?_, mbind_pure]
  · obtain ⟨k, hk, ek⟩ := mem_enumZ hx
    refine ⟨List.mem_of_getElem? hk, fun hm => ?_⟩
    have := (h.row k x.2 hk).subset hm
    rw [mem_oth] at this
    omega
theorem require_panel_ok {S : Type} {pan : List (List Int)} (h : PanA pan) : p_require_panel (S := S) pan = mpure () := by
  unfold p_require_panel
  rw [panel_error_ok h]
  simp only [mbind_pure, Option.isSome_none, Bool.false_eq_true, if_false]
theorem require_buttons_ok {S : Type} {pan : List (List Int)} {bs : List Int} (h : ∀ b ∈ bs, 0 ≤ b ∧ b < (pan.length : Int)) : p_require_buttons (S := S) pan (bs.map eI) = mpure () := by
  unfold p_require_buttons
  simp only [mbind_pure]
  rw [forU_inv (bs.map eI) () (fun _ => ()) rfl fun pre x post e => ?_]
  · simp only [mbind_pure]
  · have hx : x ∈ bs.map eI := by rw [e]; simp
    obtain ⟨b, hb, rfl⟩ := List.mem_map.mp hx
    have := h b hb
    rw [within_ok this.1 (by omega)]
    simp only [mbind_pure, Bool.not_true, Bool.false_eq_true, if_false]
theorem require_1 {S : Type} {z : PS} {b : Int} (h : inP z b) : p_require_buttons (S := S) z.1 [eI b] = mpure () := require_buttons_ok (bs := [b]) fun x hx => by
  rw [List.mem_singleton.mp hx]; exact h
theorem require_2 {S : Type} {z : PS} {a o : Int} (h : inP z a) (h2 : inP z o) : p_require_buttons (S := S) z.1 [eI a, eI o] = mpure () := require_buttons_ok (bs := [a, o]) fun x hx => by
  simp only [List.mem_cons, List.not_mem_nil, or_false] at hx
  rcases hx with rfl | rfl
  · exact h
  · exact h2
theorem changed_link {S : Type} {z : PS} (h : OkS z) {a o : Int} (hd : okE z (.link a o)) : p_changed (S := S) z.1 ("link" : Str) a o = mpure (setR z.1 a (rowL z.1 a o)) := by
  obtain ⟨ha, ho, hne, hn⟩ := hd
  unfold p_changed
  rw [require_2 ha ho]
  simp only [mbind_pure, decide_eq_false hne, Bool.false_eq_true, if_false, decide_true, if_true]
  rw [linked_ok h.pan.pan ha.1 ha.2]
  simp only [mbind_pure, decide_eq_false (link_new ha.1 ha.2 hn), Bool.false_eq_true, if_false]
theorem changed_cut {S : Type} {z : PS} (h : OkS z) {a o : Int} (hd : okE z (.cut a o)) : p_changed (S := S) z.1 ("unlink" : Str) a o = mpure (setR z.1 a (rowU z.1 a o)) := by
  obtain ⟨ha, ho, hne, hn⟩ := hd
  unfold p_changed
  rw [require_2 ha ho]
  have e : decide (("unlink" : Str) = ("link" : Str)) = false := by decide
  simp only [mbind_pure, decide_eq_false hne, Bool.false_eq_true, if_false, e]
  rw [unlinked_ok h.pan.pan ha.1 ha.2]
  simp only [mbind_pure, decide_eq_false (cut_new ha.1 ha.2 hn), Bool.false_eq_true, if_false]
/-! ### a new desk -/
theorem mrepT_same {T : Type} {n : Nat} (h : n ≤ 10) : mrepT (S := T) ([("same" : Str)]) (n : Int) = mpure (List.replicate n ("same" : Str)) := by
  rw [mrepT_ok (by omega) (by omega), Int.toNat_natCast]
section
variable {m : Hpo}
theorem setF_new {s : ST} {l : Nat} {n f : Str} {fs : List (Str × D)} {x : D} (h : fs.lookup f = none) : s.setF l n fs f x = s.put l (.ins n (putD f x fs)) := by
  unfold OS.setF
  rw [h]
theorem rh_setN {nms : List Str} {n f : Str} {l : Nat} {ds : List D} {fs : List (Str × D)} (h : m l = some (.ins n fs)) (hn : n ∈ nms) (hl : fs.length < 100) (hf : fs.lookup f = none) :
    RunH 0 m (hsetN nms f l ds) fun _ m' => ∃ k, k ≠ l ∧ m k = none ∧ m' = hput (hput m l (.ins n (putD f (.ref k) fs))) k (.lst ds) := fun s e hs => by
  unfold hsetN
  rw [e, h]
  dsimp only
  rw [if_pos ⟨hn, hl⟩]
  rintro k ⟨_, h2, h3⟩
  show EndsR (Rs.ok () ((s.setF l n fs f (.ref k)).put k (.lst ds))) _
  rw [setF_new hf]
  refine ⟨Nat.le_add_right _ _, k, h2, h3, ?_⟩
  show ((s.put _ _).put _ _).m = _
  unfold OS.put hput
  dsimp only
  rw [e]
theorem rh_setF {nms : List Str} {n f : Str} {l : Nat} {x : D} {fs : List (Str × D)} (h : m l = some (.ins n fs)) (hn : n ∈ nms) (hl : fs.length < 100) (hf : fs.lookup f = none) (hx : ∀ k, x ≠ .ref k) :
    Wr m (hsetF nms f l x) () (hput m l (.ins n (putD f x fs))) := fun d => by
  unfold hsetF
  dsimp only
  rw [h]
  dsimp only
  rw [if_pos ⟨hn, hl, fun k e => absurd e (hx k)⟩, setF_new hf]
  rfl
theorem initD_ok {n : Str} {l : Nat} {pan : List (List Int)} {st : List Int} (hn : n ∈ DN) (hp : PanA pan) (hs : Stt pan.length st) (hm : m l = some (.ins n [])) :
    RunH 0 m (p_Desk___init__ l pan st) fun _ m' => ∃ k1 k2, m' l = some (.ins n (dskF none k1 k2 false)) ∧ m' k1 = some (.lst ([(pan, st)].map ePS)) ∧ m' k2 = some (.lst []) ∧ k1 ≠ k2 ∧ l ≠ k1 ∧ l ≠ k2 ∧ (m k1 = none ∧ m k2 = none) ∧ ∀ x, m x ≠ none → x ≠ l → m' x = m x := by
  unfold p_Desk___init__
  rw [require_panel_ok hp, is_state_ok hs]
  simp only [mbind_pure, Bool.not_true, Bool.false_eq_true, if_false]
  refine rh_b (n := 0) (rh_b (n := 0) (rh_setN hm hn (by simp) rfl) (Nat.le_refl _) ?_) (Nat.le_refl _) fun _ m' h => rh_pure h
  rintro _ m1 ⟨k1, n1, e1, rfl⟩
  have hl1 : hput (hput m l (.ins n (putD "states" (.ref k1) []))) k1 (.lst ([(pan, st)].map ePS)) l = some (.ins n [("states", .ref k1)]) := by
    rw [hput_ne (Ne.symm n1), hput_same] <;> rfl
  refine rh_b (n := 0) (rh_setN hl1 hn (by simp) rfl) (Nat.le_refl _) ?_
  rintro _ m2 ⟨k2, n2, e2, rfl⟩
  have n3 : k2 ≠ k1 := fun e => by
    rw [e, hput_same] at e2
    cases e2
  have e2' : m k2 = none := by
    rw [hput_ne n3, hput_ne n2] at e2
    exact e2
  refine rh_w (rh_setF (n := n) (fs := [("states", .ref k1), ("standing", .ref k2)]) ?_ hn (by simp) rfl (fun k q => nomatch q)) (rh_pure ⟨k1, k2, hput_same, ?_, ?_, Ne.symm n3, Ne.symm n1, Ne.symm n2, ⟨e1, e2'⟩, fun x hx hxl => ?_⟩)
  · rw [hput_ne (Ne.symm n2), hput_same] <;> rfl
  · rw [hput_ne n1, hput_ne (Ne.symm n3), hput_ne n1, hput_same]
  · rw [hput_ne n2, hput_same] <;> rfl
  · have h1 : x ≠ k1 := fun e => hx (by rw [e]; exact e1)
    have h2 : x ≠ k2 := fun e => hx (by rw [e]; exact e2')
    rw [hput_ne hxl, hput_ne h2, hput_ne hxl, hput_ne h1, hput_ne hxl]
abbrev sames (pan : List (List Int)) : List Str := List.replicate pan.length ("same" : Str)
theorem initG_ok {l : Nat} {pan : List (List Int)} {st : List Int} (hp : PanA pan) (hs : Stt pan.length st) (hm : m l = some (.ins "GuessDesk" [])) :
    RunH 0 m (p_GuessDesk___init__ l pan st) fun _ m' => ∃ k1 k2, Dsk (some (pan, sames pan)) m' l k1 k2 [(pan, st)] [] false ∧ (l ≠ k1 ∧ l ≠ k2) ∧ (m k1 = none ∧ m k2 = none) ∧ ∀ x, m x ≠ none → x ≠ l → m' x = m x := by
  have hle := hp.le
  unfold p_GuessDesk___init__
  refine rh_b (n := 0) (rh_b (n := 0) (rh_w (wr_clA hm (by simp)) (initD_ok (by simp) hp hs hm)) (Nat.le_refl _) ?_) (Nat.le_refl _) fun _ m' h => rh_pure h
  rintro _ m1 ⟨k1, k2, h1, h2, h3, h4, h6, h7, h8, h5⟩
  unfold p_Guess___init__
  rw [require_panel_ok hp]
  simp only [mbind_pure, mbind_assoc]
  rw [mrepT_same hle, mbind_pure]
  refine rh_w (rh_setF (n := "GuessDesk") h1 (by simp) (by simp [dskF, dkF]) rfl (fun k q => nomatch q)) ?_
  refine rh_w (rh_setF (n := "GuessDesk") hput_same (by simp) (show 4 < 100 by decide) rfl (fun k q => nomatch q)) (rh_pure ⟨k1, k2, ⟨?_, ?_, ?_, h4⟩, ⟨h6, h7⟩, h8, fun x hx hxl => ?_⟩)
  · rw [hput_same] <;> rfl
  · rw [hput_ne (Ne.symm h6), hput_ne (Ne.symm h6)]; exact h2
  · rw [hput_ne (Ne.symm h7), hput_ne (Ne.symm h7)]; exact h3
  · rw [hput_ne hxl, hput_ne hxl]; exact h5 x hx hxl
theorem rh_mkF {β : Type} {N : Nat} {nm : Str} {init : Nat → Mt ST Unit} {k : Nat → Mt ST β} {R : β → Hpo → Prop} {Z : Nat → Hpo → Prop} (hi : ∀ l, m l = none → RunH 0 (hput m l (.ins nm [])) (init l) fun _ m' => Z l m' ∧ ∀ x, hput m l (.ins nm []) x ≠ none → x ≠ l → m' x = hput m l (.ins nm []) x)
    (hk : ∀ l m', m l = none → Z l m' → (∀ x, m x ≠ none → m' x = m x) → RunH N m' (k l) R) : RunH N m (mbind (mmk nm init) k) R := fun s e hN => by
  intro l hl
  obtain ⟨_, h3⟩ := hl
  have e3 : m l = none := by rw [← e]; exact h3
  have hs1 : (s.put l (.ins nm [])).m = hput m l (.ins nm []) := by
    unfold OS.put hput
    dsimp only
    rw [e]
  have hk1 : (s.put l (.ins nm [])).k = s.k := rfl
  refine ends_bind (ends_bind (hi l e3 _ hs1 (by omega)) fun _ s1 hq => ?_) fun a s2 hq => hq
  obtain ⟨hq1, hz, hfr⟩ := hq
  show EndsR (k l s1) _
  refine ends_mono (hk l s1.m e3 hz (fun x hx => ?_) s1 rfl (by omega)) fun b s' ⟨g1, g2⟩ => ⟨by omega, g2⟩
  have hxl : x ≠ l := fun q => hx (by rw [q]; exact e3)
  rw [hfr x (by rw [hput_ne hxl]; exact hx) hxl, hput_ne hxl]
theorem rh_gdesk {β : Type} {N : Nat} {pan : List (List Int)} {st : List Int} {k : Nat → Mt ST β} {R : β → Hpo → Prop} (hp : PanA pan) (hs : Stt pan.length st)
    (hk : ∀ l k1 k2 m', Dsk (some (pan, sames pan)) m' l k1 k2 [(pan, st)] [] false → m k1 = none → m k2 = none → (∀ x, m x ≠ none → m' x = m x) → RunH N m' (k l) R) : RunH N m (mbind (mmk "GuessDesk" fun l => p_GuessDesk___init__ l pan st) k) R :=
  rh_mkF (Z := fun l m' => ∃ k1 k2, Dsk (some (pan, sames pan)) m' l k1 k2 [(pan, st)] [] false ∧ m k1 = none ∧ m k2 = none) (fun l _ => rh_mono (initG_ok hp hs hput_same) (Nat.le_refl _) fun _ m' ⟨k1, k2, h1, ⟨n1, n2⟩, ⟨f1, f2⟩, h2⟩ => ⟨⟨k1, k2, h1, by rw [hput_ne (Ne.symm n1)] at f1; exact f1, by rw [hput_ne (Ne.symm n2)] at f2; exact f2⟩, h2⟩) fun l m' _ ⟨k1, k2, h1, f1, f2⟩ h2 => hk l k1 k2 m' h1 f1 f2 h2
end
/-! ### edits done -/
section
variable {g : GX} {m : Hpo} {l k1 k2 : Nat} {S : List PS} {E : List D} {w : Bool} {z : PS}
theorem Dsk.now (h : Dsk g m l k1 k2 S E w) (hz : S.getLast? = some z) : Wr m (mbind (mbind (mgetF DN "states" l) (mdec eR)) fun k => mbind (hgetT ePS k) fun xs => midx xs (-(1 : Int))) z m :=
  wr_bind h.states (wr_bind h.lS (wr_of (midx_last hz)))
theorem state_after_ok (h : Dsk g m l k1 k2 S E w) (hz : S.getLast? = some z) (hs : OkS z) {e : Ed} (oe : okE z e) : Wr m (p_Desk_state_after l (eEd e)) (doE z e) m := by
  unfold p_Desk_state_after
  refine wr_bind (h.now hz) (wr_of ?_)
  cases e with
  | press b =>
    show mbind (mpure (("press" : Str), [eI b])) _ = _
    simp only [mbind_pure, if_true]
    rw [if_pos (by simp), require_1 oe]
    show mbind (mpure ()) (fun _ => mbind (mbind (mdec eI (eI b)) _) _) = _
    rw [mbind_pure, mdec_full]
    simp only [mbind_pure]
    rw [press_ok hs.pan.pan hs.st.1 oe.1 oe.2, mbind_pure] <;> rfl
  | link a o =>
    show mbind (mpure (("link" : Str), [eI a, eI o])) _ = _
    simp only [mbind_pure]
    rw [if_neg (by decide)]
    show mbind (mbind (mdec eI (eI a)) fun x => mbind (mdec eI (eI o)) fun y => _) _ = _
    rw [mdec_full, mdec_full]
    simp only [mbind_pure]
    rw [changed_link hs oe, mbind_pure] <;> rfl
  | cut a o =>
    show mbind (mpure (("unlink" : Str), [eI a, eI o])) _ = _
    simp only [mbind_pure]
    rw [if_neg (by decide)]
    show mbind (mbind (mdec eI (eI a)) fun x => mbind (mdec eI (eI o)) fun y => _) _ = _
    rw [mdec_full, mdec_full]
    simp only [mbind_pure]
    rw [changed_cut hs oe, mbind_pure] <;> rfl
theorem perform_ok (h : Dsk g m l k1 k2 S E w) {ed : D} (ha : Wr m (p_Desk_state_after l ed) z m) (hE : E.length < 60) (hS : S.length < 1000) :
    Wr m (p_Desk_perform l ed) ((E.length : Int) + 1) (hput (hput m k1 (.lst ((S ++ [z]).map ePS))) k2 (.lst ((E ++ [ed]).map eD))) := by
  unfold p_Desk_perform
  have hp : Dsk g (hput m k1 (.lst ((S ++ [z]).map ePS))) l k1 k2 (S ++ [z]) E w := ⟨by rw [hput_ne h.n1]; exact h.o, hput_same, by rw [hput_ne (Ne.symm h.ne)]; exact h.e, h.ne⟩
  have hq := h.put (S ++ [z]) (E ++ [ed])
  refine wr_bind (a := decide ((E.length : Int) ≥ 60)) (wr_bind (a := (E.length : Int)) (wr_bind h.standing (wr_bind h.lE wr_pure)) wr_pure) ?_
  rw [decide_eq_false (by omega), if_neg (by decide)]
  refine wr_bind (a := ()) (m1 := hput m k1 (.lst ((S ++ [z]).map ePS))) (wr_bind h.states (wr_bind h.lSD (wr_bind (wr_bind (h.cls (by decide)) ha) ?_))) ?_
  · have := wr_app (x := ePS z) h.s (by rw [List.length_map]; omega)
    rw [List.map_append (f := ePS)]
    exact this
  refine wr_bind (a := ()) (m1 := hput (hput m k1 (.lst ((S ++ [z]).map ePS))) k2 (.lst ((E ++ [ed]).map eD))) (wr_bind hp.standing (wr_bind hp.lE (wr_bind wr_pure ?_))) ?_
  · have := wr_app (x := eD ed) hp.e (by rw [List.length_map]; omega)
    rw [List.map_append (f := eD)]
    exact this
  refine wr_bind hq.standing (wr_bind hq.lE ?_)
  have e : ((E ++ [ed]).length : Int) = (E.length : Int) + 1 := by rw [List.length_append, List.length_singleton]; omega
  rw [e]
  exact wr_pure
theorem idle_ok (h : Dsk g m l k1 k2 S E false) : Wr m (p_Desk_require_idle l) () m := by
  unfold p_Desk_require_idle
  refine wr_bind (a := ()) (wr_bind (a := ()) (wr_bind (a := false) (wr_bind h.watching wr_pure) ?_) wr_pure) wr_pure
  simp only [Bool.false_eq_true, if_false]
  exact wr_pure
end
/-! ### the last edit taken back -/
section
variable {g : GX} {m : Hpo} {l k1 k2 : Nat} {S : List PS} {E : List D}
def undone (m : Hpo) (k1 k2 : Nat) (S : List PS) (E : List D) : Hpo := hput (hput m k2 (.lst (E.dropLast.map eD))) k1 (.lst (S.dropLast.map ePS))
theorem undone_dsk (h : Dsk g m l k1 k2 S E false) : Dsk g (undone m k1 k2 S E) l k1 k2 S.dropLast E.dropLast false :=
  ⟨by unfold undone; rw [hput_ne h.n1, hput_ne h.n2]; exact h.o, hput_same, by unfold undone; rw [hput_ne (Ne.symm h.ne), hput_same], h.ne⟩
theorem last_get {α : Type} {xs : List α} (h : xs ≠ []) : xs[xs.length - 1]? = some (xs.getLast h) := by
  rw [← List.getLast?_eq_getElem?, List.getLast?_eq_some_getLast h]
theorem undo_ok (h : Dsk g m l k1 k2 S E false) (hE : E ≠ []) (hS : S ≠ []) : Wr m (p_Desk_undo l) ((E.length : Int) - 1) (undone m k1 k2 S E) := by
  unfold p_Desk_undo
  have hp := List.length_pos_iff.mpr hE
  have hq : Dsk g (hput m k2 (.lst (E.dropLast.map eD))) l k1 k2 S E.dropLast false := ⟨by rw [hput_ne h.n2]; exact h.o, by rw [hput_ne h.ne]; exact h.s, hput_same, h.ne⟩
  have hd := undone_dsk h
  refine wr_bind (m1 := m) (wr_bind (h.cls (by decide)) (idle_ok h)) ?_
  refine wr_bind (m1 := m) (a := decide ((E.length : Int) = 0)) (wr_bind (wr_bind h.standing (wr_bind h.lE wr_pure)) wr_pure) ?_
  rw [decide_eq_false (by omega), if_neg (by decide)]
  have hE2 : E.map eD ≠ [] := by simpa using hE
  have hS2 : S.map ePS ≠ [] := by simpa using hS
  have p1 := wr_pop h.e (last_get hE2)
  rw [← List.map_dropLast] at p1
  have p2 := wr_pop hq.s (last_get hS2)
  rw [← List.map_dropLast] at p2
  refine wr_bind (wr_bind h.standing p1) (wr_bind (wr_bind hq.states p2) ?_)
  · refine wr_bind hd.standing (wr_bind hd.lE ?_)
    have e : (E.dropLast.length : Int) = (E.length : Int) - 1 := by rw [List.length_dropLast]; omega
    rw [e]
    exact wr_pure
end
/-! ### an edit of the law -/
section
variable {g : GX} {gp : List (List Int) × List Str} {m : Hpo} {l k1 k2 : Nat} {S : List PS} {E : List Ed} {z : PS}
theorem eqS {S : Type} (x y : Str) : meqD (S := S) (eS x) (eS y) = mpure (decide (x = y)) := by
  unfold meqD
  rw [if_pos ⟨rfl, rfl, Nat.le_of_ble_eq_true rfl⟩]
  congr 1
theorem eEd_0 {S : Type} (e : Ed) : midxD (S := S) (eEd e) 0 = mpure (eS (match e with | .press _ => "press" | .link _ _ => "link" | .cut _ _ => "unlink")) := by
  cases e <;> rfl
theorem word_press {S : Type} (e : Ed) : (mbind (midxD (eEd e) 0) fun x => meqD x (eS ("press" : Str)) : Mt S Bool) = mpure (match e with | .press _ => true | _ => false) := by
  rw [eEd_0, mbind_pure, eqS]
  cases e <;> rfl
theorem word_link {S : Type} (e : Ed) : (mbind (midxD (eEd e) 0) fun x => meqD x (eS ("link" : Str)) : Mt S Bool) = mpure (match e with | .link _ _ => true | _ => false) := by
  rw [eEd_0, mbind_pure, eqS]
  cases e <;> rfl
/-- the heap after an edit -/
def after (m : Hpo) (k1 k2 : Nat) (S : List PS) (E : List Ed) (z : PS) (e : Ed) : Hpo := hput (hput m k1 (.lst ((S ++ [doE z e]).map ePS))) k2 (.lst ((E.map eEd ++ [eEd e]).map eD))
theorem after_dsk (h : Dsk g m l k1 k2 S (E.map eEd) false) (e : Ed) : Dsk g (after m k1 k2 S E z e) l k1 k2 (S ++ [doE z e]) ((E ++ [e]).map eEd) false := by
  have := h.put (S ++ [doE z e]) (E.map eEd ++ [eEd e])
  rw [List.map_append]
  exact this
theorem Dsk.cls1 {E : List D} {w : Bool} (h : Dsk (some gp) m l k1 k2 S E w) {x : Str} (hx : noFld x) : Wr m (hcls "GuessDesk" x l) () m := wr_cls h.o (lk_none hx)
theorem Dsk.cl1 {E : List D} {w : Bool} (h : Dsk (some gp) m l k1 k2 S E w) : Wr m (hcl "GuessDesk" l) () m := wr_cl h.o
theorem Dsk.clA1 {E : List D} {w : Bool} (h : Dsk (some gp) m l k1 k2 S E w) : Wr m (hclA ["GuessDesk"] l) () m := wr_clA h.o (by simp [dkN])
theorem Dsk.states1 {E : List D} {w : Bool} (h : Dsk (some gp) m l k1 k2 S E w) : Wr m (mbind (mgetF ["GuessDesk"] "states" l) (mdec eR)) k1 m := wr_get h.o (by simp [dkN]) lk_states
theorem Dsk.standing1 {E : List D} {w : Bool} (h : Dsk (some gp) m l k1 k2 S E w) : Wr m (mbind (mgetF ["GuessDesk"] "standing" l) (mdec eR)) k2 m := wr_get h.o (by simp [dkN]) lk_standing
theorem Dsk.told1 {E : List D} {w : Bool} (h : Dsk (some gp) m l k1 k2 S E w) : Wr m (mbind (mgetF ["GuessDesk"] "told" l) (mdec (eT eS))) gp.2 m := wr_get h.o (by simp [dkN]) lk_told
theorem law_do_ok (h : Dsk (some gp) m l k1 k2 S (E.map eEd) false) {e : Ed} (hz : S.getLast? = some z) (hs : OkS z) (oe : okE z e) (hE : E.length < 60) (hS : S.length < 1000) : Wr m (p__law_do l (eEd e)) ((E.length : Int) + 1) (after m k1 k2 S E z e) := by
  have hp : Wr m (p_Desk_perform l (eEd e)) ((E.length : Int) + 1) (after m k1 k2 S E z e) := by
    have := perform_ok h (state_after_ok h hz hs oe) (by rw [List.length_map]; exact hE) hS
    rw [List.length_map] at this
    exact this
  unfold p__law_do
  rw [word_press, word_link]
  cases e with
  | press b =>
    simp only [mbind_pure, if_true]
    refine wr_bind (h.cls1 (by decide)) (wr_bind (a := eI b) (wr_of rfl) ?_)
    unfold p_Desk_press
    exact wr_bind (wr_bind (h.cls (by decide)) (idle_ok h)) (wr_bind (h.cls (by decide)) hp)
  | link a o =>
    simp only [mbind_pure, Bool.false_eq_true, if_false, if_true]
    refine wr_bind (h.cls1 (by decide)) (wr_bind (a := eI a) (wr_of rfl) (wr_bind (a := eI o) (wr_of rfl) ?_))
    unfold p_Desk_link
    exact wr_bind (wr_bind (h.cls (by decide)) (idle_ok h)) (wr_bind (h.cls (by decide)) hp)
  | cut a o =>
    simp only [mbind_pure, Bool.false_eq_true, if_false]
    refine wr_bind (h.cls1 (by decide)) (wr_bind (a := eI a) (wr_of rfl) (wr_bind (a := eI o) (wr_of rfl) ?_))
    unfold p_Desk_unlink
    exact wr_bind (wr_bind (h.cls (by decide)) (idle_ok h)) (wr_bind (h.cls (by decide)) hp)
theorem law_pressed_ok {S : Type} {pan : List (List Int)} (h : Pan 10 pan) {s : List Int} {b : Int} (hs : s.length ≤ 10) (h0 : 0 ≤ b) (h1 : b < (pan.length : Int)) : p__law_pressed (S := S) pan s b = mpure (pr pan s b) := by
  unfold p__law_pressed
  simp only [mbind_pure, mbind_ret]
  rw [compG_id (fun o => !decide (o ∈ rowAt pan b) && !decide (o = b)) (by omega) fun x _ => ?_, calmly_pure', mbind_pure]
  · have hl : (keptS pan s b).length ≤ s.length := List.length_filter_le _ _
    show mbind (mcat (keptS pan s b) [b]) _ = _
    rw [mcat_ok (by rw [List.length_singleton]; omega), mbind_pure, msort_ok (by rw [List.length_append, List.length_singleton]; omega)]
    rfl
  · rw [midx_row h0 h1, mbind_pure]
    by_cases q : x ∈ rowAt pan b <;> simp [q]
theorem law_changed_ok {S : Type} {pan : List (List Int)} (h : PanA pan) {a : Int} (o : Int) (h0 : 0 ≤ a) (h1 : a < (pan.length : Int)) (b : Bool) : p__law_changed (S := S) pan a o b = mpure (setR pan a (if b = true then rowL pan a o else rowU pan a o)) := by
  have hp := h.pan
  have hl := hp.len _ (hp.row h0 h1)
  have hle := h.le
  have hf := List.length_filter_le (fun b => !decide (b = o)) (rowAt pan a)
  unfold p__law_changed
  rw [midx_row h0 h1]
  simp only [mbind_pure]
  rw [compV_ok (by omega), List.map_id', mbind_pure]
  have key : ∀ own : List Int, own.length ≤ 20 → (mbind (mbind (mbind (mbind (msort ltI own) fun x => mpure x) fun x => mpure [x]) fun x => mcat (Dn.cutD pan none (some a)) x) fun x => mcat x (Dn.cutD pan (some (a + (1 : Int))) none) : Mt S (List (List Int))) = mpure (setR pan a (own.mergeSort (leOf ltI))) := fun own ho => by
    have e : (a + 1).toNat = a.toNat + 1 := by omega
    have hx := setR_len h0 h1 (own.mergeSort (leOf ltI))
    unfold setR at hx
    rw [List.length_append, List.length_append, List.length_singleton] at hx
    rw [msort_ok (by omega)]
    simp only [mbind_pure]
    rw [cutD_take pan h0 (by omega), cutD_dropA pan (by omega) (by omega), mcat_ok (by rw [List.length_singleton]; omega), mbind_pure, e, mcat_ok (by rw [List.length_append, List.length_singleton]; omega)]
    rfl
  cases b with
  | true =>
    rw [mrepL_ok (by decide) (by decide)]
    show mbind (mbind (mpure [o]) _) _ = _
    rw [mbind_pure, mcat_ok (by rw [List.length_singleton]; omega), mbind_pure]
    exact key _ (by rw [List.length_append, List.length_singleton]; omega)
  | false =>
    rw [mrepL_ok (by decide) (by decide)]
    show mbind (mbind (mpure []) _) _ = _
    rw [mbind_pure, mcat_ok (by rw [List.length_nil]; omega), mbind_pure, List.append_nil]
    exact key _ (by omega)
theorem law_after_ok {T : Type} (hs : OkS z) {e : Ed} (oe : okE z e) : p__law_after (S := T) z (eEd e) = mpure (doE z e) := by
  unfold p__law_after
  simp only [mbind_pure]
  rw [word_press, word_link]
  cases e with
  | press b =>
    simp only [mbind_pure, if_true]
    show mbind (mbind (mpure b) fun x => p__law_pressed z.1 z.2 x) _ = _
    rw [mbind_pure, law_pressed_ok hs.pan.pan hs.st.1 oe.1 oe.2, mbind_pure] <;> rfl
  | link a o =>
    simp only [mbind_pure, Bool.false_eq_true, if_false]
    show mbind (mbind (mpure a) fun x => mbind (mpure o) fun y => p__law_changed z.1 x y true) _ = _
    simp only [mbind_pure]
    rw [law_changed_ok hs.pan o oe.1.1 oe.1.2, mbind_pure] <;> rfl
  | cut a o =>
    simp only [mbind_pure, Bool.false_eq_true, if_false]
    show mbind (mbind (mpure a) fun x => mbind (mpure o) fun y => p__law_changed z.1 x y false) _ = _
    simp only [mbind_pure]
    rw [law_changed_ok hs.pan o oe.1.1 oe.1.2, mbind_pure] <;> rfl
theorem law_edit_runs (hs : OkS z) : Runs 3 (p__law_edit z) fun d => ∃ e, d = eEd e ∧ okE z e := by
  have h1 := hs.pan.pos
  have h2 := hs.pan.le
  unfold p__law_edit
  simp only [mbind_pure]
  simp only [mbind_assoc]
  simp only [mbind_pure]
  refine runs_d (by omega) (by omega) (by omega) fun a a1 a2 => ?_
  refine runs_d (by omega) (by omega) (by omega) fun o o1 o2 => ?_
  refine runs_d (by omega) (by omega) (by omega) fun t _ _ => ?_
  have hp : Runs 0 (mpure ((eP eS eI) (("press" : Str), a)) : Mt ST D) fun d => ∃ e, d = eEd e ∧ okE z e := runs_p ⟨.press a, rfl, a1, a2⟩
  by_cases ht : t > 0
  · simp only [ht, decide_true, if_true, mbind_pure]
    exact hp
  · simp only [ht, decide_false, Bool.false_eq_true, if_false, mbind_pure]
    by_cases hao : a = o
    · simp only [hao, decide_true, if_true]
      rw [← hao]
      exact hp
    · simp only [hao, decide_false, Bool.false_eq_true, if_false]
      rw [midx_row a1 a2, mbind_pure]
      by_cases hm : o ∈ rowAt z.1 a
      · rw [decide_eq_true hm]
        exact runs_p ⟨.cut a o, rfl, ⟨a1, a2⟩, ⟨o1, o2⟩, hao, hm⟩
      · rw [decide_eq_false hm]
        exact runs_p ⟨.link a o, rfl, ⟨a1, a2⟩, ⟨o1, o2⟩, hao, hm⟩
end
/-! ### what stands behind edits one after the other -/
def scans (z : PS) : List Ed → List PS
  | [] => [z]
  | e :: E => z :: scans (doE z e) E
def fin (z : PS) : List Ed → PS
  | [] => z
  | e :: E => fin (doE z e) E
def OkH (z : PS) : List Ed → Prop
  | [] => True
  | e :: E => okE z e ∧ OkH (doE z e) E
theorem scans_len : ∀ (E : List Ed) (z : PS), (scans z E).length = E.length + 1
  | [], _ => rfl
  | e :: E, z => by rw [scans, List.length_cons, scans_len E, List.length_cons]
theorem scans_last : ∀ (E : List Ed) (z : PS), (scans z E).getLast? = some (fin z E)
  | [], _ => rfl
  | e :: E, z => by
    rw [scans, List.getLast?_cons, scans_last E] <;> rfl
theorem fin_app : ∀ (E : List Ed) (e : Ed) (z : PS), fin z (E ++ [e]) = doE (fin z E) e
  | [], _, _ => rfl
  | d :: E, e, z => by rw [List.cons_append, fin, fin_app E, fin]
theorem scans_app : ∀ (E : List Ed) (e : Ed) (z : PS), scans z (E ++ [e]) = scans z E ++ [doE (fin z E) e]
  | [], _, _ => rfl
  | d :: E, e, z => by rw [List.cons_append, scans, scans_app E, scans, fin] <;> rfl
theorem okH_app : ∀ (E : List Ed) (e : Ed) (z : PS), OkH z (E ++ [e]) ↔ OkH z E ∧ okE (fin z E) e
  | [], e, z => ⟨fun h => ⟨trivial, h.1⟩, fun h => ⟨h.2, trivial⟩⟩
  | d :: E, e, z => by
    show okE z d ∧ OkH (doE z d) (E ++ [e]) ↔ (okE z d ∧ OkH (doE z d) E) ∧ okE (fin (doE z d) E) e
    rw [okH_app E, and_assoc]
theorem okS_fin : ∀ (E : List Ed) (z : PS), OkS z → OkH z E → OkS (fin z E) ∧ (fin z E).1.length = z.1.length
  | [], _, h, _ => ⟨h, rfl⟩
  | e :: E, z, h, o => by
    obtain ⟨a, b⟩ := h.do o.1
    obtain ⟨c, d⟩ := okS_fin E (doE z e) a o.2
    exact ⟨c, d.trans b⟩
theorem doE_fst {z y : PS} (h : z.1 = y.1) (e : Ed) : (doE z e).1 = (doE y e).1 := by
  cases e <;> simp only [doE, h]
theorem okE_fst {z y : PS} (h : z.1 = y.1) {e : Ed} : okE z e ↔ okE y e := by
  cases e <;> simp only [okE, inP, h]
theorem fin_fst : ∀ (E : List Ed) {z y : PS}, z.1 = y.1 → (fin z E).1 = (fin y E).1
  | [], _, _, h => h
  | e :: E, z, y, h => fin_fst E (doE_fst h e)
theorem okH_fst : ∀ (E : List Ed) {z y : PS}, z.1 = y.1 → (OkH z E ↔ OkH y E)
  | [], _, _, _ => Iff.rfl
  | e :: E, z, y, h => by
    show okE z e ∧ _ ↔ okE y e ∧ _
    rw [okE_fst h, okH_fst E (doE_fst h e)]
/-! ### what a GuessDesk knows -/
def wordK (pan : List (List Int)) (b a : Int) (w : Str) : Str := if a = b then "on" else if a ∈ rowAt pan b then "off" else w
def kA (k : List Str) (pan : List (List Int)) (b : Int) : List Str := (enumZ 0 k).map fun x => wordK pan b x.1 x.2
def kstep (pan : List (List Int)) (k : List Str) : Ed → List Str
  | .press b => kA k pan b
  | _ => k
def knF (z : PS) (k : List Str) : List Ed → List Str
  | [] => k
  | e :: E => knF (doE z e) (kstep z.1 k e) E
theorem kA_len {k : List Str} {pan : List (List Int)} {b : Int} : (kA k pan b).length = k.length := by
  unfold kA
  rw [List.length_map, enumZ_length]
theorem kstep_len {pan : List (List Int)} {k : List Str} {e : Ed} : (kstep pan k e).length = k.length := by
  cases e <;> first | rfl | exact kA_len
theorem knF_len : ∀ (E : List Ed) (z : PS) (k : List Str), (knF z k E).length = k.length
  | [], _, _ => rfl
  | e :: E, z, k => by rw [knF, knF_len E, kstep_len]
theorem knF_fst : ∀ (E : List Ed) {z y : PS} (k : List Str), z.1 = y.1 → knF z k E = knF y k E
  | [], _, _, _, _ => rfl
  | e :: E, z, y, k, h => by
    rw [knF, knF, h, knF_fst E _ (doE_fst h e)]
theorem known_after_ok {T : Type} {k : List Str} {pan : List (List Int)} {b : Int} (hk : k.length ≤ 1000) (h0 : 0 ≤ b) (h1 : b < (pan.length : Int)) : p_known_after (S := T) k pan b = mpure (kA k pan b) := by
  unfold p_known_after
  simp only [mbind_pure, mbind_ret]
  rw [midx_row h0 h1]
  simp only [mbind_pure]
  have hb : ∀ x : Int × Str, (if decide (x.1 = b) = true then mpure ("on" : Str) else if decide (x.1 ∈ rowAt pan b) = true then mpure ("off" : Str) else mpure x.2 : Mt T Str) = mpure (wordK pan b x.1 x.2) := fun x => by
    unfold wordK
    by_cases h : x.1 = b
    · simp [h]
    · by_cases h2 : x.1 ∈ rowAt pan b <;> simp [h, h2]
  rw [compM_pure (fun x : Int × Str => wordK pan b x.1 x.2) (by rw [enumZ_length]; omega) fun x _ _ => hb x, filter_true, calmly_pure'] <;> rfl
/-- what the words say of the state f before and s after -/
structure Rl (n : Nat) (f s : List Int) (k : List Str) : Prop where
  len : k.length = n
  at_ : ∀ i : Nat, i < n → (k[i]? = some ("on" : Str) ∧ (i : Int) ∈ s) ∨ (k[i]? = some ("off" : Str) ∧ (i : Int) ∉ s) ∨ (k[i]? = some ("same" : Str) ∧ ((i : Int) ∈ s ↔ (i : Int) ∈ f))
theorem mem_prK {pan : List (List Int)} {s : List Int} {b a : Int} : a ∈ pr pan s b ↔ (a ∈ s ∧ a ∉ rowAt pan b) ∨ a = b := by
  unfold pr keptS
  rw [(List.mergeSort_perm _ _).mem_iff, List.mem_append, List.mem_singleton, List.mem_filter]
  by_cases h : a = b <;> simp [h]
theorem kA_get {k : List Str} {pan : List (List Int)} {b : Int} {i : Nat} : (kA k pan b)[i]? = k[i]?.map fun w => wordK pan b (i : Int) w := by
  unfold kA
  rw [List.getElem?_map, enumZ_get, Nat.zero_add, Option.map_map]
  rfl
theorem Rl.step {n : Nat} {f : List Int} {z : PS} {k : List Str} (h : Rl n f z.2 k) (hz : OkS z) {e : Ed} (o : okE z e) : Rl n f (doE z e).2 (kstep z.1 k e) := by
  refine ⟨by rw [kstep_len]; exact h.len, fun i hi => ?_⟩
  cases e with
  | link a o => exact h.at_ i hi
  | cut a o => exact h.at_ i hi
  | press b =>
    show ((kA k z.1 b)[i]? = _ ∧ (i : Int) ∈ pr z.1 z.2 b) ∨ ((kA k z.1 b)[i]? = _ ∧ (i : Int) ∉ pr z.1 z.2 b) ∨ ((kA k z.1 b)[i]? = _ ∧ ((i : Int) ∈ pr z.1 z.2 b ↔ _))
    rw [kA_get, mem_prK]
    have key : ∀ w : Str, k[i]? = some w → (k[i]?.map fun w => wordK z.1 b (i : Int) w) = some (wordK z.1 b (i : Int) w) := fun w e => by rw [e]; rfl
    by_cases hb : (i : Int) = b
    · obtain ⟨w, hw⟩ : ∃ w, k[i]? = some w := ⟨_, List.getElem?_eq_getElem (by rw [h.len]; exact hi)⟩
      rw [key w hw]
      exact .inl ⟨by unfold wordK; rw [if_pos hb], .inr hb⟩
    · by_cases hr : (i : Int) ∈ rowAt z.1 b
      · obtain ⟨w, hw⟩ : ∃ w, k[i]? = some w := ⟨_, List.getElem?_eq_getElem (by rw [h.len]; exact hi)⟩
        rw [key w hw]
        refine .inr (.inl ⟨by unfold wordK; rw [if_neg hb, if_pos hr], fun q => ?_⟩)
        rcases q with q | q
        · exact q.2 hr
        · exact hb q
      · have hw : ∀ w : Str, wordK z.1 b (i : Int) w = w := fun w => by unfold wordK; rw [if_neg hb, if_neg hr]
        rcases h.at_ i hi with ⟨q, p⟩ | ⟨q, p⟩ | ⟨q, p⟩
        · rw [key _ q, hw]; exact .inl ⟨rfl, .inl ⟨p, hr⟩⟩
        · rw [key _ q, hw]; exact .inr (.inl ⟨rfl, fun c => c.elim (fun c => p c.1) hb⟩)
        · rw [key _ q, hw]; exact .inr (.inr ⟨rfl, ⟨fun c => c.elim (fun c => p.mp c.1) fun c => absurd c hb, fun c => .inl ⟨p.mpr c, hr⟩⟩⟩)
theorem Rl.fin : ∀ (E : List Ed) {n : Nat} {f : List Int} {z : PS} {k : List Str}, Rl n f z.2 k → OkS z → OkH z E → Rl n f (fin z E).2 (knF z k E)
  | [], _, _, _, _, h, _, _ => h
  | e :: E, _, _, z, k, h, hz, o => Rl.fin E (h.step hz o.1) (hz.do o.1).1 o.2
theorem Rl.start {pan : List (List Int)} {f : List Int} : Rl pan.length f f (sames pan) :=
  ⟨List.length_replicate, fun i hi => .inr (.inr ⟨by rw [List.getElem?_replicate, if_pos hi], Iff.rfl⟩)⟩
section
variable {gp : List (List Int) × List Str} {m m' : Hpo} {l k1 k2 : Nat} {S : List PS} {w : Bool} {α σ : Type}
theorem wr_heldN {l : Nat} {ds : List D} {z : σ} (h : m l = some (.lst ds)) : Wr m (mheldN l ds z) z m := fun d => by
  show rbind (mheld l ds ⟨d, m⟩) _ = _
  unfold mheld
  rw [if_pos h] <;> rfl
theorem known_walk {E0 : List D} (h : Dsk (some gp) m l k1 k2 S E0 w) {ds : List D} (hd : m k2 = some (.lst ds)) : ∀ (E : List Ed) (i : Nat) (z : PS) (k : List Str), (∀ (j : Nat) x, (scans z E)[j]? = some x → S[i + j]? = some x) → OkS z → OkH z E → k.length ≤ 1000 →
    Wr m (forU (fun (vx3 : (Int × D)) (vz2 : (List Str)) => mbind (mbind (mbind (mbind (midxD vx3.2 (0 : Int)) fun vx4 => meqD vx4 (eS ("press" : Str))) fun vb12 => if vb12 = true then (mbind (mbind (mbind (mbind (mbind (mgetF ["GuessDesk"] "states" l) (mdec eR)) fun vk7 => mbind (hgetT (eP (eT (eT eI)) (eT eI)) vk7) fun vxs6 => midx vxs6 vx3.1) fun vx8 => mpure vx8.1) fun vx9 => mbind (mbind (midxD vx3.2 (1 : Int)) mcastI) fun vx10 => p_known_after vz2 vx9 vx10) fun vfound11 => mpure vfound11) else (mpure vz2)) fun vz5 => mpure vz5) (mheldN k2 ds)) (enumZ i (E.map eEd)) k) (knF z k E) m
  | [], i, z, k, _, _, _, _ => wr_pure
  | e :: E, i, z, k, hs, hz, o, hk => by
    rw [List.map_cons]
    unfold enumZ forU
    refine wr_bind (a := kstep z.1 k e) (m1 := m) (wr_bind (a := kstep z.1 k e) ?_ (wr_heldN hd)) (known_walk h hd E (i + 1) (doE z e) (kstep z.1 k e) (fun j x hx => ?_) (hz.do o.1).1 o.2 (by rw [kstep_len]; exact hk))
    · dsimp only
      rw [word_press]
      cases e with
      | press b =>
        simp only [mbind_pure, if_true, mbind_ret]
        refine wr_bind (a := z.1) (wr_bind (a := z) (wr_bind h.states1 (wr_bind h.lS (wr_of (midx_ok (by omega) ?_)))) wr_pure) ?_
        · have := hs 0 z rfl
          rw [Nat.add_zero] at this
          rw [Int.toNat_natCast]
          exact this
        · refine wr_of ?_
          show mbind (mpure b) (fun x => p_known_after k z.1 x) = _
          rw [mbind_pure]
          exact known_after_ok hk o.1.1 o.1.2
      | link a o =>
        simp only [mbind_pure, Bool.false_eq_true, if_false]
        exact wr_pure
      | cut a o =>
        simp only [mbind_pure, Bool.false_eq_true, if_false]
        exact wr_pure
    · have := hs (j + 1) x hx
      rw [show i + (j + 1) = i + 1 + j by omega] at this
      exact this
theorem known_ok {E : List Ed} {z : PS} (h : Dsk (some gp) m l k1 k2 (scans z E) (E.map eEd) w) (hz : OkS z) (o : OkH z E) (hk : gp.2.length ≤ 1000) : Wr m (p_GuessDesk_known l) (knF z gp.2 E) m := by
  unfold p_GuessDesk_known
  refine wr_bind h.told1 (wr_bind (wr_bind h.standing1 (wr_bind h.lE ?_)) wr_pure)
  rw [show List.map eD (E.map eEd) = E.map eEd from eD_map _]
  exact known_walk h (by rw [h.e, eD_map]) E 0 z gp.2 (fun j x hx => by rw [Nat.zero_add]; exact hx) hz o hk
end
/-! ### all first states -/
def sts : Nat → List (List Int)
  | 0 => [[]]
  | n + 1 => sts n ++ (sts n).map fun s => s ++ [(n : Int)]
theorem sts_len : ∀ n : Nat, (sts n).length = 2 ^ n
  | 0 => rfl
  | n + 1 => by rw [sts, List.length_append, List.length_map, sts_len n, Nat.pow_succ]; omega
theorem upto_snoc (n : Nat) : upto (n + 1) = upto n ++ [(n : Int)] := by
  unfold upto
  rw [List.range_succ, List.map_append] <;> rfl
theorem sts_sub : ∀ (n : Nat) (s : List Int), s ∈ sts n → s.Sublist (upto n)
  | 0, s, h => by
    rw [sts, List.mem_singleton] at h
    rw [h]
    exact List.nil_sublist _
  | n + 1, s, h => by
    rw [sts, List.mem_append] at h
    rw [upto_snoc]
    rcases h with h | h
    · exact (sts_sub n s h).trans (List.sublist_append_left _ _)
    · obtain ⟨t, ht, rfl⟩ := List.mem_map.mp h
      exact (sts_sub n t ht).append (List.Sublist.refl _)
theorem sts_nil : ∀ n : Nat, ([] : List Int) ∈ sts n
  | 0 => List.mem_singleton.mpr rfl
  | n + 1 => List.mem_append_left _ (sts_nil n)
theorem sts_one : ∀ (n i : Nat), i < n → [(i : Int)] ∈ sts n
  | 0, _, h => absurd h (Nat.not_lt_zero _)
  | n + 1, i, h => by
    rw [sts]
    by_cases q : i = n
    · subst q
      exact List.mem_append_right _ (List.mem_map.mpr ⟨[], sts_nil i, rfl⟩)
    · exact List.mem_append_left _ (sts_one n i (by omega))
theorem law_states_ok {T : Type} {n : Nat} (hn : n ≤ 10) : p__law_states (S := T) (n : Int) = mpure (sts n) := by
  have hpow : ∀ k : Nat, k ≤ 10 → 2 ^ k ≤ 1024 := fun k hk => Nat.pow_le_pow_right (by omega) hk
  unfold p__law_states
  simp only [mbind_pure, mbind_ret]
  rw [mrng_nat n (by omega), mbind_pure]
  have h := forU_inv (S := T) (body := fun (vx4 : Int) (vz2 : List (List Int)) => mbind (calmly (compM (fun (vx5 : List Int) => true) (fun (vx5 : List Int) => mcat vx5 [vx4]) vz2)) fun vx7 => mcat vz2 vx7) (upto n) [[]] (fun pre => sts pre.length) rfl (fun pre x post e => ?_)
  · rw [upto_length] at h
    exact h
  · obtain ⟨hx, hl⟩ := splitA e
    have hle := hpow pre.length (by omega)
    rw [compM_pure (fun s => s ++ [x]) (by rw [sts_len]; omega) fun s hs _ => mcat_ok (by have := (sts_sub _ s hs).length_le; rw [upto_length] at this; rw [List.length_singleton]; omega), filter_true, calmly_pure', mbind_pure, mcat_ok (by rw [List.length_map, sts_len]; omega), List.length_append, List.length_singleton, sts, hx]
/-! ### desks, one for each first state -/
abbrev Tb := Nat × Nat × Nat × List Int
def TbA (P : List (List Int)) (E : List Ed) (m : Hpo) (t : Tb) : Prop := Dsk (some (P, sames P)) m t.1 t.2.1 t.2.2.1 (scans (P, t.2.2.2) E) (E.map eEd) false
def Apart (a b : Tb) : Prop := (a.2.1 ≠ b.2.1 ∧ a.2.1 ≠ b.2.2.1) ∧ a.2.2.1 ≠ b.2.1 ∧ a.2.2.1 ≠ b.2.2.1
theorem Apart.symm {a b : Tb} (h : Apart a b) : Apart b a := ⟨⟨Ne.symm h.1.1, Ne.symm h.2.1⟩, Ne.symm h.1.2, Ne.symm h.2.2⟩
structure Tabs (P : List (List Int)) (E : List Ed) (m : Hpo) (ts : List Tb) : Prop where
  at_ : ∀ t ∈ ts, TbA P E m t
  ap : ts.Pairwise Apart
section
variable {P : List (List Int)} {E E' : List Ed} {m m' : Hpo}
theorem TbA.off {E2 : List Ed} {s t : Tb} (h : TbA P E m s) (ht : TbA P E2 m t) (a : Apart s t) (o : Off m m' t.2.1 t.2.2.1) : TbA P E m' s := by
  have n1 : s.1 ≠ t.2.1 := fun e => by have := h.o; rw [e, ht.s] at this; cases this
  have n2 : s.1 ≠ t.2.2.1 := fun e => by have := h.o; rw [e, ht.e] at this; cases this
  exact ⟨by rw [o _ n1 n2]; exact h.o, by rw [o _ a.1.1 a.1.2]; exact h.s, by rw [o _ a.2.1 a.2.2]; exact h.e, h.ne⟩
theorem tabs_made (hp : PanA P) : ∀ (fs : List (List Int)) (m : Hpo), (∀ f ∈ fs, Stt P.length f) → RunH 0 m (mapT (fun f => mmk "GuessDesk" fun l => p_GuessDesk___init__ l P f) fs) fun ls m' => ∃ ts : List Tb, ls = ts.map (·.1) ∧ fs = ts.map (·.2.2.2) ∧ Tabs P [] m' ts ∧ (∀ t ∈ ts, m t.2.1 = none ∧ m t.2.2.1 = none) ∧ ∀ x, m x ≠ none → m' x = m x
  | [], m, _ => rh_pure ⟨[], rfl, rfl, ⟨fun t h => (nomatch h), .nil⟩, fun t h => (nomatch h), fun _ _ => rfl⟩
  | f :: fs, m, hf => by
    unfold mapT
    refine rh_gdesk hp (hf f (by simp)) fun l k1 k2 m1 h n1 n2 fr => ?_
    refine rh_b (n := 0) (tabs_made hp fs m1 fun g hg => hf g (by simp [hg])) (Nat.le_refl _) ?_
    rintro ls m2 ⟨ts, rfl, rfl, T, fre, fr2⟩
    have s1 : m1 k1 ≠ none := by rw [h.s]; simp
    have s2 : m1 k2 ≠ none := by rw [h.e]; simp
    refine rh_pure ⟨(l, k1, k2, f) :: ts, rfl, rfl, ⟨fun t ht => ?_, .cons (fun t ht => ?_) T.ap⟩, fun t ht => ?_, fun x hx => ?_⟩
    · rcases List.mem_cons.mp ht with e | e
      · rw [e]
        exact h.mv fr2
      · exact T.at_ t e
    · obtain ⟨q1, q2⟩ := fre t ht
      exact ⟨⟨fun e => s1 (by rw [show k1 = t.2.1 from e]; exact q1), fun e => s1 (by rw [show k1 = t.2.2.1 from e]; exact q2)⟩, fun e => s2 (by rw [show k2 = t.2.1 from e]; exact q1), fun e => s2 (by rw [show k2 = t.2.2.1 from e]; exact q2)⟩
    · rcases List.mem_cons.mp ht with e | e
      · rw [e]
        exact ⟨n1, n2⟩
      · obtain ⟨q1, q2⟩ := fre t e
        have k : ∀ x, m1 x = none → m x = none := fun x hx => by
          cases q : m x with
          | none => rfl
          | some o =>
            have := fr x (by rw [q]; simp)
            rw [hx, q] at this
            cases this
        exact ⟨k _ q1, k _ q2⟩
    · have := fr x hx
      rw [fr2 x (by rw [this]; exact hx), this]
/-- a step that each desk takes -/
theorem tabs_all {β : Type} {f : Nat → Mt ST (Option β)} {Q : Tb → Prop} (step : ∀ m t, Q t → TbA P E m t → ∃ m1, Wr m (f t.1) none m1 ∧ TbA P E' m1 t ∧ Off m m1 t.2.1 t.2.2.1) :
    ∀ (ts : List Tb) (m : Hpo), (∀ t ∈ ts, Q t) → Tabs P E m ts → ∃ m', Wr m (compT f (ts.map (·.1))) [] m' ∧ Tabs P E' m' ts ∧ ∀ x, (∀ t ∈ ts, x ≠ t.2.1 ∧ x ≠ t.2.2.1) → m' x = m x
  | [], m, _, _ => ⟨m, wr_pure, ⟨fun t h => (nomatch h), .nil⟩, fun _ _ => rfl⟩
  | t :: ts, m, hq, T => by
    obtain ⟨m1, w1, d1, o1⟩ := step m t (hq t (by simp)) (T.at_ t (by simp))
    have ap := List.pairwise_cons.mp T.ap
    have T1 : Tabs P E m1 ts := ⟨fun s hs => (T.at_ s (by simp [hs])).off (T.at_ t (by simp)) (ap.1 s hs).symm o1, ap.2⟩
    obtain ⟨m2, w2, T2, o2⟩ := tabs_all step ts m1 (fun s hs => hq s (by simp [hs])) T1
    have k0 : m2 t.1 = m1 t.1 := o2 _ fun s hs => ⟨fun e => (by have := d1.o; rw [e, (T1.at_ s hs).s] at this; cases this), fun e => (by have := d1.o; rw [e, (T1.at_ s hs).e] at this; cases this)⟩
    have k1 : m2 t.2.1 = m1 t.2.1 := o2 _ fun s hs => ⟨(ap.1 s hs).1.1, (ap.1 s hs).1.2⟩
    have k2 : m2 t.2.2.1 = m1 t.2.2.1 := o2 _ fun s hs => ⟨(ap.1 s hs).2.1, (ap.1 s hs).2.2⟩
    refine ⟨m2, ?_, ⟨fun s hs => ?_, T.ap⟩, fun x hx => ?_⟩
    · rw [List.map_cons]
      unfold compT
      exact wr_bind w1 (wr_bind w2 wr_pure)
    · rcases List.mem_cons.mp hs with e | e
      · rw [e]
        exact ⟨by rw [k0]; exact d1.o, by rw [k1]; exact d1.s, by rw [k2]; exact d1.e, d1.ne⟩
      · exact T2.at_ s e
    · rw [o2 x fun s hs => hx s (by simp [hs])]
      exact o1 x (hx t (by simp)).1 (hx t (by simp)).2
/-- .. as the law asks it -/
theorem wr_compG {c : Nat → Mt ST Bool} {g : Nat → Mt ST Nat} {xs : List Nat} (hl : xs.length ≤ 100000) (h : Wr m (compT (fun x => mbind (c x) fun b => if b = true then mbind (g x) fun y => mpure (some y) else mpure none) xs) [] m') : Wr m (calmly (compG c g xs)) [] m' := by
  refine wr_calm ?_
  unfold compG
  rw [if_pos hl]
  exact h
theorem wr_not {c : Mt ST Bool} {g : Mt ST Nat} (h : Wr m c false m') : Wr m (mbind c fun b => if b = true then mbind g fun y => mpure (some y) else mpure none) none m' := wr_bind h (by rw [if_neg (by decide)]; exact wr_pure)
theorem wr_compN {α β : Type} {f : α → Mt ST (Option β)} : ∀ {xs : List α}, (∀ x ∈ xs, Wr m (f x) none m) → Wr m (compT f xs) [] m
  | [], _ => wr_pure
  | x :: xs, h => by
    unfold compT
    exact wr_bind (h x (by simp)) (wr_bind (wr_compN fun y hy => h y (by simp [hy])) wr_pure)
theorem wr_mapTt {α β γ : Type} {f : γ → Mt ST β} {g : α → γ} (F : α → β) : ∀ {ts : List α}, (∀ t ∈ ts, Wr m (f (g t)) (F t) m) → Wr m (mapT f (ts.map g)) (ts.map F) m
  | [], _ => wr_pure
  | x :: xs, h => by
    rw [List.map_cons, List.map_cons]
    unfold mapT
    exact wr_bind (h x (by simp)) (wr_bind (wr_mapTt F fun y hy => h y (by simp [hy])) wr_pure)
theorem wr_forXu {α β : Type} {f : α → Unit → Mt ST (Lp Unit β)} : ∀ {xs : List α}, (∀ x ∈ xs, Wr m (f x ()) (.nx ()) m) → Wr m (forX f xs ()) (.inl ()) m
  | [], _ => wr_pure
  | x :: xs, h => by
    unfold forX
    exact wr_bind (h x (by simp)) (wr_forXu fun y hy => h y (by simp [hy]))
end
/-! ### what the law asks of all desks -/
section
variable {P : List (List Int)} {E : List Ed} {m m' : Hpo}
def Fst (P : List (List Int)) (t : Tb) : Prop := Stt P.length t.2.2.2
theorem tb_okS (hp : PanA P) {t : Tb} (h : Fst P t) : OkS (P, t.2.2.2) := ⟨hp, h⟩
theorem tb_okH {t : Tb} (o : OkH (P, []) E) : OkH (P, t.2.2.2) E := (okH_fst E (z := (P, [])) (y := (P, t.2.2.2)) rfl).mp o
theorem tb_known (hp : PanA P) (o : OkH (P, []) E) {t : Tb} (hf : Fst P t) (h : TbA P E m t) : Wr m (p_GuessDesk_known t.1) (knF (P, []) (sames P) E) m := by
  have hle := hp.le
  have := known_ok h (tb_okS hp hf) (tb_okH o) (by show (sames P).length ≤ 1000; rw [List.length_replicate]; omega)
  rw [knF_fst E (z := (P, t.2.2.2)) (y := (P, [])) (sames P) rfl] at this
  exact this
theorem tb_rl (hp : PanA P) (o : OkH (P, []) E) {t : Tb} (hf : Fst P t) : Rl P.length t.2.2.2 (fin (P, t.2.2.2) E).2 (knF (P, []) (sames P) E) := by
  have := Rl.fin E (z := (P, t.2.2.2)) (k := sames P) Rl.start (tb_okS hp hf) (tb_okH o)
  rw [knF_fst E (z := (P, t.2.2.2)) (y := (P, [])) (sames P) rfl] at this
  exact this
theorem tb_latched {t : Tb} (h : TbA P E m t) : Wr m (p_Desk_latched t.1) (fin (P, t.2.2.2) E).2 m := wr_bind (h.now (scans_last E _)) wr_pure
theorem tb_now1 {t : Tb} (h : TbA P E m t) : Wr m (mbind (mbind (mgetF ["GuessDesk"] "states" t.1) (mdec eR)) fun k => mbind (hgetT ePS k) fun xs => midx xs (-(1 : Int))) (fin (P, t.2.2.2) E) m :=
  wr_bind h.states1 (wr_bind h.lS (wr_of (midx_last (scans_last E _))))
theorem tb_eq {s t : Tb} (h : TbA P E m s) (h2 : TbA P E m t) : Wr m (heqA ["GuessDesk"] [] s.1 t.1 (p_Desk___eq__ s.1 t.1) (p_Desk___eq__ t.1 s.1)) (decide (fin (P, s.2.2.2) E = fin (P, t.2.2.2) E)) m := fun d => by
  have hq : Wr m (p_Desk___eq__ s.1 t.1) (decide (fin (P, s.2.2.2) E = fin (P, t.2.2.2) E)) m := by
    unfold p_Desk___eq__
    refine wr_bind (a := true) (m1 := m) (wr_bind (a := t.1) (m1 := m) wr_pure fun d => ?_) ?_
    · unfold hisiO
      dsimp only
      rw [h2.o] <;> rfl
    · rw [if_pos rfl]
      exact wr_bind (h.now (scans_last E _)) (wr_bind (tb_now1 h2) wr_pure)
  unfold heqA
  dsimp only
  rw [h.o, h2.o]
  dsimp only [dkN]
  rw [if_pos (by decide), if_neg (by decide)]
  exact wr_calm hq d
theorem wr_mfin {α β : Type} {q : Mt ST (α ⊕ β)} {k : α → Mt ST β} {a : α} {b : β} {m1 : Hpo} (h : Wr m q (.inl a) m1) (hk : Wr m1 (k a) b m') : Wr m (mfin q k) b m' := wr_bind h hk
theorem law_known_right_ok (hp : PanA P) (o : OkH (P, []) E) {ts : List Tb} (hf : ∀ t ∈ ts, Fst P t) (T : Tabs P E m ts) (hl : ts.length ≤ 1000) (h0 : ∃ t ∈ ts, t.2.2.2 = []) (h1 : ∀ i : Nat, i < P.length → ∃ t ∈ ts, t.2.2.2 = [(i : Int)]) :
    Wr m (p__law_known_right (ts.map (·.1)) (ts.map (·.2.2.2)) (P.length : Int)) true m := by
  have hle := hp.le
  obtain ⟨kn, ekn⟩ : ∃ kn, knF (P, []) (sames P) E = kn := ⟨_, rfl⟩
  have hK : ∀ t ∈ ts, Wr m (p_GuessDesk_known t.1) kn m := fun t ht => by
    rw [← ekn]
    exact tb_known hp o (hf t ht) (T.at_ t ht)
  have hR : ∀ t ∈ ts, Rl P.length t.2.2.2 (fin (P, t.2.2.2) E).2 kn := fun t ht => by
    rw [← ekn]
    exact tb_rl hp o (hf t ht)
  obtain ⟨t0, ht0, e0⟩ := h0
  obtain ⟨s0, ss, ets⟩ : ∃ s0 ss, ts = s0 :: ss := by
    cases ts with
    | nil => cases ht0
    | cons a b => exact ⟨a, b, rfl⟩
  have hs0 : s0 ∈ ts := by rw [ets]; simp
  have hm0 : ∀ {T : Type}, midx (S := T) (ts.map (·.1)) (0 : Int) = mpure s0.1 := by rw [ets, List.map_cons]; exact midx_cons0 _ _
  have hknl : kn.length = P.length := (hR s0 hs0).len
  unfold p__law_known_right
  refine wr_bind (a := kn) (wr_bind (a := s0.1) (wr_of hm0) (wr_bind (T.at_ s0 hs0).clA1 (wr_calm (hK s0 hs0)))) ?_
  refine wr_bind (a := false) (m1 := m) (wr_bind (a := []) (m1 := m) ?_ wr_pure) ?_
  · rw [mbind_pure]
    refine wr_compG (by rw [List.length_map]; omega) (wr_compN fun x hx => ?_)
    obtain ⟨t, ht, rfl⟩ := List.mem_map.mp hx
    refine wr_not (wr_bind (wr_bind (T.at_ t ht).cl1 (wr_calm (hK t ht))) ?_)
    rw [decide_eq_true rfl]
    exact wr_pure
  rw [if_neg (by decide)]
  refine wr_mfin (a := ()) (wr_bind (a := upto P.length) (wr_of (by rw [mbind_pure, mrng_nat _ (by omega)])) (wr_forXu fun b hb => ?_)) ?_
  · obtain ⟨hb0, hb1⟩ := mem_upto.mp hb
    obtain ⟨i, rfl⟩ : ∃ i : Nat, b = (i : Int) := ⟨b.toNat, by omega⟩
    have hi : i < P.length := by omega
    refine wr_bind (a := ts.map fun t => decide ((i : Int) ∈ (fin (P, t.2.2.2) E).2)) (m1 := m) ?_ ?_
    · rw [mbind_pure]
      refine wr_calm ?_
      unfold compM
      rw [if_pos (by rw [List.length_map]; omega), filter_true]
      refine wr_mapTt (fun t : Tb => decide ((i : Int) ∈ (fin (P, t.2.2.2) E).2)) fun t ht => ?_
      refine wr_bind (wr_bind (T.at_ t ht).cl1 (wr_calm (tb_latched (T.at_ t ht)))) ?_
      exact wr_pure
    obtain ⟨w, hw⟩ : ∃ w, kn[i]? = some w := ⟨_, List.getElem?_eq_getElem (by rw [hknl]; exact hi)⟩
    have hmw : ∀ {T : Type}, midx (S := T) kn (i : Int) = mpure w := midx_ok (by omega) (by rw [Int.toNat_natCast]; exact hw)
    rw [hmw]
    simp only [mbind_pure]
    have hat : ∀ t ∈ ts, (w = "on" ∧ (i : Int) ∈ (fin (P, t.2.2.2) E).2) ∨ (w = "off" ∧ (i : Int) ∉ (fin (P, t.2.2.2) E).2) ∨ (w = "same" ∧ ((i : Int) ∈ (fin (P, t.2.2.2) E).2 ↔ (i : Int) ∈ t.2.2.2)) := fun t ht => by
      have := (hR t ht).at_ i hi
      rw [hw] at this
      simpa only [Option.some.injEq] using this
    obtain ⟨t1, ht1, e1⟩ := h1 i hi
    refine wr_of ?_
    rcases hat s0 hs0 with ⟨hwo, _⟩ | ⟨hwo, _⟩ | ⟨hwo, _⟩
    · have nf : false ∉ ts.map fun t => decide ((i : Int) ∈ (fin (P, t.2.2.2) E).2) := fun q => by
        obtain ⟨t, ht, e⟩ := List.mem_map.mp q
        rcases hat t ht with ⟨_, q⟩ | ⟨q, _⟩ | ⟨q, _⟩
        · rw [decide_eq_true q] at e; cases e
        · rw [hwo] at q; exact absurd q (by decide)
        · rw [hwo] at q; exact absurd q (by decide)
      rw [decide_eq_false nf, hwo]
      rfl
    · have nt : true ∉ ts.map fun t => decide ((i : Int) ∈ (fin (P, t.2.2.2) E).2) := fun q => by
        obtain ⟨t, ht, e⟩ := List.mem_map.mp q
        rcases hat t ht with ⟨q, _⟩ | ⟨_, q⟩ | ⟨q, _⟩
        · rw [hwo] at q; exact absurd q (by decide)
        · rw [decide_eq_false q] at e; cases e
        · rw [hwo] at q; exact absurd q (by decide)
      have nf : false ∈ ts.map fun t => decide ((i : Int) ∈ (fin (P, t.2.2.2) E).2) := by
        refine List.mem_map.mpr ⟨s0, hs0, ?_⟩
        rcases hat s0 hs0 with ⟨q, _⟩ | ⟨_, q⟩ | ⟨q, _⟩
        · rw [hwo] at q; exact absurd q (by decide)
        · exact decide_eq_false q
        · rw [hwo] at q; exact absurd q (by decide)
      rw [decide_eq_true nf, decide_eq_false nt, hwo]
      rfl
    · have sm : ∀ t ∈ ts, decide ((i : Int) ∈ (fin (P, t.2.2.2) E).2) = decide ((i : Int) ∈ t.2.2.2) := fun t ht => by
        rcases hat t ht with ⟨q, _⟩ | ⟨q, _⟩ | ⟨_, q⟩
        · rw [hwo] at q; exact absurd q (by decide)
        · rw [hwo] at q; exact absurd q (by decide)
        · exact decide_eq_decide.mpr q
      have nf : false ∈ ts.map fun t => decide ((i : Int) ∈ (fin (P, t.2.2.2) E).2) := List.mem_map.mpr ⟨t0, ht0, by rw [sm t0 ht0, e0]; rfl⟩
      have nt : true ∈ ts.map fun t => decide ((i : Int) ∈ (fin (P, t.2.2.2) E).2) := List.mem_map.mpr ⟨t1, ht1, by rw [sm t1 ht1, e1]; simp⟩
      rw [decide_eq_true nf, decide_eq_true nt, hwo, compV_ok (by rw [List.length_map]; omega), filter_true, List.map_map]
      have el : (ts.map fun t => decide ((i : Int) ∈ (fin (P, t.2.2.2) E).2)) = ts.map ((fun f => decide ((i : Int) ∈ f)) ∘ fun t => t.2.2.2) := List.map_congr_left fun t ht => sm t ht
      rw [el]
      simp only [mbind_pure, Bool.not_true, Bool.false_eq_true, if_false, decide_true]
  · rw [mbind_pure]
    by_cases hsame : ("same" : Str) ∈ kn
    · rw [decide_eq_true hsame, if_pos rfl]
      exact wr_pure
    · rw [decide_eq_false hsame, if_neg (by decide)]
      refine wr_bind (a := []) (m1 := m) ?_ wr_pure
      rw [mbind_pure]
      have fin_eq : ∀ t ∈ ts, fin (P, t.2.2.2) E = fin (P, s0.2.2.2) E := fun t ht => by
        have a1 := okS_fin E _ (tb_okS hp (hf t ht)) (tb_okH o)
        have a2 := okS_fin E _ (tb_okS hp (hf s0 hs0)) (tb_okH o)
        refine Prod.ext (fin_fst E rfl) (sorted_ext a1.1.st.2.2 a2.1.st.2.2 fun a => ?_)
        have b1 := a1.1.st.2.1
        have b2 := a2.1.st.2.1
        rw [a1.2] at b1
        rw [a2.2] at b2
        have one : ∀ i : Nat, i < P.length → ((i : Int) ∈ (fin (P, t.2.2.2) E).2 ↔ (i : Int) ∈ (fin (P, s0.2.2.2) E).2) := fun i hi => by
          have ns : kn[i]? ≠ some ("same" : Str) := fun q => hsame (List.mem_of_getElem? q)
          rcases (hR t ht).at_ i hi with ⟨q, p⟩ | ⟨q, p⟩ | ⟨q, _⟩
          · rcases (hR s0 hs0).at_ i hi with ⟨q2, p2⟩ | ⟨q2, p2⟩ | ⟨q2, _⟩
            · exact ⟨fun _ => p2, fun _ => p⟩
            · rw [q] at q2; exact absurd (Option.some.inj q2) (by decide)
            · exact absurd q2 ns
          · rcases (hR s0 hs0).at_ i hi with ⟨q2, p2⟩ | ⟨q2, p2⟩ | ⟨q2, _⟩
            · rw [q] at q2; exact absurd (Option.some.inj q2) (by decide)
            · exact ⟨fun c => absurd c p, fun c => absurd c p2⟩
            · exact absurd q2 ns
          · exact absurd q ns
        exact ⟨fun ha => by
          have := b1 a ha
          have h := one a.toNat (by show a.toNat < P.length; have := this.2; dsimp only at this; omega)
          rw [Int.toNat_of_nonneg this.1] at h
          exact h.mp ha, fun ha => by
          have := b2 a ha
          have h := one a.toNat (by show a.toNat < P.length; have := this.2; dsimp only at this; omega)
          rw [Int.toNat_of_nonneg this.1] at h
          exact h.mpr ha⟩
      refine wr_compG (by rw [List.length_map]; omega) (wr_compN fun x hx => ?_)
      obtain ⟨t, ht, rfl⟩ := List.mem_map.mp hx
      refine wr_not (wr_bind (a := true) (wr_bind (a := t.1) wr_pure (wr_bind (a := s0.1) (wr_of hm0) ?_)) wr_pure)
      have := tb_eq (T.at_ t ht) (T.at_ s0 hs0)
      rw [decide_eq_true (fin_eq t ht)] at this
      exact this
end
/-! ### the law -/
section
variable {P : List (List Int)} {E : List Ed} {m m' : Hpo}
theorem tb_fin (hp : PanA P) (o : OkH (P, []) E) {t : Tb} (hf : Fst P t) : OkS (fin (P, t.2.2.2) E) := (okS_fin E _ (tb_okS hp hf) (tb_okH o)).1
theorem stt_nil {n : Nat} : Stt n [] := ⟨by simp, fun a h => (nomatch h), .nil⟩
theorem tb_do (hp : PanA P) (o : OkH (P, []) E) {e : Ed} (oe : okE (fin (P, []) E) e) (hE : E.length < 60) {t : Tb} (hf : Fst P t) (h : TbA P E m t) :
    ∃ m1, Wr m (p__law_do t.1 (eEd e)) ((E.length : Int) + 1) m1 ∧ TbA P (E ++ [e]) m1 t ∧ Off m m1 t.2.1 t.2.2.1 := by
  have oe' : okE (fin (P, t.2.2.2) E) e := (okE_fst (fin_fst E (z := (P, [])) (y := (P, t.2.2.2)) rfl)).mp oe
  refine ⟨_, law_do_ok h (scans_last E _) (tb_fin hp o hf) oe' hE (by rw [scans_len]; omega), ?_, off_put⟩
  have := after_dsk (z := fin (P, t.2.2.2) E) h e
  unfold TbA
  rw [scans_app]
  exact this
theorem off_put' {o1 o2 : MO} {k1 k2 : Nat} : Off m (hput (hput m k2 o1) k1 o2) k1 k2 := fun x h1 h2 => by rw [hput_ne h1, hput_ne h2]
theorem tb_undo {e : Ed} {t : Tb} (h : TbA P (E ++ [e]) m t) : ∃ m1, Wr m (p_Desk_undo t.1) (E.length : Int) m1 ∧ TbA P E m1 t ∧ Off m m1 t.2.1 t.2.2.1 := by
  have hu := undo_ok h (by simp) (by intro q; have := scans_len (E ++ [e]) (P, t.2.2.2); rw [q] at this; simp at this)
  have hd := undone_dsk h
  have e1 : (scans (P, t.2.2.2) (E ++ [e])).dropLast = scans (P, t.2.2.2) E := by rw [scans_app, List.dropLast_concat]
  have e2 : (List.map eEd (E ++ [e])).dropLast = List.map eEd E := by rw [List.map_append, List.map_singleton, List.dropLast_concat]
  rw [e1, e2] at hd
  refine ⟨undone m t.2.1 t.2.2.1 (scans (P, t.2.2.2) (E ++ [e])) (List.map eEd (E ++ [e])), ?_, hd, off_put'⟩
  rw [List.length_map, List.length_append, List.length_singleton] at hu
  rw [show (E.length : Int) = ((E.length + 1 : Nat) : Int) - 1 by omega]
  exact hu
end
theorem law_runs : RunH 300 (fun _ => none) p_law fun b _ => b = true := by
  unfold p_law
  refine rh_rb (panel_runs (M := 5) (by omega) (by omega)) (by omega) fun P hpP => ?_
  obtain ⟨hp, hP5⟩ := hpP
  have hle := hp.le
  simp only [mbind_pure]
  rw [law_states_ok hle]
  simp only [mbind_pure]
  have hlen : (sts P.length).length ≤ 1000 := by
    rw [sts_len]
    have : P.length ≤ 5 := by omega
    have := Nat.pow_le_pow_right (n := 2) (by omega) this
    omega
  refine rh_b (n := 0) (rh_calm (Q := fun ls m' => ∃ ts : List Tb, ls = ts.map (·.1) ∧ sts P.length = ts.map (·.2.2.2) ∧ Tabs P [] m' ts) ?_) (by omega) ?_
  · unfold compM
    rw [if_pos (by omega), filter_true]
    exact rh_mono (tabs_made hp (sts P.length) _ fun f hf => stt_sub hle (sts_sub _ f hf)) (Nat.le_refl _) fun ls m' ⟨ts, h1, h2, h3, _, _⟩ => ⟨ts, h1, h2, h3⟩
  rintro ls m1 ⟨ts, rfl, efs, T⟩
  have hF : ∀ t ∈ ts, Fst P t := fun t ht => stt_sub hle (sts_sub _ _ (by rw [efs]; exact List.mem_map.mpr ⟨t, ht, rfl⟩))
  have hts : ts.length ≤ 1000 := by
    have := congrArg List.length efs
    rw [List.length_map] at this
    omega
  have h0 : ∃ t ∈ ts, t.2.2.2 = [] := by
    have := sts_nil P.length
    rw [efs] at this
    obtain ⟨t, a, b⟩ := List.mem_map.mp this
    exact ⟨t, a, b⟩
  have h1 : ∀ i : Nat, i < P.length → ∃ t ∈ ts, t.2.2.2 = [(i : Int)] := fun i hi => by
    have := sts_one P.length i hi
    rw [efs] at this
    obtain ⟨t, a, b⟩ := List.mem_map.mp this
    exact ⟨t, a, b⟩
  simp only [mfin_bind, mbind_ret]
  simp only [mbind_assoc]
  simp only [mbind_pure]
  refine rh_d (by omega) (by omega) (by omega) fun n n0 n1 => ?_
  obtain ⟨k, rfl⟩ : ∃ k : Nat, n = (k : Int) := ⟨n.toNat, by omega⟩
  rw [show (1 : Int) + (k : Int) = ((k + 1 : Nat) : Int) by omega, mrng_nat _ (by omega), mbind_pure]
  refine rh_fin (c := 4) (fun pre S m2 => ∃ E : List Ed, S = scans (P, []) E ∧ OkH (P, []) E ∧ Tabs P E m2 ts ∧ E.length ≤ pre.length) ⟨[], rfl, trivial, T, Nat.le_refl _⟩ (by rw [upto_length]; omega) ?_ fun S m2 _ => rh_pure rfl
  rintro pre x post S m2 e ⟨E, rfl, o, T2, hE⟩
  have hpl : pre.length < 12 := by
    have := congrArg List.length e
    rw [upto_length, List.length_append, List.length_cons] at this
    omega
  have ask : ∀ {N : Nat} {E2 : List Ed} {m3 : Hpo} {S2 : List PS}, OkH (P, []) E2 → Tabs P E2 m3 ts → S2 = scans (P, []) E2 → E2.length ≤ (pre ++ [x]).length →
      RunH N m3 (mbind (p__law_known_right (ts.map (·.1)) (sts P.length) (P.length : Int)) fun a => if (!a) = true then mpure (.rt false) else mpure (.nx S2) : Mt ST (Lp (List PS) Bool)) fun r m4 => ∃ z', r = .nx z' ∧ ∃ E : List Ed, z' = scans (P, []) E ∧ OkH (P, []) E ∧ Tabs P E m4 ts ∧ E.length ≤ (pre ++ [x]).length := fun o2 T3 eS hl => by
    rw [efs]
    refine rh_w (law_known_right_ok hp o2 hF T3 hts h0 h1) ?_
    rw [Bool.not_true, if_neg (by decide)]
    exact rh_pure ⟨_, rfl, _, eS, o2, T3, hl⟩
  refine rh_d (by omega) (by omega) (by omega) fun a a0 a1 => ?_
  have edit : RunH 3 m2 (mbind (midx (scans (P, []) E) (-(1 : Int))) fun vx29 => mbind (p__law_edit vx29) fun vedit_here30 => mbind (midx (scans (P, []) E) (-(1 : Int))) fun vx32 => mbind (p__law_after vx32 vedit_here30) fun vx33 => mbind (mapp (scans (P, []) E) vx33) fun vstates_here31 => mbind (calmly (compG (fun (vx34 : Nat) => mbind (p__law_do vx34 vedit_here30) fun vx35 => mpure (!decide (vx35 = ((vstates_here31.length : Int) - (1 : Int))))) (fun (vx34 : Nat) => mpure vx34) (ts.map (·.1)))) fun vx37 => if (!vx37.isEmpty) = true then mpure (.rt false) else mbind (p__law_known_right (ts.map (·.1)) (sts P.length) (P.length : Int)) fun a => if (!a) = true then mpure (.rt false) else mpure (.nx vstates_here31) : Mt ST (Lp (List PS) Bool)) fun r m4 => ∃ z', r = .nx z' ∧ ∃ E : List Ed, z' = scans (P, []) E ∧ OkH (P, []) E ∧ Tabs P E m4 ts ∧ E.length ≤ (pre ++ [x]).length := by
    have hz := okS_fin E (P, []) ⟨hp, stt_nil⟩ o
    rw [midx_last (scans_last E _)]
    simp only [mbind_pure]
    refine rh_rb (law_edit_runs hz.1) (by omega) fun d hdd => ?_
    obtain ⟨ed, rfl, oe⟩ := hdd
    rw [law_after_ok hz.1 oe, mbind_pure, mapp_ok (by rw [scans_len]; omega), mbind_pure]
    obtain ⟨m3, w3, T3, _⟩ := tabs_all (f := fun x => mbind (mbind (p__law_do x (eEd ed)) fun vx35 => mpure (!decide (vx35 = (((scans (P, []) E ++ [doE (fin (P, []) E) ed]).length : Int) - (1 : Int))))) fun b => if b = true then mbind (mpure x) fun y => mpure (some y) else mpure none) (Q := Fst P) (E := E) (E' := E ++ [ed]) (fun m t hf h => by
      obtain ⟨m1, w1, h1, o1⟩ := tb_do hp o oe (by omega) hf h
      refine ⟨m1, wr_not (wr_bind w1 ?_), h1, o1⟩
      rw [decide_eq_true (by rw [List.length_append, List.length_singleton, scans_len]; omega)]
      exact wr_pure) ts m2 hF T2
    refine rh_w (wr_compG (by rw [List.length_map]; omega) w3) ?_
    rw [if_neg (by decide)]
    exact ask ((okH_app E ed _).mpr ⟨o, oe⟩) T3 (scans_app E ed _).symm (by rw [List.length_append, List.length_append, List.length_singleton, List.length_singleton]; omega)
  by_cases hc : a = 0
  · simp only [hc, decide_true, if_true, mbind_pure]
    by_cases hl1 : ((scans (P, []) E).length : Int) > 1
    · rw [decide_eq_true hl1, if_pos rfl]
      rcases List.eq_nil_or_concat E with e0 | ⟨E0, ed, e0⟩
      · rw [e0] at hl1
        exact absurd hl1 (by simp [scans])
      · rw [List.concat_eq_append] at e0
        subst e0
        have ho := (okH_app E0 ed _).mp o
        have hpop : mpop (S := ST) (scans (P, []) (E0 ++ [ed])) = mpure (doE (fin (P, []) E0) ed, scans (P, []) E0) := by
          rw [scans_app]
          unfold mpop
          rw [List.length_append, List.length_singleton, Nat.add_sub_cancel, List.getElem?_concat_length, List.dropLast_concat] <;> rfl
        rw [hpop, mbind_pure]
        obtain ⟨m3, w3, T3, _⟩ := tabs_all (f := fun x => mbind (mbind (hcls "GuessDesk" "undo" x) fun _ => mbind (p_Desk_undo x) fun vx20 => mpure (!decide (vx20 = (((scans (P, []) E0).length : Int) - (1 : Int))))) fun b => if b = true then mbind (mpure x) fun y => mpure (some y) else mpure none) (Q := Fst P) (E := E0 ++ [ed]) (E' := E0) (fun m t hf h => by
          obtain ⟨m1, w1, h1, o1⟩ := tb_undo h
          refine ⟨m1, wr_not (wr_bind (h.cls1 (by decide)) (wr_bind w1 ?_)), h1, o1⟩
          rw [decide_eq_true (by rw [scans_len]; omega)]
          exact wr_pure) ts m2 hF T2
        refine rh_w (wr_compG (by rw [List.length_map]; omega) w3) ?_
        rw [if_neg (by decide)]
        exact ask ho.1 T3 rfl (by rw [List.length_append, List.length_singleton] at hE ⊢; omega)
    · rw [decide_eq_false hl1, if_neg (by decide)]
      exact edit
  · simp only [hc, decide_false, Bool.false_eq_true, if_false, mbind_pure]
    exact edit
theorem law_true (ns : List Int) (hl : ns.length ≤ 63) (_ : ∀ z ∈ ns, Builtin.Int.intBits z ≤ 1048576) : ∃ st', d_law [.scr (ns.map .int)] [] = .ok (.bl true) st' := law_end (nN := 9) (tr_law []) law_runs (by decide) ns hl
--PROOF
-- ### that they mean so
structure Txt (K : PySem.W.Frag) (mg : Str → Option Value) : Prop where
  m_abs : mg "abs" = none
  m_all : mg "all" = none
  m_bool : mg "bool" = none
  m_enumerate : mg "enumerate" = none
  m_int : mg "int" = none
  m_isinstance : mg "isinstance" = none
  m_len : mg "len" = none
  m_list : mg "list" = none
  m_min : mg "min" = none
  m_range : mg "range" = none
  m_sorted : mg "sorted" = none
  m_super : mg "super" = none
  m_tuple : mg "tuple" = none
  m_zip : mg "zip" = none
  e_Busy : ErrX K mg "Busy"
  e_TooManyEdits : ErrX K mg "TooManyEdits"
  e_NoChange : ErrX K mg "NoChange"
  e_NothingToUndo : ErrX K mg "NothingToUndo"
  kl_Desk : Kls K mg "Desk" ["states", "standing", "watching"]
  kl_Guess : Kls K mg "Guess" ["base", "told"]
  kl_GuessDesk : Kls K mg "GuessDesk" ["states", "standing", "watching", "base", "told"]
  r_Busy : RaX K mg "Busy"
  r_NoChange : RaX K mg "NoChange"
  r_NothingToUndo : RaX K mg "NothingToUndo"
  r_TooManyEdits : RaX K mg "TooManyEdits"
  is_Desk_GuessDesk : IsT K mg "Desk" [("GuessDesk", true)]
  cb_GuessDesk_GuessDesk : CmpB K "GuessDesk" "GuessDesk" false
  g_MAX_BUTTONS : ∃ t, mg "MAX_BUTTONS" = some (.int 10 t)
  g_MAX_EDITS : ∃ t, mg "MAX_EDITS" = some (.int 60 t)
  g_OFF : ∃ t, mg "OFF" = some (.str ("off" : Str) t)
  g_ON : ∃ t, mg "ON" = some (.str ("on" : Str) t)
  g_SAME : ∃ t, mg "SAME" = some (.str ("same" : Str) t)
section
variable {P : Program} {w : World} {K : PySem.W.Frag} {mg : Str → Option Value} {base : Heap}
theorem sc_Desk_require_idle : FnScope N_Desk_require_idle ["self"] (defScope s_Desk_require_idle) := ⟨rfl, rfl, rfl, by decide +kernel, rfl, by decide +kernel, by decide +kernel⟩
theorem b_Desk_require_idle (T : Txt K mg)  {f : Addr} {cdv : Value} {B : Around} {fr : List Env} {s : Shared} {H : Hp} {E : XK} (bd : Bd (cxOf (L2.CX P w) P w K mg base N_Desk_require_idle "Desk.require_idle" (defScope s_Desk_require_idle) f cdv B fr s H E) (wE E) 6)
    (hp : PassesOwn (model P w) (B.deeper (envOfC "Desk.require_idle" (defScope s_Desk_require_idle) s.heap.objs.size f cdv)) (envOfC "Desk.require_idle" (defScope s_Desk_require_idle) s.heap.objs.size f cdv) (cxOf (L2.CX P w) P w K mg base N_Desk_require_idle "Desk.require_idle" (defScope s_Desk_require_idle) f cdv B fr s H E).xe) :
    DSs (cxOf (L2.CX P w) P w K mg base N_Desk_require_idle "Desk.require_idle" (defScope s_Desk_require_idle) f cdv B fr s H E) (wE E) (defBody s_Desk_require_idle) m_Desk_require_idle :=
  (dss_one (ds_if (dt_tru (de_fldA (al_cons (T.kl_Desk.f (by decide)) (al_cons (T.kl_GuessDesk.f (by decide)) al_nil)) (vr 0))) (dss_one (ds_raiseX bd.calm bd.tk T.r_Busy (by rfl))) dss_nil))
theorem g_Desk_require_idle (T : Txt K mg)  {f : Addr} {fd : FuncData} (F : Fun K "require_idle" "Desk.require_idle" s_Desk_require_idle f fd) : FnG P w K mg base 7 f fd ["self"] (spD K 1 d_Desk_require_idle) :=
  fnG_of F sc_Desk_require_idle (by decide) fun _ _ _ _ _ _ bd hp => b_Desk_require_idle T  bd hp
theorem sc_Desk_undo : FnScope N_Desk_undo ["self"] (defScope s_Desk_undo) := ⟨rfl, rfl, rfl, by decide +kernel, rfl, by decide +kernel, by decide +kernel⟩
theorem b_Desk_undo (T : Txt K mg) (EM_Desk_require_idle : EntM P w K mg base 7 "require_idle" "Desk" d_Desk_require_idle) (EM_GuessDesk_require_idle : EntM P w K mg base 7 "require_idle" "GuessDesk" d_Desk_require_idle) {f : Addr} {cdv : Value} {B : Around} {fr : List Env} {s : Shared} {H : Hp} {E : XK} (bd : Bd (cxOf (L2.CX P w) P w K mg base N_Desk_undo "Desk.undo" (defScope s_Desk_undo) f cdv B fr s H E) (wE E) 7)
    (hp : PassesOwn (model P w) (B.deeper (envOfC "Desk.undo" (defScope s_Desk_undo) s.heap.objs.size f cdv)) (envOfC "Desk.undo" (defScope s_Desk_undo) s.heap.objs.size f cdv) (cxOf (L2.CX P w) P w K mg base N_Desk_undo "Desk.undo" (defScope s_Desk_undo) f cdv B fr s H E).xe) :
    DSs (cxOf (L2.CX P w) P w K mg base N_Desk_undo "Desk.undo" (defScope s_Desk_undo) f cdv B fr s H E) (wE E) (defBody s_Desk_undo) m_Desk_undo :=
  (dss_cons (ds_expr (de_methA0 (k := 7) bd (ft_cons EM_Desk_require_idle (by decide) (ft_cons EM_GuessDesk_require_idle (by decide) ft_nil)) (by decide) (vr 0)))
  (dss_cons (ds_if (dt_cmp (op_pEq bd.u64) (de_b call_pLen (by rfl) T.m_len (by rfl) (da_cons (de_fldA (al_cons (T.kl_Desk.f (by decide)) (al_cons (T.kl_GuessDesk.f (by decide)) al_nil)) (vr 0)) da_nil)) de_int) (dss_one (ds_raiseX bd.calm bd.tk T.r_NothingToUndo (by rfl))) dss_nil)
  (dss_cons (ds_expr (de_m0 PySem.F.plainAttrs_list PySem.F.slot_list_pop PySem.F.type_list_pop mt_pPop (de_fldA (al_cons (T.kl_Desk.f (by decide)) (al_cons (T.kl_GuessDesk.f (by decide)) al_nil)) (vr 0))))
  (dss_cons (ds_expr (de_m0 PySem.F.plainAttrs_list PySem.F.slot_list_pop PySem.F.type_list_pop mt_pPop (de_fldA (al_cons (T.kl_Desk.f (by decide)) (al_cons (T.kl_GuessDesk.f (by decide)) al_nil)) (vr 0))))
  (dss_one (ds_ret (de_b call_pLen (by rfl) T.m_len (by rfl) (da_cons (de_fldA (al_cons (T.kl_Desk.f (by decide)) (al_cons (T.kl_GuessDesk.f (by decide)) al_nil)) (vr 0)) da_nil))))))))
theorem g_Desk_undo (T : Txt K mg) (EM_Desk_require_idle : EntM P w K mg base 7 "require_idle" "Desk" d_Desk_require_idle) (EM_GuessDesk_require_idle : EntM P w K mg base 7 "require_idle" "GuessDesk" d_Desk_require_idle) {f : Addr} {fd : FuncData} (F : Fun K "undo" "Desk.undo" s_Desk_undo f fd) : FnG P w K mg base 8 f fd ["self"] (spD K 1 d_Desk_undo) :=
  fnG_of F sc_Desk_undo (by decide) fun _ _ _ _ _ _ bd hp => b_Desk_undo T EM_Desk_require_idle EM_GuessDesk_require_idle bd hp
theorem sc_is_within : FnScope N_is_within ["value", "low", "high"] (defScope s_is_within) := ⟨rfl, rfl, rfl, by decide +kernel, rfl, by decide +kernel, by decide +kernel⟩
theorem b_is_within (T : Txt K mg)  {f : Addr} {cdv : Value} {B : Around} {fr : List Env} {s : Shared} {H : Hp} {E : XK} (bd : Bd (cxOf (L2.CX P w) P w K mg base N_is_within "is_within" (defScope s_is_within) f cdv B fr s H E) (wE E) 6)
    (hp : PassesOwn (model P w) (B.deeper (envOfC "is_within" (defScope s_is_within) s.heap.objs.size f cdv)) (envOfC "is_within" (defScope s_is_within) s.heap.objs.size f cdv) (cxOf (L2.CX P w) P w K mg base N_is_within "is_within" (defScope s_is_within) f cdv B fr s H E).xe) :
    DSs (cxOf (L2.CX P w) P w K mg base N_is_within "is_within" (defScope s_is_within) f cdv B fr s H E) (wE E) (defBody s_is_within) m_is_within :=
  (dss_one (ds_ret (de_and (de_isi (by rfl) T.m_isinstance (by rfl) T.m_int rfl (vr 0)) (de_and (de_not (de_isi (by rfl) T.m_isinstance (by rfl) T.m_bool rfl (vr 0))) (de_one (de_chain op_pLe op_pLe (vr 1) (vr 0) (vr 2)))))))
theorem g_is_within (T : Txt K mg)  {f : Addr} {fd : FuncData} (F : Fun K "is_within" "is_within" s_is_within f fd) : FnG P w K mg base 7 f fd ["value", "low", "high"] (spD K 3 d_is_within) :=
  fnG_of F sc_is_within (by decide) fun _ _ _ _ _ _ bd hp => b_is_within T  bd hp
theorem sc_is_state : FnScope N_is_state ["panel", "value"] (defScope s_is_state) := ⟨rfl, rfl, rfl, by decide +kernel, rfl, by decide +kernel, by decide +kernel⟩
theorem b_is_state (T : Txt K mg) (C_is_within : FnC P w K mg base 7 "is_within" 3 d_is_within) {f : Addr} {cdv : Value} {B : Around} {fr : List Env} {s : Shared} {H : Hp} {E : XK} (bd : Bd (cxOf (L2.CX P w) P w K mg base N_is_state "is_state" (defScope s_is_state) f cdv B fr s H E) (wE E) 7)
    (hp : PassesOwn (model P w) (B.deeper (envOfC "is_state" (defScope s_is_state) s.heap.objs.size f cdv)) (envOfC "is_state" (defScope s_is_state) s.heap.objs.size f cdv) (cxOf (L2.CX P w) P w K mg base N_is_state "is_state" (defScope s_is_state) f cdv B fr s H E).xe) :
    DSs (cxOf (L2.CX P w) P w K mg base N_is_state "is_state" (defScope s_is_state) f cdv B fr s H E) (wE E) (defBody s_is_state) m_is_state :=
  (dss_cons (ds_if (dt_w (dw_or (dt_not (dt_tru (de_isi (by rfl) T.m_isinstance (by rfl) T.m_tuple rfl (vr 1)))) (dw_or1 (dt_not (dt_tru (de_b (call_pAll bd.calm) (by rfl) T.m_all (by rfl) (da_cons (de_frz (dl_lc (own := [("one", 2)]) bd.calm bd.nd (di_seq (vr 1)) (blkOk_by (own := [("one", 2)]) (N := N_is_state) (sc := defScope s_is_state) (by decide +kernel)) (by decide) (fun _ _ _ _ _ => (gn 2 bd.blk)) (fun _ _ _ _ _ => dts_nil) (fun _ _ _ _ _ => (de_call bd.blk C_is_within (by decide) (by rfl) nn_is_within (da_cons (vr 2) (da_cons de_int (da_cons (de_bin op_pSub (de_b call_pLen (by rfl) T.m_len (by rfl) (da_cons (vr 0) da_nil)) de_int) da_nil))))))) da_nil))))))) (dss_one (ds_ret de_bl)) dss_nil)
  (dss_one (ds_ret (de_b (call_pAll bd.calm) (by rfl) T.m_all (by rfl) (da_cons (de_frz (dl_lc (own := [("one", 2), ("other", 3)]) bd.calm bd.nd (di_zip (by rfl) T.m_zip (vr 1) (de_slT (vr 1) (do_some de_int) do_none)) (blkOk_by (own := [("one", 2), ("other", 3)]) (N := N_is_state) (sc := defScope s_is_state) (by decide +kernel)) (by decide) (fun _ _ _ _ _ => (dg_tup bd.blk.calm (dgs_cons (gn 2 bd.blk) (dgs_cons (gn 3 bd.blk) dgs_nil)))) (fun _ _ _ _ _ => dts_nil) (fun _ _ _ _ _ => (de_cmp (op_pLt bd.blk.u65) (vr 2) (vr 3))))) da_nil)))))
theorem g_is_state (T : Txt K mg) (C_is_within : FnC P w K mg base 7 "is_within" 3 d_is_within) {f : Addr} {fd : FuncData} (F : Fun K "is_state" "is_state" s_is_state f fd) : FnG P w K mg base 8 f fd ["panel", "value"] (spD K 2 d_is_state) :=
  fnG_of F sc_is_state (by decide) fun _ _ _ _ _ _ bd hp => b_is_state T C_is_within bd hp
theorem sc_is_number : FnScope N_is_number ["value", "low", "high"] (defScope s_is_number) := ⟨rfl, rfl, rfl, by decide +kernel, rfl, by decide +kernel, by decide +kernel⟩
theorem b_is_number (T : Txt K mg)  {f : Addr} {cdv : Value} {B : Around} {fr : List Env} {s : Shared} {H : Hp} {E : XK} (bd : Bd (cxOf (L2.CX P w) P w K mg base N_is_number "is_number" (defScope s_is_number) f cdv B fr s H E) (wE E) 6)
    (hp : PassesOwn (model P w) (B.deeper (envOfC "is_number" (defScope s_is_number) s.heap.objs.size f cdv)) (envOfC "is_number" (defScope s_is_number) s.heap.objs.size f cdv) (cxOf (L2.CX P w) P w K mg base N_is_number "is_number" (defScope s_is_number) f cdv B fr s H E).xe) :
    DSs (cxOf (L2.CX P w) P w K mg base N_is_number "is_number" (defScope s_is_number) f cdv B fr s H E) (wE E) (defBody s_is_number) m_is_number :=
  (dss_one (ds_ret (de_and (de_isi (by rfl) T.m_isinstance (by rfl) T.m_int rfl (vr 0)) (de_and (de_not (de_isi (by rfl) T.m_isinstance (by rfl) T.m_bool rfl (vr 0))) (de_one (de_chain op_pLe op_pLe (vr 1) (vr 0) (vr 2)))))))
theorem g_is_number (T : Txt K mg)  {f : Addr} {fd : FuncData} (F : Fun K "is_number" "is_number" s_is_number f fd) : FnG P w K mg base 7 f fd ["value", "low", "high"] (spD K 3 d_is_number) :=
  fnG_of F sc_is_number (by decide) fun _ _ _ _ _ _ bd hp => b_is_number T  bd hp
theorem sc_are_buttons : FnScope N_are_buttons ["count", "value"] (defScope s_are_buttons) := ⟨rfl, rfl, rfl, by decide +kernel, rfl, by decide +kernel, by decide +kernel⟩
theorem b_are_buttons (T : Txt K mg) (C_is_number : FnC P w K mg base 7 "is_number" 3 d_is_number) {f : Addr} {cdv : Value} {B : Around} {fr : List Env} {s : Shared} {H : Hp} {E : XK} (bd : Bd (cxOf (L2.CX P w) P w K mg base N_are_buttons "are_buttons" (defScope s_are_buttons) f cdv B fr s H E) (wE E) 7)
    (hp : PassesOwn (model P w) (B.deeper (envOfC "are_buttons" (defScope s_are_buttons) s.heap.objs.size f cdv)) (envOfC "are_buttons" (defScope s_are_buttons) s.heap.objs.size f cdv) (cxOf (L2.CX P w) P w K mg base N_are_buttons "are_buttons" (defScope s_are_buttons) f cdv B fr s H E).xe) :
    DSs (cxOf (L2.CX P w) P w K mg base N_are_buttons "are_buttons" (defScope s_are_buttons) f cdv B fr s H E) (wE E) (defBody s_are_buttons) m_are_buttons :=
  (dss_cons (ds_if (dt_w (dw_or (dt_not (dt_tru (de_isi (by rfl) T.m_isinstance (by rfl) T.m_tuple rfl (vr 1)))) (dw_or1 (dt_not (dt_tru (de_b (call_pAll bd.calm) (by rfl) T.m_all (by rfl) (da_cons (de_frz (dl_lc (own := [("item", 2)]) bd.calm bd.nd (di_seq (vr 1)) (blkOk_by (own := [("item", 2)]) (N := N_are_buttons) (sc := defScope s_are_buttons) (by decide +kernel)) (by decide) (fun _ _ _ _ _ => (gn 2 bd.blk)) (fun _ _ _ _ _ => dts_nil) (fun _ _ _ _ _ => (de_call bd.blk C_is_number (by decide) (by rfl) nn_is_number (da_cons (vr 2) (da_cons de_int (da_cons (de_bin op_pSub (vr 0) de_int) da_nil))))))) da_nil))))))) (dss_one (ds_ret de_bl)) dss_nil)
  (dss_one (ds_ret (de_b (call_pAll bd.calm) (by rfl) T.m_all (by rfl) (da_cons (de_frz (dl_lc (own := [("one", 3), ("other", 4)]) bd.calm bd.nd (di_zip (by rfl) T.m_zip (vr 1) (de_slT (vr 1) (do_some de_int) do_none)) (blkOk_by (own := [("one", 3), ("other", 4)]) (N := N_are_buttons) (sc := defScope s_are_buttons) (by decide +kernel)) (by decide) (fun _ _ _ _ _ => (dg_tup bd.blk.calm (dgs_cons (gn 3 bd.blk) (dgs_cons (gn 4 bd.blk) dgs_nil)))) (fun _ _ _ _ _ => dts_nil) (fun _ _ _ _ _ => (de_cmp (op_pLt bd.blk.u65) (vr 3) (vr 4))))) da_nil)))))
theorem g_are_buttons (T : Txt K mg) (C_is_number : FnC P w K mg base 7 "is_number" 3 d_is_number) {f : Addr} {fd : FuncData} (F : Fun K "are_buttons" "are_buttons" s_are_buttons f fd) : FnG P w K mg base 8 f fd ["count", "value"] (spD K 2 d_are_buttons) :=
  fnG_of F sc_are_buttons (by decide) fun _ _ _ _ _ _ bd hp => b_are_buttons T C_is_number bd hp
theorem sc_panel_error : FnScope N_panel_error ["value"] (defScope s_panel_error) := ⟨rfl, rfl, rfl, by decide +kernel, rfl, by decide +kernel, by decide +kernel⟩
theorem b_panel_error (T : Txt K mg) (C_are_buttons : FnC P w K mg base 8 "are_buttons" 2 d_are_buttons) {f : Addr} {cdv : Value} {B : Around} {fr : List Env} {s : Shared} {H : Hp} {E : XK} (bd : Bd (cxOf (L2.CX P w) P w K mg base N_panel_error "panel_error" (defScope s_panel_error) f cdv B fr s H E) (wE E) 8)
    (hp : PassesOwn (model P w) (B.deeper (envOfC "panel_error" (defScope s_panel_error) s.heap.objs.size f cdv)) (envOfC "panel_error" (defScope s_panel_error) s.heap.objs.size f cdv) (cxOf (L2.CX P w) P w K mg base N_panel_error "panel_error" (defScope s_panel_error) f cdv B fr s H E).xe) :
    DSs (cxOf (L2.CX P w) P w K mg base N_panel_error "panel_error" (defScope s_panel_error) f cdv B fr s H E) (wE E) (defBody s_panel_error) m_panel_error :=
  (dss_cons (ds_if (dt_w (dw_or (dt_not (dt_tru (de_isi (by rfl) T.m_isinstance (by rfl) T.m_tuple rfl (vr 0)))) (dw_or1 (dt_not (dt_chain op_pLe op_pLe de_int (de_b call_pLen (by rfl) T.m_len (by rfl) (da_cons (vr 0) da_nil)) (de_gi (by rfl) T.g_MAX_BUTTONS)))))) (dss_one (ds_ret (de_tup (da_cons de_non (da_cons de_str da_nil))))) dss_nil)
  (dss_cons (ds_for hp bd.calm (di_enum (by rfl) T.m_enumerate (vr 0)) (dg_tup bd.calm (dgs_cons (gn 1 bd) (dgs_cons (gn 2 bd) dgs_nil))) (dss_cons (ds_if (dt_not (dt_tru (de_call bd C_are_buttons (by decide) (by rfl) nn_are_buttons (da_cons (de_b call_pLen (by rfl) T.m_len (by rfl) (da_cons (vr 0) da_nil)) (da_cons (vr 2) da_nil))))) (dss_one (ds_ret (de_tup (da_cons (vr 1) (da_cons de_str da_nil))))) dss_nil)
    (dss_one (ds_if (dt_cmp (op_pIn bd.u65) (vr 1) (vr 2)) (dss_one (ds_ret (de_tup (da_cons (vr 1) (da_cons de_str da_nil))))) dss_nil))))
  (dss_one (ds_ret de_non))))
theorem g_panel_error (T : Txt K mg) (C_are_buttons : FnC P w K mg base 8 "are_buttons" 2 d_are_buttons) {f : Addr} {fd : FuncData} (F : Fun K "panel_error" "panel_error" s_panel_error f fd) : FnG P w K mg base 9 f fd ["value"] (spD K 1 d_panel_error) :=
  fnG_of F sc_panel_error (by decide) fun _ _ _ _ _ _ bd hp => b_panel_error T C_are_buttons bd hp
theorem sc_require_panel : FnScope N_require_panel ["panel"] (defScope s_require_panel) := ⟨rfl, rfl, rfl, by decide +kernel, rfl, by decide +kernel, by decide +kernel⟩
theorem b_require_panel (T : Txt K mg) (C_panel_error : FnC P w K mg base 9 "panel_error" 1 d_panel_error) {f : Addr} {cdv : Value} {B : Around} {fr : List Env} {s : Shared} {H : Hp} {E : XK} (bd : Bd (cxOf (L2.CX P w) P w K mg base N_require_panel "require_panel" (defScope s_require_panel) f cdv B fr s H E) (wE E) 9)
    (hp : PassesOwn (model P w) (B.deeper (envOfC "require_panel" (defScope s_require_panel) s.heap.objs.size f cdv)) (envOfC "require_panel" (defScope s_require_panel) s.heap.objs.size f cdv) (cxOf (L2.CX P w) P w K mg base N_require_panel "require_panel" (defScope s_require_panel) f cdv B fr s H E).xe) :
    DSs (cxOf (L2.CX P w) P w K mg base N_require_panel "require_panel" (defScope s_require_panel) f cdv B fr s H E) (wE E) (defBody s_require_panel) m_require_panel :=
  (dss_cons (st 1 bd (de_call bd C_panel_error (by decide) (by rfl) nn_panel_error (da_cons (vr 0) da_nil)))
  (dss_one (ds_if (dt_cmp op_pIsNot (vr 1) de_non) (dss_one ds_never) dss_nil)))
theorem g_require_panel (T : Txt K mg) (C_panel_error : FnC P w K mg base 9 "panel_error" 1 d_panel_error) {f : Addr} {fd : FuncData} (F : Fun K "require_panel" "require_panel" s_require_panel f fd) : FnG P w K mg base 10 f fd ["panel"] (spD K 1 d_require_panel) :=
  fnG_of F sc_require_panel (by decide) fun _ _ _ _ _ _ bd hp => b_require_panel T C_panel_error bd hp
theorem sc_Desk___init__ : FnScope N_Desk___init__ ["self", "panel", "state"] (defScope s_Desk___init__) := ⟨rfl, rfl, rfl, by decide +kernel, rfl, by decide +kernel, by decide +kernel⟩
theorem b_Desk___init__ (T : Txt K mg) (C_is_state : FnC P w K mg base 8 "is_state" 2 d_is_state) (C_require_panel : FnC P w K mg base 10 "require_panel" 1 d_require_panel) {f : Addr} {cdv : Value} {B : Around} {fr : List Env} {s : Shared} {H : Hp} {E : XK} (bd : Bd (cxOf (L2.CX P w) P w K mg base N_Desk___init__ "Desk.__init__" (defScope s_Desk___init__) f cdv B fr s H E) (wE E) 10)
    (hp : PassesOwn (model P w) (B.deeper (envOfC "Desk.__init__" (defScope s_Desk___init__) s.heap.objs.size f cdv)) (envOfC "Desk.__init__" (defScope s_Desk___init__) s.heap.objs.size f cdv) (cxOf (L2.CX P w) P w K mg base N_Desk___init__ "Desk.__init__" (defScope s_Desk___init__) f cdv B fr s H E).xe) :
    DSs (cxOf (L2.CX P w) P w K mg base N_Desk___init__ "Desk.__init__" (defScope s_Desk___init__) f cdv B fr s H E) (wE E) (defBody s_Desk___init__) m_Desk___init__ :=
  (dss_cons (ds_expr (de_call bd C_require_panel (by decide) (by rfl) nn_require_panel (da_cons (vr 1) da_nil)))
  (dss_cons (ds_if (dt_not (dt_tru (de_call bd C_is_state (by decide) (by rfl) nn_is_state (da_cons (vr 1) (da_cons (vr 2) da_nil))))) (dss_one ds_never) dss_nil)
  (dss_cons (ds_setFA (al_cons (T.kl_Desk.f (by decide)) (al_cons (T.kl_GuessDesk.f (by decide)) al_nil)) (vr 0) (de_new (dl_disp (da_cons (de_tup (da_cons (vr 1) (da_cons (vr 2) da_nil))) da_nil))))
  (dss_cons (ds_setFA (al_cons (T.kl_Desk.f (by decide)) (al_cons (T.kl_GuessDesk.f (by decide)) al_nil)) (vr 0) (de_new (dl_disp da_nil)))
  (dss_one (ds_setFA (al_cons (T.kl_Desk.f (by decide)) (al_cons (T.kl_GuessDesk.f (by decide)) al_nil)) (vr 0) de_bl))))))
theorem g_Desk___init__ (T : Txt K mg) (C_is_state : FnC P w K mg base 8 "is_state" 2 d_is_state) (C_require_panel : FnC P w K mg base 10 "require_panel" 1 d_require_panel) {f : Addr} {fd : FuncData} (F : Fun K "__init__" "Desk.__init__" s_Desk___init__ f fd) : FnG P w K mg base 11 f fd ["self", "panel", "state"] (spD K 3 d_Desk___init__) :=
  fnG_of F sc_Desk___init__ (by decide) fun _ _ _ _ _ _ bd hp => b_Desk___init__ T C_is_state C_require_panel bd hp
theorem sc_Guess___init__ : FnScope N_Guess___init__ ["self", "panel"] (defScope s_Guess___init__) := ⟨rfl, rfl, rfl, by decide +kernel, rfl, by decide +kernel, by decide +kernel⟩
theorem b_Guess___init__ (T : Txt K mg) (C_require_panel : FnC P w K mg base 10 "require_panel" 1 d_require_panel) {f : Addr} {cdv : Value} {B : Around} {fr : List Env} {s : Shared} {H : Hp} {E : XK} (bd : Bd (cxOf (L2.CX P w) P w K mg base N_Guess___init__ "Guess.__init__" (defScope s_Guess___init__) f cdv B fr s H E) (wE E) 10)
    (hp : PassesOwn (model P w) (B.deeper (envOfC "Guess.__init__" (defScope s_Guess___init__) s.heap.objs.size f cdv)) (envOfC "Guess.__init__" (defScope s_Guess___init__) s.heap.objs.size f cdv) (cxOf (L2.CX P w) P w K mg base N_Guess___init__ "Guess.__init__" (defScope s_Guess___init__) f cdv B fr s H E).xe) :
    DSs (cxOf (L2.CX P w) P w K mg base N_Guess___init__ "Guess.__init__" (defScope s_Guess___init__) f cdv B fr s H E) (wE E) (defBody s_Guess___init__) m_Guess___init__ :=
  (dss_cons (ds_expr (de_call bd C_require_panel (by decide) (by rfl) nn_require_panel (da_cons (vr 1) da_nil)))
  (dss_cons (ds_setFA (al_cons (T.kl_Guess.f (by decide)) (al_cons (T.kl_GuessDesk.f (by decide)) al_nil)) (vr 0) (vr 1))
  (dss_one (ds_setFA (al_cons (T.kl_Guess.f (by decide)) (al_cons (T.kl_GuessDesk.f (by decide)) al_nil)) (vr 0) (de_bin op_pMul (de_tup (da_cons (de_gs (by rfl) T.g_SAME) da_nil)) (de_b call_pLen (by rfl) T.m_len (by rfl) (da_cons (vr 1) da_nil)))))))
theorem g_Guess___init__ (T : Txt K mg) (C_require_panel : FnC P w K mg base 10 "require_panel" 1 d_require_panel) {f : Addr} {fd : FuncData} (F : Fun K "__init__" "Guess.__init__" s_Guess___init__ f fd) : FnG P w K mg base 11 f fd ["self", "panel"] (spD K 2 d_Guess___init__) :=
  fnG_of F sc_Guess___init__ (by decide) fun _ _ _ _ _ _ bd hp => b_Guess___init__ T C_require_panel bd hp
theorem sS_GuessDesk___init__ : ScS (defScope s_GuessDesk___init__) := ⟨rfl, rfl, rfl, by decide +kernel, free_of (by decide +kernel), rfl, rfl, rfl, rfl, rfl⟩
theorem b_GuessDesk___init__ (T : Txt K mg) (EC_Guess___init__ : FnCls P w K mg base 11 "Guess" "__init__" d_Guess___init__) {f cda cc : Addr} {B : Around} {fr : List Env} {s : Shared} {H : Hp} {E : XK} (bd : Bd (cxS (L2.CX P w) P w K mg base NS3 "GuessDesk.__init__" (defScope s_GuessDesk___init__) f (.ref cda) cc B fr s H E) (wE E) 11) :
    DA (cxS (L2.CX P w) P w K mg base NS3 "GuessDesk.__init__" (defScope s_GuessDesk___init__) f (.ref cda) cc B fr s H E) (wE E) (supArgs (defBody s_GuessDesk___init__)) (mCons (mVar 1) (mCons (mVar 2) mNil)) ∧ DSs (cxS (L2.CX P w) P w K mg base NS3 "GuessDesk.__init__" (defScope s_GuessDesk___init__) f (.ref cda) cc B fr s H E) (wE E) (defBody s_GuessDesk___init__).tail (sDrop (mCall d_Guess___init__ (mCons (mVar 0) (mCons (mVar 1) mNil)))) := ⟨(da_cons (vr 1) (da_cons (vr 2) da_nil)), (dss_one (ds_expr (de_clsM bd EC_Guess___init__ (by decide) (by rfl) (da_cons (vr 0) (da_cons (vr 1) da_nil)))))⟩
theorem g_GuessDesk___init__ (T : Txt K mg) {fS : Addr} (ES_GuessDesk_Desk___init__ : RunE P w K mg base 11 fS d_Desk___init__) (EC_Guess___init__ : FnCls P w K mg base 11 "Guess" "__init__" d_Guess___init__) {f cda cc D : Addr} {fd : FuncData} (F : FunS K "__init__" "GuessDesk.__init__" s_GuessDesk___init__ f fd cda cc) (Z : SupK P K mg "GuessDesk" cda cc D fS) : FnG P w K mg base 12 f fd ["self", "panel", "state"] (spD K 3 d_GuessDesk___init__) :=
  fnG_sup F sS_GuessDesk___init__ Z rfl rfl rfl ES_GuessDesk_Desk___init__ (by decide) (fun _ _ _ _ _ bd => b_GuessDesk___init__ T EC_Guess___init__ bd) (fun _ => rfl) (fun _ => rfl) (fun _ => rfl) (fun _ => rfl) (fun _ => rfl)
theorem sc__law_deck : FnScope N__law_deck ["_law_script"] (defScope s__law_deck) := ⟨rfl, rfl, rfl, by decide +kernel, rfl, by decide +kernel, by decide +kernel⟩
theorem b__law_deck (T : Txt K mg)  {f : Addr} {cdv : Value} {B : Around} {fr : List Env} {s : Shared} {H : Hp} {E : XK} (bd : Bd (cxOf (L2.CX P w) P w K mg base N__law_deck "_law_deck" (defScope s__law_deck) f cdv B fr s H E) (wE E) 6)
    (hp : PassesOwn (model P w) (B.deeper (envOfC "_law_deck" (defScope s__law_deck) s.heap.objs.size f cdv)) (envOfC "_law_deck" (defScope s__law_deck) s.heap.objs.size f cdv) (cxOf (L2.CX P w) P w K mg base N__law_deck "_law_deck" (defScope s__law_deck) f cdv B fr s H E).xe) :
    DSs (cxOf (L2.CX P w) P w K mg base N__law_deck "_law_deck" (defScope s__law_deck) f cdv B fr s H E) (wE E) (defBody s__law_deck) m__law_deck :=
  (dss_one (ds_ret (de_new (dl_disp (da_cons (de_new (dl_lc (own := [("_law_cell", 1)]) bd.calm bd.nd (di_seq (de_frz (dl_slL (vr 0) do_none (do_some de_int)))) (blkOk_by (own := [("_law_cell", 1)]) (N := N__law_deck) (sc := defScope s__law_deck) (by decide +kernel)) (by decide) (fun _ _ _ _ _ => (gn 1 bd.blk)) (fun _ _ _ _ _ => dts_nil) (fun _ _ _ _ _ => (de_b call_pAbs (by rfl) T.m_abs (by rfl) (da_cons (vr 1) da_nil))))) (da_cons de_int da_nil))))))
theorem g__law_deck (T : Txt K mg)  {f : Addr} {fd : FuncData} (F : Fun K "_law_deck" "_law_deck" s__law_deck f fd) : FnG P w K mg base 7 f fd ["_law_script"] (spD K 1 d__law_deck) :=
  fnG_of F sc__law_deck (by decide) fun _ _ _ _ _ _ bd hp => b__law_deck T  bd hp
theorem sc__law_draw : FnScope N__law_draw ["_law_deck_here", "_law_many"] (defScope s__law_draw) := ⟨rfl, rfl, rfl, by decide +kernel, rfl, by decide +kernel, by decide +kernel⟩
theorem b__law_draw (T : Txt K mg)  {f : Addr} {cdv : Value} {B : Around} {fr : List Env} {s : Shared} {H : Hp} {E : XK} (bd : Bd (cxOf (L2.CX P w) P w K mg base N__law_draw "_law_draw" (defScope s__law_draw) f cdv B fr s H E) (wE E) 6)
    (hp : PassesOwn (model P w) (B.deeper (envOfC "_law_draw" (defScope s__law_draw) s.heap.objs.size f cdv)) (envOfC "_law_draw" (defScope s__law_draw) s.heap.objs.size f cdv) (cxOf (L2.CX P w) P w K mg base N__law_draw "_law_draw" (defScope s__law_draw) f cdv B fr s H E).xe) :
    DSs (cxOf (L2.CX P w) P w K mg base N__law_draw "_law_draw" (defScope s__law_draw) f cdv B fr s H E) (wE E) (defBody s__law_draw) m__law_draw :=
  (dss_cons (ds_asg (de_bin op_pAdd (de_idx (vr 0) de_int) de_int) (dg_sub (vr 0) de_int))
  (dss_cons (st 2 bd de_int)
  (dss_cons (st 3 bd (de_neg de_int))
  (dss_cons (ds_if (dt_cmp op_pGt (de_b call_pLen (by rfl) T.m_len (by rfl) (da_cons (de_idx (vr 0) de_int) da_nil)) de_int) (dss_cons (st 3 bd (de_bin op_pMod (de_idx (vr 0) de_int) (de_b call_pLen (by rfl) T.m_len (by rfl) (da_cons (de_idx (vr 0) de_int) da_nil))))
    (dss_one (st 2 bd (de_idx (de_idx (vr 0) de_int) (vr 3))))) dss_nil)
  (dss_cons (ds_if (dt_cmp op_pGe (vr 2) (de_bin op_pPow de_int de_int)) (dss_cons (ds_asg (de_bin op_pDiv (vr 2) (vr 1)) (dg_sub (de_idx (vr 0) de_int) (vr 3)))
    (dss_one (ds_ret (de_bin op_pMod (vr 2) (vr 1))))) dss_nil)
  (dss_one (ds_ret (de_bin op_pMod (de_bin op_pMod (de_bin op_pPow (de_bin op_pAdd (de_bin op_pAdd (de_bin op_pMod (vr 2) de_int) (de_bin op_pMul de_int (de_idx (vr 0) de_int))) de_int) de_int) de_int) (vr 1)))))))))
theorem g__law_draw (T : Txt K mg)  {f : Addr} {fd : FuncData} (F : Fun K "_law_draw" "_law_draw" s__law_draw f fd) : FnG P w K mg base 7 f fd ["_law_deck_here", "_law_many"] (spD K 2 d__law_draw) :=
  fnG_of F sc__law_draw (by decide) fun _ _ _ _ _ _ bd hp => b__law_draw T  bd hp
theorem sc__law_panel : FnScope N__law_panel ["_law_deck_here", "_law_most"] (defScope s__law_panel) := ⟨rfl, rfl, rfl, by decide +kernel, rfl, by decide +kernel, by decide +kernel⟩
theorem b__law_panel (T : Txt K mg) (C__law_draw : FnC P w K mg base 7 "_law_draw" 2 d__law_draw) {f : Addr} {cdv : Value} {B : Around} {fr : List Env} {s : Shared} {H : Hp} {E : XK} (bd : Bd (cxOf (L2.CX P w) P w K mg base N__law_panel "_law_panel" (defScope s__law_panel) f cdv B fr s H E) (wE E) 7)
    (hp : PassesOwn (model P w) (B.deeper (envOfC "_law_panel" (defScope s__law_panel) s.heap.objs.size f cdv)) (envOfC "_law_panel" (defScope s__law_panel) s.heap.objs.size f cdv) (cxOf (L2.CX P w) P w K mg base N__law_panel "_law_panel" (defScope s__law_panel) f cdv B fr s H E).xe) :
    DSs (cxOf (L2.CX P w) P w K mg base N__law_panel "_law_panel" (defScope s__law_panel) f cdv B fr s H E) (wE E) (defBody s__law_panel) m__law_panel :=
  (dss_cons (st 2 bd (de_idx (de_frz (dl_disp (da_cons (de_bin op_pAdd de_int (de_call bd C__law_draw (by decide) (by rfl) nn__law_draw (da_cons (vr 0) (da_cons (vr 1) da_nil)))) (da_cons (vr 1) (da_cons (de_bin op_pAdd de_int (de_call bd C__law_draw (by decide) (by rfl) nn__law_draw (da_cons (vr 0) (da_cons (de_b (call_pMin2 bd.calm) (by rfl) T.m_min (by rfl) (da_cons de_int (da_cons (vr 1) da_nil))) da_nil)))) da_nil))))) (de_call bd C__law_draw (by decide) (by rfl) nn__law_draw (da_cons (vr 0) (da_cons de_int da_nil)))))
  (dss_cons (ds_asg (de_tup (da_cons (de_call bd C__law_draw (by decide) (by rfl) nn__law_draw (da_cons (vr 0) (da_cons de_int da_nil))) (da_cons (de_bin op_pAdd de_int (de_call bd C__law_draw (by decide) (by rfl) nn__law_draw (da_cons (vr 0) (da_cons de_int da_nil)))) (da_cons (de_new (dl_disp da_nil)) da_nil)))) (dg_tup bd.calm (dgs_cons (gn 3 bd) (dgs_cons (gn 4 bd) (dgs_cons (gn 5 bd) dgs_nil)))))
  (dss_cons (ds_for hp bd.calm (di_range1 (by rfl) T.m_range (vr 2)) (gn 6 bd) (dss_cons (ds_setLc (i := 7) (own := [("_law_one", 8)]) true bd.calm bd.nd rfl rfl (sw_true rfl rfl rfl (by decide +kernel)) (di_range1 (by rfl) T.m_range (vr 2)) (blkOk_by (own := [("_law_one", 8)]) (N := N__law_panel) (sc := defScope s__law_panel) (by decide +kernel)) (by decide) (fun _ _ _ _ _ => (gn 8 bd.blk)) (fun _ _ _ _ _ => (dts1 (dt_cmp (op_pLt bd.blk.u65) (de_call bd.blk C__law_draw (by decide) (by rfl) nn__law_draw (da_cons (vr 0) (da_cons de_int da_nil))) (vr 4)))) (fun _ _ _ _ _ => (vr 8)))
    (dss_cons (ds_if (dt_cmp (op_pEq bd.u64) (vr 3) de_int) (dss_one (st 7 bd (de_frz (dl_disp (da_cons (de_bin op_pMod (de_bin op_pAdd (vr 6) de_int) (vr 2)) da_nil))))) dss_nil)
    (dss_cons (ds_if (dt_w (dw_and (dt_cmp (op_pEq bd.u64) (vr 3) de_int) (dw_and1 (dt_cmp (op_pEq bd.u64) (de_call bd C__law_draw (by decide) (by rfl) nn__law_draw (da_cons (vr 0) (da_cons de_int da_nil))) de_int)))) (dss_one (st 7 bd (de_frz (dl_lstRg bd.calm (by rfl) T.m_list (by rfl) T.m_range (vr 2))))) dss_nil)
    (dss_cons (ds_if (dt_cmp (op_pEq bd.u64) (vr 3) de_int) (dss_one (ds_setLc (i := 7) (own := [("_law_one", 8)]) true bd.calm bd.nd rfl rfl (sw_true rfl rfl rfl (by decide +kernel)) (di_seq (vr 7)) (blkOk_by (own := [("_law_one", 8)]) (N := N__law_panel) (sc := defScope s__law_panel) (by decide +kernel)) (by decide) (fun _ _ _ _ _ => (gn 8 bd.blk)) (fun _ _ _ _ _ => (dts1 (dt_cmp op_pGt (vr 8) (vr 6)))) (fun _ _ _ _ _ => (vr 8)))) dss_nil)
    (dss_one (ds_expr (de_m PySem.F.plainAttrs_list PySem.F.slot_list_append PySem.F.type_list_append mt_pAppend (vr 5) (da_cons (de_bT call_pTuple (by rfl) T.m_tuple (by rfl) (da_cons (de_frz (dl_lc (own := [("_law_one", 8)]) bd.calm bd.nd (di_seq (vr 7)) (blkOk_by (own := [("_law_one", 8)]) (N := N__law_panel) (sc := defScope s__law_panel) (by decide +kernel)) (by decide) (fun _ _ _ _ _ => (gn 8 bd.blk)) (fun _ _ _ _ _ => (dts1 (dt_cmp (op_pNe bd.blk.u64) (vr 8) (vr 6)))) (fun _ _ _ _ _ => (vr 8)))) da_nil)) da_nil)))))))))
  (dss_fz (dss_one (ds_ret (de_bT call_pTuple (by rfl) T.m_tuple (by rfl) (da_cons (vr 5) da_nil))))))))
theorem g__law_panel (T : Txt K mg) (C__law_draw : FnC P w K mg base 7 "_law_draw" 2 d__law_draw) {f : Addr} {fd : FuncData} (F : Fun K "_law_panel" "_law_panel" s__law_panel f fd) : FnG P w K mg base 8 f fd ["_law_deck_here", "_law_most"] (spD K 2 d__law_panel) :=
  fnG_of F sc__law_panel (by decide) fun _ _ _ _ _ _ bd hp => b__law_panel T C__law_draw bd hp
theorem sc__law_pressed : FnScope N__law_pressed ["_law_panel_here", "_law_state", "_law_button"] (defScope s__law_pressed) := ⟨rfl, rfl, rfl, by decide +kernel, rfl, by decide +kernel, by decide +kernel⟩
theorem b__law_pressed (T : Txt K mg)  {f : Addr} {cdv : Value} {B : Around} {fr : List Env} {s : Shared} {H : Hp} {E : XK} (bd : Bd (cxOf (L2.CX P w) P w K mg base N__law_pressed "_law_pressed" (defScope s__law_pressed) f cdv B fr s H E) (wE E) 6)
    (hp : PassesOwn (model P w) (B.deeper (envOfC "_law_pressed" (defScope s__law_pressed) s.heap.objs.size f cdv)) (envOfC "_law_pressed" (defScope s__law_pressed) s.heap.objs.size f cdv) (cxOf (L2.CX P w) P w K mg base N__law_pressed "_law_pressed" (defScope s__law_pressed) f cdv B fr s H E).xe) :
    DSs (cxOf (L2.CX P w) P w K mg base N__law_pressed "_law_pressed" (defScope s__law_pressed) f cdv B fr s H E) (wE E) (defBody s__law_pressed) m__law_pressed :=
  (dss_cons (ds_setLc (i := 3) (own := [("_law_one", 4)]) true bd.calm bd.nd rfl rfl (sw_true rfl rfl rfl (by decide +kernel)) (di_seq (vr 1)) (blkOk_by (own := [("_law_one", 4)]) (N := N__law_pressed) (sc := defScope s__law_pressed) (by decide +kernel)) (by decide) (fun _ _ _ _ _ => (gn 4 bd.blk)) (fun _ _ _ _ _ => (dts1 (dt_w (dw_and (dt_cmp (op_pNotIn bd.blk.u65) (vr 4) (de_idx (vr 0) (vr 2))) (dw_and1 (dt_cmp (op_pNe bd.blk.u64) (vr 4) (vr 2))))))) (fun _ _ _ _ _ => (vr 4)))
  (dss_one (ds_ret (de_bT call_pTuple (by rfl) T.m_tuple (by rfl) (da_cons (de_frz (dl_b (call_pSorted bd.calm bd.u70) (by rfl) T.m_sorted (by rfl) (da_cons (de_frz (dl_bin op_pCat (vr 3) (de_frz (dl_disp (da_cons (vr 2) da_nil))))) da_nil))) da_nil)))))
theorem g__law_pressed (T : Txt K mg)  {f : Addr} {fd : FuncData} (F : Fun K "_law_pressed" "_law_pressed" s__law_pressed f fd) : FnG P w K mg base 7 f fd ["_law_panel_here", "_law_state", "_law_button"] (spD K 3 d__law_pressed) :=
  fnG_of F sc__law_pressed (by decide) fun _ _ _ _ _ _ bd hp => b__law_pressed T  bd hp
theorem sc__law_changed : FnScope N__law_changed ["_law_panel_here", "_law_one", "_law_other", "_law_is_link"] (defScope s__law_changed) := ⟨rfl, rfl, rfl, by decide +kernel, rfl, by decide +kernel, by decide +kernel⟩
theorem b__law_changed (T : Txt K mg)  {f : Addr} {cdv : Value} {B : Around} {fr : List Env} {s : Shared} {H : Hp} {E : XK} (bd : Bd (cxOf (L2.CX P w) P w K mg base N__law_changed "_law_changed" (defScope s__law_changed) f cdv B fr s H E) (wE E) 6)
    (hp : PassesOwn (model P w) (B.deeper (envOfC "_law_changed" (defScope s__law_changed) s.heap.objs.size f cdv)) (envOfC "_law_changed" (defScope s__law_changed) s.heap.objs.size f cdv) (cxOf (L2.CX P w) P w K mg base N__law_changed "_law_changed" (defScope s__law_changed) f cdv B fr s H E).xe) :
    DSs (cxOf (L2.CX P w) P w K mg base N__law_changed "_law_changed" (defScope s__law_changed) f cdv B fr s H E) (wE E) (defBody s__law_changed) m__law_changed :=
  (dss_cons (st 4 bd (de_frz (dl_bin op_pCat (de_frz (dl_lc (own := [("_law_at", 5)]) bd.calm bd.nd (di_seq (de_idx (vr 0) (vr 1))) (blkOk_by (own := [("_law_at", 5)]) (N := N__law_changed) (sc := defScope s__law_changed) (by decide +kernel)) (by decide) (fun _ _ _ _ _ => (gn 5 bd.blk)) (fun _ _ _ _ _ => (dts1 (dt_cmp (op_pNe bd.blk.u64) (vr 5) (vr 2)))) (fun _ _ _ _ _ => (vr 5)))) (de_frz (dl_bin op_pRepL (de_frz (dl_disp (da_cons (vr 2) da_nil))) (de_bT call_pInt (by rfl) T.m_int (by rfl) (da_cons (vr 3) da_nil)))))))
  (dss_one (ds_ret (de_bin op_pAdd (de_bin op_pAdd (de_slT (vr 0) do_none (do_some (vr 1))) (de_tup (da_cons (de_bT call_pTuple (by rfl) T.m_tuple (by rfl) (da_cons (de_frz (dl_b (call_pSorted bd.calm bd.u70) (by rfl) T.m_sorted (by rfl) (da_cons (vr 4) da_nil))) da_nil)) da_nil))) (de_slT (vr 0) (do_some (de_bin op_pAdd (vr 1) de_int)) do_none)))))
theorem g__law_changed (T : Txt K mg)  {f : Addr} {fd : FuncData} (F : Fun K "_law_changed" "_law_changed" s__law_changed f fd) : FnG P w K mg base 7 f fd ["_law_panel_here", "_law_one", "_law_other", "_law_is_link"] (spD K 4 d__law_changed) :=
  fnG_of F sc__law_changed (by decide) fun _ _ _ _ _ _ bd hp => b__law_changed T  bd hp
theorem sc__law_after : FnScope N__law_after ["_law_state", "_law_edit_here"] (defScope s__law_after) := ⟨rfl, rfl, rfl, by decide +kernel, rfl, by decide +kernel, by decide +kernel⟩
theorem b__law_after (T : Txt K mg) (C__law_pressed : FnC P w K mg base 7 "_law_pressed" 3 d__law_pressed) (C__law_changed : FnC P w K mg base 7 "_law_changed" 4 d__law_changed) {f : Addr} {cdv : Value} {B : Around} {fr : List Env} {s : Shared} {H : Hp} {E : XK} (bd : Bd (cxOf (L2.CX P w) P w K mg base N__law_after "_law_after" (defScope s__law_after) f cdv B fr s H E) (wE E) 7)
    (hp : PassesOwn (model P w) (B.deeper (envOfC "_law_after" (defScope s__law_after) s.heap.objs.size f cdv)) (envOfC "_law_after" (defScope s__law_after) s.heap.objs.size f cdv) (cxOf (L2.CX P w) P w K mg base N__law_after "_law_after" (defScope s__law_after) f cdv B fr s H E).xe) :
    DSs (cxOf (L2.CX P w) P w K mg base N__law_after "_law_after" (defScope s__law_after) f cdv B fr s H E) (wE E) (defBody s__law_after) m__law_after :=
  (dss_cons (ds_asg (vr 0) (dg_lst bd.calm (dgs_cons (gn 2 bd) (dgs_cons (gn 3 bd) dgs_nil))))
  (dss_cons (ds_if (dt_cmp (op_pEq bd.u64) (de_idx (vr 1) de_int) de_str) (dss_one (ds_ret (de_frz (dl_disp (da_cons (vr 2) (da_cons (de_call bd C__law_pressed (by decide) (by rfl) nn__law_pressed (da_cons (vr 2) (da_cons (vr 3) (da_cons (de_idx (vr 1) de_int) da_nil)))) da_nil)))))) dss_nil)
  (dss_one (ds_ret (de_frz (dl_disp (da_cons (de_call bd C__law_changed (by decide) (by rfl) nn__law_changed (da_cons (vr 2) (da_cons (de_idx (vr 1) de_int) (da_cons (de_idx (vr 1) de_int) (da_cons (de_cmp (op_pEq bd.u64) (de_idx (vr 1) de_int) de_str) da_nil))))) (da_cons (vr 3) da_nil))))))))
theorem g__law_after (T : Txt K mg) (C__law_pressed : FnC P w K mg base 7 "_law_pressed" 3 d__law_pressed) (C__law_changed : FnC P w K mg base 7 "_law_changed" 4 d__law_changed) {f : Addr} {fd : FuncData} (F : Fun K "_law_after" "_law_after" s__law_after f fd) : FnG P w K mg base 8 f fd ["_law_state", "_law_edit_here"] (spD K 2 d__law_after) :=
  fnG_of F sc__law_after (by decide) fun _ _ _ _ _ _ bd hp => b__law_after T C__law_pressed C__law_changed bd hp
theorem sc__law_edit : FnScope N__law_edit ["_law_deck_here", "_law_state"] (defScope s__law_edit) := ⟨rfl, rfl, rfl, by decide +kernel, rfl, by decide +kernel, by decide +kernel⟩
theorem b__law_edit (T : Txt K mg) (C__law_draw : FnC P w K mg base 7 "_law_draw" 2 d__law_draw) {f : Addr} {cdv : Value} {B : Around} {fr : List Env} {s : Shared} {H : Hp} {E : XK} (bd : Bd (cxOf (L2.CX P w) P w K mg base N__law_edit "_law_edit" (defScope s__law_edit) f cdv B fr s H E) (wE E) 7)
    (hp : PassesOwn (model P w) (B.deeper (envOfC "_law_edit" (defScope s__law_edit) s.heap.objs.size f cdv)) (envOfC "_law_edit" (defScope s__law_edit) s.heap.objs.size f cdv) (cxOf (L2.CX P w) P w K mg base N__law_edit "_law_edit" (defScope s__law_edit) f cdv B fr s H E).xe) :
    DSs (cxOf (L2.CX P w) P w K mg base N__law_edit "_law_edit" (defScope s__law_edit) f cdv B fr s H E) (wE E) (defBody s__law_edit) m__law_edit :=
  (dss_cons (ds_asg (vr 1) (dg_lst bd.calm (dgs_cons (gn 2 bd) (dgs_cons (gn 3 bd) dgs_nil))))
  (dss_cons (st 4 bd (de_b call_pLen (by rfl) T.m_len (by rfl) (da_cons (vr 2) da_nil)))
  (dss_cons (ds_par (i := 5) (j := 6) bd.calm bd.nd rfl rfl (by decide) rfl rfl (da_cons (de_call bd C__law_draw (by decide) (by rfl) nn__law_draw (da_cons (vr 0) (da_cons (vr 4) da_nil))) (da_cons (de_call bd C__law_draw (by decide) (by rfl) nn__law_draw (da_cons (vr 0) (da_cons (vr 4) da_nil))) da_nil)) (by rfl))
  (dss_cons (ds_if (dt_w (dw_or (dt_cmp op_pGt (de_call bd C__law_draw (by decide) (by rfl) nn__law_draw (da_cons (vr 0) (da_cons de_int da_nil))) de_int) (dw_or1 (dt_cmp (op_pEq bd.u64) (vr 5) (vr 6))))) (dss_one (ds_ret (de_tup (da_cons de_str (da_cons (vr 5) da_nil))))) dss_nil)
  (dss_one (ds_ret (de_tup (da_cons (de_idx (de_frz (dl_disp (da_cons de_str (da_cons de_str da_nil)))) (de_bT call_pInt (by rfl) T.m_int (by rfl) (da_cons (de_cmp (op_pIn bd.u65) (vr 6) (de_idx (vr 2) (vr 5))) da_nil))) (da_cons (vr 5) (da_cons (vr 6) da_nil))))))))))
theorem g__law_edit (T : Txt K mg) (C__law_draw : FnC P w K mg base 7 "_law_draw" 2 d__law_draw) {f : Addr} {fd : FuncData} (F : Fun K "_law_edit" "_law_edit" s__law_edit f fd) : FnG P w K mg base 8 f fd ["_law_deck_here", "_law_state"] (spD K 2 d__law_edit) :=
  fnG_of F sc__law_edit (by decide) fun _ _ _ _ _ _ bd hp => b__law_edit T C__law_draw bd hp
theorem sc_press_button : FnScope N_press_button ["panel", "state", "button"] (defScope s_press_button) := ⟨rfl, rfl, rfl, by decide +kernel, rfl, by decide +kernel, by decide +kernel⟩
theorem b_press_button (T : Txt K mg)  {f : Addr} {cdv : Value} {B : Around} {fr : List Env} {s : Shared} {H : Hp} {E : XK} (bd : Bd (cxOf (L2.CX P w) P w K mg base N_press_button "press_button" (defScope s_press_button) f cdv B fr s H E) (wE E) 6)
    (hp : PassesOwn (model P w) (B.deeper (envOfC "press_button" (defScope s_press_button) s.heap.objs.size f cdv)) (envOfC "press_button" (defScope s_press_button) s.heap.objs.size f cdv) (cxOf (L2.CX P w) P w K mg base N_press_button "press_button" (defScope s_press_button) f cdv B fr s H E).xe) :
    DSs (cxOf (L2.CX P w) P w K mg base N_press_button "press_button" (defScope s_press_button) f cdv B fr s H E) (wE E) (defBody s_press_button) m_press_button :=
  (dss_cons (ds_setLc (i := 3) (own := [("other", 4)]) true bd.calm bd.nd rfl rfl (sw_true rfl rfl rfl (by decide +kernel)) (di_seq (vr 1)) (blkOk_by (own := [("other", 4)]) (N := N_press_button) (sc := defScope s_press_button) (by decide +kernel)) (by decide) (fun _ _ _ _ _ => (gn 4 bd.blk)) (fun _ _ _ _ _ => (dts1 (dt_w (dw_and (dt_cmp (op_pNotIn bd.blk.u65) (vr 4) (de_idx (vr 0) (vr 2))) (dw_and1 (dt_cmp (op_pNe bd.blk.u64) (vr 4) (vr 2))))))) (fun _ _ _ _ _ => (vr 4)))
  (dss_one (ds_ret (de_bT call_pTuple (by rfl) T.m_tuple (by rfl) (da_cons (de_frz (dl_b (call_pSorted bd.calm bd.u70) (by rfl) T.m_sorted (by rfl) (da_cons (de_frz (dl_disp (da_star (vr 3) (da_cons (vr 2) da_nil)))) da_nil))) da_nil)))))
theorem g_press_button (T : Txt K mg)  {f : Addr} {fd : FuncData} (F : Fun K "press_button" "press_button" s_press_button f fd) : FnG P w K mg base 7 f fd ["panel", "state", "button"] (spD K 3 d_press_button) :=
  fnG_of F sc_press_button (by decide) fun _ _ _ _ _ _ bd hp => b_press_button T  bd hp
theorem sc_require_buttons : FnScope N_require_buttons ["panel", "buttons"] (defScope s_require_buttons) := ⟨rfl, rfl, rfl, by decide +kernel, rfl, by decide +kernel, by decide +kernel⟩
theorem b_require_buttons (T : Txt K mg) (C_is_within : FnC P w K mg base 7 "is_within" 3 d_is_within) {f : Addr} {cdv : Value} {B : Around} {fr : List Env} {s : Shared} {H : Hp} {E : XK} (bd : Bd (cxOf (L2.CX P w) P w K mg base N_require_buttons "require_buttons" (defScope s_require_buttons) f cdv B fr s H E) (wE E) 7)
    (hp : PassesOwn (model P w) (B.deeper (envOfC "require_buttons" (defScope s_require_buttons) s.heap.objs.size f cdv)) (envOfC "require_buttons" (defScope s_require_buttons) s.heap.objs.size f cdv) (cxOf (L2.CX P w) P w K mg base N_require_buttons "require_buttons" (defScope s_require_buttons) f cdv B fr s H E).xe) :
    DSs (cxOf (L2.CX P w) P w K mg base N_require_buttons "require_buttons" (defScope s_require_buttons) f cdv B fr s H E) (wE E) (defBody s_require_buttons) m_require_buttons :=
  (dss_one (ds_for hp bd.calm (di_seq (vr 1)) (gn 2 bd) (dss_one (ds_if (dt_not (dt_tru (de_call bd C_is_within (by decide) (by rfl) nn_is_within (da_cons (vr 2) (da_cons de_int (da_cons (de_bin op_pSub (de_b call_pLen (by rfl) T.m_len (by rfl) (da_cons (vr 0) da_nil)) de_int) da_nil)))))) (dss_one ds_never) dss_nil))))
theorem g_require_buttons (T : Txt K mg) (C_is_within : FnC P w K mg base 7 "is_within" 3 d_is_within) {f : Addr} {fd : FuncData} (F : Fun K "require_buttons" "require_buttons" s_require_buttons f fd) : FnBody P w K mg base 8 f fd (defBody s_require_buttons) ["panel", "buttons"] (spD K 2 d_require_buttons) :=
  fnBody_of F sc_require_buttons (by decide) fun _ _ _ _ _ _ bd hp => b_require_buttons T C_is_within bd hp
theorem sc_with_list : FnScope N_with_list ["panel", "button", "released"] (defScope s_with_list) := ⟨rfl, rfl, rfl, by decide +kernel, rfl, by decide +kernel, by decide +kernel⟩
theorem b_with_list (T : Txt K mg)  {f : Addr} {cdv : Value} {B : Around} {fr : List Env} {s : Shared} {H : Hp} {E : XK} (bd : Bd (cxOf (L2.CX P w) P w K mg base N_with_list "with_list" (defScope s_with_list) f cdv B fr s H E) (wE E) 6)
    (hp : PassesOwn (model P w) (B.deeper (envOfC "with_list" (defScope s_with_list) s.heap.objs.size f cdv)) (envOfC "with_list" (defScope s_with_list) s.heap.objs.size f cdv) (cxOf (L2.CX P w) P w K mg base N_with_list "with_list" (defScope s_with_list) f cdv B fr s H E).xe) :
    DSs (cxOf (L2.CX P w) P w K mg base N_with_list "with_list" (defScope s_with_list) f cdv B fr s H E) (wE E) (defBody s_with_list) m_with_list :=
  (dss_one (ds_ret (de_tup (da_star (de_slT (vr 0) do_none (do_some (vr 1))) (da_cons (de_bT call_pTuple (by rfl) T.m_tuple (by rfl) (da_cons (de_frz (dl_b (call_pSorted bd.calm bd.u70) (by rfl) T.m_sorted (by rfl) (da_cons (vr 2) da_nil))) da_nil)) (da_star (de_slT (vr 0) (do_some (de_bin op_pAdd (vr 1) de_int)) do_none) da_nil))))))
theorem g_with_list (T : Txt K mg)  {f : Addr} {fd : FuncData} (F : Fun K "with_list" "with_list" s_with_list f fd) : FnG P w K mg base 7 f fd ["panel", "button", "released"] (spD K 3 d_with_list) :=
  fnG_of F sc_with_list (by decide) fun _ _ _ _ _ _ bd hp => b_with_list T  bd hp
theorem sc_linked : FnScope N_linked ["panel", "one", "other"] (defScope s_linked) := ⟨rfl, rfl, rfl, by decide +kernel, rfl, by decide +kernel, by decide +kernel⟩
theorem b_linked (T : Txt K mg) (C_with_list : FnC P w K mg base 7 "with_list" 3 d_with_list) {f : Addr} {cdv : Value} {B : Around} {fr : List Env} {s : Shared} {H : Hp} {E : XK} (bd : Bd (cxOf (L2.CX P w) P w K mg base N_linked "linked" (defScope s_linked) f cdv B fr s H E) (wE E) 7)
    (hp : PassesOwn (model P w) (B.deeper (envOfC "linked" (defScope s_linked) s.heap.objs.size f cdv)) (envOfC "linked" (defScope s_linked) s.heap.objs.size f cdv) (cxOf (L2.CX P w) P w K mg base N_linked "linked" (defScope s_linked) f cdv B fr s H E).xe) :
    DSs (cxOf (L2.CX P w) P w K mg base N_linked "linked" (defScope s_linked) f cdv B fr s H E) (wE E) (defBody s_linked) m_linked :=
  (dss_one (ds_ret (de_call bd C_with_list (by decide) (by rfl) nn_with_list (da_cons (vr 0) (da_cons (vr 1) (da_cons (de_frz (dl_disp (da_star (de_frz (dl_lc (own := [("button", 3)]) bd.calm bd.nd (di_seq (de_idx (vr 0) (vr 1))) (blkOk_by (own := [("button", 3)]) (N := N_linked) (sc := defScope s_linked) (by decide +kernel)) (by decide) (fun _ _ _ _ _ => (gn 3 bd.blk)) (fun _ _ _ _ _ => (dts1 (dt_cmp (op_pNe bd.blk.u64) (vr 3) (vr 2)))) (fun _ _ _ _ _ => (vr 3)))) (da_cons (vr 2) da_nil)))) da_nil))))))
theorem g_linked (T : Txt K mg) (C_with_list : FnC P w K mg base 7 "with_list" 3 d_with_list) {f : Addr} {fd : FuncData} (F : Fun K "linked" "linked" s_linked f fd) : FnG P w K mg base 8 f fd ["panel", "one", "other"] (spD K 3 d_linked) :=
  fnG_of F sc_linked (by decide) fun _ _ _ _ _ _ bd hp => b_linked T C_with_list bd hp
theorem sc_unlinked : FnScope N_unlinked ["panel", "one", "other"] (defScope s_unlinked) := ⟨rfl, rfl, rfl, by decide +kernel, rfl, by decide +kernel, by decide +kernel⟩
theorem b_unlinked (T : Txt K mg) (C_with_list : FnC P w K mg base 7 "with_list" 3 d_with_list) {f : Addr} {cdv : Value} {B : Around} {fr : List Env} {s : Shared} {H : Hp} {E : XK} (bd : Bd (cxOf (L2.CX P w) P w K mg base N_unlinked "unlinked" (defScope s_unlinked) f cdv B fr s H E) (wE E) 7)
    (hp : PassesOwn (model P w) (B.deeper (envOfC "unlinked" (defScope s_unlinked) s.heap.objs.size f cdv)) (envOfC "unlinked" (defScope s_unlinked) s.heap.objs.size f cdv) (cxOf (L2.CX P w) P w K mg base N_unlinked "unlinked" (defScope s_unlinked) f cdv B fr s H E).xe) :
    DSs (cxOf (L2.CX P w) P w K mg base N_unlinked "unlinked" (defScope s_unlinked) f cdv B fr s H E) (wE E) (defBody s_unlinked) m_unlinked :=
  (dss_one (ds_ret (de_call bd C_with_list (by decide) (by rfl) nn_with_list (da_cons (vr 0) (da_cons (vr 1) (da_cons (de_frz (dl_lc (own := [("button", 3)]) bd.calm bd.nd (di_seq (de_idx (vr 0) (vr 1))) (blkOk_by (own := [("button", 3)]) (N := N_unlinked) (sc := defScope s_unlinked) (by decide +kernel)) (by decide) (fun _ _ _ _ _ => (gn 3 bd.blk)) (fun _ _ _ _ _ => (dts1 (dt_cmp (op_pNe bd.blk.u64) (vr 3) (vr 2)))) (fun _ _ _ _ _ => (vr 3)))) da_nil))))))
theorem g_unlinked (T : Txt K mg) (C_with_list : FnC P w K mg base 7 "with_list" 3 d_with_list) {f : Addr} {fd : FuncData} (F : Fun K "unlinked" "unlinked" s_unlinked f fd) : FnG P w K mg base 8 f fd ["panel", "one", "other"] (spD K 3 d_unlinked) :=
  fnG_of F sc_unlinked (by decide) fun _ _ _ _ _ _ bd hp => b_unlinked T C_with_list bd hp
theorem sc_changed : FnScope N_changed ["panel", "word", "one", "other"] (defScope s_changed) := ⟨rfl, rfl, rfl, by decide +kernel, rfl, by decide +kernel, by decide +kernel⟩
theorem b_changed (T : Txt K mg) (C_require_buttons : FnN P w K mg base 8 "require_buttons" (varN 1 d_require_buttons)) (C_linked : FnC P w K mg base 8 "linked" 3 d_linked) (C_unlinked : FnC P w K mg base 8 "unlinked" 3 d_unlinked) {f : Addr} {cdv : Value} {B : Around} {fr : List Env} {s : Shared} {H : Hp} {E : XK} (bd : Bd (cxOf (L2.CX P w) P w K mg base N_changed "changed" (defScope s_changed) f cdv B fr s H E) (wE E) 8)
    (hp : PassesOwn (model P w) (B.deeper (envOfC "changed" (defScope s_changed) s.heap.objs.size f cdv)) (envOfC "changed" (defScope s_changed) s.heap.objs.size f cdv) (cxOf (L2.CX P w) P w K mg base N_changed "changed" (defScope s_changed) f cdv B fr s H E).xe) :
    DSs (cxOf (L2.CX P w) P w K mg base N_changed "changed" (defScope s_changed) f cdv B fr s H E) (wE E) (defBody s_changed) m_changed :=
  (dss_cons (ds_expr (de_callE bd C_require_buttons (by decide) (by rfl) (da_cons (vr 0) (da_cons (vr 2) (da_cons (vr 3) da_nil)))))
  (dss_cons (ds_if (dt_cmp (op_pEq bd.u64) (vr 2) (vr 3)) (dss_one ds_never) dss_nil)
  (dss_cons (st 4 bd (de_if (dt_cmp (op_pEq bd.u64) (vr 1) de_str) (de_call bd C_linked (by decide) (by rfl) nn_linked (da_cons (vr 0) (da_cons (vr 2) (da_cons (vr 3) da_nil)))) (de_call bd C_unlinked (by decide) (by rfl) nn_unlinked (da_cons (vr 0) (da_cons (vr 2) (da_cons (vr 3) da_nil))))))
  (dss_cons (ds_if (dt_cmp (op_pEq bd.u64) (vr 4) (vr 0)) (dss_one (ds_raiseX bd.calm bd.tk T.r_NoChange (by rfl))) dss_nil)
  (dss_one (ds_ret (vr 4)))))))
theorem g_changed (T : Txt K mg) (C_require_buttons : FnN P w K mg base 8 "require_buttons" (varN 1 d_require_buttons)) (C_linked : FnC P w K mg base 8 "linked" 3 d_linked) (C_unlinked : FnC P w K mg base 8 "unlinked" 3 d_unlinked) {f : Addr} {fd : FuncData} (F : Fun K "changed" "changed" s_changed f fd) : FnG P w K mg base 9 f fd ["panel", "word", "one", "other"] (spD K 4 d_changed) :=
  fnG_of F sc_changed (by decide) fun _ _ _ _ _ _ bd hp => b_changed T C_require_buttons C_linked C_unlinked bd hp
theorem sc_Desk_state_after : FnScope N_Desk_state_after ["self", "edit"] (defScope s_Desk_state_after) := ⟨rfl, rfl, rfl, by decide +kernel, rfl, by decide +kernel, by decide +kernel⟩
theorem b_Desk_state_after (T : Txt K mg) (C_press_button : FnC P w K mg base 7 "press_button" 3 d_press_button) (C_require_buttons : FnN P w K mg base 8 "require_buttons" (varN 1 d_require_buttons)) (C_changed : FnC P w K mg base 9 "changed" 4 d_changed) {f : Addr} {cdv : Value} {B : Around} {fr : List Env} {s : Shared} {H : Hp} {E : XK} (bd : Bd (cxOf (L2.CX P w) P w K mg base N_Desk_state_after "Desk.state_after" (defScope s_Desk_state_after) f cdv B fr s H E) (wE E) 9)
    (hp : PassesOwn (model P w) (B.deeper (envOfC "Desk.state_after" (defScope s_Desk_state_after) s.heap.objs.size f cdv)) (envOfC "Desk.state_after" (defScope s_Desk_state_after) s.heap.objs.size f cdv) (cxOf (L2.CX P w) P w K mg base N_Desk_state_after "Desk.state_after" (defScope s_Desk_state_after) f cdv B fr s H E).xe) :
    DSs (cxOf (L2.CX P w) P w K mg base N_Desk_state_after "Desk.state_after" (defScope s_Desk_state_after) f cdv B fr s H E) (wE E) (defBody s_Desk_state_after) m_Desk_state_after :=
  (dss_cons (ds_asg (de_idx (de_fldA (al_cons (T.kl_Desk.f (by decide)) (al_cons (T.kl_GuessDesk.f (by decide)) al_nil)) (vr 0)) (de_neg de_int)) (dg_tup bd.calm (dgs_cons (gn 2 bd) (dgs_cons (gn 3 bd) dgs_nil))))
  (dss_cons (ds_asg (vr 1) (dg_star bd.calm (dgs_cons (gn 4 bd) (dgs_star (gn 5 bd)))))
  (dss_one (ds_match2 (vr 4) (dss_cons (ds_expr (de_callS bd C_require_buttons (by decide) (by rfl) (da_cons (vr 2) (da_star (vr 5) da_nil))))
    (dss_one (ds_ret (de_tup (da_cons (vr 2) (da_cons (de_callS bd (C_press_button.n nn_press_button) (by decide) (by rfl) (da_cons (vr 2) (da_cons (vr 3) (da_star (vr 5) da_nil)))) da_nil)))))) (dss_one (ds_ret (de_tup (da_cons (de_callS bd (C_changed.n nn_changed) (by decide) (by rfl) (da_cons (vr 2) (da_cons (vr 4) (da_star (vr 5) da_nil)))) (da_cons (vr 3) da_nil)))))))))
theorem g_Desk_state_after (T : Txt K mg) (C_press_button : FnC P w K mg base 7 "press_button" 3 d_press_button) (C_require_buttons : FnN P w K mg base 8 "require_buttons" (varN 1 d_require_buttons)) (C_changed : FnC P w K mg base 9 "changed" 4 d_changed) {f : Addr} {fd : FuncData} (F : Fun K "state_after" "Desk.state_after" s_Desk_state_after f fd) : FnG P w K mg base 10 f fd ["self", "edit"] (spD K 2 d_Desk_state_after) :=
  fnG_of F sc_Desk_state_after (by decide) fun _ _ _ _ _ _ bd hp => b_Desk_state_after T C_press_button C_require_buttons C_changed bd hp
theorem sc_Desk_perform : FnScope N_Desk_perform ["self", "edit"] (defScope s_Desk_perform) := ⟨rfl, rfl, rfl, by decide +kernel, rfl, by decide +kernel, by decide +kernel⟩
theorem b_Desk_perform (T : Txt K mg) (EM_Desk_state_after : EntM P w K mg base 10 "state_after" "Desk" d_Desk_state_after) (EM_GuessDesk_state_after : EntM P w K mg base 10 "state_after" "GuessDesk" d_Desk_state_after) {f : Addr} {cdv : Value} {B : Around} {fr : List Env} {s : Shared} {H : Hp} {E : XK} (bd : Bd (cxOf (L2.CX P w) P w K mg base N_Desk_perform "Desk.perform" (defScope s_Desk_perform) f cdv B fr s H E) (wE E) 10)
    (hp : PassesOwn (model P w) (B.deeper (envOfC "Desk.perform" (defScope s_Desk_perform) s.heap.objs.size f cdv)) (envOfC "Desk.perform" (defScope s_Desk_perform) s.heap.objs.size f cdv) (cxOf (L2.CX P w) P w K mg base N_Desk_perform "Desk.perform" (defScope s_Desk_perform) f cdv B fr s H E).xe) :
    DSs (cxOf (L2.CX P w) P w K mg base N_Desk_perform "Desk.perform" (defScope s_Desk_perform) f cdv B fr s H E) (wE E) (defBody s_Desk_perform) m_Desk_perform :=
  (dss_cons (ds_if (dt_cmp op_pGe (de_b call_pLen (by rfl) T.m_len (by rfl) (da_cons (de_fldA (al_cons (T.kl_Desk.f (by decide)) (al_cons (T.kl_GuessDesk.f (by decide)) al_nil)) (vr 0)) da_nil)) (de_gi (by rfl) T.g_MAX_EDITS)) (dss_one (ds_raiseX bd.calm bd.tk T.r_TooManyEdits (by rfl))) dss_nil)
  (dss_cons (ds_expr (de_m PySem.F.plainAttrs_list PySem.F.slot_list_append PySem.F.type_list_append mt_pAppend (de_fldA (al_cons (T.kl_Desk.f (by decide)) (al_cons (T.kl_GuessDesk.f (by decide)) al_nil)) (vr 0)) (da_cons (de_methA (k := 10) bd (ft_cons EM_Desk_state_after (by decide) (ft_cons EM_GuessDesk_state_after (by decide) ft_nil)) (by decide) (vr 0) (da_cons (vr 1) da_nil)) da_nil)))
  (dss_cons (ds_expr (de_m PySem.F.plainAttrs_list PySem.F.slot_list_append PySem.F.type_list_append mt_pAppend (de_fldA (al_cons (T.kl_Desk.f (by decide)) (al_cons (T.kl_GuessDesk.f (by decide)) al_nil)) (vr 0)) (da_cons (vr 1) da_nil)))
  (dss_one (ds_ret (de_b call_pLen (by rfl) T.m_len (by rfl) (da_cons (de_fldA (al_cons (T.kl_Desk.f (by decide)) (al_cons (T.kl_GuessDesk.f (by decide)) al_nil)) (vr 0)) da_nil)))))))
theorem g_Desk_perform (T : Txt K mg) (EM_Desk_state_after : EntM P w K mg base 10 "state_after" "Desk" d_Desk_state_after) (EM_GuessDesk_state_after : EntM P w K mg base 10 "state_after" "GuessDesk" d_Desk_state_after) {f : Addr} {fd : FuncData} (F : Fun K "perform" "Desk.perform" s_Desk_perform f fd) : FnG P w K mg base 11 f fd ["self", "edit"] (spD K 2 d_Desk_perform) :=
  fnG_of F sc_Desk_perform (by decide) fun _ _ _ _ _ _ bd hp => b_Desk_perform T EM_Desk_state_after EM_GuessDesk_state_after bd hp
theorem sc_Desk_press : FnScope N_Desk_press ["self", "button"] (defScope s_Desk_press) := ⟨rfl, rfl, rfl, by decide +kernel, rfl, by decide +kernel, by decide +kernel⟩
theorem b_Desk_press (T : Txt K mg) (EM_Desk_require_idle : EntM P w K mg base 7 "require_idle" "Desk" d_Desk_require_idle) (EM_GuessDesk_require_idle : EntM P w K mg base 7 "require_idle" "GuessDesk" d_Desk_require_idle) (EM_Desk_perform : EntM P w K mg base 11 "perform" "Desk" d_Desk_perform) (EM_GuessDesk_perform : EntM P w K mg base 11 "perform" "GuessDesk" d_Desk_perform) {f : Addr} {cdv : Value} {B : Around} {fr : List Env} {s : Shared} {H : Hp} {E : XK} (bd : Bd (cxOf (L2.CX P w) P w K mg base N_Desk_press "Desk.press" (defScope s_Desk_press) f cdv B fr s H E) (wE E) 11)
    (hp : PassesOwn (model P w) (B.deeper (envOfC "Desk.press" (defScope s_Desk_press) s.heap.objs.size f cdv)) (envOfC "Desk.press" (defScope s_Desk_press) s.heap.objs.size f cdv) (cxOf (L2.CX P w) P w K mg base N_Desk_press "Desk.press" (defScope s_Desk_press) f cdv B fr s H E).xe) :
    DSs (cxOf (L2.CX P w) P w K mg base N_Desk_press "Desk.press" (defScope s_Desk_press) f cdv B fr s H E) (wE E) (defBody s_Desk_press) m_Desk_press :=
  (dss_cons (ds_expr (de_methA0 (k := 7) bd (ft_cons EM_Desk_require_idle (by decide) (ft_cons EM_GuessDesk_require_idle (by decide) ft_nil)) (by decide) (vr 0)))
  (dss_one (ds_ret (de_methA (k := 11) bd (ft_cons EM_Desk_perform (by decide) (ft_cons EM_GuessDesk_perform (by decide) ft_nil)) (by decide) (vr 0) (da_cons (de_tup (da_cons de_str (da_cons (vr 1) da_nil))) da_nil)))))
theorem g_Desk_press (T : Txt K mg) (EM_Desk_require_idle : EntM P w K mg base 7 "require_idle" "Desk" d_Desk_require_idle) (EM_GuessDesk_require_idle : EntM P w K mg base 7 "require_idle" "GuessDesk" d_Desk_require_idle) (EM_Desk_perform : EntM P w K mg base 11 "perform" "Desk" d_Desk_perform) (EM_GuessDesk_perform : EntM P w K mg base 11 "perform" "GuessDesk" d_Desk_perform) {f : Addr} {fd : FuncData} (F : Fun K "press" "Desk.press" s_Desk_press f fd) : FnG P w K mg base 12 f fd ["self", "button"] (spD K 2 d_Desk_press) :=
  fnG_of F sc_Desk_press (by decide) fun _ _ _ _ _ _ bd hp => b_Desk_press T EM_Desk_require_idle EM_GuessDesk_require_idle EM_Desk_perform EM_GuessDesk_perform bd hp
theorem sc_Desk_link : FnScope N_Desk_link ["self", "one", "other"] (defScope s_Desk_link) := ⟨rfl, rfl, rfl, by decide +kernel, rfl, by decide +kernel, by decide +kernel⟩
theorem b_Desk_link (T : Txt K mg) (EM_Desk_require_idle : EntM P w K mg base 7 "require_idle" "Desk" d_Desk_require_idle) (EM_GuessDesk_require_idle : EntM P w K mg base 7 "require_idle" "GuessDesk" d_Desk_require_idle) (EM_Desk_perform : EntM P w K mg base 11 "perform" "Desk" d_Desk_perform) (EM_GuessDesk_perform : EntM P w K mg base 11 "perform" "GuessDesk" d_Desk_perform) {f : Addr} {cdv : Value} {B : Around} {fr : List Env} {s : Shared} {H : Hp} {E : XK} (bd : Bd (cxOf (L2.CX P w) P w K mg base N_Desk_link "Desk.link" (defScope s_Desk_link) f cdv B fr s H E) (wE E) 11)
    (hp : PassesOwn (model P w) (B.deeper (envOfC "Desk.link" (defScope s_Desk_link) s.heap.objs.size f cdv)) (envOfC "Desk.link" (defScope s_Desk_link) s.heap.objs.size f cdv) (cxOf (L2.CX P w) P w K mg base N_Desk_link "Desk.link" (defScope s_Desk_link) f cdv B fr s H E).xe) :
    DSs (cxOf (L2.CX P w) P w K mg base N_Desk_link "Desk.link" (defScope s_Desk_link) f cdv B fr s H E) (wE E) (defBody s_Desk_link) m_Desk_link :=
  (dss_cons (ds_expr (de_methA0 (k := 7) bd (ft_cons EM_Desk_require_idle (by decide) (ft_cons EM_GuessDesk_require_idle (by decide) ft_nil)) (by decide) (vr 0)))
  (dss_one (ds_ret (de_methA (k := 11) bd (ft_cons EM_Desk_perform (by decide) (ft_cons EM_GuessDesk_perform (by decide) ft_nil)) (by decide) (vr 0) (da_cons (de_tup (da_cons de_str (da_cons (vr 1) (da_cons (vr 2) da_nil)))) da_nil)))))
theorem g_Desk_link (T : Txt K mg) (EM_Desk_require_idle : EntM P w K mg base 7 "require_idle" "Desk" d_Desk_require_idle) (EM_GuessDesk_require_idle : EntM P w K mg base 7 "require_idle" "GuessDesk" d_Desk_require_idle) (EM_Desk_perform : EntM P w K mg base 11 "perform" "Desk" d_Desk_perform) (EM_GuessDesk_perform : EntM P w K mg base 11 "perform" "GuessDesk" d_Desk_perform) {f : Addr} {fd : FuncData} (F : Fun K "link" "Desk.link" s_Desk_link f fd) : FnG P w K mg base 12 f fd ["self", "one", "other"] (spD K 3 d_Desk_link) :=
  fnG_of F sc_Desk_link (by decide) fun _ _ _ _ _ _ bd hp => b_Desk_link T EM_Desk_require_idle EM_GuessDesk_require_idle EM_Desk_perform EM_GuessDesk_perform bd hp
theorem sc_Desk_unlink : FnScope N_Desk_unlink ["self", "one", "other"] (defScope s_Desk_unlink) := ⟨rfl, rfl, rfl, by decide +kernel, rfl, by decide +kernel, by decide +kernel⟩
theorem b_Desk_unlink (T : Txt K mg) (EM_Desk_require_idle : EntM P w K mg base 7 "require_idle" "Desk" d_Desk_require_idle) (EM_GuessDesk_require_idle : EntM P w K mg base 7 "require_idle" "GuessDesk" d_Desk_require_idle) (EM_Desk_perform : EntM P w K mg base 11 "perform" "Desk" d_Desk_perform) (EM_GuessDesk_perform : EntM P w K mg base 11 "perform" "GuessDesk" d_Desk_perform) {f : Addr} {cdv : Value} {B : Around} {fr : List Env} {s : Shared} {H : Hp} {E : XK} (bd : Bd (cxOf (L2.CX P w) P w K mg base N_Desk_unlink "Desk.unlink" (defScope s_Desk_unlink) f cdv B fr s H E) (wE E) 11)
    (hp : PassesOwn (model P w) (B.deeper (envOfC "Desk.unlink" (defScope s_Desk_unlink) s.heap.objs.size f cdv)) (envOfC "Desk.unlink" (defScope s_Desk_unlink) s.heap.objs.size f cdv) (cxOf (L2.CX P w) P w K mg base N_Desk_unlink "Desk.unlink" (defScope s_Desk_unlink) f cdv B fr s H E).xe) :
    DSs (cxOf (L2.CX P w) P w K mg base N_Desk_unlink "Desk.unlink" (defScope s_Desk_unlink) f cdv B fr s H E) (wE E) (defBody s_Desk_unlink) m_Desk_unlink :=
  (dss_cons (ds_expr (de_methA0 (k := 7) bd (ft_cons EM_Desk_require_idle (by decide) (ft_cons EM_GuessDesk_require_idle (by decide) ft_nil)) (by decide) (vr 0)))
  (dss_one (ds_ret (de_methA (k := 11) bd (ft_cons EM_Desk_perform (by decide) (ft_cons EM_GuessDesk_perform (by decide) ft_nil)) (by decide) (vr 0) (da_cons (de_tup (da_cons de_str (da_cons (vr 1) (da_cons (vr 2) da_nil)))) da_nil)))))
theorem g_Desk_unlink (T : Txt K mg) (EM_Desk_require_idle : EntM P w K mg base 7 "require_idle" "Desk" d_Desk_require_idle) (EM_GuessDesk_require_idle : EntM P w K mg base 7 "require_idle" "GuessDesk" d_Desk_require_idle) (EM_Desk_perform : EntM P w K mg base 11 "perform" "Desk" d_Desk_perform) (EM_GuessDesk_perform : EntM P w K mg base 11 "perform" "GuessDesk" d_Desk_perform) {f : Addr} {fd : FuncData} (F : Fun K "unlink" "Desk.unlink" s_Desk_unlink f fd) : FnG P w K mg base 12 f fd ["self", "one", "other"] (spD K 3 d_Desk_unlink) :=
  fnG_of F sc_Desk_unlink (by decide) fun _ _ _ _ _ _ bd hp => b_Desk_unlink T EM_Desk_require_idle EM_GuessDesk_require_idle EM_Desk_perform EM_GuessDesk_perform bd hp
theorem sc__law_do : FnScope N__law_do ["_law_table", "_law_edit_here"] (defScope s__law_do) := ⟨rfl, rfl, rfl, by decide +kernel, rfl, by decide +kernel, by decide +kernel⟩
theorem b__law_do (T : Txt K mg) (EM_GuessDesk_press : EntM P w K mg base 12 "press" "GuessDesk" d_Desk_press) (EM_GuessDesk_link : EntM P w K mg base 12 "link" "GuessDesk" d_Desk_link) (EM_GuessDesk_unlink : EntM P w K mg base 12 "unlink" "GuessDesk" d_Desk_unlink) {f : Addr} {cdv : Value} {B : Around} {fr : List Env} {s : Shared} {H : Hp} {E : XK} (bd : Bd (cxOf (L2.CX P w) P w K mg base N__law_do "_law_do" (defScope s__law_do) f cdv B fr s H E) (wE E) 12)
    (hp : PassesOwn (model P w) (B.deeper (envOfC "_law_do" (defScope s__law_do) s.heap.objs.size f cdv)) (envOfC "_law_do" (defScope s__law_do) s.heap.objs.size f cdv) (cxOf (L2.CX P w) P w K mg base N__law_do "_law_do" (defScope s__law_do) f cdv B fr s H E).xe) :
    DSs (cxOf (L2.CX P w) P w K mg base N__law_do "_law_do" (defScope s__law_do) f cdv B fr s H E) (wE E) (defBody s__law_do) m__law_do :=
  (dss_cons (ds_if (dt_cmp (op_pEq bd.u64) (de_idx (vr 1) de_int) de_str) (dss_one (ds_ret (de_methA (k := 12) bd (ft_cons EM_GuessDesk_press (by decide) ft_nil) (by decide) (vr 0) (da_cons (de_idx (vr 1) de_int) da_nil)))) dss_nil)
  (dss_cons (ds_if (dt_cmp (op_pEq bd.u64) (de_idx (vr 1) de_int) de_str) (dss_one (ds_ret (de_methA (k := 12) bd (ft_cons EM_GuessDesk_link (by decide) ft_nil) (by decide) (vr 0) (da_cons (de_idx (vr 1) de_int) (da_cons (de_idx (vr 1) de_int) da_nil))))) dss_nil)
  (dss_one (ds_ret (de_methA (k := 12) bd (ft_cons EM_GuessDesk_unlink (by decide) ft_nil) (by decide) (vr 0) (da_cons (de_idx (vr 1) de_int) (da_cons (de_idx (vr 1) de_int) da_nil)))))))
theorem g__law_do (T : Txt K mg) (EM_GuessDesk_press : EntM P w K mg base 12 "press" "GuessDesk" d_Desk_press) (EM_GuessDesk_link : EntM P w K mg base 12 "link" "GuessDesk" d_Desk_link) (EM_GuessDesk_unlink : EntM P w K mg base 12 "unlink" "GuessDesk" d_Desk_unlink) {f : Addr} {fd : FuncData} (F : Fun K "_law_do" "_law_do" s__law_do f fd) : FnG P w K mg base 13 f fd ["_law_table", "_law_edit_here"] (spD K 2 d__law_do) :=
  fnG_of F sc__law_do (by decide) fun _ _ _ _ _ _ bd hp => b__law_do T EM_GuessDesk_press EM_GuessDesk_link EM_GuessDesk_unlink bd hp
theorem sc__law_states : FnScope N__law_states ["_law_n"] (defScope s__law_states) := ⟨rfl, rfl, rfl, by decide +kernel, rfl, by decide +kernel, by decide +kernel⟩
theorem b__law_states (T : Txt K mg)  {f : Addr} {cdv : Value} {B : Around} {fr : List Env} {s : Shared} {H : Hp} {E : XK} (bd : Bd (cxOf (L2.CX P w) P w K mg base N__law_states "_law_states" (defScope s__law_states) f cdv B fr s H E) (wE E) 6)
    (hp : PassesOwn (model P w) (B.deeper (envOfC "_law_states" (defScope s__law_states) s.heap.objs.size f cdv)) (envOfC "_law_states" (defScope s__law_states) s.heap.objs.size f cdv) (cxOf (L2.CX P w) P w K mg base N__law_states "_law_states" (defScope s__law_states) f cdv B fr s H E).xe) :
    DSs (cxOf (L2.CX P w) P w K mg base N__law_states "_law_states" (defScope s__law_states) f cdv B fr s H E) (wE E) (defBody s__law_states) m__law_states :=
  (dss_cons (st 1 bd (de_frz (dl_disp (da_cons (de_tup da_nil) da_nil))))
  (dss_cons (ds_for hp bd.calm (di_range1 (by rfl) T.m_range (vr 0)) (gn 2 bd) (dss_one (st 1 bd (de_frz (dl_bin op_pCat (vr 1) (de_frz (dl_lc (own := [("_law_state", 3)]) bd.calm bd.nd (di_seq (vr 1)) (blkOk_by (own := [("_law_state", 3)]) (N := N__law_states) (sc := defScope s__law_states) (by decide +kernel)) (by decide) (fun _ _ _ _ _ => (gn 3 bd.blk)) (fun _ _ _ _ _ => dts_nil) (fun _ _ _ _ _ => (de_bin op_pAdd (vr 3) (de_tup (da_cons (vr 2) da_nil)))))))))))
  (dss_one (ds_ret (vr 1)))))
theorem g__law_states (T : Txt K mg)  {f : Addr} {fd : FuncData} (F : Fun K "_law_states" "_law_states" s__law_states f fd) : FnG P w K mg base 7 f fd ["_law_n"] (spD K 1 d__law_states) :=
  fnG_of F sc__law_states (by decide) fun _ _ _ _ _ _ bd hp => b__law_states T  bd hp
theorem sc_Desk_latched : FnScope N_Desk_latched ["self"] (defScope s_Desk_latched) := ⟨rfl, rfl, rfl, by decide +kernel, rfl, by decide +kernel, by decide +kernel⟩
theorem b_Desk_latched (T : Txt K mg)  {f : Addr} {cdv : Value} {B : Around} {fr : List Env} {s : Shared} {H : Hp} {E : XK} (bd : Bd (cxOf (L2.CX P w) P w K mg base N_Desk_latched "Desk.latched" (defScope s_Desk_latched) f cdv B fr s H E) (wE E) 6)
    (hp : PassesOwn (model P w) (B.deeper (envOfC "Desk.latched" (defScope s_Desk_latched) s.heap.objs.size f cdv)) (envOfC "Desk.latched" (defScope s_Desk_latched) s.heap.objs.size f cdv) (cxOf (L2.CX P w) P w K mg base N_Desk_latched "Desk.latched" (defScope s_Desk_latched) f cdv B fr s H E).xe) :
    DSs (cxOf (L2.CX P w) P w K mg base N_Desk_latched "Desk.latched" (defScope s_Desk_latched) f cdv B fr s H E) (wE E) (defBody s_Desk_latched) m_Desk_latched :=
  (dss_one (ds_ret (de_idx (de_idx (de_fldA (al_cons (T.kl_Desk.f (by decide)) (al_cons (T.kl_GuessDesk.f (by decide)) al_nil)) (vr 0)) (de_neg de_int)) de_int)))
theorem g_Desk_latched (T : Txt K mg)  {f : Addr} {fd : FuncData} (F : Fun K "latched" "Desk.latched" s_Desk_latched f fd) : FnG P w K mg base 7 f fd ["self"] (spD K 1 d_Desk_latched) :=
  fnG_of F sc_Desk_latched (by decide) fun _ _ _ _ _ _ bd hp => b_Desk_latched T  bd hp
theorem sc_Desk___eq__ : FnScope N_Desk___eq__ ["self", "other"] (defScope s_Desk___eq__) := ⟨rfl, rfl, rfl, by decide +kernel, rfl, by decide +kernel, by decide +kernel⟩
theorem b_Desk___eq__ (T : Txt K mg)  {f : Addr} {cdv : Value} {B : Around} {fr : List Env} {s : Shared} {H : Hp} {E : XK} (bd : Bd (cxOf (L2.CX P w) P w K mg base N_Desk___eq__ "Desk.__eq__" (defScope s_Desk___eq__) f cdv B fr s H E) (wE E) 6)
    (hp : PassesOwn (model P w) (B.deeper (envOfC "Desk.__eq__" (defScope s_Desk___eq__) s.heap.objs.size f cdv)) (envOfC "Desk.__eq__" (defScope s_Desk___eq__) s.heap.objs.size f cdv) (cxOf (L2.CX P w) P w K mg base N_Desk___eq__ "Desk.__eq__" (defScope s_Desk___eq__) f cdv B fr s H E).xe) :
    DSs (cxOf (L2.CX P w) P w K mg base N_Desk___eq__ "Desk.__eq__" (defScope s_Desk___eq__) f cdv B fr s H E) (wE E) (defBody s_Desk___eq__) m_Desk___eq__ :=
  (dss_one (ds_ret (de_and (de_isiO T.is_Desk_GuessDesk (by rfl) T.m_isinstance (by rfl) (vr 1)) (de_one (de_cmp (op_pEq bd.u64) (de_idx (de_fldA (al_cons (T.kl_Desk.f (by decide)) (al_cons (T.kl_GuessDesk.f (by decide)) al_nil)) (vr 0)) (de_neg de_int)) (de_idx (de_fldA (al_cons (T.kl_GuessDesk.f (by decide)) al_nil) (vr 1)) (de_neg de_int)))))))
theorem g_Desk___eq__ (T : Txt K mg)  {f : Addr} {fd : FuncData} (F : Fun K "__eq__" "Desk.__eq__" s_Desk___eq__ f fd) : FnG P w K mg base 7 f fd ["self", "other"] (spD K 2 d_Desk___eq__) :=
  fnG_of F sc_Desk___eq__ (by decide) fun _ _ _ _ _ _ bd hp => b_Desk___eq__ T  bd hp
theorem sc_known_after : FnScope N_known_after ["known", "panel", "button"] (defScope s_known_after) := ⟨rfl, rfl, rfl, by decide +kernel, rfl, by decide +kernel, by decide +kernel⟩
theorem b_known_after (T : Txt K mg)  {f : Addr} {cdv : Value} {B : Around} {fr : List Env} {s : Shared} {H : Hp} {E : XK} (bd : Bd (cxOf (L2.CX P w) P w K mg base N_known_after "known_after" (defScope s_known_after) f cdv B fr s H E) (wE E) 6)
    (hp : PassesOwn (model P w) (B.deeper (envOfC "known_after" (defScope s_known_after) s.heap.objs.size f cdv)) (envOfC "known_after" (defScope s_known_after) s.heap.objs.size f cdv) (cxOf (L2.CX P w) P w K mg base N_known_after "known_after" (defScope s_known_after) f cdv B fr s H E).xe) :
    DSs (cxOf (L2.CX P w) P w K mg base N_known_after "known_after" (defScope s_known_after) f cdv B fr s H E) (wE E) (defBody s_known_after) m_known_after :=
  (dss_one (ds_ret (de_bT call_pTuple (by rfl) T.m_tuple (by rfl) (da_cons (de_frz (dl_lc (own := [("at", 3), ("word", 4)]) bd.calm bd.nd (di_enum (by rfl) T.m_enumerate (vr 0)) (blkOk_by (own := [("at", 3), ("word", 4)]) (N := N_known_after) (sc := defScope s_known_after) (by decide +kernel)) (by decide) (fun _ _ _ _ _ => (dg_tup bd.blk.calm (dgs_cons (gn 3 bd.blk) (dgs_cons (gn 4 bd.blk) dgs_nil)))) (fun _ _ _ _ _ => dts_nil) (fun _ _ _ _ _ => (de_if (dt_cmp (op_pEq bd.blk.u64) (vr 3) (vr 2)) (de_gs (by rfl) T.g_ON) (de_if (dt_cmp (op_pIn bd.blk.u65) (vr 3) (de_idx (vr 1) (vr 2))) (de_gs (by rfl) T.g_OFF) (vr 4)))))) da_nil))))
theorem g_known_after (T : Txt K mg)  {f : Addr} {fd : FuncData} (F : Fun K "known_after" "known_after" s_known_after f fd) : FnG P w K mg base 7 f fd ["known", "panel", "button"] (spD K 3 d_known_after) :=
  fnG_of F sc_known_after (by decide) fun _ _ _ _ _ _ bd hp => b_known_after T  bd hp
theorem sc_GuessDesk_known : FnScope N_GuessDesk_known ["self"] (defScope s_GuessDesk_known) := ⟨rfl, rfl, rfl, by decide +kernel, rfl, by decide +kernel, by decide +kernel⟩
theorem b_GuessDesk_known (T : Txt K mg) (C_known_after : FnC P w K mg base 7 "known_after" 3 d_known_after) {f : Addr} {cdv : Value} {B : Around} {fr : List Env} {s : Shared} {H : Hp} {E : XK} (bd : Bd (cxOf (L2.CX P w) P w K mg base N_GuessDesk_known "GuessDesk.known" (defScope s_GuessDesk_known) f cdv B fr s H E) (wE E) 7)
    (hp : PassesOwn (model P w) (B.deeper (envOfC "GuessDesk.known" (defScope s_GuessDesk_known) s.heap.objs.size f cdv)) (envOfC "GuessDesk.known" (defScope s_GuessDesk_known) s.heap.objs.size f cdv) (cxOf (L2.CX P w) P w K mg base N_GuessDesk_known "GuessDesk.known" (defScope s_GuessDesk_known) f cdv B fr s H E).xe) :
    DSs (cxOf (L2.CX P w) P w K mg base N_GuessDesk_known "GuessDesk.known" (defScope s_GuessDesk_known) f cdv B fr s H E) (wE E) (defBody s_GuessDesk_known) m_GuessDesk_known :=
  (dss_cons (st 1 bd (de_fldA (al_cons (T.kl_GuessDesk.f (by decide)) al_nil) (vr 0)))
  (dss_cons (ds_for hp bd.calm (di_enum (by rfl) T.m_enumerate (de_fldA (al_cons (T.kl_GuessDesk.f (by decide)) al_nil) (vr 0))) (dg_tup bd.calm (dgs_cons (gn 2 bd) (dgs_cons (gn 3 bd) dgs_nil))) (dss_one (ds_if (dt_cmp (op_pEq bd.u64) (de_idx (vr 3) de_int) de_str) (dss_one (st 1 bd (de_call bd C_known_after (by decide) (by rfl) nn_known_after (da_cons (vr 1) (da_cons (de_idx (de_idx (de_fldA (al_cons (T.kl_GuessDesk.f (by decide)) al_nil) (vr 0)) (vr 2)) de_int) (da_cons (de_idx (vr 3) de_int) da_nil)))))) dss_nil)))
  (dss_one (ds_ret (vr 1)))))
theorem g_GuessDesk_known (T : Txt K mg) (C_known_after : FnC P w K mg base 7 "known_after" 3 d_known_after) {f : Addr} {fd : FuncData} (F : Fun K "known" "GuessDesk.known" s_GuessDesk_known f fd) : FnG P w K mg base 8 f fd ["self"] (spD K 1 d_GuessDesk_known) :=
  fnG_of F sc_GuessDesk_known (by decide) fun _ _ _ _ _ _ bd hp => b_GuessDesk_known T C_known_after bd hp
theorem sc__law_known_right : FnScope N__law_known_right ["_law_tables", "_law_firsts", "_law_n"] (defScope s__law_known_right) := ⟨rfl, rfl, rfl, by decide +kernel, rfl, by decide +kernel, by decide +kernel⟩
theorem b__law_known_right (T : Txt K mg) (EP_GuessDesk_latched : EntP P w K mg base 7 "latched" "GuessDesk" d_Desk_latched) (EM_GuessDesk___eq__ : EntM P w K mg base 7 "__eq__" "GuessDesk" d_Desk___eq__) (EP_GuessDesk_known : EntP P w K mg base 8 "known" "GuessDesk" d_GuessDesk_known) {f : Addr} {cdv : Value} {B : Around} {fr : List Env} {s : Shared} {H : Hp} {E : XK} (bd : Bd (cxOf (L2.CX P w) P w K mg base N__law_known_right "_law_known_right" (defScope s__law_known_right) f cdv B fr s H E) (wE E) 9)
    (hp : PassesOwn (model P w) (B.deeper (envOfC "_law_known_right" (defScope s__law_known_right) s.heap.objs.size f cdv)) (envOfC "_law_known_right" (defScope s__law_known_right) s.heap.objs.size f cdv) (cxOf (L2.CX P w) P w K mg base N__law_known_right "_law_known_right" (defScope s__law_known_right) f cdv B fr s H E).xe) :
    DSs (cxOf (L2.CX P w) P w K mg base N__law_known_right "_law_known_right" (defScope s__law_known_right) f cdv B fr s H E) (wE E) (defBody s__law_known_right) m__law_known_right :=
  (dss_cons (st 3 bd (de_propA (k := 8) bd (ftp_cons EP_GuessDesk_known (by decide) ftp_nil) (by decide) (de_idx (vr 0) de_int)))
  (dss_cons (ds_if (dt_cmp (op_pNeR bd.u64) (de_frz (dl_lc (own := [("_law_table", 4)]) bd.calm bd.nd (di_seq (vr 0)) (blkOk_by (own := [("_law_table", 4)]) (N := N__law_known_right) (sc := defScope s__law_known_right) (by decide +kernel)) (by decide) (fun _ _ _ _ _ => (gn 4 bd.blk)) (fun _ _ _ _ _ => (dts1 (dt_cmp (op_pNe bd.blk.u64) (de_propA (k := 8) bd.blk (ftp_cons EP_GuessDesk_known (by decide) ftp_nil) (by decide) (vr 4)) (vr 3)))) (fun _ _ _ _ _ => (vr 4)))) (de_frz (dl_disp da_nil))) (dss_one (ds_ret de_bl)) dss_nil)
  (dss_cons (ds_for hp bd.calm (di_range1 (by rfl) T.m_range (vr 2)) (gn 5 bd) (dss_cons (ds_setLc (i := 6) (own := [("_law_table", 4)]) true bd.calm bd.nd rfl rfl (sw_true rfl rfl rfl (by decide +kernel)) (di_seq (vr 0)) (blkOk_by (own := [("_law_table", 4)]) (N := N__law_known_right) (sc := defScope s__law_known_right) (by decide +kernel)) (by decide) (fun _ _ _ _ _ => (gn 4 bd.blk)) (fun _ _ _ _ _ => dts_nil) (fun _ _ _ _ _ => (de_cmp (op_pIn bd.blk.u65) (vr 5) (de_propA (k := 7) bd.blk (ftp_cons EP_GuessDesk_latched (by decide) ftp_nil) (by decide) (vr 4)))))
    (dss_cons (st 7 bd de_str)
    (dss_cons (ds_if (dt_cmp (op_pNotIn bd.u65) de_bl (vr 6)) (dss_one (st 7 bd de_str)) (dss_one (ds_if (dt_cmp (op_pNotIn bd.u65) de_bl (vr 6)) (dss_one (st 7 bd de_str)) (dss_one (ds_if (dt_cmp (op_pNe bd.u64) (vr 6) (de_frz (dl_lc (own := [("_law_first", 8)]) bd.calm bd.nd (di_seq (vr 1)) (blkOk_by (own := [("_law_first", 8)]) (N := N__law_known_right) (sc := defScope s__law_known_right) (by decide +kernel)) (by decide) (fun _ _ _ _ _ => (gn 8 bd.blk)) (fun _ _ _ _ _ => dts_nil) (fun _ _ _ _ _ => (de_cmp (op_pIn bd.blk.u65) (vr 5) (vr 8)))))) (dss_one (ds_ret de_bl)) dss_nil)))))
    (dss_one (ds_if (dt_cmp (op_pNe bd.u64) (de_idx (vr 3) (vr 5)) (vr 7)) (dss_one (ds_ret de_bl)) dss_nil))))))
  (dss_one (ds_ret (de_or (de_cmp (op_pIn bd.u65) de_str (vr 3)) (de_one (de_cmp (op_pEqE bd.u64) (de_frz (dl_lc (own := [("_law_table", 4)]) bd.calm bd.nd (di_seq (vr 0)) (blkOk_by (own := [("_law_table", 4)]) (N := N__law_known_right) (sc := defScope s__law_known_right) (by decide +kernel)) (by decide) (fun _ _ _ _ _ => (gn 4 bd.blk)) (fun _ _ _ _ _ => (dts1 (dt_not (dt_eqA (k := 7) bd.blk (ft_cons EM_GuessDesk___eq__ (by decide) ft_nil) (by decide) (cmpB_all (List.forall_mem_cons.mpr ⟨(List.forall_mem_cons.mpr ⟨cmpB_of T.cb_GuessDesk_GuessDesk (by first | rfl | decide), (List.forall_mem_nil _)⟩), (List.forall_mem_nil _)⟩)) (vr 4) (de_idx (vr 0) de_int))))) (fun _ _ _ _ _ => (vr 4)))) (de_frz (dl_disp da_nil))))))))))
theorem g__law_known_right (T : Txt K mg) (EP_GuessDesk_latched : EntP P w K mg base 7 "latched" "GuessDesk" d_Desk_latched) (EM_GuessDesk___eq__ : EntM P w K mg base 7 "__eq__" "GuessDesk" d_Desk___eq__) (EP_GuessDesk_known : EntP P w K mg base 8 "known" "GuessDesk" d_GuessDesk_known) {f : Addr} {fd : FuncData} (F : Fun K "_law_known_right" "_law_known_right" s__law_known_right f fd) : FnG P w K mg base 10 f fd ["_law_tables", "_law_firsts", "_law_n"] (spD K 3 d__law_known_right) :=
  fnG_of F sc__law_known_right (by decide) fun _ _ _ _ _ _ bd hp => b__law_known_right T EP_GuessDesk_latched EM_GuessDesk___eq__ EP_GuessDesk_known bd hp
theorem sc_law : FnScope N_law ["_law_script"] (defScope s_law) := ⟨rfl, rfl, rfl, by decide +kernel, rfl, by decide +kernel, by decide +kernel⟩
theorem b_law (T : Txt K mg) (EM_GuessDesk_undo : EntM P w K mg base 8 "undo" "GuessDesk" d_Desk_undo) (CI_GuessDesk : FnIE P w K mg base 12 "GuessDesk" d_GuessDesk___init__) (C__law_deck : FnC P w K mg base 7 "_law_deck" 1 d__law_deck) (C__law_draw : FnC P w K mg base 7 "_law_draw" 2 d__law_draw) (C__law_panel : FnC P w K mg base 8 "_law_panel" 2 d__law_panel) (C__law_after : FnC P w K mg base 8 "_law_after" 2 d__law_after) (C__law_edit : FnC P w K mg base 8 "_law_edit" 2 d__law_edit) (C__law_do : FnC P w K mg base 13 "_law_do" 2 d__law_do) (C__law_states : FnC P w K mg base 7 "_law_states" 1 d__law_states) (C__law_known_right : FnC P w K mg base 10 "_law_known_right" 3 d__law_known_right) {f : Addr} {cdv : Value} {B : Around} {fr : List Env} {s : Shared} {H : Hp} {E : XK} (bd : Bd (cxOf (L2.CX P w) P w K mg base N_law "law" (defScope s_law) f cdv B fr s H E) (wE E) 13)
    (hp : PassesOwn (model P w) (B.deeper (envOfC "law" (defScope s_law) s.heap.objs.size f cdv)) (envOfC "law" (defScope s_law) s.heap.objs.size f cdv) (cxOf (L2.CX P w) P w K mg base N_law "law" (defScope s_law) f cdv B fr s H E).xe) :
    DSs (cxOf (L2.CX P w) P w K mg base N_law "law" (defScope s_law) f cdv B fr s H E) (wE E) (defBody s_law) m_law :=
  (dss_cons (st 1 bd (de_call bd C__law_deck (by decide) (by rfl) nn__law_deck (da_cons (vr 0) da_nil)))
  (dss_cons (st 2 bd (de_call bd C__law_panel (by decide) (by rfl) nn__law_panel (da_cons (vr 1) (da_cons de_int da_nil))))
  (dss_cons (st 3 bd (de_b call_pLen (by rfl) T.m_len (by rfl) (da_cons (vr 2) da_nil)))
  (dss_cons (ds_asg (de_tup (da_cons (de_call bd C__law_states (by decide) (by rfl) nn__law_states (da_cons (vr 3) da_nil)) (da_cons (de_new (dl_disp (da_cons (de_frz (dl_disp (da_cons (vr 2) (da_cons (de_tup da_nil) da_nil)))) da_nil))) da_nil))) (dg_tup bd.calm (dgs_cons (gn 4 bd) (dgs_cons (gn 5 bd) dgs_nil))))
  (dss_cons (ds_setLc (i := 6) (own := [("_law_first", 7)]) true bd.calm bd.nd rfl rfl (sw_true rfl rfl rfl (by decide +kernel)) (di_seq (vr 4)) (blkOk_by (own := [("_law_first", 7)]) (N := N_law) (sc := defScope s_law) (by decide +kernel)) (by decide) (fun _ _ _ _ _ => (gn 7 bd.blk)) (fun _ _ _ _ _ => dts_nil) (fun _ _ _ _ _ => (de_mkM bd.blk CI_GuessDesk (by decide) (by rfl) (da_cons (vr 2) (da_cons (vr 7) da_nil)))))
  (dss_cons (ds_for hp bd.calm (di_range1 (by rfl) T.m_range (de_bin op_pAdd de_int (de_call bd C__law_draw (by decide) (by rfl) nn__law_draw (da_cons (vr 1) (da_cons de_int da_nil))))) (gn 8 bd) (dss_cons (ds_if (dt_w (dw_and (dt_cmp (op_pEq bd.u64) (de_call bd C__law_draw (by decide) (by rfl) nn__law_draw (da_cons (vr 1) (da_cons de_int da_nil))) de_int) (dw_and1 (dt_cmp op_pGt (de_b call_pLen (by rfl) T.m_len (by rfl) (da_cons (vr 5) da_nil)) de_int)))) (dss_cons (ds_expr (de_m0 PySem.F.plainAttrs_list PySem.F.slot_list_pop PySem.F.type_list_pop mt_pPop (vr 5)))
      (dss_one (ds_if (dt_cmp (op_pNeR bd.u64) (de_frz (dl_lc (own := [("_law_table", 9)]) bd.calm bd.nd (di_seq (vr 6)) (blkOk_by (own := [("_law_table", 9)]) (N := N_law) (sc := defScope s_law) (by decide +kernel)) (by decide) (fun _ _ _ _ _ => (gn 9 bd.blk)) (fun _ _ _ _ _ => (dts1 (dt_cmp (op_pNe bd.blk.u64) (de_methA0 (k := 8) bd.blk (ft_cons EM_GuessDesk_undo (by decide) ft_nil) (by decide) (vr 9)) (de_bin op_pSub (de_b call_pLen (by rfl) T.m_len (by rfl) (da_cons (vr 5) da_nil)) de_int)))) (fun _ _ _ _ _ => (vr 9)))) (de_frz (dl_disp da_nil))) (dss_one (ds_ret de_bl)) dss_nil))) (dss_cons (st 10 bd (de_call bd C__law_edit (by decide) (by rfl) nn__law_edit (da_cons (vr 1) (da_cons (de_idx (vr 5) (de_neg de_int)) da_nil))))
      (dss_cons (ds_expr (de_m PySem.F.plainAttrs_list PySem.F.slot_list_append PySem.F.type_list_append mt_pAppend (vr 5) (da_cons (de_call bd C__law_after (by decide) (by rfl) nn__law_after (da_cons (de_idx (vr 5) (de_neg de_int)) (da_cons (vr 10) da_nil))) da_nil)))
      (dss_one (ds_if (dt_cmp (op_pNeR bd.u64) (de_frz (dl_lc (own := [("_law_table", 9)]) bd.calm bd.nd (di_seq (vr 6)) (blkOk_by (own := [("_law_table", 9)]) (N := N_law) (sc := defScope s_law) (by decide +kernel)) (by decide) (fun _ _ _ _ _ => (gn 9 bd.blk)) (fun _ _ _ _ _ => (dts1 (dt_cmp (op_pNe bd.blk.u64) (de_call bd.blk C__law_do (by decide) (by rfl) nn__law_do (da_cons (vr 9) (da_cons (vr 10) da_nil))) (de_bin op_pSub (de_b call_pLen (by rfl) T.m_len (by rfl) (da_cons (vr 5) da_nil)) de_int)))) (fun _ _ _ _ _ => (vr 9)))) (de_frz (dl_disp da_nil))) (dss_one (ds_ret de_bl)) dss_nil)))))
    (dss_one (ds_if (dt_not (dt_tru (de_call bd C__law_known_right (by decide) (by rfl) nn__law_known_right (da_cons (vr 6) (da_cons (vr 4) (da_cons (vr 3) da_nil)))))) (dss_one (ds_ret de_bl)) dss_nil))))
  (dss_one (ds_ret de_bl))))))))
theorem g_law (T : Txt K mg) (EM_GuessDesk_undo : EntM P w K mg base 8 "undo" "GuessDesk" d_Desk_undo) (CI_GuessDesk : FnIE P w K mg base 12 "GuessDesk" d_GuessDesk___init__) (C__law_deck : FnC P w K mg base 7 "_law_deck" 1 d__law_deck) (C__law_draw : FnC P w K mg base 7 "_law_draw" 2 d__law_draw) (C__law_panel : FnC P w K mg base 8 "_law_panel" 2 d__law_panel) (C__law_after : FnC P w K mg base 8 "_law_after" 2 d__law_after) (C__law_edit : FnC P w K mg base 8 "_law_edit" 2 d__law_edit) (C__law_do : FnC P w K mg base 13 "_law_do" 2 d__law_do) (C__law_states : FnC P w K mg base 7 "_law_states" 1 d__law_states) (C__law_known_right : FnC P w K mg base 10 "_law_known_right" 3 d__law_known_right) {f : Addr} {fd : FuncData} (F : Fun K "law" "law" s_law f fd) : FnG P w K mg base 14 f fd ["_law_script"] (spD K 1 d_law) :=
  fnG_of F sc_law (by decide) fun _ _ _ _ _ _ bd hp => b_law T EM_GuessDesk_undo CI_GuessDesk C__law_deck C__law_draw C__law_panel C__law_after C__law_edit C__law_do C__law_states C__law_known_right bd hp
theorem all_mk {h : Heap} {f0 f1 f2 f3 f4 f5 f6 f7 f8 f9 f10 f11 f12 f13 f14 f15 f16 f17 f18 f19 f20 f21 f22 f23 f24 f25 f26 f27 f28 f29 f30 f31 f32 f33 f34 f35 f36 : Addr} (X : K.In h) (G : h.Ns mainGlobals mg) {fa : Addr} (hfa : mg "law" = some (.ref fa))
    {od0 an0 od1 an1 od2 an2 od3 an3 od4 an4 od5 an5 od6 an6 od7 an7 od8 an8 od9 an9 od10 an10 od11 an11 od12 an12 od13 an13 od14 an14 od15 an15 od16 an16 od17 an17 od18 an18 od19 an19 od20 an20 od21 an21 od22 an22 od23 an23 od24 an24 od25 an25 od26 an26 od27 an27 od28 an28 od29 an29 od30 an30 od31 an31 od32 an32 od33 an33 od34 an34 od35 an35 od36 an36 : Option Addr} {sl0 sl1 sl2 sl3 sl4 sl5 sl6 sl7 sl8 sl9 sl10 sl11 sl12 sl13 sl14 sl15 sl16 sl17 sl18 sl19 sl20 sl21 sl22 sl23 sl24 sl25 sl26 sl27 sl28 sl29 sl30 sl31 sl32 sl33 sl34 sl35 sl36 : Array (Option Value)} {oc0 kV0 dc0 pm0 cd0 ct0 oc1 kV1 dc1 pm1 cd1 ct1 oc2 kV2 dc2 pm2 cd2 ct2 oc3 kV3 dc3 pm3 cd3 ct3 oc4 kV4 dc4 pm4 cd4 ct4 oc5 kV5 dc5 pm5 cd5 ct5 oc6 kV6 dc6 pm6 cd6 ct6 oc7 kV7 dc7 pm7 cd7 ct7 oc8 kV8 dc8 pm8 cd8 ct8 oc9 kV9 dc9 pm9 cd9 ct9 oc10 kV10 dc10 pm10 ct10 oc11 kV11 dc11 pm11 cd11 ct11 oc12 kV12 dc12 pm12 cd12 ct12 oc13 kV13 dc13 pm13 cd13 ct13 oc14 kV14 dc14 pm14 cd14 ct14 oc15 kV15 dc15 pm15 cd15 ct15 oc16 kV16 dc16 pm16 cd16 ct16 oc17 kV17 dc17 pm17 cd17 ct17 oc18 kV18 dc18 pm18 cd18 ct18 oc19 kV19 dc19 pm19 cd19 ct19 oc20 kV20 dc20 pm20 cd20 ct20 oc21 kV21 dc21 pm21 cd21 ct21 oc22 kV22 dc22 pm22 cd22 ct22 oc23 kV23 dc23 pm23 cd23 ct23 oc24 kV24 dc24 pm24 cd24 ct24 oc25 kV25 dc25 pm25 cd25 ct25 oc26 kV26 dc26 pm26 cd26 ct26 oc27 kV27 dc27 pm27 cd27 ct27 oc28 kV28 dc28 pm28 cd28 ct28 oc29 kV29 dc29 pm29 cd29 ct29 oc30 kV30 dc30 pm30 cd30 ct30 oc31 kV31 dc31 pm31 cd31 ct31 oc32 kV32 dc32 pm32 cd32 ct32 oc33 kV33 dc33 pm33 cd33 ct33 oc34 kV34 dc34 pm34 cd34 ct34 oc35 kV35 dc35 pm35 cd35 ct35 oc36 kV36 dc36 pm36 cd36 ct36 : Value}
    {c_Desk c_Guess c_GuessDesk : Addr}
    (aC_Desk : PySem.W.nsIn K mainGlobals "Desk" = some (some (.ref c_Desk))) (pg_Desk : PySem.W.plainGet K c_Desk Str.empty = true) (hd_Desk : PySem.W.hasDictIn K c_Desk = true) (po_Desk : PySem.W.plainOver K c_Desk = true) (sa_Desk : PySem.W.findIn K (.ref c_Desk) "__setattr__" = some (some (.builtin "object.__setattr__"))) (mk_Desk : PySem.W.makesIn K c_Desk = true) (kc_Desk : PySem.W.keepIn K (.ref c_Desk) = true)
    (nf_Desk_states : PySem.W.findIn K (.ref c_Desk) "states" = some none) (nf_Desk_standing : PySem.W.findIn K (.ref c_Desk) "standing" = some none) (nf_Desk_watching : PySem.W.findIn K (.ref c_Desk) "watching" = some none)
    (aC_Guess : PySem.W.nsIn K mainGlobals "Guess" = some (some (.ref c_Guess))) (pg_Guess : PySem.W.plainGet K c_Guess Str.empty = true) (hd_Guess : PySem.W.hasDictIn K c_Guess = true) (po_Guess : PySem.W.plainOver K c_Guess = true) (sa_Guess : PySem.W.findIn K (.ref c_Guess) "__setattr__" = some (some (.builtin "object.__setattr__"))) (mk_Guess : PySem.W.makesIn K c_Guess = true) (kc_Guess : PySem.W.keepIn K (.ref c_Guess) = true)
    (nf_Guess_base : PySem.W.findIn K (.ref c_Guess) "base" = some none) (nf_Guess_told : PySem.W.findIn K (.ref c_Guess) "told" = some none)
    (aC_GuessDesk : PySem.W.nsIn K mainGlobals "GuessDesk" = some (some (.ref c_GuessDesk))) (pg_GuessDesk : PySem.W.plainGet K c_GuessDesk Str.empty = true) (hd_GuessDesk : PySem.W.hasDictIn K c_GuessDesk = true) (po_GuessDesk : PySem.W.plainOver K c_GuessDesk = true) (sa_GuessDesk : PySem.W.findIn K (.ref c_GuessDesk) "__setattr__" = some (some (.builtin "object.__setattr__"))) (mk_GuessDesk : PySem.W.makesIn K c_GuessDesk = true) (kc_GuessDesk : PySem.W.keepIn K (.ref c_GuessDesk) = true)
    (nf_GuessDesk_states : PySem.W.findIn K (.ref c_GuessDesk) "states" = some none) (nf_GuessDesk_standing : PySem.W.findIn K (.ref c_GuessDesk) "standing" = some none) (nf_GuessDesk_watching : PySem.W.findIn K (.ref c_GuessDesk) "watching" = some none) (nf_GuessDesk_base : PySem.W.findIn K (.ref c_GuessDesk) "base" = some none) (nf_GuessDesk_told : PySem.W.findIn K (.ref c_GuessDesk) "told" = some none)
    (rC_Guess : PySem.W.readsIn K c_Guess (.type "type") = true) (gC_Guess : PySem.W.specialIn K (.ref c_Guess) "__getattribute__" = some (some (.builtin "type.__getattribute__")))
    (fC_Guess___init__ : PySem.W.findCls K (.ref c_Guess) (.type "type") "__init__" = some (.val (.ref f9)))
    (sP : PySem.W.nsIn K cStatics "thirdparty.any" = some none) (sT : (P.main.scope.names.lookup ("super" : Str)).isSome = false)
    {cdS_10 ccS_10 : Addr} {cl_10 ccl_10 : Value} {cld_10 cdd_10 : Option Addr} {csl_10 ccs_10 : Array (Option Value)} {vs_10 : Array Value} {file_10 : Str} {tf_10 : Tok}
    (sC_10 : K.lookup ccS_10 = some ⟨cl_10, cld_10, .cell (some (.ref c_GuessDesk)), csl_10⟩) (sI_10 : PySem.W.isClsIn K c_GuessDesk = true) (sO_10 : PySem.W.mroIn K c_GuessDesk (.ref c_GuessDesk) = some true) (sK_10 : K.lookup cdS_10 = some ⟨ccl_10, cdd_10, .fields vs_10, ccs_10⟩) (sV_10 : vs_10[2]? = some (.str file_10 tf_10)) (sF_10 : ((P.main.file : Str) == file_10) = true)
    (sU_10 : PySem.W.ks_superIn K c_GuessDesk c_GuessDesk "__init__" = some (some (.ref f8))) (sY_10 : PySem.W.typeIn K (.ref f8) = some (.type "function")) (sN_10 : PySem.W.fnIn K f8 = true)
    (amI_GuessDesk : PySem.W.findIn K (.ref c_GuessDesk) "__init__" = some (some (.ref f10)))
    (amM_Desk_perform : PySem.W.findIn K (.ref c_Desk) "perform" = some (some (.ref f25)))
    (amM_Desk_require_idle : PySem.W.findIn K (.ref c_Desk) "require_idle" = some (some (.ref f0)))
    (amM_Desk_state_after : PySem.W.findIn K (.ref c_Desk) "state_after" = some (some (.ref f24)))
    (amM_GuessDesk___eq__ : PySem.W.findIn K (.ref c_GuessDesk) "__eq__" = some (some (.ref f32)))
    (amM_GuessDesk_link : PySem.W.findIn K (.ref c_GuessDesk) "link" = some (some (.ref f27)))
    (amM_GuessDesk_perform : PySem.W.findIn K (.ref c_GuessDesk) "perform" = some (some (.ref f25)))
    (amM_GuessDesk_press : PySem.W.findIn K (.ref c_GuessDesk) "press" = some (some (.ref f26)))
    (amM_GuessDesk_require_idle : PySem.W.findIn K (.ref c_GuessDesk) "require_idle" = some (some (.ref f0)))
    (amM_GuessDesk_state_after : PySem.W.findIn K (.ref c_GuessDesk) "state_after" = some (some (.ref f24)))
    (amM_GuessDesk_undo : PySem.W.findIn K (.ref c_GuessDesk) "undo" = some (some (.ref f1)))
    (amM_GuessDesk_unlink : PySem.W.findIn K (.ref c_GuessDesk) "unlink" = some (some (.ref f28)))
    {p_GuessDesk_known : Addr} {rs_GuessDesk_known : List Value} (ap_GuessDesk_known : PySem.W.findIn K (.ref c_GuessDesk) "known" = some (some (.ref p_GuessDesk_known))) (ag_GuessDesk_known : PySem.W.specialIn K (.ref p_GuessDesk_known) "__get__" = some (some (.builtin "property.__get__"))) (at_GuessDesk_known : PySem.W.takesIn K (.ref p_GuessDesk_known) = some true) (ar_GuessDesk_known : PySem.W.recIn K p_GuessDesk_known "property" = some (.ref f34 :: rs_GuessDesk_known))
    {p_GuessDesk_latched : Addr} {rs_GuessDesk_latched : List Value} (ap_GuessDesk_latched : PySem.W.findIn K (.ref c_GuessDesk) "latched" = some (some (.ref p_GuessDesk_latched))) (ag_GuessDesk_latched : PySem.W.specialIn K (.ref p_GuessDesk_latched) "__get__" = some (some (.builtin "property.__get__"))) (at_GuessDesk_latched : PySem.W.takesIn K (.ref p_GuessDesk_latched) = some true) (ar_GuessDesk_latched : PySem.W.recIn K p_GuessDesk_latched "property" = some (.ref f31 :: rs_GuessDesk_latched))
    (i0 : PySem.W.isFn K (.ref f0) = true) (l0 : K.lookup f0 = some ⟨oc0, od0, .func (PySem.W.fnOf "require_idle" "Desk.require_idle" (defArgs s_Desk_require_idle) (defBody s_Desk_require_idle) (defScope s_Desk_require_idle) .none kV0 dc0 pm0 an0 cd0 ct0), sl0⟩) (c0 : PySem.W.codeIn K cd0 "Desk.require_idle" = true) (k0 : PySem.W.keepIn K (.ref f0) = true)
    (i1 : PySem.W.isFn K (.ref f1) = true) (l1 : K.lookup f1 = some ⟨oc1, od1, .func (PySem.W.fnOf "undo" "Desk.undo" (defArgs s_Desk_undo) (defBody s_Desk_undo) (defScope s_Desk_undo) .none kV1 dc1 pm1 an1 cd1 ct1), sl1⟩) (c1 : PySem.W.codeIn K cd1 "Desk.undo" = true) (k1 : PySem.W.keepIn K (.ref f1) = true)
    (a2 : PySem.W.nsIn K mainGlobals "is_within" = some (some (.ref f2))) (l2 : K.lookup f2 = some ⟨oc2, od2, .func (PySem.W.fnOf "is_within" "is_within" (defArgs s_is_within) (defBody s_is_within) (defScope s_is_within) .none kV2 dc2 pm2 an2 cd2 ct2), sl2⟩) (c2 : PySem.W.codeIn K cd2 "is_within" = true) (k2 : PySem.W.keepIn K (.ref f2) = true)
    (a3 : PySem.W.nsIn K mainGlobals "is_state" = some (some (.ref f3))) (l3 : K.lookup f3 = some ⟨oc3, od3, .func (PySem.W.fnOf "is_state" "is_state" (defArgs s_is_state) (defBody s_is_state) (defScope s_is_state) .none kV3 dc3 pm3 an3 cd3 ct3), sl3⟩) (c3 : PySem.W.codeIn K cd3 "is_state" = true) (k3 : PySem.W.keepIn K (.ref f3) = true)
    (a4 : PySem.W.nsIn K mainGlobals "is_number" = some (some (.ref f4))) (l4 : K.lookup f4 = some ⟨oc4, od4, .func (PySem.W.fnOf "is_number" "is_number" (defArgs s_is_number) (defBody s_is_number) (defScope s_is_number) .none kV4 dc4 pm4 an4 cd4 ct4), sl4⟩) (c4 : PySem.W.codeIn K cd4 "is_number" = true) (k4 : PySem.W.keepIn K (.ref f4) = true)
    (a5 : PySem.W.nsIn K mainGlobals "are_buttons" = some (some (.ref f5))) (l5 : K.lookup f5 = some ⟨oc5, od5, .func (PySem.W.fnOf "are_buttons" "are_buttons" (defArgs s_are_buttons) (defBody s_are_buttons) (defScope s_are_buttons) .none kV5 dc5 pm5 an5 cd5 ct5), sl5⟩) (c5 : PySem.W.codeIn K cd5 "are_buttons" = true) (k5 : PySem.W.keepIn K (.ref f5) = true)
    (a6 : PySem.W.nsIn K mainGlobals "panel_error" = some (some (.ref f6))) (l6 : K.lookup f6 = some ⟨oc6, od6, .func (PySem.W.fnOf "panel_error" "panel_error" (defArgs s_panel_error) (defBody s_panel_error) (defScope s_panel_error) .none kV6 dc6 pm6 an6 cd6 ct6), sl6⟩) (c6 : PySem.W.codeIn K cd6 "panel_error" = true) (k6 : PySem.W.keepIn K (.ref f6) = true)
    (a7 : PySem.W.nsIn K mainGlobals "require_panel" = some (some (.ref f7))) (l7 : K.lookup f7 = some ⟨oc7, od7, .func (PySem.W.fnOf "require_panel" "require_panel" (defArgs s_require_panel) (defBody s_require_panel) (defScope s_require_panel) .none kV7 dc7 pm7 an7 cd7 ct7), sl7⟩) (c7 : PySem.W.codeIn K cd7 "require_panel" = true) (k7 : PySem.W.keepIn K (.ref f7) = true)
    (i8 : PySem.W.isFn K (.ref f8) = true) (l8 : K.lookup f8 = some ⟨oc8, od8, .func (PySem.W.fnOf "__init__" "Desk.__init__" (defArgs s_Desk___init__) (defBody s_Desk___init__) (defScope s_Desk___init__) .none kV8 dc8 pm8 an8 cd8 ct8), sl8⟩) (c8 : PySem.W.codeIn K cd8 "Desk.__init__" = true) (k8 : PySem.W.keepIn K (.ref f8) = true)
    (i9 : PySem.W.isFn K (.ref f9) = true) (l9 : K.lookup f9 = some ⟨oc9, od9, .func (PySem.W.fnOf "__init__" "Guess.__init__" (defArgs s_Guess___init__) (defBody s_Guess___init__) (defScope s_Guess___init__) .none kV9 dc9 pm9 an9 cd9 ct9), sl9⟩) (c9 : PySem.W.codeIn K cd9 "Guess.__init__" = true) (k9 : PySem.W.keepIn K (.ref f9) = true)
    (i10 : PySem.W.isFn K (.ref f10) = true) (l10 : K.lookup f10 = some ⟨oc10, od10, .func (PySem.W.ksFn "__init__" "GuessDesk.__init__" (defArgs s_GuessDesk___init__) (defBody s_GuessDesk___init__) (defScope s_GuessDesk___init__) .none kV10 dc10 pm10 an10 (.ref cdS_10) ct10 ccS_10), sl10⟩) (c10 : PySem.W.codeIn K (.ref cdS_10) "GuessDesk.__init__" = true) (k10 : PySem.W.keepIn K (.ref f10) = true)
    (a11 : PySem.W.nsIn K mainGlobals "_law_deck" = some (some (.ref f11))) (l11 : K.lookup f11 = some ⟨oc11, od11, .func (PySem.W.fnOf "_law_deck" "_law_deck" (defArgs s__law_deck) (defBody s__law_deck) (defScope s__law_deck) .none kV11 dc11 pm11 an11 cd11 ct11), sl11⟩) (c11 : PySem.W.codeIn K cd11 "_law_deck" = true) (k11 : PySem.W.keepIn K (.ref f11) = true)
    (a12 : PySem.W.nsIn K mainGlobals "_law_draw" = some (some (.ref f12))) (l12 : K.lookup f12 = some ⟨oc12, od12, .func (PySem.W.fnOf "_law_draw" "_law_draw" (defArgs s__law_draw) (defBody s__law_draw) (defScope s__law_draw) .none kV12 dc12 pm12 an12 cd12 ct12), sl12⟩) (c12 : PySem.W.codeIn K cd12 "_law_draw" = true) (k12 : PySem.W.keepIn K (.ref f12) = true)
    (a13 : PySem.W.nsIn K mainGlobals "_law_panel" = some (some (.ref f13))) (l13 : K.lookup f13 = some ⟨oc13, od13, .func (PySem.W.fnOf "_law_panel" "_law_panel" (defArgs s__law_panel) (defBody s__law_panel) (defScope s__law_panel) .none kV13 dc13 pm13 an13 cd13 ct13), sl13⟩) (c13 : PySem.W.codeIn K cd13 "_law_panel" = true) (k13 : PySem.W.keepIn K (.ref f13) = true)
    (a14 : PySem.W.nsIn K mainGlobals "_law_pressed" = some (some (.ref f14))) (l14 : K.lookup f14 = some ⟨oc14, od14, .func (PySem.W.fnOf "_law_pressed" "_law_pressed" (defArgs s__law_pressed) (defBody s__law_pressed) (defScope s__law_pressed) .none kV14 dc14 pm14 an14 cd14 ct14), sl14⟩) (c14 : PySem.W.codeIn K cd14 "_law_pressed" = true) (k14 : PySem.W.keepIn K (.ref f14) = true)
    (a15 : PySem.W.nsIn K mainGlobals "_law_changed" = some (some (.ref f15))) (l15 : K.lookup f15 = some ⟨oc15, od15, .func (PySem.W.fnOf "_law_changed" "_law_changed" (defArgs s__law_changed) (defBody s__law_changed) (defScope s__law_changed) .none kV15 dc15 pm15 an15 cd15 ct15), sl15⟩) (c15 : PySem.W.codeIn K cd15 "_law_changed" = true) (k15 : PySem.W.keepIn K (.ref f15) = true)
    (a16 : PySem.W.nsIn K mainGlobals "_law_after" = some (some (.ref f16))) (l16 : K.lookup f16 = some ⟨oc16, od16, .func (PySem.W.fnOf "_law_after" "_law_after" (defArgs s__law_after) (defBody s__law_after) (defScope s__law_after) .none kV16 dc16 pm16 an16 cd16 ct16), sl16⟩) (c16 : PySem.W.codeIn K cd16 "_law_after" = true) (k16 : PySem.W.keepIn K (.ref f16) = true)
    (a17 : PySem.W.nsIn K mainGlobals "_law_edit" = some (some (.ref f17))) (l17 : K.lookup f17 = some ⟨oc17, od17, .func (PySem.W.fnOf "_law_edit" "_law_edit" (defArgs s__law_edit) (defBody s__law_edit) (defScope s__law_edit) .none kV17 dc17 pm17 an17 cd17 ct17), sl17⟩) (c17 : PySem.W.codeIn K cd17 "_law_edit" = true) (k17 : PySem.W.keepIn K (.ref f17) = true)
    (a18 : PySem.W.nsIn K mainGlobals "press_button" = some (some (.ref f18))) (l18 : K.lookup f18 = some ⟨oc18, od18, .func (PySem.W.fnOf "press_button" "press_button" (defArgs s_press_button) (defBody s_press_button) (defScope s_press_button) .none kV18 dc18 pm18 an18 cd18 ct18), sl18⟩) (c18 : PySem.W.codeIn K cd18 "press_button" = true) (k18 : PySem.W.keepIn K (.ref f18) = true)
    (a19 : PySem.W.nsIn K mainGlobals "require_buttons" = some (some (.ref f19))) (l19 : K.lookup f19 = some ⟨oc19, od19, .func (PySem.W.fnOf "require_buttons" "require_buttons" (defArgs s_require_buttons) (defBody s_require_buttons) (defScope s_require_buttons) .none kV19 dc19 pm19 an19 cd19 ct19), sl19⟩) (c19 : PySem.W.codeIn K cd19 "require_buttons" = true) (k19 : PySem.W.keepIn K (.ref f19) = true)
    (a20 : PySem.W.nsIn K mainGlobals "with_list" = some (some (.ref f20))) (l20 : K.lookup f20 = some ⟨oc20, od20, .func (PySem.W.fnOf "with_list" "with_list" (defArgs s_with_list) (defBody s_with_list) (defScope s_with_list) .none kV20 dc20 pm20 an20 cd20 ct20), sl20⟩) (c20 : PySem.W.codeIn K cd20 "with_list" = true) (k20 : PySem.W.keepIn K (.ref f20) = true)
    (a21 : PySem.W.nsIn K mainGlobals "linked" = some (some (.ref f21))) (l21 : K.lookup f21 = some ⟨oc21, od21, .func (PySem.W.fnOf "linked" "linked" (defArgs s_linked) (defBody s_linked) (defScope s_linked) .none kV21 dc21 pm21 an21 cd21 ct21), sl21⟩) (c21 : PySem.W.codeIn K cd21 "linked" = true) (k21 : PySem.W.keepIn K (.ref f21) = true)
    (a22 : PySem.W.nsIn K mainGlobals "unlinked" = some (some (.ref f22))) (l22 : K.lookup f22 = some ⟨oc22, od22, .func (PySem.W.fnOf "unlinked" "unlinked" (defArgs s_unlinked) (defBody s_unlinked) (defScope s_unlinked) .none kV22 dc22 pm22 an22 cd22 ct22), sl22⟩) (c22 : PySem.W.codeIn K cd22 "unlinked" = true) (k22 : PySem.W.keepIn K (.ref f22) = true)
    (a23 : PySem.W.nsIn K mainGlobals "changed" = some (some (.ref f23))) (l23 : K.lookup f23 = some ⟨oc23, od23, .func (PySem.W.fnOf "changed" "changed" (defArgs s_changed) (defBody s_changed) (defScope s_changed) .none kV23 dc23 pm23 an23 cd23 ct23), sl23⟩) (c23 : PySem.W.codeIn K cd23 "changed" = true) (k23 : PySem.W.keepIn K (.ref f23) = true)
    (i24 : PySem.W.isFn K (.ref f24) = true) (l24 : K.lookup f24 = some ⟨oc24, od24, .func (PySem.W.fnOf "state_after" "Desk.state_after" (defArgs s_Desk_state_after) (defBody s_Desk_state_after) (defScope s_Desk_state_after) .none kV24 dc24 pm24 an24 cd24 ct24), sl24⟩) (c24 : PySem.W.codeIn K cd24 "Desk.state_after" = true) (k24 : PySem.W.keepIn K (.ref f24) = true)
    (i25 : PySem.W.isFn K (.ref f25) = true) (l25 : K.lookup f25 = some ⟨oc25, od25, .func (PySem.W.fnOf "perform" "Desk.perform" (defArgs s_Desk_perform) (defBody s_Desk_perform) (defScope s_Desk_perform) .none kV25 dc25 pm25 an25 cd25 ct25), sl25⟩) (c25 : PySem.W.codeIn K cd25 "Desk.perform" = true) (k25 : PySem.W.keepIn K (.ref f25) = true)
    (i26 : PySem.W.isFn K (.ref f26) = true) (l26 : K.lookup f26 = some ⟨oc26, od26, .func (PySem.W.fnOf "press" "Desk.press" (defArgs s_Desk_press) (defBody s_Desk_press) (defScope s_Desk_press) .none kV26 dc26 pm26 an26 cd26 ct26), sl26⟩) (c26 : PySem.W.codeIn K cd26 "Desk.press" = true) (k26 : PySem.W.keepIn K (.ref f26) = true)
    (i27 : PySem.W.isFn K (.ref f27) = true) (l27 : K.lookup f27 = some ⟨oc27, od27, .func (PySem.W.fnOf "link" "Desk.link" (defArgs s_Desk_link) (defBody s_Desk_link) (defScope s_Desk_link) .none kV27 dc27 pm27 an27 cd27 ct27), sl27⟩) (c27 : PySem.W.codeIn K cd27 "Desk.link" = true) (k27 : PySem.W.keepIn K (.ref f27) = true)
    (i28 : PySem.W.isFn K (.ref f28) = true) (l28 : K.lookup f28 = some ⟨oc28, od28, .func (PySem.W.fnOf "unlink" "Desk.unlink" (defArgs s_Desk_unlink) (defBody s_Desk_unlink) (defScope s_Desk_unlink) .none kV28 dc28 pm28 an28 cd28 ct28), sl28⟩) (c28 : PySem.W.codeIn K cd28 "Desk.unlink" = true) (k28 : PySem.W.keepIn K (.ref f28) = true)
    (a29 : PySem.W.nsIn K mainGlobals "_law_do" = some (some (.ref f29))) (l29 : K.lookup f29 = some ⟨oc29, od29, .func (PySem.W.fnOf "_law_do" "_law_do" (defArgs s__law_do) (defBody s__law_do) (defScope s__law_do) .none kV29 dc29 pm29 an29 cd29 ct29), sl29⟩) (c29 : PySem.W.codeIn K cd29 "_law_do" = true) (k29 : PySem.W.keepIn K (.ref f29) = true)
    (a30 : PySem.W.nsIn K mainGlobals "_law_states" = some (some (.ref f30))) (l30 : K.lookup f30 = some ⟨oc30, od30, .func (PySem.W.fnOf "_law_states" "_law_states" (defArgs s__law_states) (defBody s__law_states) (defScope s__law_states) .none kV30 dc30 pm30 an30 cd30 ct30), sl30⟩) (c30 : PySem.W.codeIn K cd30 "_law_states" = true) (k30 : PySem.W.keepIn K (.ref f30) = true)
    (i31 : PySem.W.isFn K (.ref f31) = true) (l31 : K.lookup f31 = some ⟨oc31, od31, .func (PySem.W.fnOf "latched" "Desk.latched" (defArgs s_Desk_latched) (defBody s_Desk_latched) (defScope s_Desk_latched) .none kV31 dc31 pm31 an31 cd31 ct31), sl31⟩) (c31 : PySem.W.codeIn K cd31 "Desk.latched" = true) (k31 : PySem.W.keepIn K (.ref f31) = true)
    (i32 : PySem.W.isFn K (.ref f32) = true) (l32 : K.lookup f32 = some ⟨oc32, od32, .func (PySem.W.fnOf "__eq__" "Desk.__eq__" (defArgs s_Desk___eq__) (defBody s_Desk___eq__) (defScope s_Desk___eq__) .none kV32 dc32 pm32 an32 cd32 ct32), sl32⟩) (c32 : PySem.W.codeIn K cd32 "Desk.__eq__" = true) (k32 : PySem.W.keepIn K (.ref f32) = true)
    (a33 : PySem.W.nsIn K mainGlobals "known_after" = some (some (.ref f33))) (l33 : K.lookup f33 = some ⟨oc33, od33, .func (PySem.W.fnOf "known_after" "known_after" (defArgs s_known_after) (defBody s_known_after) (defScope s_known_after) .none kV33 dc33 pm33 an33 cd33 ct33), sl33⟩) (c33 : PySem.W.codeIn K cd33 "known_after" = true) (k33 : PySem.W.keepIn K (.ref f33) = true)
    (i34 : PySem.W.isFn K (.ref f34) = true) (l34 : K.lookup f34 = some ⟨oc34, od34, .func (PySem.W.fnOf "known" "GuessDesk.known" (defArgs s_GuessDesk_known) (defBody s_GuessDesk_known) (defScope s_GuessDesk_known) .none kV34 dc34 pm34 an34 cd34 ct34), sl34⟩) (c34 : PySem.W.codeIn K cd34 "GuessDesk.known" = true) (k34 : PySem.W.keepIn K (.ref f34) = true)
    (a35 : PySem.W.nsIn K mainGlobals "_law_known_right" = some (some (.ref f35))) (l35 : K.lookup f35 = some ⟨oc35, od35, .func (PySem.W.fnOf "_law_known_right" "_law_known_right" (defArgs s__law_known_right) (defBody s__law_known_right) (defScope s__law_known_right) .none kV35 dc35 pm35 an35 cd35 ct35), sl35⟩) (c35 : PySem.W.codeIn K cd35 "_law_known_right" = true) (k35 : PySem.W.keepIn K (.ref f35) = true)
    (a36 : PySem.W.nsIn K mainGlobals "law" = some (some (.ref f36))) (l36 : K.lookup f36 = some ⟨oc36, od36, .func (PySem.W.fnOf "law" "law" (defArgs s_law) (defBody s_law) (defScope s_law) .none kV36 dc36 pm36 an36 cd36 ct36), sl36⟩) (c36 : PySem.W.codeIn K cd36 "law" = true) (k36 : PySem.W.keepIn K (.ref f36) = true)
    (z_abs : PySem.W.nsIn K mainGlobals "abs" = some none)
    (z_all : PySem.W.nsIn K mainGlobals "all" = some none)
    (z_bool : PySem.W.nsIn K mainGlobals "bool" = some none)
    (z_enumerate : PySem.W.nsIn K mainGlobals "enumerate" = some none)
    (z_int : PySem.W.nsIn K mainGlobals "int" = some none)
    (z_isinstance : PySem.W.nsIn K mainGlobals "isinstance" = some none)
    (z_len : PySem.W.nsIn K mainGlobals "len" = some none)
    (z_list : PySem.W.nsIn K mainGlobals "list" = some none)
    (z_min : PySem.W.nsIn K mainGlobals "min" = some none)
    (z_range : PySem.W.nsIn K mainGlobals "range" = some none)
    (z_sorted : PySem.W.nsIn K mainGlobals "sorted" = some none)
    (z_super : PySem.W.nsIn K mainGlobals "super" = some none)
    (z_tuple : PySem.W.nsIn K mainGlobals "tuple" = some none)
    (z_zip : PySem.W.nsIn K mainGlobals "zip" = some none)
    {c_Busy c_TooManyEdits c_NoChange c_NothingToUndo : Addr} (hn : PySem.W.specialIn K (.builtin "object.__class__") "__get__" = some (some (.builtin "getset_descriptor.__get__"))) (ht : PySem.W.takesIn K (.builtin "object.__class__") = some true)
    (ea_Busy : PySem.W.nsIn K mainGlobals "Busy" = some (some (.ref c_Busy))) (ek_Busy : PySem.W.keepIn K (.ref c_Busy) = true) (et_Busy : PySem.W.typeIn K (.ref c_Busy) = some (.type "type")) (eg_Busy : PySem.W.findIn K (.ref c_Busy) "__getattribute__" = some (some (.builtin "BaseException.__getattribute__"))) (eh_Busy : PySem.W.findIn K (.ref c_Busy) "__getattr__" = some none) (es_Busy : PySem.W.subIn K (.ref c_Busy) (.type "BaseException") = some true) (ed_Busy : PySem.W.hasDictIn K c_Busy = true) (ec_Busy : PySem.W.findIn K (.ref c_Busy) "__class__" = some (some (.builtin "object.__class__"))) (em_Busy : PySem.W.mroIn K c_Busy (.type "object") = some true)
    (ea_TooManyEdits : PySem.W.nsIn K mainGlobals "TooManyEdits" = some (some (.ref c_TooManyEdits))) (ek_TooManyEdits : PySem.W.keepIn K (.ref c_TooManyEdits) = true) (et_TooManyEdits : PySem.W.typeIn K (.ref c_TooManyEdits) = some (.type "type")) (eg_TooManyEdits : PySem.W.findIn K (.ref c_TooManyEdits) "__getattribute__" = some (some (.builtin "BaseException.__getattribute__"))) (eh_TooManyEdits : PySem.W.findIn K (.ref c_TooManyEdits) "__getattr__" = some none) (es_TooManyEdits : PySem.W.subIn K (.ref c_TooManyEdits) (.type "BaseException") = some true) (ed_TooManyEdits : PySem.W.hasDictIn K c_TooManyEdits = true) (ec_TooManyEdits : PySem.W.findIn K (.ref c_TooManyEdits) "__class__" = some (some (.builtin "object.__class__"))) (em_TooManyEdits : PySem.W.mroIn K c_TooManyEdits (.type "object") = some true)
    (ea_NoChange : PySem.W.nsIn K mainGlobals "NoChange" = some (some (.ref c_NoChange))) (ek_NoChange : PySem.W.keepIn K (.ref c_NoChange) = true) (et_NoChange : PySem.W.typeIn K (.ref c_NoChange) = some (.type "type")) (eg_NoChange : PySem.W.findIn K (.ref c_NoChange) "__getattribute__" = some (some (.builtin "BaseException.__getattribute__"))) (eh_NoChange : PySem.W.findIn K (.ref c_NoChange) "__getattr__" = some none) (es_NoChange : PySem.W.subIn K (.ref c_NoChange) (.type "BaseException") = some true) (ed_NoChange : PySem.W.hasDictIn K c_NoChange = true) (ec_NoChange : PySem.W.findIn K (.ref c_NoChange) "__class__" = some (some (.builtin "object.__class__"))) (em_NoChange : PySem.W.mroIn K c_NoChange (.type "object") = some true)
    (ea_NothingToUndo : PySem.W.nsIn K mainGlobals "NothingToUndo" = some (some (.ref c_NothingToUndo))) (ek_NothingToUndo : PySem.W.keepIn K (.ref c_NothingToUndo) = true) (et_NothingToUndo : PySem.W.typeIn K (.ref c_NothingToUndo) = some (.type "type")) (eg_NothingToUndo : PySem.W.findIn K (.ref c_NothingToUndo) "__getattribute__" = some (some (.builtin "BaseException.__getattribute__"))) (eh_NothingToUndo : PySem.W.findIn K (.ref c_NothingToUndo) "__getattr__" = some none) (es_NothingToUndo : PySem.W.subIn K (.ref c_NothingToUndo) (.type "BaseException") = some true) (ed_NothingToUndo : PySem.W.hasDictIn K c_NothingToUndo = true) (ec_NothingToUndo : PySem.W.findIn K (.ref c_NothingToUndo) "__class__" = some (some (.builtin "object.__class__"))) (em_NothingToUndo : PySem.W.mroIn K c_NothingToUndo (.type "object") = some true)
    (rx_Busy : PySem.W.excIn K c_Busy [.type "ValueError", .type "Exception", .type "BaseException", .type "object"] "ValueError.__new__" = true)
    (rx_NoChange : PySem.W.excIn K c_NoChange [.type "ValueError", .type "Exception", .type "BaseException", .type "object"] "ValueError.__new__" = true)
    (rx_NothingToUndo : PySem.W.excIn K c_NothingToUndo [.type "ValueError", .type "Exception", .type "BaseException", .type "object"] "ValueError.__new__" = true)
    (rx_TooManyEdits : PySem.W.excIn K c_TooManyEdits [.type "ValueError", .type "Exception", .type "BaseException", .type "object"] "ValueError.__new__" = true)
    (io_GuessDesk : PySem.W.findIn K (.ref c_GuessDesk) "__class__" = some (some (.builtin "object.__class__"))) (im_GuessDesk : PySem.W.mroIn K c_GuessDesk (.type "object") = some true)
    (iq_GuessDesk_Desk : PySem.W.kitOne K (.ref c_GuessDesk) (.ref c_Desk) = some true)
    (cy_GuessDesk_GuessDesk : PySem.W.notFirst K c_GuessDesk (.ref c_GuessDesk) = true)
    {t0 : Tok} (y_MAX_BUTTONS : PySem.W.nsIn K mainGlobals "MAX_BUTTONS" = some (some (.int 10 t0)))
    {t1 : Tok} (y_MAX_EDITS : PySem.W.nsIn K mainGlobals "MAX_EDITS" = some (some (.int 60 t1)))
    {t2 : Tok} (y_OFF : PySem.W.nsIn K mainGlobals "OFF" = some (some (.str ("off" : Str) t2)))
    {t3 : Tok} (y_ON : PySem.W.nsIn K mainGlobals "ON" = some (some (.str ("on" : Str) t3)))
    {t4 : Tok} (y_SAME : PySem.W.nsIn K mainGlobals "SAME" = some (some (.str ("same" : Str) t4)))
    : ∃ fd : FuncData, (∀ (s : Shared) (v : Value), BindsTo s fd ⟨[v], []⟩ [("_law_script", v)]) ∧ ∀ base : Heap, K.In base → base.Ns mainGlobals mg → FnG P w K mg base 14 fa fd ["_law_script"] (spD K 1 d_law) := by
  have e := hfa.symm.trans (PySem.W.mg_of X G a36)
  cases e
  have E_Busy : ErrX K mg "Busy" := ⟨c_Busy, ea_Busy, PySem.W.mg_of X G ea_Busy, ek_Busy, et_Busy, ⟨eg_Busy, eh_Busy, es_Busy, ed_Busy, ec_Busy, hn, ht, em_Busy⟩⟩
  have E_TooManyEdits : ErrX K mg "TooManyEdits" := ⟨c_TooManyEdits, ea_TooManyEdits, PySem.W.mg_of X G ea_TooManyEdits, ek_TooManyEdits, et_TooManyEdits, ⟨eg_TooManyEdits, eh_TooManyEdits, es_TooManyEdits, ed_TooManyEdits, ec_TooManyEdits, hn, ht, em_TooManyEdits⟩⟩
  have E_NoChange : ErrX K mg "NoChange" := ⟨c_NoChange, ea_NoChange, PySem.W.mg_of X G ea_NoChange, ek_NoChange, et_NoChange, ⟨eg_NoChange, eh_NoChange, es_NoChange, ed_NoChange, ec_NoChange, hn, ht, em_NoChange⟩⟩
  have E_NothingToUndo : ErrX K mg "NothingToUndo" := ⟨c_NothingToUndo, ea_NothingToUndo, PySem.W.mg_of X G ea_NothingToUndo, ek_NothingToUndo, et_NothingToUndo, ⟨eg_NothingToUndo, eh_NothingToUndo, es_NothingToUndo, ed_NothingToUndo, ec_NothingToUndo, hn, ht, em_NothingToUndo⟩⟩
  have T : Txt K mg := ⟨PySem.W.mg_none_of X G z_abs, PySem.W.mg_none_of X G z_all, PySem.W.mg_none_of X G z_bool, PySem.W.mg_none_of X G z_enumerate, PySem.W.mg_none_of X G z_int, PySem.W.mg_none_of X G z_isinstance, PySem.W.mg_none_of X G z_len, PySem.W.mg_none_of X G z_list, PySem.W.mg_none_of X G z_min, PySem.W.mg_none_of X G z_range, PySem.W.mg_none_of X G z_sorted, PySem.W.mg_none_of X G z_super, PySem.W.mg_none_of X G z_tuple, PySem.W.mg_none_of X G z_zip, E_Busy, E_TooManyEdits, E_NoChange, E_NothingToUndo, ⟨c_Desk, aC_Desk, PySem.W.mg_of X G aC_Desk, ⟨pg_Desk, hd_Desk, po_Desk, sa_Desk⟩, (List.forall_mem_cons.mpr ⟨nf_Desk_states, (List.forall_mem_cons.mpr ⟨nf_Desk_standing, (List.forall_mem_cons.mpr ⟨nf_Desk_watching, (fun _ h => nomatch h)⟩)⟩)⟩)⟩, ⟨c_Guess, aC_Guess, PySem.W.mg_of X G aC_Guess, ⟨pg_Guess, hd_Guess, po_Guess, sa_Guess⟩, (List.forall_mem_cons.mpr ⟨nf_Guess_base, (List.forall_mem_cons.mpr ⟨nf_Guess_told, (fun _ h => nomatch h)⟩)⟩)⟩, ⟨c_GuessDesk, aC_GuessDesk, PySem.W.mg_of X G aC_GuessDesk, ⟨pg_GuessDesk, hd_GuessDesk, po_GuessDesk, sa_GuessDesk⟩, (List.forall_mem_cons.mpr ⟨nf_GuessDesk_states, (List.forall_mem_cons.mpr ⟨nf_GuessDesk_standing, (List.forall_mem_cons.mpr ⟨nf_GuessDesk_watching, (List.forall_mem_cons.mpr ⟨nf_GuessDesk_base, (List.forall_mem_cons.mpr ⟨nf_GuessDesk_told, (fun _ h => nomatch h)⟩)⟩)⟩)⟩)⟩)⟩, ⟨c_Busy, ⟨ea_Busy, PySem.W.mg_of X G ea_Busy, ek_Busy, et_Busy, ⟨eg_Busy, eh_Busy, es_Busy, ed_Busy, ec_Busy, hn, ht, em_Busy⟩⟩, rx_Busy⟩, ⟨c_NoChange, ⟨ea_NoChange, PySem.W.mg_of X G ea_NoChange, ek_NoChange, et_NoChange, ⟨eg_NoChange, eh_NoChange, es_NoChange, ed_NoChange, ec_NoChange, hn, ht, em_NoChange⟩⟩, rx_NoChange⟩, ⟨c_NothingToUndo, ⟨ea_NothingToUndo, PySem.W.mg_of X G ea_NothingToUndo, ek_NothingToUndo, et_NothingToUndo, ⟨eg_NothingToUndo, eh_NothingToUndo, es_NothingToUndo, ed_NothingToUndo, ec_NothingToUndo, hn, ht, em_NothingToUndo⟩⟩, rx_NothingToUndo⟩, ⟨c_TooManyEdits, ⟨ea_TooManyEdits, PySem.W.mg_of X G ea_TooManyEdits, ek_TooManyEdits, et_TooManyEdits, ⟨eg_TooManyEdits, eh_TooManyEdits, es_TooManyEdits, ed_TooManyEdits, ec_TooManyEdits, hn, ht, em_TooManyEdits⟩⟩, rx_TooManyEdits⟩, ist_mk (PySem.W.mg_of X G aC_Desk) (List.forall_mem_cons.mpr ⟨⟨c_GuessDesk, aC_GuessDesk, ⟨pg_GuessDesk, hd_GuessDesk, po_GuessDesk, sa_GuessDesk⟩, io_GuessDesk, hn, ht, im_GuessDesk, iq_GuessDesk_Desk⟩, (List.forall_mem_nil _)⟩), cmpB_f aC_GuessDesk aC_GuessDesk cy_GuessDesk_GuessDesk, ⟨_, PySem.W.mg_of X G y_MAX_BUTTONS⟩, ⟨_, PySem.W.mg_of X G y_MAX_EDITS⟩, ⟨_, PySem.W.mg_of X G y_OFF⟩, ⟨_, PySem.W.mg_of X G y_ON⟩, ⟨_, PySem.W.mg_of X G y_SAME⟩⟩
  have F0 := fun_mk (st := s_Desk_require_idle) l0 c0 k0
  have b0 := F0.binds (ps := ["self"]) fun _ _ _ _ _ _ us hl => match us, hl with | [_], _ => rfl
  have F1 := fun_mk (st := s_Desk_undo) l1 c1 k1
  have b1 := F1.binds (ps := ["self"]) fun _ _ _ _ _ _ us hl => match us, hl with | [_], _ => rfl
  have F2 := fun_mk (st := s_is_within) l2 c2 k2
  have b2 := F2.binds (ps := ["value", "low", "high"]) fun _ _ _ _ _ _ us hl => match us, hl with | [_, _, _], _ => rfl
  have F3 := fun_mk (st := s_is_state) l3 c3 k3
  have b3 := F3.binds (ps := ["panel", "value"]) fun _ _ _ _ _ _ us hl => match us, hl with | [_, _], _ => rfl
  have F4 := fun_mk (st := s_is_number) l4 c4 k4
  have b4 := F4.binds (ps := ["value", "low", "high"]) fun _ _ _ _ _ _ us hl => match us, hl with | [_, _, _], _ => rfl
  have F5 := fun_mk (st := s_are_buttons) l5 c5 k5
  have b5 := F5.binds (ps := ["count", "value"]) fun _ _ _ _ _ _ us hl => match us, hl with | [_, _], _ => rfl
  have F6 := fun_mk (st := s_panel_error) l6 c6 k6
  have b6 := F6.binds (ps := ["value"]) fun _ _ _ _ _ _ us hl => match us, hl with | [_], _ => rfl
  have F7 := fun_mk (st := s_require_panel) l7 c7 k7
  have b7 := F7.binds (ps := ["panel"]) fun _ _ _ _ _ _ us hl => match us, hl with | [_], _ => rfl
  have F8 := fun_mk (st := s_Desk___init__) l8 c8 k8
  have b8 := F8.binds (ps := ["self", "panel", "state"]) fun _ _ _ _ _ _ us hl => match us, hl with | [_, _, _], _ => rfl
  have F9 := fun_mk (st := s_Guess___init__) l9 c9 k9
  have b9 := F9.binds (ps := ["self", "panel"]) fun _ _ _ _ _ _ us hl => match us, hl with | [_, _], _ => rfl
  have F10 : FunS K "__init__" "GuessDesk.__init__" s_GuessDesk___init__ f10 _ cdS_10 ccS_10 := ⟨⟨_, _, _, _, _, _, _, _, rfl, l10, c10⟩⟩
  have Z10 : SupK P K mg "GuessDesk" cdS_10 ccS_10 c_GuessDesk f8 := ⟨⟨_, _, _, sC_10⟩, Option.isSome_iff_exists.mp sI_10, aC_GuessDesk, sO_10, PySem.W.mg_none_of X G z_super, ⟨_, _, _, _, _, _, sK_10, sV_10, sF_10⟩, sT, sU_10, sY_10, sN_10, sP⟩
  have b10 : Binds K (PySem.W.ksFn "__init__" "GuessDesk.__init__" (defArgs s_GuessDesk___init__) (defBody s_GuessDesk___init__) (defScope s_GuessDesk___init__) .none kV10 dc10 pm10 an10 (.ref cdS_10) ct10 ccS_10) ["self", "panel", "state"] [] := .all fun us hl => match us, hl with | [_, _, _], _ => rfl
  have F11 := fun_mk (st := s__law_deck) l11 c11 k11
  have b11 := F11.binds (ps := ["_law_script"]) fun _ _ _ _ _ _ us hl => match us, hl with | [_], _ => rfl
  have F12 := fun_mk (st := s__law_draw) l12 c12 k12
  have b12 := F12.binds (ps := ["_law_deck_here", "_law_many"]) fun _ _ _ _ _ _ us hl => match us, hl with | [_, _], _ => rfl
  have F13 := fun_mk (st := s__law_panel) l13 c13 k13
  have b13 := F13.binds (ps := ["_law_deck_here", "_law_most"]) fun _ _ _ _ _ _ us hl => match us, hl with | [_, _], _ => rfl
  have F14 := fun_mk (st := s__law_pressed) l14 c14 k14
  have b14 := F14.binds (ps := ["_law_panel_here", "_law_state", "_law_button"]) fun _ _ _ _ _ _ us hl => match us, hl with | [_, _, _], _ => rfl
  have F15 := fun_mk (st := s__law_changed) l15 c15 k15
  have b15 := F15.binds (ps := ["_law_panel_here", "_law_one", "_law_other", "_law_is_link"]) fun _ _ _ _ _ _ us hl => match us, hl with | [_, _, _, _], _ => rfl
  have F16 := fun_mk (st := s__law_after) l16 c16 k16
  have b16 := F16.binds (ps := ["_law_state", "_law_edit_here"]) fun _ _ _ _ _ _ us hl => match us, hl with | [_, _], _ => rfl
  have F17 := fun_mk (st := s__law_edit) l17 c17 k17
  have b17 := F17.binds (ps := ["_law_deck_here", "_law_state"]) fun _ _ _ _ _ _ us hl => match us, hl with | [_, _], _ => rfl
  have F18 := fun_mk (st := s_press_button) l18 c18 k18
  have b18 := F18.binds (ps := ["panel", "state", "button"]) fun _ _ _ _ _ _ us hl => match us, hl with | [_, _, _], _ => rfl
  have F19 := fun_mk (st := s_require_buttons) l19 c19 k19
  have b19 : ∀ us rest : List Value, us.length = 1 → bindArgs (PySem.W.fnOf "require_buttons" "require_buttons" (defArgs s_require_buttons) (defBody s_require_buttons) (defScope s_require_buttons) .none kV19 dc19 pm19 an19 cd19 ct19) ⟨us ++ rest, []⟩ = (newTuple rest >>= fun t => pure ([("panel" : Str)].zip us ++ [(("buttons" : Str), t)])) := fun us rest hl => match us, hl with | [_], _ => by cases rest <;> rfl
  have F20 := fun_mk (st := s_with_list) l20 c20 k20
  have b20 := F20.binds (ps := ["panel", "button", "released"]) fun _ _ _ _ _ _ us hl => match us, hl with | [_, _, _], _ => rfl
  have F21 := fun_mk (st := s_linked) l21 c21 k21
  have b21 := F21.binds (ps := ["panel", "one", "other"]) fun _ _ _ _ _ _ us hl => match us, hl with | [_, _, _], _ => rfl
  have F22 := fun_mk (st := s_unlinked) l22 c22 k22
  have b22 := F22.binds (ps := ["panel", "one", "other"]) fun _ _ _ _ _ _ us hl => match us, hl with | [_, _, _], _ => rfl
  have F23 := fun_mk (st := s_changed) l23 c23 k23
  have b23 := F23.binds (ps := ["panel", "word", "one", "other"]) fun _ _ _ _ _ _ us hl => match us, hl with | [_, _, _, _], _ => rfl
  have F24 := fun_mk (st := s_Desk_state_after) l24 c24 k24
  have b24 := F24.binds (ps := ["self", "edit"]) fun _ _ _ _ _ _ us hl => match us, hl with | [_, _], _ => rfl
  have F25 := fun_mk (st := s_Desk_perform) l25 c25 k25
  have b25 := F25.binds (ps := ["self", "edit"]) fun _ _ _ _ _ _ us hl => match us, hl with | [_, _], _ => rfl
  have F26 := fun_mk (st := s_Desk_press) l26 c26 k26
  have b26 := F26.binds (ps := ["self", "button"]) fun _ _ _ _ _ _ us hl => match us, hl with | [_, _], _ => rfl
  have F27 := fun_mk (st := s_Desk_link) l27 c27 k27
  have b27 := F27.binds (ps := ["self", "one", "other"]) fun _ _ _ _ _ _ us hl => match us, hl with | [_, _, _], _ => rfl
  have F28 := fun_mk (st := s_Desk_unlink) l28 c28 k28
  have b28 := F28.binds (ps := ["self", "one", "other"]) fun _ _ _ _ _ _ us hl => match us, hl with | [_, _, _], _ => rfl
  have F29 := fun_mk (st := s__law_do) l29 c29 k29
  have b29 := F29.binds (ps := ["_law_table", "_law_edit_here"]) fun _ _ _ _ _ _ us hl => match us, hl with | [_, _], _ => rfl
  have F30 := fun_mk (st := s__law_states) l30 c30 k30
  have b30 := F30.binds (ps := ["_law_n"]) fun _ _ _ _ _ _ us hl => match us, hl with | [_], _ => rfl
  have F31 := fun_mk (st := s_Desk_latched) l31 c31 k31
  have b31 := F31.binds (ps := ["self"]) fun _ _ _ _ _ _ us hl => match us, hl with | [_], _ => rfl
  have F32 := fun_mk (st := s_Desk___eq__) l32 c32 k32
  have b32 := F32.binds (ps := ["self", "other"]) fun _ _ _ _ _ _ us hl => match us, hl with | [_, _], _ => rfl
  have F33 := fun_mk (st := s_known_after) l33 c33 k33
  have b33 := F33.binds (ps := ["known", "panel", "button"]) fun _ _ _ _ _ _ us hl => match us, hl with | [_, _, _], _ => rfl
  have F34 := fun_mk (st := s_GuessDesk_known) l34 c34 k34
  have b34 := F34.binds (ps := ["self"]) fun _ _ _ _ _ _ us hl => match us, hl with | [_], _ => rfl
  have F35 := fun_mk (st := s__law_known_right) l35 c35 k35
  have b35 := F35.binds (ps := ["_law_tables", "_law_firsts", "_law_n"]) fun _ _ _ _ _ _ us hl => match us, hl with | [_, _, _], _ => rfl
  have F36 := fun_mk (st := s_law) l36 c36 k36
  refine ⟨PySem.W.fnOf "law" "law" (defArgs s_law) (defBody s_law) (defScope s_law) .none kV36 dc36 pm36 an36 cd36 ct36, fun s v => .of_eq rfl, fun base _ _ => ?_⟩
  have G_Desk_require_idle : FnG P w K mg base 7 f0 _ ["self"] (spD K 1 d_Desk_require_idle) := g_Desk_require_idle T  F0
  have EM_Desk_require_idle : EntM P w K mg base 7 "require_idle" "Desk" d_Desk_require_idle := ⟨_, _, aC_Desk, ⟨pg_Desk, hd_Desk, po_Desk, sa_Desk⟩, ⟨amM_Desk_require_idle, i0, k0⟩, runE_of G_Desk_require_idle nn_Desk_require_idle b0⟩
  have EM_GuessDesk_require_idle : EntM P w K mg base 7 "require_idle" "GuessDesk" d_Desk_require_idle := ⟨_, _, aC_GuessDesk, ⟨pg_GuessDesk, hd_GuessDesk, po_GuessDesk, sa_GuessDesk⟩, ⟨amM_GuessDesk_require_idle, i0, k0⟩, runE_of G_Desk_require_idle nn_Desk_require_idle b0⟩
  have G_Desk_undo : FnG P w K mg base 8 f1 _ ["self"] (spD K 1 d_Desk_undo) := g_Desk_undo T EM_Desk_require_idle EM_GuessDesk_require_idle F1
  have EM_GuessDesk_undo : EntM P w K mg base 8 "undo" "GuessDesk" d_Desk_undo := ⟨_, _, aC_GuessDesk, ⟨pg_GuessDesk, hd_GuessDesk, po_GuessDesk, sa_GuessDesk⟩, ⟨amM_GuessDesk_undo, i1, k1⟩, runE_of G_Desk_undo nn_Desk_undo b1⟩
  have C_is_within : FnC P w K mg base 7 "is_within" 3 d_is_within := ⟨_, _, _, g_is_within T  F2, PySem.W.mg_of X G a2, k2, b2⟩
  have C_is_state : FnC P w K mg base 8 "is_state" 2 d_is_state := ⟨_, _, _, g_is_state T C_is_within F3, PySem.W.mg_of X G a3, k3, b3⟩
  have C_is_number : FnC P w K mg base 7 "is_number" 3 d_is_number := ⟨_, _, _, g_is_number T  F4, PySem.W.mg_of X G a4, k4, b4⟩
  have C_are_buttons : FnC P w K mg base 8 "are_buttons" 2 d_are_buttons := ⟨_, _, _, g_are_buttons T C_is_number F5, PySem.W.mg_of X G a5, k5, b5⟩
  have C_panel_error : FnC P w K mg base 9 "panel_error" 1 d_panel_error := ⟨_, _, _, g_panel_error T C_are_buttons F6, PySem.W.mg_of X G a6, k6, b6⟩
  have C_require_panel : FnC P w K mg base 10 "require_panel" 1 d_require_panel := ⟨_, _, _, g_require_panel T C_panel_error F7, PySem.W.mg_of X G a7, k7, b7⟩
  have G_Desk___init__ : FnG P w K mg base 11 f8 _ ["self", "panel", "state"] (spD K 3 d_Desk___init__) := g_Desk___init__ T C_is_state C_require_panel F8
  have ES_GuessDesk_Desk___init__ : RunE P w K mg base 11 f8 d_Desk___init__ := runE_of G_Desk___init__ nn_Desk___init__ b8
  have G_Guess___init__ : FnG P w K mg base 11 f9 _ ["self", "panel"] (spD K 2 d_Guess___init__) := g_Guess___init__ T C_require_panel F9
  have EC_Guess___init__ : FnCls P w K mg base 11 "Guess" "__init__" d_Guess___init__ := ⟨c_Guess, f9, _, PySem.W.mg_of X G aC_Guess, ⟨rC_Guess, gC_Guess⟩, fC_Guess___init__, k9, runE_of G_Guess___init__ nn_Guess___init__ b9⟩
  have G_GuessDesk___init__ : FnG P w K mg base 12 f10 _ ["self", "panel", "state"] (spD K 3 d_GuessDesk___init__) := g_GuessDesk___init__ T ES_GuessDesk_Desk___init__ EC_Guess___init__ F10 Z10
  have CI_GuessDesk : FnIE P w K mg base 12 "GuessDesk" d_GuessDesk___init__ := ⟨_, _, aC_GuessDesk, PySem.W.mg_of X G aC_GuessDesk, ⟨mk_GuessDesk, amI_GuessDesk, i10, kc_GuessDesk⟩, runE_of G_GuessDesk___init__ nn_GuessDesk___init__ b10⟩
  have C__law_deck : FnC P w K mg base 7 "_law_deck" 1 d__law_deck := ⟨_, _, _, g__law_deck T  F11, PySem.W.mg_of X G a11, k11, b11⟩
  have C__law_draw : FnC P w K mg base 7 "_law_draw" 2 d__law_draw := ⟨_, _, _, g__law_draw T  F12, PySem.W.mg_of X G a12, k12, b12⟩
  have C__law_panel : FnC P w K mg base 8 "_law_panel" 2 d__law_panel := ⟨_, _, _, g__law_panel T C__law_draw F13, PySem.W.mg_of X G a13, k13, b13⟩
  have C__law_pressed : FnC P w K mg base 7 "_law_pressed" 3 d__law_pressed := ⟨_, _, _, g__law_pressed T  F14, PySem.W.mg_of X G a14, k14, b14⟩
  have C__law_changed : FnC P w K mg base 7 "_law_changed" 4 d__law_changed := ⟨_, _, _, g__law_changed T  F15, PySem.W.mg_of X G a15, k15, b15⟩
  have C__law_after : FnC P w K mg base 8 "_law_after" 2 d__law_after := ⟨_, _, _, g__law_after T C__law_pressed C__law_changed F16, PySem.W.mg_of X G a16, k16, b16⟩
  have C__law_edit : FnC P w K mg base 8 "_law_edit" 2 d__law_edit := ⟨_, _, _, g__law_edit T C__law_draw F17, PySem.W.mg_of X G a17, k17, b17⟩
  have C_press_button : FnC P w K mg base 7 "press_button" 3 d_press_button := ⟨_, _, _, g_press_button T  F18, PySem.W.mg_of X G a18, k18, b18⟩
  have C_require_buttons : FnN P w K mg base 8 "require_buttons" (varN 1 d_require_buttons) := ⟨_, PySem.W.mg_of X G a19, k19, runE_var (ps := ["panel"]) (g_require_buttons T C_is_within F19) F19 rfl rfl rfl b19⟩
  have C_with_list : FnC P w K mg base 7 "with_list" 3 d_with_list := ⟨_, _, _, g_with_list T  F20, PySem.W.mg_of X G a20, k20, b20⟩
  have C_linked : FnC P w K mg base 8 "linked" 3 d_linked := ⟨_, _, _, g_linked T C_with_list F21, PySem.W.mg_of X G a21, k21, b21⟩
  have C_unlinked : FnC P w K mg base 8 "unlinked" 3 d_unlinked := ⟨_, _, _, g_unlinked T C_with_list F22, PySem.W.mg_of X G a22, k22, b22⟩
  have C_changed : FnC P w K mg base 9 "changed" 4 d_changed := ⟨_, _, _, g_changed T C_require_buttons C_linked C_unlinked F23, PySem.W.mg_of X G a23, k23, b23⟩
  have G_Desk_state_after : FnG P w K mg base 10 f24 _ ["self", "edit"] (spD K 2 d_Desk_state_after) := g_Desk_state_after T C_press_button C_require_buttons C_changed F24
  have EM_Desk_state_after : EntM P w K mg base 10 "state_after" "Desk" d_Desk_state_after := ⟨_, _, aC_Desk, ⟨pg_Desk, hd_Desk, po_Desk, sa_Desk⟩, ⟨amM_Desk_state_after, i24, k24⟩, runE_of G_Desk_state_after nn_Desk_state_after b24⟩
  have EM_GuessDesk_state_after : EntM P w K mg base 10 "state_after" "GuessDesk" d_Desk_state_after := ⟨_, _, aC_GuessDesk, ⟨pg_GuessDesk, hd_GuessDesk, po_GuessDesk, sa_GuessDesk⟩, ⟨amM_GuessDesk_state_after, i24, k24⟩, runE_of G_Desk_state_after nn_Desk_state_after b24⟩
  have G_Desk_perform : FnG P w K mg base 11 f25 _ ["self", "edit"] (spD K 2 d_Desk_perform) := g_Desk_perform T EM_Desk_state_after EM_GuessDesk_state_after F25
  have EM_Desk_perform : EntM P w K mg base 11 "perform" "Desk" d_Desk_perform := ⟨_, _, aC_Desk, ⟨pg_Desk, hd_Desk, po_Desk, sa_Desk⟩, ⟨amM_Desk_perform, i25, k25⟩, runE_of G_Desk_perform nn_Desk_perform b25⟩
  have EM_GuessDesk_perform : EntM P w K mg base 11 "perform" "GuessDesk" d_Desk_perform := ⟨_, _, aC_GuessDesk, ⟨pg_GuessDesk, hd_GuessDesk, po_GuessDesk, sa_GuessDesk⟩, ⟨amM_GuessDesk_perform, i25, k25⟩, runE_of G_Desk_perform nn_Desk_perform b25⟩
  have G_Desk_press : FnG P w K mg base 12 f26 _ ["self", "button"] (spD K 2 d_Desk_press) := g_Desk_press T EM_Desk_require_idle EM_GuessDesk_require_idle EM_Desk_perform EM_GuessDesk_perform F26
  have EM_GuessDesk_press : EntM P w K mg base 12 "press" "GuessDesk" d_Desk_press := ⟨_, _, aC_GuessDesk, ⟨pg_GuessDesk, hd_GuessDesk, po_GuessDesk, sa_GuessDesk⟩, ⟨amM_GuessDesk_press, i26, k26⟩, runE_of G_Desk_press nn_Desk_press b26⟩
  have G_Desk_link : FnG P w K mg base 12 f27 _ ["self", "one", "other"] (spD K 3 d_Desk_link) := g_Desk_link T EM_Desk_require_idle EM_GuessDesk_require_idle EM_Desk_perform EM_GuessDesk_perform F27
  have EM_GuessDesk_link : EntM P w K mg base 12 "link" "GuessDesk" d_Desk_link := ⟨_, _, aC_GuessDesk, ⟨pg_GuessDesk, hd_GuessDesk, po_GuessDesk, sa_GuessDesk⟩, ⟨amM_GuessDesk_link, i27, k27⟩, runE_of G_Desk_link nn_Desk_link b27⟩
  have G_Desk_unlink : FnG P w K mg base 12 f28 _ ["self", "one", "other"] (spD K 3 d_Desk_unlink) := g_Desk_unlink T EM_Desk_require_idle EM_GuessDesk_require_idle EM_Desk_perform EM_GuessDesk_perform F28
  have EM_GuessDesk_unlink : EntM P w K mg base 12 "unlink" "GuessDesk" d_Desk_unlink := ⟨_, _, aC_GuessDesk, ⟨pg_GuessDesk, hd_GuessDesk, po_GuessDesk, sa_GuessDesk⟩, ⟨amM_GuessDesk_unlink, i28, k28⟩, runE_of G_Desk_unlink nn_Desk_unlink b28⟩
  have C__law_do : FnC P w K mg base 13 "_law_do" 2 d__law_do := ⟨_, _, _, g__law_do T EM_GuessDesk_press EM_GuessDesk_link EM_GuessDesk_unlink F29, PySem.W.mg_of X G a29, k29, b29⟩
  have C__law_states : FnC P w K mg base 7 "_law_states" 1 d__law_states := ⟨_, _, _, g__law_states T  F30, PySem.W.mg_of X G a30, k30, b30⟩
  have G_Desk_latched : FnG P w K mg base 7 f31 _ ["self"] (spD K 1 d_Desk_latched) := g_Desk_latched T  F31
  have EP_GuessDesk_latched : EntP P w K mg base 7 "latched" "GuessDesk" d_Desk_latched := ⟨_, _, _, aC_GuessDesk, ⟨pg_GuessDesk, hd_GuessDesk, po_GuessDesk, sa_GuessDesk⟩, ⟨ap_GuessDesk_latched, ag_GuessDesk_latched, at_GuessDesk_latched, ⟨_, ar_GuessDesk_latched⟩⟩, runE_of G_Desk_latched nn_Desk_latched b31⟩
  have G_Desk___eq__ : FnG P w K mg base 7 f32 _ ["self", "other"] (spD K 2 d_Desk___eq__) := g_Desk___eq__ T  F32
  have EM_GuessDesk___eq__ : EntM P w K mg base 7 "__eq__" "GuessDesk" d_Desk___eq__ := ⟨_, _, aC_GuessDesk, ⟨pg_GuessDesk, hd_GuessDesk, po_GuessDesk, sa_GuessDesk⟩, ⟨amM_GuessDesk___eq__, i32, k32⟩, runE_of G_Desk___eq__ nn_Desk___eq__ b32⟩
  have C_known_after : FnC P w K mg base 7 "known_after" 3 d_known_after := ⟨_, _, _, g_known_after T  F33, PySem.W.mg_of X G a33, k33, b33⟩
  have G_GuessDesk_known : FnG P w K mg base 8 f34 _ ["self"] (spD K 1 d_GuessDesk_known) := g_GuessDesk_known T C_known_after F34
  have EP_GuessDesk_known : EntP P w K mg base 8 "known" "GuessDesk" d_GuessDesk_known := ⟨_, _, _, aC_GuessDesk, ⟨pg_GuessDesk, hd_GuessDesk, po_GuessDesk, sa_GuessDesk⟩, ⟨ap_GuessDesk_known, ag_GuessDesk_known, at_GuessDesk_known, ⟨_, ar_GuessDesk_known⟩⟩, runE_of G_GuessDesk_known nn_GuessDesk_known b34⟩
  have C__law_known_right : FnC P w K mg base 10 "_law_known_right" 3 d__law_known_right := ⟨_, _, _, g__law_known_right T EP_GuessDesk_latched EM_GuessDesk___eq__ EP_GuessDesk_known F35, PySem.W.mg_of X G a35, k35, b35⟩
  exact g_law T EM_GuessDesk_undo CI_GuessDesk C__law_deck C__law_draw C__law_panel C__law_after C__law_edit C__law_do C__law_states C__law_known_right F36
end
end Lw
open PySem PySem.W PyProof.Rows in
set_option maxRecDepth 100000 in
set_option maxHeartbeats 0 in
theorem PySem.Challenge.cw_pressrelease_k58_whole_known_from_all_fi_holds : PySem.Challenge.rw_pressrelease_k58_whole_known_from_all_fi.Holds := by
  w_on; o_law; k_head; (case hw => w_witness2)
  k_fill
  refine Dn.walkG (l := PySem.Challenge.rw_pressrelease_k58_whole_known_from_all_fi) (k := 14) (spec := Lw.d_law) (x := "_law_script") rfl rfl ⟨rfl, by decide, by decide⟩ Lw.law_true (fun w h Y => PySem.W.kIn_of Y) ?F
  case F =>
    intro w mg fa h KX G hmg
    refine' Lw.all_mk KX G hmg ?aC_Desk ?pg_Desk ?hd_Desk ?po_Desk ?sa_Desk ?mk_Desk ?kc_Desk ?nf_Desk_states ?nf_Desk_standing ?nf_Desk_watching ?aC_Guess ?pg_Guess ?hd_Guess ?po_Guess ?sa_Guess ?mk_Guess ?kc_Guess ?nf_Guess_base ?nf_Guess_told ?aC_GuessDesk ?pg_GuessDesk ?hd_GuessDesk ?po_GuessDesk ?sa_GuessDesk ?mk_GuessDesk ?kc_GuessDesk ?nf_GuessDesk_states ?nf_GuessDesk_standing ?nf_GuessDesk_watching ?nf_GuessDesk_base ?nf_GuessDesk_told ?rC_Guess ?gC_Guess ?fC_Guess___init__ ?sP ?sT ?sC_10 ?sI_10 ?sO_10 ?sK_10 ?sV_10 ?sF_10 ?sU_10 ?sY_10 ?sN_10 ?amI_GuessDesk ?amM_Desk_perform ?amM_Desk_require_idle ?amM_Desk_state_after ?amM_GuessDesk___eq__ ?amM_GuessDesk_link ?amM_GuessDesk_perform ?amM_GuessDesk_press ?amM_GuessDesk_require_idle ?amM_GuessDesk_state_after ?amM_GuessDesk_undo ?amM_GuessDesk_unlink ?ap_GuessDesk_known ?ag_GuessDesk_known ?at_GuessDesk_known ?ar_GuessDesk_known ?ap_GuessDesk_latched ?ag_GuessDesk_latched ?at_GuessDesk_latched ?ar_GuessDesk_latched ?i0 ?l0 ?c0 ?k0 ?i1 ?l1 ?c1 ?k1 ?a2 ?l2 ?c2 ?k2 ?a3 ?l3 ?c3 ?k3 ?a4 ?l4 ?c4 ?k4 ?a5 ?l5 ?c5 ?k5 ?a6 ?l6 ?c6 ?k6 ?a7 ?l7 ?c7 ?k7 ?i8 ?l8 ?c8 ?k8 ?i9 ?l9 ?c9 ?k9 ?i10 ?l10 ?c10 ?k10 ?a11 ?l11 ?c11 ?k11 ?a12 ?l12 ?c12 ?k12 ?a13 ?l13 ?c13 ?k13 ?a14 ?l14 ?c14 ?k14 ?a15 ?l15 ?c15 ?k15 ?a16 ?l16 ?c16 ?k16 ?a17 ?l17 ?c17 ?k17 ?a18 ?l18 ?c18 ?k18 ?a19 ?l19 ?c19 ?k19 ?a20 ?l20 ?c20 ?k20 ?a21 ?l21 ?c21 ?k21 ?a22 ?l22 ?c22 ?k22 ?a23 ?l23 ?c23 ?k23 ?i24 ?l24 ?c24 ?k24 ?i25 ?l25 ?c25 ?k25 ?i26 ?l26 ?c26 ?k26 ?i27 ?l27 ?c27 ?k27 ?i28 ?l28 ?c28 ?k28 ?a29 ?l29 ?c29 ?k29 ?a30 ?l30 ?c30 ?k30 ?i31 ?l31 ?c31 ?k31 ?i32 ?l32 ?c32 ?k32 ?a33 ?l33 ?c33 ?k33 ?i34 ?l34 ?c34 ?k34 ?a35 ?l35 ?c35 ?k35 ?a36 ?l36 ?c36 ?k36 ?z_abs ?z_all ?z_bool ?z_enumerate ?z_int ?z_isinstance ?z_len ?z_list ?z_min ?z_range ?z_sorted ?z_super ?z_tuple ?z_zip ?hn ?ht ?ea_Busy ?ek_Busy ?et_Busy ?eg_Busy ?eh_Busy ?es_Busy ?ed_Busy ?ec_Busy ?em_Busy ?ea_TooManyEdits ?ek_TooManyEdits ?et_TooManyEdits ?eg_TooManyEdits ?eh_TooManyEdits ?es_TooManyEdits ?ed_TooManyEdits ?ec_TooManyEdits ?em_TooManyEdits ?ea_NoChange ?ek_NoChange ?et_NoChange ?eg_NoChange ?eh_NoChange ?es_NoChange ?ed_NoChange ?ec_NoChange ?em_NoChange ?ea_NothingToUndo ?ek_NothingToUndo ?et_NothingToUndo ?eg_NothingToUndo ?eh_NothingToUndo ?es_NothingToUndo ?ed_NothingToUndo ?ec_NothingToUndo ?em_NothingToUndo ?rx_Busy ?rx_NoChange ?rx_NothingToUndo ?rx_TooManyEdits ?io_GuessDesk ?im_GuessDesk ?iq_GuessDesk_Desk ?cy_GuessDesk_GuessDesk ?y_MAX_BUTTONS ?y_MAX_EDITS ?y_OFF ?y_ON ?y_SAME
    (case aC_Desk => k_is)
    (case pg_Desk => k_is)
    (case hd_Desk => k_is)
    (case po_Desk => k_is)
    (case sa_Desk => k_is)
    (case mk_Desk => k_is)
    (case kc_Desk => k_is)
    (case nf_Desk_states => k_is)
    (case nf_Desk_standing => k_is)
    (case nf_Desk_watching => k_is)
    (case aC_Guess => k_is)
    (case pg_Guess => k_is)
    (case hd_Guess => k_is)
    (case po_Guess => k_is)
    (case sa_Guess => k_is)
    (case mk_Guess => k_is)
    (case kc_Guess => k_is)
    (case nf_Guess_base => k_is)
    (case nf_Guess_told => k_is)
    (case aC_GuessDesk => k_is)
    (case pg_GuessDesk => k_is)
    (case hd_GuessDesk => k_is)
    (case po_GuessDesk => k_is)
    (case sa_GuessDesk => k_is)
    (case mk_GuessDesk => k_is)
    (case kc_GuessDesk => k_is)
    (case nf_GuessDesk_states => k_is)
    (case nf_GuessDesk_standing => k_is)
    (case nf_GuessDesk_watching => k_is)
    (case nf_GuessDesk_base => k_is)
    (case nf_GuessDesk_told => k_is)
    (case rC_Guess => k_is)
    (case gC_Guess => k_is)
    (case fC_Guess___init__ => k_is)
    (case sP => k_is)
    (case sT => first | rfl | decide +kernel)
    (case sI_10 => k_is)
    (case sO_10 => k_is)
    (case amI_GuessDesk => k_is)
    (case amM_Desk_perform => k_is)
    (case amM_Desk_require_idle => k_is)
    (case amM_Desk_state_after => k_is)
    (case amM_GuessDesk___eq__ => k_is)
    (case amM_GuessDesk_link => k_is)
    (case amM_GuessDesk_perform => k_is)
    (case amM_GuessDesk_press => k_is)
    (case amM_GuessDesk_require_idle => k_is)
    (case amM_GuessDesk_state_after => k_is)
    (case amM_GuessDesk_undo => k_is)
    (case amM_GuessDesk_unlink => k_is)
    (case ap_GuessDesk_known => k_is)
    (case ag_GuessDesk_known => k_is)
    (case at_GuessDesk_known => k_is)
    (case ar_GuessDesk_known => k_is)
    (case ap_GuessDesk_latched => k_is)
    (case ag_GuessDesk_latched => k_is)
    (case at_GuessDesk_latched => k_is)
    (case ar_GuessDesk_latched => k_is)
    (case i0 => k_is)
    (case l0 => k_is)
    (case c0 => k_is)
    (case k0 => k_is)
    (case i1 => k_is)
    (case l1 => k_is)
    (case c1 => k_is)
    (case k1 => k_is)
    (case a2 => k_is)
    (case l2 => k_is)
    (case c2 => k_is)
    (case k2 => k_is)
    (case a3 => k_is)
    (case l3 => k_is)
    (case c3 => k_is)
    (case k3 => k_is)
    (case a4 => k_is)
    (case l4 => k_is)
    (case c4 => k_is)
    (case k4 => k_is)
    (case a5 => k_is)
    (case l5 => k_is)
    (case c5 => k_is)
    (case k5 => k_is)
    (case a6 => k_is)
    (case l6 => k_is)
    (case c6 => k_is)
    (case k6 => k_is)
    (case a7 => k_is)
    (case l7 => k_is)
    (case c7 => k_is)
    (case k7 => k_is)
    (case i9 => k_is)
    (case l9 => k_is)
    (case c9 => k_is)
    (case k9 => k_is)
    (case i10 => k_is)
    (case l10 => k_is)
    (case c10 => k_is)
    (case k10 => k_is)
    (case a11 => k_is)
    (case l11 => k_is)
    (case c11 => k_is)
    (case k11 => k_is)
    (case a12 => k_is)
    (case l12 => k_is)
    (case c12 => k_is)
    (case k12 => k_is)
    (case a13 => k_is)
    (case l13 => k_is)
    (case c13 => k_is)
    (case k13 => k_is)
    (case a14 => k_is)
    (case l14 => k_is)
    (case c14 => k_is)
    (case k14 => k_is)
    (case a15 => k_is)
    (case l15 => k_is)
    (case c15 => k_is)
    (case k15 => k_is)
    (case a16 => k_is)
    (case l16 => k_is)
    (case c16 => k_is)
    (case k16 => k_is)
    (case a17 => k_is)
    (case l17 => k_is)
    (case c17 => k_is)
    (case k17 => k_is)
    (case a18 => k_is)
    (case l18 => k_is)
    (case c18 => k_is)
    (case k18 => k_is)
    (case a19 => k_is)
    (case l19 => k_is)
    (case c19 => k_is)
    (case k19 => k_is)
    (case a20 => k_is)
    (case l20 => k_is)
    (case c20 => k_is)
    (case k20 => k_is)
    (case a21 => k_is)
    (case l21 => k_is)
    (case c21 => k_is)
    (case k21 => k_is)
    (case a22 => k_is)
    (case l22 => k_is)
    (case c22 => k_is)
    (case k22 => k_is)
    (case a23 => k_is)
    (case l23 => k_is)
    (case c23 => k_is)
    (case k23 => k_is)
    (case i24 => k_is)
    (case l24 => k_is)
    (case c24 => k_is)
    (case k24 => k_is)
    (case i25 => k_is)
    (case l25 => k_is)
    (case c25 => k_is)
    (case k25 => k_is)
    (case i26 => k_is)
    (case l26 => k_is)
    (case c26 => k_is)
    (case k26 => k_is)
    (case i27 => k_is)
    (case l27 => k_is)
    (case c27 => k_is)
    (case k27 => k_is)
    (case i28 => k_is)
    (case l28 => k_is)
    (case c28 => k_is)
    (case k28 => k_is)
    (case a29 => k_is)
    (case l29 => k_is)
    (case c29 => k_is)
    (case k29 => k_is)
    (case a30 => k_is)
    (case l30 => k_is)
    (case c30 => k_is)
    (case k30 => k_is)
    (case i31 => k_is)
    (case l31 => k_is)
    (case c31 => k_is)
    (case k31 => k_is)
    (case i32 => k_is)
    (case l32 => k_is)
    (case c32 => k_is)
    (case k32 => k_is)
    (case a33 => k_is)
    (case l33 => k_is)
    (case c33 => k_is)
    (case k33 => k_is)
    (case i34 => k_is)
    (case l34 => k_is)
    (case c34 => k_is)
    (case k34 => k_is)
    (case a35 => k_is)
    (case l35 => k_is)
    (case c35 => k_is)
    (case k35 => k_is)
    (case a36 => k_is)
    (case l36 => k_is)
    (case c36 => k_is)
    (case k36 => k_is)
    (case z_abs => k_is)
    (case z_all => k_is)
    (case z_bool => k_is)
    (case z_enumerate => k_is)
    (case z_int => k_is)
    (case z_isinstance => k_is)
    (case z_len => k_is)
    (case z_list => k_is)
    (case z_min => k_is)
    (case z_range => k_is)
    (case z_sorted => k_is)
    (case z_super => k_is)
    (case z_tuple => k_is)
    (case z_zip => k_is)
    (case hn => k_is)
    (case ht => k_is)
    (case ea_Busy => k_is)
    (case ek_Busy => k_is)
    (case et_Busy => k_is)
    (case eg_Busy => k_is)
    (case eh_Busy => k_is)
    (case es_Busy => k_is)
    (case ed_Busy => k_is)
    (case ec_Busy => k_is)
    (case em_Busy => k_is)
    (case ea_TooManyEdits => k_is)
    (case ek_TooManyEdits => k_is)
    (case et_TooManyEdits => k_is)
    (case eg_TooManyEdits => k_is)
    (case eh_TooManyEdits => k_is)
    (case es_TooManyEdits => k_is)
    (case ed_TooManyEdits => k_is)
    (case ec_TooManyEdits => k_is)
    (case em_TooManyEdits => k_is)
    (case ea_NoChange => k_is)
    (case ek_NoChange => k_is)
    (case et_NoChange => k_is)
    (case eg_NoChange => k_is)
    (case eh_NoChange => k_is)
    (case es_NoChange => k_is)
    (case ed_NoChange => k_is)
    (case ec_NoChange => k_is)
    (case em_NoChange => k_is)
    (case ea_NothingToUndo => k_is)
    (case ek_NothingToUndo => k_is)
    (case et_NothingToUndo => k_is)
    (case eg_NothingToUndo => k_is)
    (case eh_NothingToUndo => k_is)
    (case es_NothingToUndo => k_is)
    (case ed_NothingToUndo => k_is)
    (case ec_NothingToUndo => k_is)
    (case em_NothingToUndo => k_is)
    (case rx_Busy => k_exc)
    (case rx_NoChange => k_exc)
    (case rx_NothingToUndo => k_exc)
    (case rx_TooManyEdits => k_exc)
    (case io_GuessDesk => k_is)
    (case im_GuessDesk => k_is)
    (case iq_GuessDesk_Desk => first | rfl | k_is)
    (case cy_GuessDesk_GuessDesk => k_is)
    (case y_MAX_BUTTONS => k_is)
    (case y_MAX_EDITS => k_is)
    (case y_OFF => k_is)
    (case y_ON => k_is)
    (case y_SAME => k_is)
    (case sC_10 => k_is)
    (case sK_10 => k_is)
    (case sU_10 => first | k_is | ks_is)
    (case sY_10 => k_is)
    (case sN_10 => k_is)
    (case sV_10 => first | rfl | decide +kernel)
    (case sF_10 => first | rfl | decide +kernel)
    (case i8 => k_is)
    (case l8 => k_is)
    (case c8 => k_is)
    (case k8 => k_is)
