import PyProof.Rows.All
import Wide.All
import OpenK.AllK
import Wide.FinOn
import HandS.ForMost
import HandS.Flow
import HandS.Lambda
import HandS.Deep
import HandS.ForExc
import HandS.ExcInit
import HandS.TryMany
import HandS.Star
import HandS.TupMul
import HandS.TupAny
import HandS.TupLe
import HandS.EndBits
import KE.SortData
import KE.DataCmp
import PyProof.ReprRoads
import KE.DataEq
import KE.KRevSl
import HandS.IsInst
import KE.GoesMore
import KE.GoesEnum
import HandS.WordsExc
import HandS.SuiteRaise
import HandS.RaiseFrom
import HandS.SetFor
import HandS.Style
import HandS.Conv
import PyProof.ReprBulk
import KE.DataFind
import HandS.Strs
import HandS.TupSets
import KE.DataMinMax
import HandS.FStr
import HandS.Text
import PyProof.Rows.TupDisplay
import HandS.Dict
import KE.KDictSum
import HandS.ExcOwn
import HandS.ExcIs
import HandS.ExcField
import HandS.Zip0
import HandS.Zip
import HandS.ExcValue
import KE.KDictZip
import KE.KDictItemsList
import KE.KExcInit
import PyProof.FactsAll.set_1
import PyProof.FactsAll.subtypes_5
import PyProof.NeKinds
import HandS.Property
import HandS.Defaults
import HandS.MethStar
import PyProof.RulesMatch
import KE.KCallOwn
import KE.KStar
import OpenK.KOps
import OpenK.KMore
import HandS.Finally
import HandS.Iter
import KE.IntTextLaws
import PyProof.Rows.StrSplitJoin
import PyProof.Rows.StrSplitAre
import PyProof.Rows.StrItems
import PyProof.StrLawsIn
import HandS.GenList
import KE.KSuper
import KE.RegKSuper
import HandS.ClsMeth
import KE.KUnpack
import HandS.OwnEq
import KE.KStateDown
import HandS.Head0
import HandS.Head1
import HandS.Head2
import HandS.HeadHook1
import KE.KWithOwn
import HandS.GenCall
import KE.KDictAny
import HandS.Nested
import HandS.RaiseMore
import PyProof.GenQ
import PyProof.Wp
import PyProof.Sound
import PySem.Challenge.RW_pressrelease_k39_whole_fewest_buttons_of
set_option Elab.async false
set_option linter.all false
set_option maxRecDepth 100000
set_option maxHeartbeats 4000000
set_option autoImplicit false
namespace Dn
open PySem PySem.Spec PyProof.Rows L2
inductive D where
  | non | bl (b : Bool) | int (i : Int) | str (s : Str) | tup (xs : List D) | lst (xs : List D) | scr (xs : List D) | ref (l : Nat) | adr (a : Addr) | fd (ks : List (List Int)) (xs : List D) | exo (a dd : Addr) (f : Str) (d : D) | obj (nm : Str) (ks : List Str) (xs : List D) | sd (kvs : List (Str × Option Int)) | fnv (nm : Str)
inductive MO where
  | lst (xs : List D) | dct (ks : List (List Int)) (xs : List D) | dcs (ks : List (List Str)) (xs : List D) | ins (nm : Str) (fs : List (Str × D)) | gone | clo (nm : Str) (ds : List D)
abbrev Sto := List MO
abbrev Rho := List (Option D)
structure Xc where
  nm : Str
  fld : Option (Str × D)
inductive Out (α : Type) where
  | ok (a : α) (st : Sto) | exc (x : Xc) (st : Sto) | bad
abbrev M (α : Type) := Sto → Out α
def Out.bind {α β : Type} (r : Out α) (f : α → Sto → Out β) : Out β :=
  match r with
  | .ok a st => f a st
  | .exc x st => .exc x st
  | .bad => .bad
@[simp] theorem Out.bind_ok {α β : Type} (a : α) (st : Sto) (f : α → Sto → Out β) : (Out.ok a st).bind f = f a st := rfl
@[simp] theorem Out.bind_exc {α β : Type} (x : Xc) (st : Sto) (f : α → Sto → Out β) : (Out.exc x st : Out α).bind f = .exc x st := rfl
@[simp] theorem Out.bind_bad {α β : Type} (f : α → Sto → Out β) : (Out.bad : Out α).bind f = .bad := rfl
structure LamT where
  qual : Str
  params : Arguments
  body : Expr
  scope : Scope
  fr : List Str
  ps : List Str
class HzC where
  hz : Str → Int
  lam : Str → Option LamT := fun _ => none
  tb : List (Addr × (Nat → Nat → Str)) := []
instance (priority := low) hzC0 : HzC := { hz := fun _ => 0 }
variable [HzC]
def SqP (K : PySem.W.Frag) (F : Hp) (a : Addr) (xs : List V) : Prop :=
  (∃ o : Obj, o.dict = none ∧ F a = some (.frz o (.tup xs))) ∨
    ∃ (o : Obj) (its : Array Value) (n : Nat), K.lookup a = some o ∧ o.cls = .type "tuple" ∧ o.dict = none ∧ o.data = .seq its n ∧ its.size ≤ sizeLine ∧ Vals xs its.toList
def hzI (ks : List Int) : Int := reduceHash (Builtin.Tuple.tupleHashOf (ks.map hashInt))
def entI (x : List Int × Addr × Value) : DictEntry := ⟨hzI x.1, .ref x.2.1, x.2.2⟩
def DctH (a : Addr) (xs : List (List Int × Addr × Value)) (h : Heap) : Prop := ∃ o es ep, h.get? a = some o ∧ o.ExactDict ∧ o.data = .dict es ep ∧ es.toList = xs.map entI ∧ (xs.map (·.1)).Nodup
def DctO (a : Addr) (xs : List (List Int × Addr × Value)) : HO := .ext (DctH a xs)
def hzS (ks : List Str) : Int := reduceHash (Builtin.Tuple.tupleHashOf (ks.map HzC.hz))
def entS (x : List Str × Addr × Value) : DictEntry := ⟨hzS x.1, .ref x.2.1, x.2.2⟩
def DcsH (a : Addr) (xs : List (List Str × Addr × Value)) (h : Heap) : Prop := ∃ o es ep, h.get? a = some o ∧ o.ExactDict ∧ o.data = .dict es ep ∧ es.toList = xs.map entS ∧ (xs.map (·.1)).Nodup
def DcsO (a : Addr) (xs : List (List Str × Addr × Value)) : HO := .ext (DcsH a xs)
def KeysS (K : PySem.W.Frag) (F : Hp) (ks : List (List Str)) (xs : List (List Str × Addr × Value)) : Prop := xs.map (·.1) = ks ∧ ∀ x ∈ xs, SqP K F x.2.1 (x.1.map V.str)
def KeysT (K : PySem.W.Frag) (F : Hp) (ks : List (List Int)) (xs : List (List Int × Addr × Value)) : Prop := xs.map (·.1) = ks ∧ ∀ x ∈ xs, SqP K F x.2.1 (x.1.map V.int)
def oV : Option Int → V
  | none => .non
  | some i => .int i
def sdK (kvs : List (Str × Option Int)) : List (Key × V) := kvs.map fun p => (Sum.inr p.1, oV p.2)
mutual
def Rep (K : PySem.W.Frag) (F : Hp) (ι : List Addr) : D → V → Prop
  | .non, v => v = .non
  | .bl b, v => v = .bl b
  | .int i, v => v = .int i
  | .str s, v => v = .str s
  | .tup xs, v => ∃ a vs, v = .ref a ∧ SqP K F a vs ∧ Reps K F ι xs vs
  | .lst xs, v => ∃ a vs, v = .ref a ∧ F a = some (.lst vs) ∧ Reps K F ι xs vs
  | .scr xs, v => ∃ a vs, v = .ref a ∧ SqL K F a vs ∧ Reps K F ι xs vs
  | .ref l, v => ∃ a, v = .ref a ∧ ι[l]? = some a
  | .adr a, v => v = .ref a
  | .fd ks ds, v => ∃ a xs ws, v = .ref a ∧ (a == sysModules) = false ∧ F a = some (DctO a xs) ∧ KeysT K F ks xs ∧ Vals ws (xs.map (·.2.2)) ∧ Reps K F ι ds ws
  | .exo a dd f d, v => v = .ref a ∧ ∃ u, F dd = some (.xd [(f, u)]) ∧ Rep K F ι d u
  | .obj nm ks ds, v => ∃ a C dx gs, v = .ref a ∧ PySem.W.nsIn K mainGlobals nm = some (some (.ref C)) ∧ F a = some (.ins C dx gs) ∧ gs.map (·.1) = ks ∧ Reps K F ι ds (gs.map (·.2))
  | .sd kvs, v => ∃ a, v = .ref a ∧ F a = some (.dK (sdK kvs))
  | .fnv nm, v => ∃ a, v = .ref a ∧ PySem.W.nsIn K mainGlobals nm = some (some (.ref a))
def Reps (K : PySem.W.Frag) (F : Hp) (ι : List Addr) : List D → List V → Prop
  | [], vs => vs = []
  | d :: ds, vs => ∃ v r, vs = v :: r ∧ Rep K F ι d v ∧ Reps K F ι ds r
end
def Fz : HO → Prop
  | .tup _ => True
  | .lst _ => True
  | .frz _ (.lst _) => True
  | .frz _ (.tup _) => True
  | .ext _ => True
  | .xd _ => True
  | .ins _ _ _ => True
  | .dK _ => True
  | _ => False
def RepF (K : PySem.W.Frag) (F : Hp) (ι : List Addr) : List (Str × D) → List (Str × V) → Prop := Paired fun p q => p.1 = q.1 ∧ Rep K F ι p.2 q.2
abbrev KeepO (ob : Obj) (a : Addr) : HO := .frz ob (.own a)
structure CelsF (F : Hp) (a : Addr) (cl : List (Str × Addr)) (fr : List Str) (ws : List V) : Prop where
  len : fr.length = ws.length
  dom : ∀ (y : Str) (c : Addr), cl.lookup y = some c → y ∈ fr
  inj : ∀ (x y : Str) (c : Addr), cl.lookup x = some c → cl.lookup y = some c → x = y
  has : ∀ (i : Nat) (y : Str), fr[i]? = some y → ∃ (c : Addr) (ob : Obj) (u : Value) (v : V), cl.lookup y = some c ∧ c ≠ a ∧ F c = some (KeepO ob a) ∧ ob.data = .cell (some u) ∧ ws[i]? = some v ∧ RelV v u
def TabF (F H : Hp) : Prop := ∀ p ∈ HzC.tb, ∃ ps : Array Value, H p.1 = some (.tbl ps) ∧ TriplesOk ps.toList ∧ ∀ (pos : Pos) (cv : Value), codeAmong pos ps.toList = some cv → ∃ c, cv = .ref c ∧ F c = some (LamX.CodeO c (p.2 pos.line pos.col))
theorem TabF.mono {F F' H H' : Hp} (t : TabF F H) (hF : ∀ a o, F a = some o → F' a = some o) (hH : ∀ a ps, H a = some (.tbl ps) → H' a = some (.tbl ps)) : TabF F' H' := fun p hp => by
  obtain ⟨ps, h1, h2, h3⟩ := t p hp
  refine ⟨ps, hH _ _ h1, h2, fun pos cv e => ?_⟩
  obtain ⟨c, e1, e2⟩ := h3 pos cv e
  exact ⟨c, e1, hF _ _ e2⟩
theorem CelsF.mono {F F' : Hp} {a : Addr} {cl : List (Str × Addr)} {fr : List Str} {ws : List V} (t : CelsF F a cl fr ws) (hF : ∀ a o, F a = some o → F' a = some o) : CelsF F' a cl fr ws := ⟨t.len, t.dom, t.inj, fun i y h => by
  obtain ⟨c, ob, u, v, e1, e2, e3, e4⟩ := t.has i y h
  exact ⟨c, ob, u, v, e1, e2, hF _ _ e3, e4⟩⟩
def ObjR (K : PySem.W.Frag) (F : Hp) (ι : List Addr) (H : Hp) (a : Addr) : MO → Prop
  | .lst xs => ∃ vs, H a = some (.lst vs) ∧ Reps K F ι xs vs
  | .dct ks ds => ∃ xs ws, (a == sysModules) = false ∧ H a = some (DctO a xs) ∧ KeysT K F ks xs ∧ Vals ws (xs.map (·.2.2)) ∧ Reps K F ι ds ws
  | .dcs ks ds => ∃ xs ws, (a == sysModules) = false ∧ H a = some (DcsO a xs) ∧ KeysS K F ks xs ∧ Vals ws (xs.map (·.2.2)) ∧ Reps K F ι ds ws
  | .gone => True
  | .ins nm fs => ∃ C dx gs, PySem.W.nsIn K mainGlobals nm = some (some (.ref C)) ∧ H a = some (.ins C dx gs) ∧ RepF K F ι fs gs
  | .clo nm ds => ∃ L cl pm c' ctv ws, HzC.lam nm = some L ∧ H a = some (KeepO (PySem.W.kla_obj "<lambda>" L.qual L.params L.body L.scope cl pm c' ctv) a) ∧ F c' = some (LamX.CodeO c' L.qual) ∧ CelsF F a cl L.fr ws ∧ Reps K F ι ds ws
structure Sim (K : PySem.W.Frag) (F : Hp) (ι : List Addr) (st : Sto) (H : Hp) : Prop where
  sub : ∀ a o, F a = some o → H a = some o
  kind : ∀ a o, F a = some o → Fz o ∨ ∃ ob x, o = KeepO ob x ∧ (x = a ∨ a ∉ ι)
  len : ι.length = st.length
  nd : ι.Nodup
  free : ∀ (l : Nat) (a : Addr), ι[l]? = some a → st[l]? ≠ some .gone → F a = none
  there : ∀ a, a ∈ ι → H a ≠ none
  obj : ∀ (l : Nat) (m : MO) (a : Addr), st[l]? = some m → ι[l]? = some a → ObjR K F ι H a m
  tabs : TabF F H
structure Ext (F : Hp) (ι : List Addr) (H F' : Hp) (ι' : List Addr) (H' : Hp) : Prop where
  f : ∀ a o, F a = some o → F' a = some o
  i : ∀ (l : Nat) (a : Addr), ι[l]? = some a → ι'[l]? = some a
  keep : ∀ a o, H a = some o → a ∉ ι → (∀ ps, o ≠ .tbl ps) → H' a = some o
  there : ∀ a, H' a = none → H a = none
  newF : ∀ a o, F' a = some o → F a = some o ∨ H a = none ∨ a ∈ ι
  newI : ∀ a, a ∈ ι' → a ∈ ι ∨ H a = none
  long : ι.length ≤ ι'.length
section
variable {K : PySem.W.Frag} {F F' F'' : Hp} {ι ι' ι'' : List Addr} {H H' H'' : Hp} {st st' : Sto}
theorem Ext.refl : Ext F ι H F ι H := ⟨fun _ _ h => h, fun _ _ h => h, fun _ _ h _ _ => h, fun _ h => h, fun _ _ h => .inl h, fun _ h => .inl h, Nat.le_refl _⟩
theorem Ext.trans (a : Ext F ι H F' ι' H') (b : Ext F' ι' H' F'' ι'' H'') : Ext F ι H F'' ι'' H'' := by
  refine ⟨fun x o h => b.f x o (a.f x o h), fun l x h => b.i l x (a.i l x h), fun x o h n nt => b.keep x o (a.keep x o h n nt) (fun m => ?_) nt, fun x h => a.there x (b.there x h), fun x o h => ?_, fun x h => ?_, Nat.le_trans a.long b.long⟩
  · rcases a.newI x m with q | q
    · exact n q
    · rw [h] at q
      cases q
  · rcases b.newF x o h with q | q | q
    · exact a.newF x o q
    · exact .inr (.inl (a.there x q))
    · rcases a.newI x q with q | q
      · exact .inr (.inr q)
      · exact .inr (.inl q)
  · rcases b.newI x h with q | q
    · exact a.newI x q
    · exact .inr (a.there x q)
theorem Rd.mono {a : Addr} {u : HO} (h : Rd F a u) (f : ∀ a o, F a = some o → F' a = some o) : Rd F' a u := by
  rcases h with h | ⟨o, h⟩
  · exact .inl (f _ _ h)
  · exact .inr ⟨o, f _ _ h⟩
theorem SqP.mono {a : Addr} {vs : List V} (h : SqP K F a vs) (f : ∀ a o, F a = some o → F' a = some o) : SqP K F' a vs := by
  rcases h with ⟨o, h1, h2⟩ | h
  · exact .inl ⟨o, h1, f _ _ h2⟩
  · exact .inr h
theorem SqP.sqT {a : Addr} {vs : List V} (h : SqP K F a vs) : SqT K F a vs := by
  rcases h with ⟨o, _, h2⟩ | ⟨o, its, n, h1, h2, _, h3, h4, h5⟩
  · exact .inl (.inr ⟨o, h2⟩)
  · exact .inr ⟨o, its, n, h1, h2, h3, h4, h5⟩
theorem SqT.mono {a : Addr} {vs : List V} (h : SqT K F a vs) (f : ∀ a o, F a = some o → F' a = some o) : SqT K F' a vs := by
  rcases h with h | h
  · exact .inl (Rd.mono h f)
  · exact .inr h
theorem SqL.mono {a : Addr} {vs : List V} (h : SqL K F a vs) (f : ∀ a o, F a = some o → F' a = some o) : SqL K F' a vs := by
  rcases h with h | h
  · exact .inl (Rd.mono h f)
  · exact .inr h
theorem KeysS.mono {ks : List (List Str)} {xs : List (List Str × Addr × Value)} (h : KeysS K F ks xs) (f : ∀ a o, F a = some o → F' a = some o) : KeysS K F' ks xs := ⟨h.1, fun x hx => (h.2 x hx).mono f⟩
theorem KeysT.mono {ks : List (List Int)} {xs : List (List Int × Addr × Value)} (h : KeysT K F ks xs) (f : ∀ a o, F a = some o → F' a = some o) : KeysT K F' ks xs := ⟨h.1, fun x hx => (h.2 x hx).mono f⟩
mutual
theorem Rep.mono (f : ∀ a o, F a = some o → F' a = some o) (i : ∀ (l : Nat) (a : Addr), ι[l]? = some a → ι'[l]? = some a) : ∀ (d : D) (v : V), Rep K F ι d v → Rep K F' ι' d v
  | .non, _, h => by simpa only [Rep] using h
  | .bl _, _, h => by simpa only [Rep] using h
  | .int _, _, h => by simpa only [Rep] using h
  | .str _, _, h => by simpa only [Rep] using h
  | .adr _, _, h => by simpa only [Rep] using h
  | .tup xs, v, h => by
    simp only [Rep] at h ⊢
    obtain ⟨a, vs, e, q, r⟩ := h
    exact ⟨a, vs, e, SqP.mono q f, Reps.mono f i xs vs r⟩
  | .lst xs, v, h => by
    simp only [Rep] at h ⊢
    obtain ⟨a, vs, e, q, r⟩ := h
    exact ⟨a, vs, e, f _ _ q, Reps.mono f i xs vs r⟩
  | .scr xs, v, h => by
    simp only [Rep] at h ⊢
    obtain ⟨a, vs, e, q, r⟩ := h
    exact ⟨a, vs, e, SqL.mono q f, Reps.mono f i xs vs r⟩
  | .ref l, v, h => by
    simp only [Rep] at h ⊢
    obtain ⟨a, e, q⟩ := h
    exact ⟨a, e, i l a q⟩
  | .fd ks ds, v, h => by
    simp only [Rep] at h ⊢
    obtain ⟨a, xs, ws, e, z, q, kt, vr, r⟩ := h
    exact ⟨a, xs, ws, e, z, f _ _ q, kt.mono f, vr, Reps.mono f i ds ws r⟩
  | .exo a dd g d, v, h => by
    simp only [Rep] at h ⊢
    obtain ⟨e, u, q, r⟩ := h
    exact ⟨e, u, f _ _ q, Rep.mono f i d u r⟩
  | .obj nm ks ds, v, h => by
    simp only [Rep] at h ⊢
    obtain ⟨a, C, dx, gs, e, z, q, kk, r⟩ := h
    exact ⟨a, C, dx, gs, e, z, f _ _ q, kk, Reps.mono f i ds _ r⟩
  | .sd kvs, v, h => by
    simp only [Rep] at h ⊢
    obtain ⟨a, e, q⟩ := h
    exact ⟨a, e, f _ _ q⟩
  | .fnv nm, v, h => by
    simp only [Rep] at h ⊢
    exact h
theorem Reps.mono (f : ∀ a o, F a = some o → F' a = some o) (i : ∀ (l : Nat) (a : Addr), ι[l]? = some a → ι'[l]? = some a) : ∀ (ds : List D) (vs : List V), Reps K F ι ds vs → Reps K F' ι' ds vs
  | [], _, h => by simpa only [Reps] using h
  | d :: ds, vs, h => by
    simp only [Reps] at h ⊢
    obtain ⟨v, r, e, h1, h2⟩ := h
    exact ⟨v, r, e, Rep.mono f i d v h1, Reps.mono f i ds r h2⟩
end
theorem Rep.ext {d : D} {v : V} (h : Rep K F ι d v) (e : Ext F ι H F' ι' H') : Rep K F' ι' d v := Rep.mono e.f e.i d v h
theorem Reps.ext {ds : List D} {vs : List V} (h : Reps K F ι ds vs) (e : Ext F ι H F' ι' H') : Reps K F' ι' ds vs := Reps.mono e.f e.i ds vs h
theorem RepF.ext {fs : List (Str × D)} {gs : List (Str × V)} (h : RepF K F ι fs gs) (e : Ext F ι H F' ι' H') : RepF K F' ι' fs gs := Paired.mapP h fun _ _ q => ⟨q.1, q.2.ext e⟩
theorem Reps.nil : Reps K F ι [] [] := by simp only [Reps]
theorem Reps.cons {d : D} {v : V} {ds : List D} {vs : List V} (h : Rep K F ι d v) (r : Reps K F ι ds vs) : Reps K F ι (d :: ds) (v :: vs) := by
  simp only [Reps]
  exact ⟨v, vs, rfl, h, r⟩
theorem Reps.length : ∀ {ds : List D} {vs : List V}, Reps K F ι ds vs → ds.length = vs.length
  | [], _, h => by simp only [Reps] at h; subst h; rfl
  | _ :: ds, _, h => by
    simp only [Reps] at h
    obtain ⟨v, r, e, _, h2⟩ := h
    subst e
    rw [List.length_cons, List.length_cons, Reps.length h2]
theorem Reps.get : ∀ {ds : List D} {vs : List V} {i : Nat} {d : D}, Reps K F ι ds vs → ds[i]? = some d → ∃ v, vs[i]? = some v ∧ Rep K F ι d v
  | [], _, _, _, _, e => by simp at e
  | d :: ds, _, 0, _, h, e => by
    simp only [Reps] at h
    obtain ⟨v, r, rfl, h1, _⟩ := h
    simp at e
    subst e
    exact ⟨v, rfl, h1⟩
  | d :: ds, _, i + 1, _, h, e => by
    simp only [Reps] at h
    obtain ⟨v, r, rfl, _, h2⟩ := h
    obtain ⟨u, q1, q2⟩ := Reps.get (i := i) h2 (by simpa using e)
    exact ⟨u, by simpa using q1, q2⟩
theorem Reps.append : ∀ {ds es : List D} {vs ws : List V}, Reps K F ι ds vs → Reps K F ι es ws → Reps K F ι (ds ++ es) (vs ++ ws)
  | [], _, _, _, h, g => by simp only [Reps] at h; subst h; exact g
  | d :: ds, _, _, _, h, g => by
    simp only [Reps] at h
    obtain ⟨v, r, rfl, h1, h2⟩ := h
    exact Reps.cons h1 (Reps.append h2 g)
theorem Reps.mem {ds : List D} {vs : List V} (h : Reps K F ι ds vs) : ∀ d, d ∈ ds → ∃ v, v ∈ vs ∧ Rep K F ι d v := fun d hd => by
  obtain ⟨i, hi⟩ := List.getElem?_of_mem hd
  obtain ⟨v, q1, q2⟩ := h.get hi
  exact ⟨v, List.mem_of_getElem? q1, q2⟩
theorem Reps.at {ds : List D} {vs : List V} {i : Nat} {d : D} {v : V} (h : Reps K F ι ds vs) (a : ds[i]? = some d) (b : vs[i]? = some v) : Rep K F ι d v := by
  obtain ⟨u, q1, q2⟩ := h.get a
  rw [b] at q1
  cases q1
  exact q2
theorem Sim.sqT (S : Sim K F ι st H) {a : Addr} {vs : List V} (h : SqP K F a vs) : SqT K H a vs := (h.mono S.sub).sqT
theorem Sim.sqL (S : Sim K F ι st H) {a : Addr} {vs : List V} (h : SqL K F a vs) : SqL K H a vs := SqL.mono h S.sub
theorem ObjR.mono {a : Addr} {m : MO} (h : ObjR K F ι H a m) (f : ∀ a o, F a = some o → F' a = some o) (i : ∀ (l : Nat) (a : Addr), ι[l]? = some a → ι'[l]? = some a) (k : H' a = H a) : ObjR K F' ι' H' a m := by
  cases m with
  | lst xs =>
    obtain ⟨vs, e, r⟩ := h
    exact ⟨vs, k.trans e, Reps.mono f i _ _ r⟩
  | dct ks ds =>
    obtain ⟨xs, ws, z, q, kt, vr, r⟩ := h
    exact ⟨xs, ws, z, k.trans q, kt.mono f, vr, Reps.mono f i _ _ r⟩
  | dcs ks ds =>
    obtain ⟨xs, ws, z, q, kt, vr, r⟩ := h
    exact ⟨xs, ws, z, k.trans q, kt.mono f, vr, Reps.mono f i _ _ r⟩
  | gone => trivial
  | ins C fs =>
    obtain ⟨C, dx, gs, z, e, r⟩ := h
    exact ⟨C, dx, gs, z, k.trans e, Paired.mapP r fun _ _ q => ⟨q.1, Rep.mono f i _ _ q.2⟩⟩
  | clo nm ds =>
    obtain ⟨L, cl, pm, c', ctv, ws, z, e, q, cf, r⟩ := h
    exact ⟨L, cl, pm, c', ctv, ws, z, k.trans e, f _ _ q, cf.mono f, Reps.mono f i _ _ r⟩
end
end Dn
namespace Dn
open PySem PySem.Spec PyProof.Rows L2
variable [HzC]
def XcR (K : PySem.W.Frag) (F : Hp) (ι : List Addr) (H : Hp) (x : Xc) (cls : Value) (dd : Option Addr) : Prop :=
  PySem.W.nsIn K mainGlobals x.nm = some (some cls) ∧ match x.fld with
    | none => dd = none
    | some (f, d) => ∃ a v, dd = some a ∧ F a = some (.xd [(f, v)]) ∧ Rep K F ι d v
structure REnv (K : PySem.W.Frag) (F : Hp) (ι : List Addr) (ρ : Rho) (σ : L2.St) : Prop where
  len : ρ.length = σ.length
  at_ : ∀ (i : Nat) (d : D), ρ[i]? = some (some d) → ∃ v, σ[i]? = some (some v) ∧ Rep K F ι d v
def post {α β : Type} (K : PySem.W.Frag) (W : WX) (σ : L2.St) (F : Hp) (ι : List Addr) (H : Hp) (P : Hp → Hp → List Addr → Hp → α → β → Prop) (r : Out α) (Q : β → Hp → Prop) : Prop :=
  match r with
  | .ok a st' => ∀ F' ι' H' b, Ext F ι H F' ι' H' → Sim K F' ι' st' H' → P H F' ι' H' a b → Q b H'
  | .exc x st' => ∀ F' ι' H' cls dd, Ext F ι H F' ι' H' → Sim K F' ι' st' H' → XcR K F' ι' H' x cls dd → W cls dd σ H'
  | .bad => False
def pV (K : PySem.W.Frag) : Hp → Hp → List Addr → Hp → D → V → Prop := fun _ F ι _ d v => Rep K F ι d v
def pA (K : PySem.W.Frag) : Hp → Hp → List Addr → Hp → List D → List V → Prop := fun _ F ι _ d v => Reps K F ι d v
def pB : Hp → Hp → List Addr → Hp → Bool → Bool → Prop := fun _ _ _ _ b c => b = c
def Back {α β : Type} (P : Hp → Hp → List Addr → Hp → α → β → Prop) : Prop := ∀ H0 H1 F ι H a b, (∀ x, H1 x = none → H0 x = none) → P H1 F ι H a b → P H0 F ι H a b
section
variable {α β γ δ : Type} {K : PySem.W.Frag} {W : WX} {σ : L2.St} {F F1 : Hp} {ι ι1 : List Addr} {H H1 : Hp} {P : Hp → Hp → List Addr → Hp → α → β → Prop} {P' : Hp → Hp → List Addr → Hp → γ → δ → Prop} {Q : δ → Hp → Prop} {Q' : β → Hp → Prop}
theorem REnv.ext {ρ : Rho} (h : REnv K F ι ρ σ) (x : Ext F ι H F1 ι1 H1) : REnv K F1 ι1 ρ σ := ⟨h.len, fun i d e => let ⟨v, a, r⟩ := h.at_ i d e; ⟨v, a, r.ext x⟩⟩
theorem REnv.set {ρ : Rho} (h : REnv K F ι ρ σ) {d : D} {v : V} (r : Rep K F ι d v) (i : Nat) : REnv K F ι (ρ.set i (some d)) (σ.set i (some v)) := by
  refine ⟨by simp [h.len], fun j e q => ?_⟩
  by_cases hj : i = j
  · subst hj
    by_cases hl : i < ρ.length
    · rw [List.getElem?_set_self hl] at q
      cases q
      exact ⟨v, by rw [List.getElem?_set_self (by rw [← h.len]; exact hl)], r⟩
    · rw [List.getElem?_eq_none (by simpa using hl)] at q
      cases q
  · rw [List.getElem?_set_ne hj] at q
    rw [List.getElem?_set_ne hj]
    exact h.at_ j e q
def wipeD (ρ : Rho) : List Nat → Rho
  | [] => ρ
  | v :: vs => (wipeD ρ vs).set v none
theorem REnv.wipe {ρ : Rho} (h : REnv K F ι ρ σ) : ∀ vs : List Nat, REnv K F ι (wipeD ρ vs) (wipe σ vs)
  | [] => h
  | v :: vs => by
    have ih := h.wipe vs
    show REnv K F ι ((wipeD ρ vs).set v none) ((L2.wipe σ vs).set v none)
    refine ⟨by simp [ih.len], fun j e q => ?_⟩
    by_cases hj : v = j
    · subst hj
      by_cases hl : v < (wipeD ρ vs).length
      · rw [List.getElem?_set_self hl] at q; cases q
      · rw [List.getElem?_eq_none (by simpa using hl)] at q; cases q
    · rw [List.getElem?_set_ne hj] at q
      rw [List.getElem?_set_ne hj]
      exact ih.at_ j e q
end
def wN : WX := fun _ _ _ _ => False
def nox {α : Type} (r : Out α) : Out α := match r with
  | .ok a st => .ok a st
  | _ => .bad
@[simp] theorem nox_ok {α : Type} (a : α) (st : Sto) : nox (.ok a st) = .ok a st := rfl
@[simp] theorem nox_bad {α : Type} : nox (.bad : Out α) = .bad := rfl
def tG {α β : Type} (K : PySem.W.Frag) (W : WX) (P : Hp → Hp → List Addr → Hp → α → β → Prop) (m : Rho → M α) : L2.St → Hp → (β → Hp → Prop) → Prop := fun σ H Q =>
  ∃ F ι ρ st, Sim K F ι st H ∧ REnv K F ι ρ σ ∧ post K W σ F ι H P (m ρ st) Q
abbrev tV (K : PySem.W.Frag) (W : WX) (m : Rho → M D) : TE := tG K W (pV K) m
abbrev tA (K : PySem.W.Frag) (W : WX) (m : Rho → M (List D)) : TA := tG K W (pA K) m
abbrev tT (K : PySem.W.Frag) (W : WX) (m : Rho → M Bool) : TT := tG K W pB m
def DE (X : Cx) (W : WX) (e : Expr) (m : Rho → M D) : Prop := PE X e (tV X.K W m)
def DA (X : Cx) (W : WX) (es : List Expr) (m : Rho → M (List D)) : Prop := PA X es (tA X.K W m)
def DT (X : Cx) (W : WX) (e : Expr) (m : Rho → M Bool) : Prop := PT X e (tT X.K W m)
theorem PE.weak {X : Cx} {e : Expr} {t t' : TE} (h : PE X e t) (w : ∀ σ H Q, t' σ H Q → t σ H Q) : PE X e t' := ⟨fun pins s σ H Q I q => h.run pins s σ H Q I (w σ H Q q)⟩
theorem PT.weak {X : Cx} {e : Expr} {t t' : TT} (h : PT X e t) (w : ∀ σ H Q, t' σ H Q → t σ H Q) : PT X e t' := ⟨fun pins s σ H Q I q => h.run pins s σ H Q I (w σ H Q q)⟩
theorem PA.weak {X : Cx} {e : List Expr} {t t' : TA} (h : PA X e t) (w : ∀ σ H Q, t' σ H Q → t σ H Q) : PA X e t' := ⟨fun pos pins s σ H Q I q => h.run pos pins s σ H Q I (w σ H Q q)⟩
theorem PS.weak {X : Cx} {e : Stmt} {t t' : TS} (h : PS X e t) (w : ∀ D σ H, t' D σ H → t D σ H) : PS X e t' := ⟨fun pins s σ H D I q => h.run pins s σ H D I (w D σ H q)⟩
theorem PSs.weak {X : Cx} {e : List Stmt} {t t' : TS} (h : PSs X e t) (w : ∀ D σ H, t' D σ H → t D σ H) : PSs X e t' := ⟨fun pins s σ H D I q => h.run pins s σ H D I (w D σ H q)⟩
def lift {α : Type} (o : Option α) : M α := fun st => match o with
  | some a => .ok a st
  | none => .bad
@[simp] theorem lift_some {α : Type} (a : α) (st : Sto) : lift (some a) st = .ok a st := rfl
@[simp] theorem lift_none {α : Type} (st : Sto) : (lift none st : Out α) = .bad := rfl
def mVar (i : Nat) : Rho → M D := fun ρ st => match ρ[i]? with
  | some (some d) => .ok d st
  | _ => .bad
def mLit (d : D) : Rho → M D := fun _ st => .ok d st
section
variable {X : Cx} {W : WX} {pos : Pos}
theorem de_var {i : Nat} {x : Str} (hN : X.N[i]? = some x) (hv : Vis X.env.scope x) (hd : (x == ("__debug__" : Str)) = false := by decide) (hcd : (x == ("__classdict__" : Str)) = false := by decide) : DE X W (.Name x pos) (mVar i) := by
  refine PE.weak (pe_var hN hv hd hcd) fun σ H Q ⟨F, ι, ρ, st, S, R, h⟩ => ?_
  unfold mVar at h
  split at h
  · rename_i d e
    obtain ⟨v, q, r⟩ := R.at_ i d e
    exact ⟨v, q, h F ι H v Ext.refl S r⟩
  · exact h.elim
def mNil : Rho → M (List D) := fun _ st => .ok [] st
def mCons (m : Rho → M D) (r : Rho → M (List D)) : Rho → M (List D) := fun ρ st => (m ρ st).bind fun d st1 => (r ρ st1).bind fun ds st2 => .ok (d :: ds) st2
abbrev SZ : Nat := 100000
def mTup (a : Rho → M (List D)) : Rho → M D := fun ρ st => (a ρ st).bind fun xs st1 => if xs.length ≤ SZ then .ok (.tup xs) st1 else .bad
def lDisp (a : Rho → M (List D)) : Rho → M (List D) := fun ρ st => (a ρ st).bind fun xs st1 => if xs.length ≤ SZ then .ok xs st1 else .bad
def mFrz (l : Rho → M (List D)) : Rho → M D := fun ρ st => (l ρ st).bind fun xs st1 => .ok (.lst xs) st1
def mNew (l : Rho → M (List D)) : Rho → M D := fun ρ st => (l ρ st).bind fun xs st1 => .ok (.ref st1.length) (st1 ++ [.lst xs])
end
end Dn
namespace Dn
open PySem PySem.Spec PyProof.Rows L2
variable [HzC]
mutual
def isP : D → Bool
  | .non => true | .bl _ => true | .int _ => true | .str _ => true
  | .tup xs => isPs xs | .lst xs => isPs xs
  | .scr _ => false | .ref _ => false | .adr _ => false | .fd _ _ => false | .exo _ _ _ _ => false | .obj _ _ _ => false | .sd _ => false | .fnv _ => false
def isPs : List D → Bool
  | [] => true
  | d :: ds => isP d && isPs ds
end
mutual
def toP : D → PyData
  | .non => .none | .bl b => .bool b | .int i => .int i | .str s => .str s
  | .tup xs => .tuple (toPs xs) | .lst xs => .list (toPs xs)
  | .scr _ => .none | .ref _ => .none | .adr _ => .none | .fd _ _ => .none | .exo _ _ _ _ => .none | .obj _ _ _ => .none | .fnv _ => .none | .sd kvs => .dict (kvs.map fun p => (.str p.1, match p.2 with | none => .none | some i => .int i))
def toPs : List D → List PyData
  | [] => []
  | d :: ds => toP d :: toPs ds
end
theorem toPs_map : ∀ ds : List D, toPs ds = ds.map toP
  | [] => rfl
  | d :: ds => by rw [toPs, List.map_cons, toPs_map ds]
mutual
theorem dp_of {K : PySem.W.Frag} {F H : Hp} {ι : List Addr} (sub : ∀ a o, F a = some o → H a = some o) : ∀ (d : D) (v : V), isP d = true → Rep K F ι d v → Dp K H v (toP d)
  | .non, v, _, r => by simp only [Rep] at r; subst r; simp only [toP]; exact .non
  | .bl b, v, _, r => by simp only [Rep] at r; subst r; simp only [toP]; exact .bl b
  | .int b, v, _, r => by simp only [Rep] at r; subst r; simp only [toP]; exact .int b
  | .str b, v, _, r => by simp only [Rep] at r; subst r; simp only [toP]; exact .str b
  | .tup xs, v, p, r => by
    simp only [Rep] at r
    obtain ⟨a, vs, e, q, r⟩ := r
    subst e
    simp only [toP]
    exact .tup (SqP.mono q sub).sqT (dps_of sub xs vs (by simpa only [isP] using p) r)
  | .lst xs, v, p, r => by
    simp only [Rep] at r
    obtain ⟨a, vs, e, q, r⟩ := r
    subst e
    simp only [toP]
    exact .lst (SqL.of (sub _ _ q)) (dps_of sub xs vs (by simpa only [isP] using p) r)
  | .scr _, _, p, _ => by simp [isP] at p
  | .ref _, _, p, _ => by simp [isP] at p
  | .adr _, _, p, _ => by simp [isP] at p
  | .fd _ _, _, p, _ => by simp [isP] at p
  | .exo _ _ _ _, _, p, _ => by simp [isP] at p
  | .obj _ _ _, _, p, _ => by simp [isP] at p
  | .sd _, _, p, _ => by simp [isP] at p
  | .fnv _, _, p, _ => by simp [isP] at p
theorem dps_of {K : PySem.W.Frag} {F H : Hp} {ι : List Addr} (sub : ∀ a o, F a = some o → H a = some o) : ∀ (ds : List D) (vs : List V), isPs ds = true → Reps K F ι ds vs → DpAll K H vs (toPs ds)
  | [], vs, _, r => by simp only [Reps] at r; subst r; simp only [toPs]; exact .nil
  | d :: ds, vs, p, r => by
    simp only [Reps] at r
    obtain ⟨v, rs, e, r1, r2⟩ := r
    subst e
    simp only [isPs, Bool.and_eq_true] at p
    simp only [toPs]
    exact .cons (dp_of sub d v p.1 r1) (dps_of sub ds rs p.2 r2)
end
def lstOf (st : Sto) : D → Option (List D)
  | .lst xs => some xs
  | .ref l => match st[l]? with
    | some (.lst xs) => some xs
    | _ => none
  | _ => none
def seqOf (st : Sto) : D → Option (List D)
  | .tup xs => some xs
  | .scr xs => some xs
  | d => lstOf st d
@[simp] theorem lstOf_lst (st : Sto) (xs : List D) : lstOf st (.lst xs) = some xs := rfl
@[simp] theorem seqOf_tup (st : Sto) (xs : List D) : seqOf st (.tup xs) = some xs := rfl
@[simp] theorem seqOf_lst (st : Sto) (xs : List D) : seqOf st (.lst xs) = some xs := rfl
@[simp] theorem seqOf_scr (st : Sto) (xs : List D) : seqOf st (.scr xs) = some xs := rfl
def dat (st : Sto) (d : D) : Option PyData := match d with
  | .ref l => match st[l]? with
    | some (.lst xs) => if isPs xs = true then some (.list (toPs xs)) else none
    | _ => none
  | d => if isP d = true then some (toP d) else none
section
variable {K : PySem.W.Frag} {F H : Hp} {ι : List Addr} {st : Sto}
theorem Sim.lst (S : Sim K F ι st H) {d : D} {v : V} {xs : List D} (r : Rep K F ι d v) (h : lstOf st d = some xs) : ∃ a vs, v = .ref a ∧ H a = some (.lst vs) ∧ Reps K F ι xs vs := by
  unfold lstOf at h
  split at h
  · cases h
    simp only [Rep] at r
    obtain ⟨a, vs, e, q, r⟩ := r
    exact ⟨a, vs, e, S.sub _ _ q, r⟩
  · rename_i l
    split at h
    · rename_i ys e
      cases h
      simp only [Rep] at r
      obtain ⟨a, e2, q⟩ := r
      obtain ⟨vs, h1, h2⟩ := S.obj l _ a e q
      exact ⟨a, vs, e2, h1, h2⟩
    · cases h
  · cases h
theorem Sim.seq (S : Sim K F ι st H) {d : D} {v : V} {xs : List D} (r : Rep K F ι d v) (h : seqOf st d = some xs) : ∃ a vs, v = .ref a ∧ (SqL K H a vs ∨ SqT K H a vs) ∧ Reps K F ι xs vs := by
  unfold seqOf at h
  split at h
  · cases h
    simp only [Rep] at r
    obtain ⟨a, vs, e, q, r⟩ := r
    exact ⟨a, vs, e, .inr (S.sqT q), r⟩
  · cases h
    simp only [Rep] at r
    obtain ⟨a, vs, e, q, r⟩ := r
    exact ⟨a, vs, e, .inl (S.sqL q), r⟩
  · obtain ⟨a, vs, e, q, r⟩ := S.lst r h
    exact ⟨a, vs, e, .inl (SqL.of q), r⟩
theorem Sim.dp (S : Sim K F ι st H) {d : D} {v : V} {p : PyData} (r : Rep K F ι d v) (h : dat st d = some p) : Dp K H v p := by
  unfold dat at h
  split at h
  · rename_i l
    split at h
    · rename_i xs e
      split at h
      · rename_i hp
        cases h
        simp only [Rep] at r
        obtain ⟨a, e2, q⟩ := r
        subst e2
        obtain ⟨vs, h1, h2⟩ := S.obj l _ a e q
        exact .lst (SqL.of h1) (dps_of S.sub xs vs hp h2)
      · cases h
    · cases h
  · split at h
    · rename_i hp
      cases h
      exact dp_of S.sub _ _ hp r
    · cases h
end
def mOp (p : Sto → D → D → Option D) (m1 m2 : Rho → M D) : Rho → M D := fun ρ st => (m1 ρ st).bind fun a st1 => (m2 ρ st1).bind fun b st2 => lift (p st2 a b) st2
def lOp (p : Sto → D → D → Option (List D)) (m1 m2 : Rho → M D) : Rho → M (List D) := fun ρ st => (m1 ρ st).bind fun a st1 => (m2 ρ st1).bind fun b st2 => lift (p st2 a b) st2
section
variable {X : Cx} {W : WX} {pos : Pos} {a b : Expr} {m1 m2 : Rho → M D}
def pSub : Sto → D → D → Option D := fun _ a b => match a, b with
  | .int i, .int j => some (.int (i - j))
  | _, _ => none
def pNeg : Sto → D → Option D := fun _ a => match a with
  | .int i => some (.int (-i))
  | _ => none
def mUn (p : Sto → D → Option D) (m : Rho → M D) : Rho → M D := fun ρ st => (m ρ st).bind fun a st1 => lift (p st1 a) st1
def pAdd : Sto → D → D → Option D := fun _ a b => match a, b with
  | .int i, .int j => some (.int (i + j))
  | .int i, .bl k => some (.int (i + b2i k))
  | .str x, .str y => if x.length + y.length ≤ sizeLine then some (.str (x ++ y)) else none
  | .tup xs, .tup ys => if xs.length + ys.length ≤ SZ then some (.tup (xs ++ ys)) else none
  | _, _ => none
end
end Dn
namespace Dn
open PySem PySem.Spec PyProof.Rows L2
variable [HzC]
section
variable {X : Cx} {W : WX} {pos : Pos} {a b c : Expr} {m1 m2 m3 : Rho → M D}
def pEq : Sto → D → D → Option D := fun st a b => match a, b with
  | .str x, .str y => some (.bl ((x == y)))
  | a, b => match dat st a, dat st b with
  | some p, some q => if min p.depth q.depth ≤ 64 then some (.bl (PyData.eqv p q)) else none
  | _, _ => none
def pNe : Sto → D → D → Option D := fun st a b => match a, b with
  | .str x, .str y => some (.bl (!(x == y)))
  | a, b => match dat st a, dat st b with
  | some p, some q => if min p.depth q.depth ≤ 64 then some (.bl (!PyData.eqv p q)) else none
  | _, _ => none
def inD (st : Sto) (a b : D) : Option Bool := match b with
  | .str y => match a with
    | .str x => some (!(Builtin.Str.occurrences y x 0 y.length 1).isEmpty)
    | _ => none
  | b => match dat st a, dat st b with
    | some p, some (.list ds) => if p.depth ≤ 64 then some (ds.any fun z => PyData.eqv z p) else none
    | some p, some (.tuple ds) => if p.depth ≤ 64 then some (ds.any fun z => PyData.eqv z p) else none
    | _, _ => none
def pIn : Sto → D → D → Option D := fun st a b => (inD st a b).map fun k => .bl k
def pNotIn : Sto → D → D → Option D := fun st a b => (inD st a b).map fun k => .bl (!k)
def pLt : Sto → D → D → Option D := fun st a b => match a, b with
  | .int i, .int j => some (.bl (decide (i < j)))
  | .str x, .str y => some (.bl (decide (x.cps.toList < y.cps.toList)))
  | .tup xs, .tup ys => if isPs xs = true ∧ isPs ys = true ∧ PySem.W.alikeAll (toPs xs) (toPs ys) = true ∧ PyData.depth (toP (.tup xs)) ≤ 64 then some (.bl (PySem.W.dataLt (toP (.tup xs)) (toP (.tup ys)))) else none
  | _, _ => none
def pLe : Sto → D → D → Option D := fun _ a b => match a, b with
  | .int i, .int j => some (.bl (decide (i ≤ j)))
  | _, _ => none
def pGt : Sto → D → D → Option D := fun _ a b => match a, b with
  | .int i, .int j => some (.bl (decide (j < i)))
  | _, _ => none
def pGe : Sto → D → D → Option D := fun _ a b => match a, b with
  | .int i, .int j => some (.bl (decide (j ≤ i)))
  | _, _ => none
def isB (m : Rho → M D) : Rho → M Bool := fun ρ st => (m ρ st).bind fun d st1 => match d with
  | .bl k => .ok k st1
  | _ => .bad
def D.truth (st : Sto) : D → Option Bool
  | .non => some false
  | .bl b => some b
  | .int i => some (i != 0)
  | .str s => if s.length ≤ sizeLine then some ((s.length : Int) != 0) else none
  | d => (seqOf st d).map fun xs => !xs.isEmpty
def mTru (m : Rho → M D) : Rho → M Bool := fun ρ st => (m ρ st).bind fun d st1 => lift (d.truth st1) st1
theorem PW.weak {X : Cx} {e : Expr} {t t' : TT} (h : PW X e t) (w : ∀ σ H Q, t' σ H Q → t σ H Q) : PW X e t' := ⟨fun wh pins s σ H Q I q => h.run wh pins s σ H Q I (w σ H Q q)⟩
def bAnd (m1 m2 : Rho → M Bool) : Rho → M Bool := fun ρ st => (m1 ρ st).bind fun k st1 => if k = true then m2 ρ st1 else .ok false st1
def bOr (m1 m2 : Rho → M Bool) : Rho → M Bool := fun ρ st => (m1 ρ st).bind fun k st1 => if k = true then .ok true st1 else m2 ρ st1
def bNot (m1 : Rho → M Bool) : Rho → M Bool := fun ρ st => (m1 ρ st).bind fun k st1 => .ok (!k) st1
variable {b1 b2 : Rho → M Bool} {rest : List Expr}
def mIf (t : Rho → M Bool) (m1 m2 : Rho → M D) : Rho → M D := fun ρ st => (t ρ st).bind fun k st1 => if k = true then m1 ρ st1 else m2 ρ st1
end
end Dn
namespace Dn
open PySem PySem.Spec PyProof.Rows L2
variable [HzC]
section
variable {X : Cx} {W : WX} {pos p2 : Pos} {a b c : Expr} {m1 m2 m3 : Rho → M D}
def pIdx : Sto → D → D → Option D := fun st a i => match a, i with
  | .str z, .int i => if z.length ≤ sizeLine then (atI z.cps.toList i).map fun c => .str ⟨#[c]⟩ else none
  | a, .int i => (seqOf st a).bind fun xs => atI xs i
  | _, _ => none
theorem PO.weak {X : Cx} {e : Option Expr} {t t' : TO} (h : PO X e t) (w : ∀ σ H Q, t' σ H Q → t σ H Q) : PO X e t' := ⟨fun pins s σ H Q I q => h.run pins s σ H Q I (w σ H Q q)⟩
def oNone : Rho → M (Option Int) := fun _ st => .ok none st
def oSome (m : Rho → M D) : Rho → M (Option Int) := fun ρ st => (m ρ st).bind fun d st1 => match d with
  | .int i => .ok (some i) st1
  | _ => .bad
def cutD {α : Type} (xs : List α) (lo hi : Option Int) : List α := (xs.drop (HT.sIx xs.length 0 lo)).take (HT.sIx xs.length xs.length hi - HT.sIx xs.length 0 lo)
theorem Reps.drop {K : PySem.W.Frag} {F : Hp} {ι : List Addr} : ∀ {xs : List D} {vs : List V} (n : Nat), Reps K F ι xs vs → Reps K F ι (xs.drop n) (vs.drop n)
  | _, _, 0, r => r
  | [], _, _ + 1, r => by simp only [Reps] at r; subst r; exact Reps.nil
  | d :: ds, _, n + 1, r => by
    simp only [Reps] at r
    obtain ⟨v, rs, e, _, r2⟩ := r
    subst e
    exact Reps.drop n r2
theorem Reps.take {K : PySem.W.Frag} {F : Hp} {ι : List Addr} : ∀ {xs : List D} {vs : List V} (n : Nat), Reps K F ι xs vs → Reps K F ι (xs.take n) (vs.take n)
  | _, _, 0, r => by simp; exact Reps.nil
  | [], _, _ + 1, r => by simp only [Reps] at r; subst r; exact Reps.nil
  | d :: ds, _, n + 1, r => by
    simp only [Reps] at r
    obtain ⟨v, rs, e, r1, r2⟩ := r
    subst e
    exact Reps.cons r1 (Reps.take n r2)
def mSlT (m : Rho → M D) (l h : Rho → M (Option Int)) : Rho → M D := fun ρ st => (m ρ st).bind fun d st1 => (l ρ st1).bind fun lo st2 => (h ρ st2).bind fun hi st3 => match d with
  | .tup xs => .ok (.tup (cutD xs lo hi)) st3
  | _ => .bad
end
end Dn
namespace Dn
open PySem PySem.Spec PyProof.Rows L2
variable [HzC]
def mB (p : Sto → List D → Option D) (a : Rho → M (List D)) : Rho → M D := fun ρ st => (a ρ st).bind fun ds st1 => lift (p st1 ds) st1
def lB (p : Sto → List D → Option (List D)) (a : Rho → M (List D)) : Rho → M (List D) := fun ρ st => (a ρ st).bind fun ds st1 => lift (p st1 ds) st1
section
variable {X : Cx} {W : WX} {pos p2 p : Pos} {e : Expr} {es : List Expr} {bid T : String} {x : Str} {m1 m2 : Rho → M D} {am : Rho → M (List D)} {pf : Sto → List D → Option D} {pl : Sto → List D → Option (List D)}
theorem Reps.one {K : PySem.W.Frag} {F : Hp} {ι : List Addr} {d : D} {vs : List V} (r : Reps K F ι [d] vs) : ∃ v, vs = [v] ∧ Rep K F ι d v := by
  simp only [Reps] at r
  obtain ⟨v, r', e, h, e2⟩ := r
  subst e2
  exact ⟨v, e, h⟩
theorem Reps.two {K : PySem.W.Frag} {F : Hp} {ι : List Addr} {d d' : D} {vs : List V} (r : Reps K F ι [d, d'] vs) : ∃ v v', vs = [v, v'] ∧ Rep K F ι d v ∧ Rep K F ι d' v' := by
  simp only [Reps] at r
  obtain ⟨v, r', e, h, v', r'', e', h', e2⟩ := r
  subst e2 e'
  exact ⟨v, v', e, h, h'⟩
def pLen : Sto → List D → Option D := fun st ds => match ds with
  | [.str z] => if z.length ≤ sizeLine then some (.int z.length) else none
  | [d] => (seqOf st d).map fun xs => .int xs.length
  | _ => none
def pTuple : Sto → List D → Option D := fun st ds => match ds with
  | [.tup xs] => some (.tup xs)
  | [d] => (lstOf st d).map fun xs => .tup xs
  | _ => none
end
end Dn
namespace Dn
open PySem PySem.Spec PyProof.Rows L2
inductive SK where
  | l | t
def SqX (K : PySem.W.Frag) (H : Hp) : SK → Addr → List V → Prop
  | .l, a, xs => SqL K H a xs
  | .t, a, xs => SqT K H a xs
def ItAt (h : Heap) : SK → Addr → Addr → Nat → Prop
  | .l, it, a, i => h.IsListIter it a i
  | .t, it, a, i => h.IsTupleIter it a i
theorem ItAt.obj {h : Heap} {k : SK} {it a : Addr} {i : Nat} (x : ItAt h k it a i) : ∃ o n vs, h.get? it = some o ∧ o.cls = .type n ∧ o.data = .fields vs := by
  cases k with
  | l => obtain ⟨o, e, c, d⟩ := x; exact ⟨o, _, _, e, c, d⟩
  | t => obtain ⟨o, e, c, d⟩ := x; exact ⟨o, _, _, e, c, d⟩
theorem ItAt.at {h h' : Heap} {k : SK} {it a : Addr} {i : Nat} (x : ItAt h k it a i) (e : ∀ o, h.get? it = some o → h'.get? it = some o) : ItAt h' k it a i := by
  cases k with
  | l => exact Heap.IsListIter.at x e
  | t => exact Heap.IsTupleIter.at x e
def IteX (K : PySem.W.Frag) (k : SK) (a : Addr) : It :=
  ⟨fun i H => ∃ (xs : List V) (x : V), SqX K H k a xs ∧ xs[i]? = some x, fun i H v H' => ∃ (T : Addr) (x : V) (o : Obj), v = .ref T ∧ H T = none ∧ o.dict = none ∧ H' = upd H T (.frz o (.tup [.int (i : Nat), x])) ∧ ∀ xs, SqX K H k a xs → xs[i]? = some x, fun i H => ∃ xs : List V, SqX K H k a xs ∧ xs.length = i⟩
def iEnumX (K : PySem.W.Frag) (ta : TA) : TI := fun σ H R => ta σ H fun vs H1 => ∃ a k xs, vs = [.ref a] ∧ SqX K H1 k a xs ∧ R (IteX K k a) H1
end Dn
namespace Dn
open PySem PySem.Spec PyProof.Rows L2
variable [HzC]
def pR (K : PySem.W.Frag) (js : List Nat) (σ0 : L2.St) : Hp → Hp → List Addr → Hp → Rho → L2.St → Prop := fun _ F ι _ ρ σ => REnv K F ι ρ σ ∧ ∀ vs : List Nat, (∀ j, j ∈ js → j ∈ vs) → wipe σ vs = wipe σ0 vs
def tGt (K : PySem.W.Frag) (js : List Nat) (gf : D → Rho → M Rho) : TG := fun v σ H Q => ∃ F ι ρ st d, Sim K F ι st H ∧ REnv K F ι ρ σ ∧ Rep K F ι d v ∧ post K wN σ F ι H (pR K js σ) (gf d ρ st) Q
def DG (X : Cx) (js : List Nat) (e : Expr) (gf : D → Rho → M Rho) : Prop := PG X e (tGt X.K js gf)
theorem PG.weak {X : Cx} {e : Expr} {t t' : TG} (h : PG X e t) (w : ∀ v σ H Q, t' v σ H Q → t v σ H Q) : PG X e t' := ⟨fun pins s σ H v u Q I r q => h.run pins s σ H v u Q I r (w v σ H Q q)⟩
def gN (i : Nat) : D → Rho → M Rho := fun d ρ st => .ok (ρ.set i (some d)) st
theorem PGs.weak {X : Cx} {e : List Expr} {t t' : TGs} (h : PGs X e t) (w : ∀ v σ H Q, t' v σ H Q → t v σ H Q) : PGs X e t' := ⟨fun pins s σ H v u Q I r q => h.run pins s σ H v u Q I r (w v σ H Q q)⟩
def gsNil : List D → Rho → M Rho := fun ds ρ st => match ds with
  | [] => .ok ρ st
  | _ => .bad
def gsCons (g : D → Rho → M Rho) (gs : List D → Rho → M Rho) : List D → Rho → M Rho := fun ds ρ st => match ds with
  | d :: r => (g d ρ st).bind fun ρ1 st1 => gs r ρ1 st1
  | [] => .bad
def gT (n : Nat) (gs : List D → Rho → M Rho) : D → Rho → M Rho := fun d ρ st => match d with
  | .tup xs => if xs.length = n then gs xs ρ st else .bad
  | _ => .bad
structure Src where
  items : List D
  held : List (Nat × List D)
def heldOk (held : List (Nat × List D)) (st : Sto) : Prop := ∀ p, p ∈ held → st[p.1]? = some (.lst p.2)
@[simp] theorem heldOk_nil (st : Sto) : heldOk [] st ↔ True := ⟨fun _ => trivial, fun _ _ h => by cases h⟩
@[simp] theorem heldOk_one (l : Nat) (xs : List D) (st : Sto) : heldOk [(l, xs)] st ↔ st[l]? = some (.lst xs) := by
  constructor
  · intro h; exact h (l, xs) (by simp)
  · intro h p hp
    have : p = (l, xs) := by simpa using hp
    subst this; exact h
structure Grow (F : Hp) (ι : List Addr) (F' : Hp) (ι' : List Addr) : Prop where
  f : ∀ a o, F a = some o → F' a = some o
  i : ∀ (l : Nat) (a : Addr), ι[l]? = some a → ι'[l]? = some a
theorem Ext.grow {F : Hp} {ι : List Addr} {H F' : Hp} {ι' : List Addr} {H' : Hp} (x : Ext F ι H F' ι' H') : Grow F ι F' ι' := ⟨x.f, x.i⟩
structure SrcIt (K : PySem.W.Frag) (F : Hp) (ι : List Addr) (src : Src) (J : It) : Prop where
  go : ∀ (i : Nat) F' ι' st' H', Grow F ι F' ι' → Sim K F' ι' st' H' → heldOk src.held st' → i < src.items.length → J.go i H'
  stop : ∀ F' ι' st' H', Grow F ι F' ι' → Sim K F' ι' st' H' → heldOk src.held st' → J.stop src.items.length H'
  yld : ∀ (i : Nat) F' ι' st' H' x H2 d, Grow F ι F' ι' → Sim K F' ι' st' H' → heldOk src.held st' → src.items[i]? = some d → J.yld i H' x H2 → ∃ F2, Ext F' ι' H' F2 ι' H2 ∧ Sim K F2 ι' st' H2 ∧ Rep K F2 ι' d x
theorem PI.weak {X : Cx} {tg e : Expr} {t t' : TI} (h : PI X tg e t) (w : ∀ σ H Q, t' σ H Q → t σ H Q) : PI X tg e t' := ⟨fun pins s σ H Q I q => h.run pins s σ H Q I (w σ H Q q)⟩
def srcOf (st : Sto) : D → Option Src
  | .tup xs => some ⟨xs, []⟩
  | .lst xs => some ⟨xs, []⟩
  | .scr xs => some ⟨xs, []⟩
  | .ref l => match st[l]? with
    | some (.lst xs) => some ⟨xs, [(l, xs)]⟩
    | _ => none
  | _ => none
def iSeq (m : Rho → M D) : Rho → M Src := fun ρ st => (m ρ st).bind fun d st1 => lift (srcOf st1 d) st1
section
variable {X : Cx} {W : WX} {pos p2 p : Pos} {tg e e2 : Expr} {m1 m2 m3 : Rho → M D} {am : Rho → M (List D)}
def rngD (lo : Int) (n : Nat) : List D := (List.range n).map fun i : Nat => .int (lo + (i : Int))
noncomputable def rng1 : D → Option Src
  | .int j => @ite _ (-(2 ^ 62) ≤ j ∧ j < 2 ^ 62) (Classical.propDecidable _) (some ⟨rngD 0 j.toNat, []⟩) (none)
  | _ => none
noncomputable def iRng1D (m : Rho → M D) : Rho → M Src := fun ρ st => (m ρ st).bind fun d st1 => lift (rng1 d) st1
end
end Dn
namespace Dn
open PySem PySem.Spec PyProof.Rows L2
variable [HzC]
open Classical in
noncomputable def lcL (held : List (Nat × List D)) (f : D → Sto → Out (Option D)) : List D → Sto → Out (List D)
  | [], st => if heldOk held st then .ok [] st else .bad
  | d :: ds, st => if heldOk held st then (f d st).bind fun o st1 => (lcL held f ds st1).bind fun ys st2 => .ok (o.toList ++ ys) st2 else .bad
def lcF (gf : D → Rho → M Rho) (mt : Rho → M Bool) (me : Rho → M D) (ρ : Rho) : D → Sto → Out (Option D) := fun d st =>
  (gf d ρ st).bind fun ρ2 s2 => (mt ρ2 s2).bind fun b s3 => if b = true then (me ρ2 s3).bind fun y s4 => .ok (some y) s4 else .ok none s3
noncomputable def lLc (ms : Rho → M Src) (gf : D → Rho → M Rho) (mt : Rho → M Bool) (me : Rho → M D) (vs : List Nat) : Rho → M (List D) := fun ρ st =>
  (ms ρ st).bind fun src st1 => if src.items.length ≤ SZ then nox (lcL src.held (lcF gf mt me (wipeD ρ vs)) src.items st1) else .bad
theorem bind_ok {α β : Type} {r : Out α} {f : α → Sto → Out β} {b : β} {st : Sto} (h : r.bind f = .ok b st) : ∃ a st1, r = .ok a st1 ∧ f a st1 = .ok b st := by
  cases r with
  | ok a st1 => exact ⟨a, st1, rfl, h⟩
  | exc _ _ => cases h
  | bad => cases h
def bYes : Rho → M Bool := fun _ st => .ok true st
inductive Fl where
  | next (ρ : Rho) (st : Sto) | ret (d : D) (st : Sto) | brk (ρ : Rho) (st : Sto) | cnt (ρ : Rho) (st : Sto) | exc (x : Xc) (ρ : Rho) (st : Sto) | bad
def Out.fl {α : Type} (r : Out α) (ρ : Rho) (f : α → Sto → Fl) : Fl := match r with
  | .ok a st => f a st
  | .exc x st => .exc x ρ st
  | .bad => .bad
@[simp] theorem Out.fl_ok {α : Type} (a : α) (st : Sto) (ρ : Rho) (f : α → Sto → Fl) : (Out.ok a st).fl ρ f = f a st := rfl
@[simp] theorem Out.fl_exc {α : Type} (x : Xc) (st : Sto) (ρ : Rho) (f : α → Sto → Fl) : (Out.exc x st : Out α).fl ρ f = .exc x ρ st := rfl
@[simp] theorem Out.fl_bad {α : Type} (ρ : Rho) (f : α → Sto → Fl) : (Out.bad : Out α).fl ρ f = .bad := rfl
def sPost (K : PySem.W.Frag) (W : WX) (E : Ends) (F : Hp) (ι : List Addr) (H : Hp) (r : Fl) : Prop := match r with
  | .next ρ' st' => ∀ F' ι' H' σ', Ext F ι H F' ι' H' → Sim K F' ι' st' H' → REnv K F' ι' ρ' σ' → E.nx σ' H'
  | .brk ρ' st' => ∀ F' ι' H' σ', Ext F ι H F' ι' H' → Sim K F' ι' st' H' → REnv K F' ι' ρ' σ' → E.bk σ' H'
  | .cnt ρ' st' => ∀ F' ι' H' σ', Ext F ι H F' ι' H' → Sim K F' ι' st' H' → REnv K F' ι' ρ' σ' → E.ct σ' H'
  | .ret d st' => ∀ F' ι' H' v, Ext F ι H F' ι' H' → Sim K F' ι' st' H' → Rep K F' ι' d v → E.rt v H'
  | .exc x ρ' st' => ∀ F' ι' H' cls dd σ', Ext F ι H F' ι' H' → Sim K F' ι' st' H' → REnv K F' ι' ρ' σ' → XcR K F' ι' H' x cls dd → W cls dd σ' H'
  | .bad => False
theorem sPost_ext {K : PySem.W.Frag} {W : WX} {E : Ends} {F F1 : Hp} {ι ι1 : List Addr} {H H1 : Hp} {r : Fl} (h : sPost K W E F ι H r) (x : Ext F ι H F1 ι1 H1) : sPost K W E F1 ι1 H1 r := by
  cases r with
  | next ρ st => exact fun F' ι' H' σ' y => h F' ι' H' σ' (x.trans y)
  | brk ρ st => exact fun F' ι' H' σ' y => h F' ι' H' σ' (x.trans y)
  | cnt ρ st => exact fun F' ι' H' σ' y => h F' ι' H' σ' (x.trans y)
  | ret d st => exact fun F' ι' H' σ' y => h F' ι' H' σ' (x.trans y)
  | exc e ρ st => exact fun F' ι' H' c d σ' y => h F' ι' H' c d σ' (x.trans y)
  | bad => exact h
def tS (K : PySem.W.Frag) (W : WX) (m : Rho → Sto → Fl) : TS := fun E σ H => ∃ F ι ρ st, Sim K F ι st H ∧ REnv K F ι ρ σ ∧ sPost K W E F ι H (m ρ st)
def DS (X : Cx) (W : WX) (s : Stmt) (m : Rho → Sto → Fl) : Prop := PS X s (tS X.K W m)
def DSs (X : Cx) (W : WX) (s : List Stmt) (m : Rho → Sto → Fl) : Prop := PSs X s (tS X.K W m)
theorem fl_seq {α β : Type} {K : PySem.W.Frag} {W : WX} {P : Hp → Hp → List Addr → Hp → α → β → Prop} {m : Rho → M α} {E : Ends} {σ : L2.St} {F : Hp} {ι : List Addr} {H : Hp} {ρ : Rho} {st : Sto} {f : α → Sto → Fl} {Q' : β → Hp → Prop}
    (S : Sim K F ι st H) (R : REnv K F ι ρ σ) (h : sPost K W E F ι H ((m ρ st).fl ρ f))
    (k : ∀ a st1 F1 ι1 H1 b, Ext F ι H F1 ι1 H1 → Sim K F1 ι1 st1 H1 → REnv K F1 ι1 ρ σ → P H F1 ι1 H1 a b → sPost K W E F1 ι1 H1 (f a st1) → Q' b H1) : tG K W P m σ H Q' := by
  refine ⟨F, ι, ρ, st, S, R, ?_⟩
  cases e : m ρ st with
  | ok a st1 =>
    rw [e] at h
    exact fun F1 ι1 H1 b x S1 p => k a st1 F1 ι1 H1 b x S1 (R.ext x) p (sPost_ext h x)
  | exc y st1 =>
    rw [e] at h
    exact fun F1 ι1 H1 c d x S1 p => h F1 ι1 H1 c d σ x S1 (R.ext x) p
  | bad =>
    rw [e] at h
    exact h
section
variable {X : Cx} {W : WX} {pos : Pos} {st : Stmt} {rest : List Stmt} {s1 s2 : Rho → Sto → Fl}
def sNext : Rho → Sto → Fl := fun ρ st => .next ρ st
def Fl.seq (r : Fl) (k : Rho → Sto → Fl) : Fl := match r with
  | .next ρ st => k ρ st
  | r => r
def sSeq (s1 s2 : Rho → Sto → Fl) : Rho → Sto → Fl := fun ρ st => (s1 ρ st).seq s2
def sBrk : Rho → Sto → Fl := fun ρ st => .brk ρ st
def sCnt : Rho → Sto → Fl := fun ρ st => .cnt ρ st
variable {e c : Expr} {m : Rho → M D} {mt : Rho → M Bool}
def sDrop (m : Rho → M D) : Rho → Sto → Fl := fun ρ st => (m ρ st).fl ρ fun _ st1 => .next ρ st1
def sRet (m : Rho → M D) : Rho → Sto → Fl := fun ρ st => (m ρ st).fl ρ fun d st1 => .ret d st1
def sIf (t : Rho → M Bool) (s1 s2 : Rho → Sto → Fl) : Rho → Sto → Fl := fun ρ st => (t ρ st).fl ρ fun b st1 => if b = true then s1 ρ st1 else s2 ρ st1
def sAsg (gf : D → Rho → M Rho) (m : Rho → M D) : Rho → Sto → Fl := fun ρ st => (m ρ st).fl ρ fun d st1 => (nox (gf d ρ st1)).fl ρ fun ρ2 st2 => .next ρ2 st2
theorem name_of {K : PySem.W.Frag} {i : Nat} {E : Ends} {σ : L2.St} {H : Hp} (h : tS K W (sAsg (gN i) m) E σ H) : tV K W m σ H fun x H1 => gName i x σ H1 E.nx := by
  obtain ⟨F, ι, ρ, st, S, R, q⟩ := h
  exact fl_seq S R q fun a st1 F1 ι1 H1 b x1 S1 R1 r1 q1 => q1 F1 ι1 H1 _ Ext.refl S1 (R1.set r1 i)
theorem ds_set {i : Nat} {x : Str} {pos' : Pos} (hN : X.N.Nodup) (hi : X.N[i]? = some x) (hx : Loc X.env.scope x) (he : DE X W e m) (hs : swapsWith e (some (.Name x pos')) pos.line X.env = pure false := by rfl) (hf : X.fn x = true ∨ X.env.scope.names.lookup x = some .local := by first | exact .inl rfl | exact .inr rfl | assumption) :
    DS X W (.Assign [.Name x pos'] e pos) (sAsg (gN i) m) :=
  PS.weak (ps_set hN hi hx he hs hf) fun E σ H h => name_of h
def sPar (i j : Nat) (a : Rho → M (List D)) : Rho → Sto → Fl := fun ρ st => (a ρ st).fl ρ fun ds st1 => match ds with
  | [x, y] => .next ((ρ.set i (some x)).set j (some y)) st1
  | _ => .bad
open Classical in
noncomputable def forL (held : List (Nat × List D)) (body : D → Rho → Sto → Fl) : List D → Rho → Sto → Fl
  | [], ρ, st => if heldOk held st then .next ρ st else .bad
  | d :: ds, ρ, st => if heldOk held st then (match body d ρ st with
    | .next ρ' st' => forL held body ds ρ' st'
    | .cnt ρ' st' => forL held body ds ρ' st'
    | .brk ρ' st' => .next ρ' st'
    | r => r) else .bad
def forB (gf : D → Rho → M Rho) (mb : Rho → Sto → Fl) : D → Rho → Sto → Fl := fun d ρ st => (nox (gf d ρ st)).fl ρ fun ρ' st' => mb ρ' st'
noncomputable def sFor (ms : Rho → M Src) (gf : D → Rho → M Rho) (mb : Rho → Sto → Fl) : Rho → Sto → Fl := fun ρ st => (ms ρ st).fl ρ fun src st1 => forL src.held (forB gf mb) src.items ρ st1
end
end Dn
namespace Dn
open PySem PySem.Spec PyProof.Rows L2
variable [HzC]
mutual
def D.low (n : Nat) : D → Bool
  | .tup xs => D.lows n xs
  | .lst xs => D.lows n xs
  | .scr xs => D.lows n xs
  | .ref l => decide (l < n)
  | .non => true
  | .bl _ => true
  | .int _ => true
  | .str _ => true
  | .adr _ => true
  | .fd _ xs => D.lows n xs
  | .exo _ _ _ d => D.low n d
  | .obj _ _ xs => D.lows n xs
  | .sd _ => true
  | .fnv _ => true
def D.lows (n : Nat) : List D → Bool
  | [] => true
  | d :: ds => D.low n d && D.lows n ds
end
def MO.low (n : Nat) : MO → Bool
  | .lst xs => D.lows n xs
  | .dct _ xs => D.lows n xs
  | .dcs _ xs => D.lows n xs
  | .gone => true
  | .ins _ fs => fs.all fun p => p.2.low n
  | .clo _ xs => D.lows n xs
section
variable {K : PySem.W.Frag} {F F' : Hp} {ι ι' : List Addr} {H H' : Hp} {st st' : Sto} {n : Nat}
mutual
theorem Rep.cut : ∀ (d : D) (v : V), Rep K F ι d v → d.low n = true → Rep K F (ι.take n) d v
  | .non, _, h, _ => by simpa only [Rep] using h
  | .bl _, _, h, _ => by simpa only [Rep] using h
  | .int _, _, h, _ => by simpa only [Rep] using h
  | .str _, _, h, _ => by simpa only [Rep] using h
  | .adr _, _, h, _ => by simpa only [Rep] using h
  | .tup xs, v, h, l => by
    simp only [Rep] at h ⊢
    simp only [D.low] at l
    obtain ⟨a, vs, e, q, r⟩ := h
    exact ⟨a, vs, e, q, Reps.cut xs vs r l⟩
  | .lst xs, v, h, l => by
    simp only [Rep] at h ⊢
    simp only [D.low] at l
    obtain ⟨a, vs, e, q, r⟩ := h
    exact ⟨a, vs, e, q, Reps.cut xs vs r l⟩
  | .scr xs, v, h, l => by
    simp only [Rep] at h ⊢
    simp only [D.low] at l
    obtain ⟨a, vs, e, q, r⟩ := h
    exact ⟨a, vs, e, q, Reps.cut xs vs r l⟩
  | .ref j, v, h, l => by
    simp only [Rep] at h ⊢
    simp only [D.low, decide_eq_true_eq] at l
    obtain ⟨a, e, q⟩ := h
    exact ⟨a, e, by rw [List.getElem?_take_of_lt l]; exact q⟩
  | .fd ks ds, v, h, l => by
    simp only [Rep] at h ⊢
    simp only [D.low] at l
    obtain ⟨a, xs, ws, e, z, q, kt, vr, r⟩ := h
    exact ⟨a, xs, ws, e, z, q, kt, vr, Reps.cut ds ws r l⟩
  | .exo a dd g d, v, h, l => by
    simp only [Rep] at h ⊢
    simp only [D.low] at l
    obtain ⟨e, u, q, r⟩ := h
    exact ⟨e, u, q, Rep.cut d u r l⟩
  | .obj nm ks ds, v, h, l => by
    simp only [Rep] at h ⊢
    simp only [D.low] at l
    obtain ⟨a, C, dx, gs, e, z, q, kk, r⟩ := h
    exact ⟨a, C, dx, gs, e, z, q, kk, Reps.cut ds _ r l⟩
  | .sd kvs, v, h, l => by
    simp only [Rep] at h ⊢
    exact h
  | .fnv _, v, h, l => by
    simp only [Rep] at h ⊢
    exact h
theorem Reps.cut : ∀ (ds : List D) (vs : List V), Reps K F ι ds vs → D.lows n ds = true → Reps K F (ι.take n) ds vs
  | [], _, h, _ => by simpa only [Reps] using h
  | d :: ds, vs, h, l => by
    simp only [Reps] at h ⊢
    simp only [D.lows, Bool.and_eq_true] at l
    obtain ⟨v, r, e, h1, h2⟩ := h
    exact ⟨v, r, e, Rep.cut d v h1 l.1, Reps.cut ds r h2 l.2⟩
end
theorem RepF.cut {fs : List (Str × D)} {gs : List (Str × V)} (h : RepF K F ι fs gs) (l : (fs.all fun p => p.2.low n) = true) : RepF K F (ι.take n) fs gs := by
  induction h with
  | nil => exact .nil
  | cons a b ih =>
    simp only [List.all_cons, Bool.and_eq_true] at l
    exact .cons ⟨a.1, Rep.cut _ _ a.2 l.1⟩ (ih l.2)
theorem ObjR.cut {a : Addr} {m : MO} (h : ObjR K F ι H a m) (l : m.low n = true) : ObjR K F (ι.take n) H a m := by
  cases m with
  | lst xs =>
    obtain ⟨vs, e, r⟩ := h
    exact ⟨vs, e, Reps.cut _ _ r l⟩
  | dct ks ds =>
    obtain ⟨xs, ws, z, q, kt, vr, r⟩ := h
    exact ⟨xs, ws, z, q, kt, vr, Reps.cut _ _ r l⟩
  | dcs ks ds =>
    obtain ⟨xs, ws, z, q, kt, vr, r⟩ := h
    exact ⟨xs, ws, z, q, kt, vr, Reps.cut _ _ r l⟩
  | gone => trivial
  | ins C fs =>
    obtain ⟨C, dx, gs, z, e, r⟩ := h
    exact ⟨C, dx, gs, z, e, RepF.cut r l⟩
  | clo nm ds =>
    obtain ⟨L, cl, pm, c', ctv, ws, z, e, q, cf, r⟩ := h
    exact ⟨L, cl, pm, c', ctv, ws, z, e, q, cf, Reps.cut _ _ r l⟩
theorem Sim.take (S : Sim K F ι st H) (h : ∀ (l : Nat) (m : MO), (st.take n)[l]? = some m → m.low n = true) : Sim K F (ι.take n) (st.take n) H := by
  refine ⟨S.sub, fun a o h => (S.kind a o h).imp id fun ⟨ob, x, q, r⟩ => ⟨ob, x, q, r.imp id fun n z => n (List.mem_of_mem_take z)⟩, by rw [List.length_take, List.length_take, S.len], S.nd.sublist (List.take_sublist _ _), fun l a q hg => ?_, fun a q => S.there a (List.mem_of_mem_take q), fun l m a e1 e2 => ?_, S.tabs⟩
  · have hl : l < n := by
      have := (List.getElem?_eq_some_iff.mp q).1
      rw [List.length_take] at this
      omega
    rw [List.getElem?_take_of_lt hl] at q hg
    exact S.free l a q hg
  have hl : l < n := by
    have := (List.getElem?_eq_some_iff.mp e1).1
    rw [List.length_take] at this
    omega
  refine ObjR.cut (S.obj l m a ?_ ?_) (h l m e1)
  · rw [← List.getElem?_take_of_lt hl]; exact e1
  · rw [← List.getElem?_take_of_lt hl]; exact e2
theorem Ext.take (x : Ext F ι H F' ι' H') (h : ι.length ≤ n) : Ext F ι H F' (ι'.take n) H' := by
  refine ⟨x.f, fun l a q => ?_, x.keep, x.there, x.newF, fun a q => x.newI a (List.mem_of_mem_take q), ?_⟩
  · have hl := (List.getElem?_eq_some_iff.mp q).1
    rw [List.getElem?_take_of_lt (by omega)]
    exact x.i l a q
  · rw [List.length_take]
    have := x.long
    omega
end
def Xc.low (n : Nat) (x : Xc) : Bool := match x.fld with
  | none => true
  | some p => p.2.low n
def MO.isIns : MO → Bool
  | .ins _ _ => true
  | _ => false
def Tidy (st0 st : Sto) : Prop := st0.length ≤ st.length ∧ (∀ (l : Nat) (m : MO), l < st0.length → st[l]? = some m → st0[l]? = some m ∨ m.low st0.length = true) ∧ ∀ (l : Nat) (m : MO), st0.length ≤ l → st[l]? = some m → m.isIns = false
def flOut (r : Fl) : Out D := match r with
  | .next _ st => .ok .non st
  | .ret d st => .ok d st
  | .exc x _ st => .exc x st
  | _ => .bad
def wE (E : XK) : WX := fun cls dd _ H => E cls dd H
def spD (K : PySem.W.Frag) (np : Nat) (spec : List D → M D) : Sp := fun vs H Q E => vs.length = np ∧ ∃ F ι st ds, Sim K F ι st H ∧ Reps K F ι ds vs ∧ post K (wE E) [] F ι H (pV K) (spec ds st) Q
def CXk (k : Nat) (P : Program) (w : World) : CXT := if 40 ≤ k then L2.CX P w else L2N.CX P w
theorem cxk_ge {k : Nat} (h : 40 ≤ k) : CXk k = L2.CX := by funext P w; unfold CXk; rw [if_pos h]
theorem cxk_lt {k : Nat} (h : ¬ 40 ≤ k) : CXk k = L2N.CX := by funext P w; unfold CXk; rw [if_neg h]
theorem cxN_c {P : Program} {w : World} {fr : List Env} {H : Hp} {s s' : Shared} {E : XK} {u : Value} (h : L2N.CX P w fr H s E u s') : L2.CX P w fr H s E u s' := by
  obtain ⟨a, B, H', cls, d, e, fl, r⟩ := h
  exact ⟨a, B, H', cls, d, e, L2H.flyingZ_imp (fun _ z => z.zc) fl, r⟩
theorem cxk_mono {k k' : Nat} {P : Program} {w : World} {fr : List Env} {H : Hp} {s s' : Shared} {E : XK} {u : Value} (hk : k ≤ k') (h : CXk k P w fr H s E u s') : CXk k' P w fr H s E u s' := by
  by_cases h1 : 40 ≤ k
  · rw [cxk_ge h1] at h
    rw [cxk_ge (Nat.le_trans h1 hk)]
    exact h
  · rw [cxk_lt h1] at h
    by_cases h2 : 40 ≤ k'
    · rw [cxk_ge h2]
      exact cxN_c h
    · rw [cxk_lt h2]
      exact h
theorem crk_mono {k k' : Nat} {P : Program} {w : World} {fr : List Env} {H : Hp} {s s' : Shared} {E : XK} {Q : VK} {r : Result} (hk : k ≤ k') (h : CR (CXk k P w) fr P w H s Q E r s') : CR (CXk k' P w) fr P w H s Q E r s' := by
  cases r with
  | error e => exact cxk_mono hk h
  | ok fl => cases fl <;> exact h
structure TkK (k : Nat) (X : Cx) (W : WX) : Prop where
  n : L2N.Takes X W
  c : 40 ≤ k → L2.Takes X W
theorem heldZ_imp {h B : Heap} {l : List Env} {a L : Addr} {Z Z' : Obj → Prop} (z : ∀ o, Z o → Z' o) (x : HandSPX.HeldZ B l a Z L h) : HandSPX.HeldZ B l a Z' L h := ⟨x.1, x.2.1, x.2.2.1, L2H.tracedZ_imp z x.2.2.2⟩
theorem skyN_c {B h : Heap} {l : List Env} {a L : Addr} {cls : Value} {d : Option Addr} (x : Sky B l a (L2N.Zn cls d) L h) : Sky B l a (Zc cls d) L h := by
  rcases x with ⟨hB, hn, hl, oe, vs, he, hz, r⟩ | fl | hd
  · exact .inl ⟨hB, hn, hl, oe, vs, he, hz.zc, r⟩
  · exact .inr (.inl (L2H.flyingZ_imp (fun _ z => z.zc) fl))
  · exact .inr (.inr (heldZ_imp (fun _ z => z.zc) hd))
theorem TkK.of {k : Nat} {X : Cx} {W : WX} (t : L2.Takes X W) : TkK k X W := ⟨fun u s' ⟨a, B, sI, pins, σ, H, cls, d, e, I, nb, up, sky, r⟩ => t u s' ⟨a, B, sI, pins, σ, H, cls, d, e, I, nb, up, skyN_c sky, r⟩, fun _ => t⟩
theorem TkK.low {k : Nat} {X : Cx} {W : WX} (t : L2N.Takes X W) (h : k < 40 := by decide) : TkK k X W := ⟨t, fun h' => absurd h' (by omega)⟩
theorem TkK.mono {k j : Nat} {X : Cx} {W : WX} (t : TkK j X W) (h : k ≤ j) : TkK k X W := ⟨t.n, fun h' => t.c (Nat.le_trans h' h)⟩
structure FnG (P : Program) (w : World) (K : PySem.W.Frag) (mg : Str → Option Value) (base : Heap) (k : Nat) (f : Addr) (fd : FuncData) (ps : List Str) (sp : Sp) : Prop where
  len : ∀ vs H Q E, sp vs H Q E → vs.length = ps.length
  run : ∀ (B : Around) (fr : List Env) (s : Shared) (H : Hp) (ar : Args) (us : List Value) (vs : List V) (Q : VK) (E : XK), Room k B → (5 < k → B.guards = some []) → Env0 P w K mg base B fr s H → BindsTo s fd ar (ps.zip us) → Vals vs us → sp vs H Q E →
    codeAny (model P w) B (.call (.ref f) ar) (CR (CXk k P w) fr P w H s Q E) s
structure Bd (X : Cx) (W : WX) (k : Nat) : Prop where
  room : Room k X.A
  gd : 5 < k → X.A.guards = some []
  calm : X.calm = true
  nd : X.N.Nodup
  tk : TkK k X W
section
variable {P : Program} {w : World} {K : PySem.W.Frag} {mg : Str → Option Value} {base : Heap}
structure FnC (P : Program) (w : World) (K : PySem.W.Frag) (mg : Str → Option Value) (base : Heap) (k : Nat) (x : Str) (np : Nat) (spec : List D → M D) : Prop where
  ex : ∃ (f : Addr) (fd : FuncData) (ps : List Str), FnG P w K mg base k f fd ps (spD K np spec) ∧ mg x = some (.ref f) ∧ PySem.W.keepIn K (.ref f) = true ∧ Binds K fd ps []
end
section
variable {X : Cx} {W : WX} {k j : Nat} {x : Str} {np : Nat} {spec : List D → M D} {p pos : Pos} {e : Expr} {es : List Expr} {am : Rho → M (List D)}
def mCall (spec : List D → M D) (am : Rho → M (List D)) : Rho → M D := fun ρ st => (am ρ st).bind fun ds st1 => spec ds st1
def NeedN (np : Nat) (spec : List D → M D) : Prop := ∀ ds st, ds.length ≠ np → spec ds st = .bad
end
end Dn
namespace Dn
open PySem PySem.Spec PyProof.Rows L2
variable [HzC]
end Dn
namespace Dn
open PySem PySem.Spec PyProof.Rows L2
variable [HzC]
def mStar (m : Rho → M D) (r : Rho → M (List D)) : Rho → M (List D) := fun ρ st => (m ρ st).bind fun d st1 => match seqOf st1 d with
  | some xs => (r ρ st1).bind fun ds st2 => .ok (xs ++ ds) st2
  | none => .bad
theorem Sim.mut {K : PySem.W.Frag} {F : Hp} {ι : List Addr} {st : Sto} {H : Hp} {l : Nat} {v : V} {xs : List D} (S : Sim K F ι st H) (r : Rep K F ι (.ref l) v) (h : st[l]? = some (.lst xs)) : ∃ a vs, v = .ref a ∧ ι[l]? = some a ∧ H a = some (.lst vs) ∧ Reps K F ι xs vs := by
  simp only [Rep] at r
  obtain ⟨a, rfl, q⟩ := r
  obtain ⟨vs, e2, rr⟩ := S.obj l _ a h q
  exact ⟨a, vs, rfl, q, e2, rr⟩
end Dn
namespace Dn
open PySem PySem.Spec PyProof.Rows L2
variable [HzC]
end Dn
namespace Dn
open PySem PySem.Spec PyProof.Rows L2
variable [HzC]
section
variable {X : Cx} {W : WX} {k : Nat}
theorem takes_wN : Takes X wN := fun _ _ ⟨_, _, _, _, _, _, _, _, _, _, _, _, _, _, _, _, w⟩ => w.elim
theorem Bd.blk (b : Bd X W k) {s : Shared} {H : Hp} {scope : Scope} {cenv : Env} {fp : List Addr} : Bd (X.blk s H scope cenv fp) wN k := ⟨b.room, b.gd, b.calm, b.nd, .of takes_wN⟩
theorem vr (i : Nat) {x : Str} {pos : Pos} (hN : X.N[i]? = some x := by rfl) (hv : Vis X.env.scope x := by first | exact Or.inl rfl | exact Or.inr (Or.inl rfl) | exact Or.inr (Or.inr rfl)) (hd : (x == ("__debug__" : Str)) = false := by decide)
    (hcd : (x == ("__classdict__" : Str)) = false := by decide) : DE X W (.Name x pos) (mVar i) := de_var hN hv hd hcd
theorem st (i : Nat) {x : Str} {pos' pos : Pos} {e : Expr} {m : Rho → M D} (b : Bd X W k) (he : DE X W e m) (hi : X.N[i]? = some x := by rfl) (hx : Loc X.env.scope x := by first | exact Or.inl rfl | exact Or.inr rfl)
    (hs : swapsWith e (some (.Name x pos')) pos.line X.env = pure false := by rfl) (hf : X.fn x = true ∨ X.env.scope.names.lookup x = some .local := by first | exact .inl rfl | exact .inr rfl) : DS X W (.Assign [.Name x pos'] e pos) (sAsg (gN i) m) :=
  ds_set b.nd hi hx he hs hf
def sPar3 (i j l : Nat) (a : Rho → M (List D)) : Rho → Sto → Fl := fun ρ st => (a ρ st).fl ρ fun ds st1 => match ds with
  | [x, y, z] => .next (((ρ.set i (some x)).set j (some y)).set l (some z)) st1
  | _ => .bad
end
end Dn
namespace Dn
open PySem PySem.Spec PyProof.Rows L2
variable [HzC]
def rgOk (lo hi : Int) : Prop := -(2 ^ 62) ≤ lo ∧ lo < 2 ^ 62 ∧ -(2 ^ 62) ≤ hi ∧ hi < 2 ^ 62 ∧ (hi - lo).toNat ≤ SZ
theorem rgOk.ok {lo hi : Int} (h : rgOk lo hi) : RgOk lo hi := ⟨h.1, h.2.1, h.2.2.1, h.2.2.2.1, Nat.le_trans h.2.2.2.2 (by decide)⟩
end Dn
namespace Dn
open PySem PySem.Spec PyProof.Rows L2
section
variable (ρ : Rho) (s : Sto)
@[simp] theorem mLit_ap (d : D) : mLit d ρ s = .ok d s := rfl
@[simp] theorem mNil_ap : mNil ρ s = .ok [] s := rfl
@[simp] theorem mCons_ap (m : Rho → M D) (r : Rho → M (List D)) : mCons m r ρ s = (m ρ s).bind fun d s1 => (r ρ s1).bind fun ds s2 => .ok (d :: ds) s2 := rfl
@[simp] theorem mTup_ap (a : Rho → M (List D)) : mTup a ρ s = (a ρ s).bind fun xs s1 => if xs.length ≤ 100000 then .ok (.tup xs) s1 else .bad := rfl
@[simp] theorem lDisp_ap (a : Rho → M (List D)) : lDisp a ρ s = (a ρ s).bind fun xs s1 => if xs.length ≤ 100000 then .ok xs s1 else .bad := rfl
@[simp] theorem mFrz_ap (a : Rho → M (List D)) : mFrz a ρ s = (a ρ s).bind fun xs s1 => .ok (.lst xs) s1 := rfl
@[simp] theorem mNew_ap (a : Rho → M (List D)) : mNew a ρ s = (a ρ s).bind fun xs s1 => .ok (.ref s1.length) (s1 ++ [.lst xs]) := rfl
@[simp] theorem mOp_ap (p : Sto → D → D → Option D) (a b : Rho → M D) : mOp p a b ρ s = (a ρ s).bind fun x s1 => (b ρ s1).bind fun y s2 => lift (p s2 x y) s2 := rfl
@[simp] theorem lOp_ap (p : Sto → D → D → Option (List D)) (a b : Rho → M D) : lOp p a b ρ s = (a ρ s).bind fun x s1 => (b ρ s1).bind fun y s2 => lift (p s2 x y) s2 := rfl
@[simp] theorem mB_ap (p : Sto → List D → Option D) (a : Rho → M (List D)) : mB p a ρ s = (a ρ s).bind fun ds s1 => lift (p s1 ds) s1 := rfl
@[simp] theorem lB_ap (p : Sto → List D → Option (List D)) (a : Rho → M (List D)) : lB p a ρ s = (a ρ s).bind fun ds s1 => lift (p s1 ds) s1 := rfl
@[simp] theorem mCall_ap (f : List D → M D) (a : Rho → M (List D)) : mCall f a ρ s = (a ρ s).bind fun ds s1 => f ds s1 := rfl
@[simp] theorem mUn_ap (p : Sto → D → Option D) (a : Rho → M D) : mUn p a ρ s = (a ρ s).bind fun d s1 => lift (p s1 d) s1 := rfl
@[simp] theorem mStar_ap (m : Rho → M D) (r : Rho → M (List D)) : mStar m r ρ s = (m ρ s).bind fun d s1 => match seqOf s1 d with | some xs => (r ρ s1).bind fun ds s2 => .ok (xs ++ ds) s2 | none => .bad := rfl
@[simp] theorem isB_ap (m : Rho → M D) : isB m ρ s = (m ρ s).bind fun d s1 => match d with | .bl k => .ok k s1 | _ => .bad := rfl
@[simp] theorem mTru_ap (m : Rho → M D) : mTru m ρ s = (m ρ s).bind fun d s1 => lift (d.truth s1) s1 := rfl
@[simp] theorem bAnd_ap (a b : Rho → M Bool) : bAnd a b ρ s = (a ρ s).bind fun k s1 => if k = true then b ρ s1 else .ok false s1 := rfl
@[simp] theorem bOr_ap (a b : Rho → M Bool) : bOr a b ρ s = (a ρ s).bind fun k s1 => if k = true then .ok true s1 else b ρ s1 := rfl
@[simp] theorem bNot_ap (a : Rho → M Bool) : bNot a ρ s = (a ρ s).bind fun k s1 => .ok (!k) s1 := rfl
@[simp] theorem bYes_ap : bYes ρ s = .ok true s := rfl
@[simp] theorem mIf_ap (t : Rho → M Bool) (a b : Rho → M D) : mIf t a b ρ s = (t ρ s).bind fun k s1 => if k = true then a ρ s1 else b ρ s1 := rfl
@[simp] theorem oNone_ap : oNone ρ s = .ok none s := rfl
@[simp] theorem sSeq_ap (a b : Rho → Sto → Fl) : sSeq a b ρ s = (a ρ s).seq b := rfl
@[simp] theorem sAsg_ap (g : D → Rho → M Rho) (m : Rho → M D) : sAsg g m ρ s = (m ρ s).fl ρ fun d s1 => (nox (g d ρ s1)).fl ρ fun r s2 => .next r s2 := rfl
@[simp] theorem sRet_ap (m : Rho → M D) : sRet m ρ s = (m ρ s).fl ρ fun d s1 => .ret d s1 := rfl
@[simp] theorem sDrop_ap (m : Rho → M D) : sDrop m ρ s = (m ρ s).fl ρ fun _ s1 => .next ρ s1 := rfl
@[simp] theorem sIf_ap (t : Rho → M Bool) (a b : Rho → Sto → Fl) : sIf t a b ρ s = (t ρ s).fl ρ fun k s1 => if k = true then a ρ s1 else b ρ s1 := rfl
@[simp] theorem sNext_ap : sNext ρ s = .next ρ s := rfl
@[simp] theorem sBrk_ap : sBrk ρ s = .brk ρ s := rfl
@[simp] theorem sCnt_ap : sCnt ρ s = .cnt ρ s := rfl
@[simp] theorem gN_ap (i : Nat) (d : D) : gN i d ρ s = .ok (ρ.set i (some d)) s := rfl
@[simp] theorem gT_ap (n : Nat) (gs : List D → Rho → M Rho) (xs : List D) (h : xs.length = n) : gT n gs (.tup xs) ρ s = gs xs ρ s := by
  unfold gT
  simp [h]
@[simp] theorem gsCons_ap (g : D → Rho → M Rho) (gs : List D → Rho → M Rho) (d : D) (ds : List D) : gsCons g gs (d :: ds) ρ s = (g d ρ s).bind fun r s1 => gs ds r s1 := rfl
@[simp] theorem gsNil_ap : gsNil [] ρ s = .ok ρ s := rfl
@[simp] theorem seq_next (k : Rho → Sto → Fl) : (Fl.next ρ s).seq k = k ρ s := rfl
@[simp] theorem seq_ret (d : D) (k : Rho → Sto → Fl) : (Fl.ret d s).seq k = .ret d s := rfl
@[simp] theorem seq_brk (k : Rho → Sto → Fl) : (Fl.brk ρ s).seq k = .brk ρ s := rfl
@[simp] theorem seq_cnt (k : Rho → Sto → Fl) : (Fl.cnt ρ s).seq k = .cnt ρ s := rfl
@[simp] theorem flOut_ret (d : D) : flOut (.ret d s) = .ok d s := rfl
@[simp] theorem flOut_next : flOut (.next ρ s) = .ok .non s := rfl
@[simp] theorem sFor_ap (ms : Rho → M Src) (g : D → Rho → M Rho) (mb : Rho → Sto → Fl) : sFor ms g mb ρ s = (ms ρ s).fl ρ fun src s1 => forL src.held (forB g mb) src.items ρ s1 := rfl
@[simp] theorem sPar_ap (i j : Nat) (a : Rho → M (List D)) : sPar i j a ρ s = (a ρ s).fl ρ fun ds s1 => match ds with | [x, y] => .next ((ρ.set i (some x)).set j (some y)) s1 | _ => .bad := rfl
@[simp] theorem sPar3_ap (i j l : Nat) (a : Rho → M (List D)) : sPar3 i j l a ρ s = (a ρ s).fl ρ fun ds s1 => match ds with | [x, y, z] => .next (((ρ.set i (some x)).set j (some y)).set l (some z)) s1 | _ => .bad := rfl
@[simp] theorem iRng1D_ap (m : Rho → M D) : iRng1D m ρ s = (m ρ s).bind fun d s1 => lift (rng1 d) s1 := rfl
@[simp] theorem iSeq_ap (m : Rho → M D) : iSeq m ρ s = (m ρ s).bind fun d s1 => lift (srcOf s1 d) s1 := rfl
@[simp] theorem lLc_ap (ms : Rho → M Src) (gf : D → Rho → M Rho) (mt : Rho → M Bool) (me : Rho → M D) (vs : List Nat) : lLc ms gf mt me vs ρ s = (ms ρ s).bind fun src s1 => if src.items.length ≤ 100000 then nox (lcL src.held (lcF gf mt me (wipeD ρ vs)) src.items s1) else .bad := rfl
@[simp] theorem forB_ap (g : D → Rho → M Rho) (mb : Rho → Sto → Fl) (d : D) : forB g mb d ρ s = (nox (g d ρ s)).fl ρ fun r s1 => mb r s1 := rfl
end
mutual
theorem low_of_isP (n : Nat) : ∀ d : D, isP d = true → d.low n = true
  | .non, _ => by simp only [D.low]
  | .bl _, _ => by simp only [D.low]
  | .int _, _ => by simp only [D.low]
  | .str _, _ => by simp only [D.low]
  | .tup xs, h => by
    simp only [D.low]
    exact lows_of_isPs n xs (by simpa only [isP] using h)
  | .lst xs, h => by
    simp only [D.low]
    exact lows_of_isPs n xs (by simpa only [isP] using h)
  | .scr _, h => by simp [isP] at h
  | .ref _, h => by simp [isP] at h
  | .adr _, h => by simp [isP] at h
  | .fd _ _, h => by simp [isP] at h
  | .exo _ _ _ _, h => by simp [isP] at h
  | .obj _ _ _, h => by simp [isP] at h
  | .sd _, h => by simp [isP] at h
  | .fnv _, h => by simp [isP] at h
theorem lows_of_isPs (n : Nat) : ∀ ds : List D, isPs ds = true → D.lows n ds = true
  | [], _ => by simp only [D.lows]
  | d :: ds, h => by
    simp only [isPs, Bool.and_eq_true] at h
    simp only [D.lows, Bool.and_eq_true]
    exact ⟨low_of_isP n d h.1, lows_of_isPs n ds h.2⟩
end
def nI (n : Nat) : D := .int (n : Int)
def nT (r : List Nat) : D := .tup (r.map nI)
def nP (p : List (List Nat)) : D := .tup (p.map nT)
theorem atI_cast {α : Type} (xs : List α) (n : Nat) : atI xs (n : Int) = xs[n]? := by
  unfold atI ixN
  rw [if_pos (Int.natCast_nonneg n)]
  by_cases h : n < xs.length
  · rw [if_pos (by omega), Option.bind_some, Int.toNat_natCast]
  · rw [if_neg (by omega), List.getElem?_eq_none (by omega)]
    rfl
@[simp] theorem pIdx_tup (s : Sto) (xs : List D) (n : Nat) : pIdx s (.tup xs) (nI n) = xs[n]? := by
  show (seqOf s (.tup xs)).bind (fun xs => atI xs (n : Int)) = _
  rw [seqOf_tup, Option.bind_some, atI_cast]
@[simp] theorem pIdx_lst (s : Sto) (xs : List D) (n : Nat) : pIdx s (.lst xs) (nI n) = xs[n]? := by
  show (seqOf s (.lst xs)).bind (fun xs => atI xs (n : Int)) = _
  rw [seqOf_lst, Option.bind_some, atI_cast]
theorem dat_P {s : Sto} {d : D} (h : isP d = true) : dat s d = some (toP d) := by
  unfold dat
  split
  · simp [isP] at h
  · rw [if_pos h]
@[simp] theorem isP_nI (n : Nat) : isP (nI n) = true := rfl
theorem isPs_map {α : Type} (f : α → D) (h : ∀ a, isP (f a) = true) : ∀ l : List α, isPs (l.map f) = true
  | [] => rfl
  | a :: l => by rw [List.map_cons, isPs, h a, isPs_map f h l] <;> rfl
@[simp] theorem isP_nT (r : List Nat) : isP (nT r) = true := by unfold nT; rw [isP]; exact isPs_map _ isP_nI r
@[simp] theorem isP_nP (p : List (List Nat)) : isP (nP p) = true := by unfold nP; rw [isP]; exact isPs_map _ isP_nT p
@[simp] theorem pEq_int (s : Sto) (i j : Int) : pEq s (.int i) (.int j) = some (.bl (decide (i = j))) := by
  show (if min (PyData.depth (.int i)) (PyData.depth (.int j)) ≤ 64 then some (D.bl (PyData.eqv (.int i) (.int j))) else none) = _
  rw [if_pos (by simp [PyData.depth])]
  congr 2
@[simp] theorem pNe_int (s : Sto) (i j : Int) : pNe s (.int i) (.int j) = some (.bl (!decide (i = j))) := by
  show (if min (PyData.depth (.int i)) (PyData.depth (.int j)) ≤ 64 then some (D.bl (!PyData.eqv (.int i) (.int j))) else none) = _
  rw [if_pos (by simp [PyData.depth])]
  congr 3
@[simp] theorem pEq_nI (s : Sto) (i j : Nat) : pEq s (nI i) (nI j) = some (.bl (decide (i = j))) := by
  unfold nI
  rw [pEq_int]
  congr 2
  rw [Bool.eq_iff_iff]; simp; omega
@[simp] theorem pNe_nI (s : Sto) (i j : Nat) : pNe s (nI i) (nI j) = some (.bl (!decide (i = j))) := by
  unfold nI
  rw [pNe_int]
  congr 3
  rw [Bool.eq_iff_iff]; simp; omega
@[simp] theorem pEq_str (s : Sto) (x y : Str) : pEq s (.str x) (.str y) = some (.bl (x == y)) := rfl
@[simp] theorem pNe_str (s : Sto) (x y : Str) : pNe s (.str x) (.str y) = some (.bl (!(x == y))) := rfl
theorem toP_nT (r : List Nat) : toP (nT r) = .tuple ((r.map nI).map toP) := by unfold nT; rw [toP, toPs_map]
theorem any_ints (a : Nat) : ∀ r : List Nat, (((r.map nI).map toP).any fun z => PyData.eqv z (.int (a : Int))) = decide (a ∈ r)
  | [] => by simp
  | n :: r => by
    rw [List.map_cons, List.map_cons, List.any_cons, any_ints a r]
    show (PyData.eqv (.int (n : Int)) (.int (a : Int)) || decide (a ∈ r)) = _
    have e : PyData.eqv (.int (n : Int)) (.int (a : Int)) = decide (a = n) := by
      show ((n : Int) == (a : Int)) = _
      rw [Bool.eq_iff_iff]
      simp
      omega
    rw [e, Bool.eq_iff_iff]
    simp
theorem inD_nT (s : Sto) (a : Nat) (r : List Nat) : inD s (nI a) (nT r) = some (decide (a ∈ r)) := by
  unfold inD
  show (match dat s (nI a), dat s (nT r) with
    | some p, some (.list ds) => if p.depth ≤ 64 then some (ds.any fun z => PyData.eqv z p) else none
    | some p, some (.tuple ds) => if p.depth ≤ 64 then some (ds.any fun z => PyData.eqv z p) else none
    | _, _ => none) = _
  rw [dat_P (isP_nI a), dat_P (isP_nT r)]
  rw [toP_nT]
  have h2 : (toP (nI a)).depth ≤ 64 := by show PyData.depth (.int _) ≤ 64; simp [PyData.depth]
  simp only [h2, if_true]
  congr 1
  exact any_ints a r
@[simp] theorem pIn_nT (s : Sto) (a : Nat) (r : List Nat) : pIn s (nI a) (nT r) = some (.bl (decide (a ∈ r))) := by unfold pIn; rw [inD_nT] <;> rfl
@[simp] theorem pNotIn_nT (s : Sto) (a : Nat) (r : List Nat) : pNotIn s (nI a) (nT r) = some (.bl (!decide (a ∈ r))) := by unfold pNotIn; rw [inD_nT] <;> rfl
@[simp] theorem srcOf_tup (s : Sto) (xs : List D) : srcOf s (.tup xs) = some ⟨xs, []⟩ := rfl
@[simp] theorem srcOf_lst (s : Sto) (xs : List D) : srcOf s (.lst xs) = some ⟨xs, []⟩ := rfl
@[simp] theorem pLen_tup (s : Sto) (xs : List D) : pLen s [.tup xs] = some (nI xs.length) := rfl
@[simp] theorem pTuple_lst (s : Sto) (xs : List D) : pTuple s [.lst xs] = some (.tup xs) := rfl
@[simp] theorem truth_bl (s : Sto) (b : Bool) : (D.bl b).truth s = some b := rfl
section
variable (s : Sto) (i j : Int)
@[simp] theorem pAdd_int : pAdd s (.int i) (.int j) = some (.int (i + j)) := rfl
@[simp] theorem pSub_int : pSub s (.int i) (.int j) = some (.int (i - j)) := rfl
@[simp] theorem pNeg_int : pNeg s (.int i) = some (.int (-i)) := rfl
@[simp] theorem pLt_int : pLt s (.int i) (.int j) = some (.bl (decide (i < j))) := rfl
@[simp] theorem pLe_int : pLe s (.int i) (.int j) = some (.bl (decide (i ≤ j))) := rfl
@[simp] theorem pGt_int : pGt s (.int i) (.int j) = some (.bl (decide (j < i))) := rfl
@[simp] theorem pGe_int : pGe s (.int i) (.int j) = some (.bl (decide (j ≤ i))) := rfl
@[simp] theorem pAdd_nI (a b : Nat) : pAdd s (nI a) (nI b) = some (nI (a + b)) := by unfold nI; rw [pAdd_int]; congr 2
end
structure ROk (dp bk : Nat) (d : D) : Prop where
  p : isP d = true
  lay : (toP d).canLay0 = true
  dep : (toP d).depth ≤ dp
  show_ : (toP d).showable = true
  leaf : (toP d).leavesShort 60 = true
  blk : (toP d).bulk ≤ bk
theorem ROk.mono {dp bk dp' bk' : Nat} {d : D} (h : ROk dp bk d) (h1 : dp ≤ dp') (h2 : bk ≤ bk') : ROk dp' bk' d := ⟨h.p, h.lay, Nat.le_trans h.dep h1, h.show_, h.leaf, Nat.le_trans h.blk h2⟩
end Dn
namespace Dn
open PySem PySem.Spec PyProof.Rows L2
theorem lst_of_ref {s : Sto} {l : Nat} {xs : List D} (h : s[l]? = some (.lst xs)) : lstOf s (.ref l) = some xs := by
  unfold lstOf
  simp only [h]
end Dn
namespace Dn
open PySem PySem.Spec PyProof.Rows L2
variable [HzC]
def mMethT (p : D → List D → M D) (mo : Rho → M D) (am : Rho → M (List D)) : Rho → M D := fun ρ st =>
  (mo ρ st).bind fun o st1 => match o with
    | .tup xs => (am ρ st1).bind fun ds st2 => nox (p (.tup xs) ds st2)
    | _ => .bad
@[simp] theorem mMethT_ap (p : D → List D → M D) (mo : Rho → M D) (am : Rho → M (List D)) (ρ : Rho) (s : Sto) : mMethT p mo am ρ s = (mo ρ s).bind fun o s1 => match o with | .tup xs => (am ρ s1).bind fun ds s2 => nox (p (.tup xs) ds s2) | _ => .bad := rfl
end Dn
namespace Dn
open PySem PySem.Spec PyProof.Rows L2
variable [HzC]
def gL (n : Nat) (gs : List D → Rho → M Rho) : D → Rho → M Rho := fun d ρ st => match lstOf st d with
  | some xs => if xs.length = n then gs xs ρ st else .bad
  | none => .bad
@[simp] theorem gL_ref {n : Nat} {gs : List D → Rho → M Rho} {ρ : Rho} {s : Sto} {l : Nat} {xs : List D} (h : s[l]? = some (.lst xs)) (hl : xs.length = n) : gL n gs (.ref l) ρ s = gs xs ρ s := by
  unfold gL
  rw [lst_of_ref h]
  simp [hl]
end Dn
namespace Dn
open PySem PySem.Spec PyProof.Rows L2
variable [HzC]
end Dn
namespace Dn
open PySem PySem.Spec PyProof.Rows L2
variable [HzC]
def tyD (st : Sto) : D → Option String
  | .non => some "NoneType"
  | .bl _ => some "bool"
  | .int _ => some "int"
  | .str _ => some "str"
  | .tup _ => some "tuple"
  | .lst _ => some "list"
  | .scr _ => some "list"
  | .ref l => match st[l]? with
    | some (.lst _) => some "list"
    | _ => none
  | .adr _ => none
  | .fd _ _ => none
  | .exo _ _ _ _ => none
  | .obj _ _ _ => none
  | .sd _ => some "dict"
  | .fnv _ => none
section
variable {K : PySem.W.Frag} {F H : Hp} {ι : List Addr} {st : Sto}
theorem ty_tup {a : Addr} {vs : List V} (h : SqT K H a vs) : TyX K H (.ref a) (.type "tuple") := by
  rcases h with h | ⟨o, its, n, e, hc, _⟩
  · rcases h with h | ⟨o, h⟩
    · exact .base (.tup h)
    · exact .fTuple h
  · exact .kTuple e hc
theorem ty_lst {a : Addr} {vs : List V} (h : SqL K H a vs) : TyX K H (.ref a) (.type "list") := by
  rcases h with h | ⟨o, its, n, e, hc, _⟩
  · rcases h with h | ⟨o, h⟩
    · exact .base (.lst h)
    · exact .base (.frz h)
  · exact .kList e hc
theorem Sim.ty (S : Sim K F ι st H) {d : D} {v : V} {t : String} (r : Rep K F ι d v) (h : tyD st d = some t) : TyX K H v (.type t) := by
  cases d with
  | non => simp only [Rep] at r; subst r; cases h; exact .base .non
  | bl b => simp only [Rep] at r; subst r; cases h; exact .base (.bl b)
  | int i => simp only [Rep] at r; subst r; cases h; exact .base (.int i)
  | str s => simp only [Rep] at r; subst r; cases h; exact .base (.str s)
  | tup xs =>
    cases h
    simp only [Rep] at r
    obtain ⟨a, vs, e, q, _⟩ := r
    subst e
    exact ty_tup (S.sqT q)
  | lst xs =>
    cases h
    obtain ⟨a, vs, e, q, _⟩ := S.seq r (xs := xs) rfl
    subst e
    rcases q with q | q
    · exact ty_lst q
    · simp only [Rep] at r
      obtain ⟨a', vs', e', q', _⟩ := r
      cases e'
      exact ty_lst (S.sqL (SqL.of q'))
  | scr xs =>
    cases h
    simp only [Rep] at r
    obtain ⟨a, vs, e, q, _⟩ := r
    subst e
    exact ty_lst (S.sqL q)
  | ref l =>
    unfold tyD at h
    dsimp only at h
    split at h
    · rename_i xs e
      cases h
      simp only [Rep] at r
      obtain ⟨a, e2, q⟩ := r
      subst e2
      obtain ⟨vs, h1, h2⟩ := S.obj l _ a e q
      exact .base (.lst h1)
    · cases h
  | adr a => cases h
  | fd _ _ => cases h
  | exo _ _ _ _ => cases h
  | obj _ _ _ => cases h
  | fnv _ => cases h
  | sd kvs =>
    cases h
    simp only [Rep] at r
    obtain ⟨a, e, q⟩ := r
    subst e
    exact .base (.dK (S.sub _ _ q))
end
end Dn
namespace Dn
open PySem PySem.Spec PyProof.Rows L2
variable [HzC]
section
variable {X : Cx} {W : WX} {pos apos : Pos} {e o : Expr} {m mo : Rho → M D}
inductive DJ (X : Cx) (W : WX) : List Expr → List (Rho → M D) → Prop where
  | nil : DJ X W [] []
  | cons {e : Expr} {m : Rho → M D} {es : List Expr} {ms : List (Rho → M D)} (h : DE X W e m) (r : DJ X W es ms) : DJ X W (e :: es) (m :: ms)
end
end Dn
namespace Dn
open PySem PySem.Spec PyProof.Rows L2
variable [HzC]
def dctOf (st : Sto) : D → Option (List (List Int) × List D)
  | .fd ks xs => some (ks, xs)
  | .ref l => match st[l]? with
    | some (.dct ks xs) => some (ks, xs)
    | _ => none
  | _ => none
section
variable {K : PySem.W.Frag} {F H : Hp} {ι : List Addr} {st : Sto} {a b : Addr} {xs : List (List Int × Addr × Value)}
theorem Sim.dct (S : Sim K F ι st H) {d : D} {v : V} {ks : List (List Int)} {ds : List D} (r : Rep K F ι d v) (h : dctOf st d = some (ks, ds)) : ∃ a xs ws, v = .ref a ∧ (a == sysModules) = false ∧ H a = some (DctO a xs) ∧ KeysT K F ks xs ∧ Vals ws (xs.map (·.2.2)) ∧ Reps K F ι ds ws := by
  unfold dctOf at h
  split at h
  · cases h
    simp only [Rep] at r
    obtain ⟨a, xs, ws, e, z, q, kt, vr, r⟩ := r
    exact ⟨a, xs, ws, e, z, S.sub _ _ q, kt, vr, r⟩
  · rename_i l
    split at h
    · rename_i ks' xs' e
      cases h
      simp only [Rep] at r
      obtain ⟨a, e2, q⟩ := r
      obtain ⟨xs, ws, z, q2, kt, vr, r⟩ := S.obj l _ a e q
      exact ⟨a, xs, ws, e2, z, q2, kt, vr, r⟩
    · cases h
  · cases h
end
abbrev KI (X : Cx) := tupleKind (PySem.intKind X.prog X.w)
end Dn
namespace Dn
open PySem PySem.Spec PyProof.Rows L2
variable [HzC]
structure ErrN (K : PySem.W.Frag) (mg : Str → Option Value) (x : Str) (C : Addr) : Prop where
  ns : PySem.W.nsIn K mainGlobals x = some (some (.ref C))
  gC : mg x = some (.ref C)
  kC : PySem.W.keepIn K (.ref C) = true
  ty : PySem.W.typeIn K (.ref C) = some (.type "type")
  ex : ExcC K C
def KitB (K : PySem.W.Frag) (n y : Str) (b : Bool) : Prop := ∀ C D, PySem.W.nsIn K mainGlobals n = some (some (.ref C)) → PySem.W.nsIn K mainGlobals y = some (some (.ref D)) → PySem.W.kitOne K (.ref C) (.ref D) = some b
def ExmB (K : PySem.W.Frag) (n y : Str) (b : Bool) : Prop := ∀ C D, PySem.W.nsIn K mainGlobals n = some (some (.ref C)) → PySem.W.nsIn K mainGlobals y = some (some (.ref D)) → PySem.W.exmOne K (.ref C) (.ref D) = some b
def EV (x : Xc) (a : Addr) (d : Option Addr) (e : D) : Prop := match x.fld with
  | none => d = none ∧ e = .adr a
  | some (f, v) => ∃ dd, d = some dd ∧ e = .exo a dd f v
def tidyF (i : Nat) : Fl → Fl
  | .next ρ st => .next (ρ.set i none) st
  | .brk ρ st => .brk (ρ.set i none) st
  | .cnt ρ st => .cnt (ρ.set i none) st
  | .ret d st => .ret d st
  | _ => .bad
def e0 (x : Xc) : D := match x.fld with
  | none => .adr 0
  | some (f, v) => .exo 0 0 f v
structure HC (X : Cx) (x : Xc) (e : D) (a : Addr) (oe : Obj) : Prop where
  ex : ∃ C d, PySem.W.nsIn X.K mainGlobals x.nm = some (some (.ref C)) ∧ ExcC X.K C ∧ Zc (.ref C) d oe ∧ EV x a d e
  fl : ∃ vs, oe.data = .fields vs
end Dn
namespace Dn
open PySem PySem.Spec PyProof.Rows L2
variable [HzC]
section
open PySem.W PySem.Calls RZ
variable {prog : Program} {w : World} {A : Around} {E : Value → Shared → Prop} {s : Shared}
structure ZSt (h : Heap) (z TI TO i1 i2 l1 l2 S : Addr) (xs ys : Array Value) (i : Nat) : Prop where
  own : (IsZip h z TI TO .none ∧ ∃ a b, IsPair h TO a b) ∨ ∃ T f oT, IsZipHeld h z TI TO T f ∧ h.get? T = some oT ∧ T ≠ z ∧ T ≠ i1 ∧ T ≠ i2 ∧ T ≠ S
  ti : IsPair h TI (.ref i1) (.ref i2)
  t1 : h.IsTupleIter i1 l1 i
  t2 : h.IsTupleIter i2 l2 i
  l1 : h.IsTuple l1 xs
  l2 : h.IsTuple l2 ys
variable {z TI TO i1 i2 l1 l2 S : Addr} {xs ys : Array Value} {i : Nat}
theorem ZSt.keep {h h' : Heap} (Z : ZSt h z TI TO i1 i2 l1 l2 S xs ys i) (k : ∀ b o, b ≠ S → h.get? b = some o → h'.get? b = some o) (nz : z ≠ S) (nTI : TI ≠ S) (nTO : TO ≠ S) (n1 : i1 ≠ S) (n2 : i2 ≠ S) (m1 : l1 ≠ S) (m2 : l2 ≠ S) : ZSt h' z TI TO i1 i2 l1 l2 S xs ys i where
  own := by
    rcases Z.own with ⟨h1, a, b, h2⟩ | ⟨T, f, oT, h1, h2, h3, h4, h5, h6⟩
    · exact .inl ⟨k _ _ nz h1, a, b, k _ _ nTO h2⟩
    · exact .inr ⟨T, f, oT, k _ _ nz h1, k _ _ h6 h2, h3, h4, h5, h6⟩
  ti := k _ _ nTI Z.ti
  t1 := Z.t1.at fun o e => k _ _ n1 e
  t2 := Z.t2.at fun o e => k _ _ n2 e
  l1 := Z.l1.at fun o e => k _ _ m1 e
  l2 := Z.l2.at fun o e => k _ _ m2 e
structure ZlG (xs ys : Array Value) (lo : Addr) (h : Heap) (as : List Addr) : Prop where
  rise : as.Pairwise (· < ·)
  above : ∀ a ∈ as, lo < a
  pairs : ∀ (j : Nat) (a : Addr), as[j]? = some a → ∃ (hj : j < xs.size) (hk : j < ys.size), h.get? a = some { cls := .type "tuple", data := .seq #[xs[j], ys[j]] }
theorem ZlG.there {lo : Addr} {h : Heap} {as : List Addr} (g : ZlG xs ys lo h as) {a : Addr} (ha : a ∈ as) : a < h.objs.size := by
  obtain ⟨j, hj⟩ := List.mem_iff_getElem?.mp ha
  obtain ⟨_, _, e⟩ := g.pairs j a hj
  exact Heap.lt_size e
end
def pairO (x y : Value) : Obj := { cls := .type "tuple", data := .seq #[x, y] }
abbrev PrT := Addr × (Value × Value) × (V × V)
def PrT.ob (p : PrT) : HO := .frz (pairO p.2.1.1 p.2.1.2) (.tup [p.2.2.1, p.2.2.2])
end Dn
namespace Dn
open PySem PySem.Spec PyProof.Rows L2
variable [HzC]
def putD (f : Str) (d : D) : List (Str × D) → List (Str × D)
  | [] => [(f, d)]
  | (g, x) :: r => if g = f then (g, d) :: r else (g, x) :: putD f d r
section
variable {K : PySem.W.Frag} {F H : Hp} {ι : List Addr} {st : Sto}
theorem RepF.put {fs : List (Str × D)} {gs : List (Str × V)} {f : Str} {d : D} {v : V} (h : RepF K F ι fs gs) (r : Rep K F ι d v) : RepF K F ι (putD f d fs) (putF f v gs) := by
  induction h with
  | nil => exact .cons ⟨rfl, r⟩ .nil
  | @cons p q l1 l2 a b ih =>
    obtain ⟨k, d0⟩ := p
    obtain ⟨k', v0⟩ := q
    obtain rfl : k = k' := a.1
    unfold putD putF
    by_cases e : k = f
    · rw [if_pos e, if_pos e]; exact .cons ⟨rfl, r⟩ b
    · rw [if_neg e, if_neg e]; exact .cons a ih
theorem RepF.len {fs : List (Str × D)} {gs : List (Str × V)} (h : RepF K F ι fs gs) : gs.length = fs.length := by
  induction h with
  | nil => rfl
  | cons a b ih => simp [ih]
end
structure Kls (K : PySem.W.Frag) (mg : Str → Option Value) (nm : Str) (fs : List Str) : Prop where
  ex : ∃ C, PySem.W.nsIn K mainGlobals nm = some (some (.ref C)) ∧ mg nm = some (.ref C) ∧ Cls K C ∧ ∀ f ∈ fs, NoAttr K C f
structure FnM (P : Program) (w : World) (K : PySem.W.Frag) (mg : Str → Option Value) (base : Heap) (k : Nat) (nm m : Str) (np : Nat) (spec : List D → M D) : Prop where
  ex : ∃ (C f : Addr) (fd : FuncData) (ps : List Str), PySem.W.nsIn K mainGlobals nm = some (some (.ref C)) ∧ Meth K C m f ∧ FnG P w K mg base k f fd ps (spD K np spec) ∧ Binds K fd ps []
structure FnI (P : Program) (w : World) (K : PySem.W.Frag) (mg : Str → Option Value) (base : Heap) (k : Nat) (nm : Str) (np : Nat) (spec : List D → M D) : Prop where
  ex : ∃ (C f : Addr) (fd : FuncData) (ps : List Str), PySem.W.nsIn K mainGlobals nm = some (some (.ref C)) ∧ mg nm = some (.ref C) ∧ Mk K C f ∧ FnG P w K mg base k f fd ps (spD K np spec) ∧ Binds K fd ps []
end Dn
namespace PySem
namespace FldX
open PySem.W PySem.Calls PyProof.Rows PySem.HandSPX
def iA (f : Str) (p1 p2 : Pos) : Arguments := { posonlyargs := [], args := [{ arg := "self", annotation := none, pos := p1 }, { arg := f, annotation := none, pos := p2 }], vararg := none, kwonlyargs := [], kw_defaults := [], kwarg := none, defaults := [] }
def iB (f : Str) (q1 q2 q3 q4 : Pos) : List Stmt := [.Assign [.Attribute (.Name "self" q1) f q2] (.Name f q3) q4]
def iS (f : Str) : Scope := { kind := .function, names := [(PySem.Str.ofString "self", .local), (f, .local)], isGenerator := false, isCoroutine := false, more := [] }
def BasX (bm : List Value) (nid : String) : Prop := ∃ (B iid : String) (bmB : List Value), excTail bmB bm = true ∧ ExcBaseFacts B nid iid bmB ∧ StoreFacts B bmB "object.__setattr__" "object"
structure FldTxt (K : Frag) (f : Str) (C fI : Addr) : Prop where
  cls : ∃ nid nm q N bs bm sn sub ab col dd k0 k1 k2 k3 k5, K.lookup C = some (excClassObj nm q C N bs bm true sn sub ab col dd k0 k1 k2 k3 k5 nid) ∧ BasX bm nid
  sa : findIn K (.ref C) "__setattr__" = some (some (.builtin "object.__setattr__"))
  ga : findIn K (.ref C) "__getattribute__" = some (some (.builtin "BaseException.__getattribute__"))
  gg : findIn K (.ref C) "__getattr__" = some none
  noN : findIn K (.ref C) f = some none
  iC : findIn K (.ref C) "__init__" = some (some (.ref fI))
  tC : typeIn K (.ref fI) = some (.type "function")
  kC : keepIn K (.ref C) = true
  exC : subIn K (.ref C) (.type "BaseException") = some true
  tyC : typeIn K (.ref C) = some (.type "type")
  hdC : hasDictIn K C = true
  fn : ∃ (qn : Str) (oc : Value) (od : Option Addr) (doc pm : Value) (an : Option Addr) (cdv ct : Value) (osl : Array (Option Value)) (p1 p2 q1 q2 q3 q4 : Pos),
    K.lookup fI = some ⟨oc, od, .func (fnOf "__init__" qn (iA f p1 p2) (iB f q1 q2 q3 q4) (iS f) .none .none doc pm an cdv ct), osl⟩ ∧ codeIn K cdv qn = true
structure FOk (f : Str) : Prop where
  sf : (f == ("self" : Str)) = false
  fs : (("self" : Str) == f) = false
  db : (f == ("__debug__" : Str)) = false
structure InitEnd (f : Str) (h h' : Heap) (x C dx t1 : Addr) (v : Value) : Prop where
  keep : ∀ b o, b ≠ x → h.get? b = some o → h'.get? b = some o
  obj : h'.get? x = some { cls := .ref C, dict := some dx, data := .fields #[.ref t1, .none, .none, .none, .bool false, .none] }
  dbig : h.objs.size ≤ dx
  dne : dx ≠ x
  ns : h'.Ns1 dx (fun y => if y = f then some v else none)
structure OwnMade (f : Str) (h h' : Heap) (e C d : Addr) (v : Value) : Prop where
  keep : ∀ b o, h.get? b = some o → h'.get? b = some o
  new : h.objs.size ≤ e
  obj : ∃ oe vs, h'.get? e = some oe ∧ oe.cls = .ref C ∧ oe.dict = some d ∧ oe.data = .fields vs ∧ vs[1]? = some .none ∧ vs[2]? = some .none ∧ 4 < vs.size
  dbig : h.objs.size ≤ d
  dne : d ≠ e
  ns : h'.Ns1 d (fun y => if y = f then some v else none)
end FldX
end PySem
namespace Dn
open PySem PySem.Spec PyProof.Rows L2 PySem.FldX
variable [HzC]
def FnBody (P : Program) (w : World) (K : PySem.W.Frag) (mg : Str → Option Value) (base : Heap) (k : Nat) (f : Addr) (fd : FuncData) (body : List Stmt) (ps : List Str) (sp : Sp) : Prop :=
  ∀ (B : Around) (fr : List Env) (s : Shared) (H : Hp) (us : List Value) (vs : List V) (Q : VK) (E : XK), Room k B → (5 < k → B.guards = some []) → Env0 P w K mg base B fr s H → Vals vs us → sp vs H Q E →
    wpAny (model P w) B.in1 (newFunctionEnv fd.scope fd.globals fd.closure (ps.zip us) (fd.qualname ++ ".<locals>.") (some f) fd.code none fd.builtins)
      (fun env s₂ => s₂.heap.NoLimit ∧ codeAny (model P w) B (.func body env) (CR (CXk k P w) fr P w H s Q E) s₂) (fun e s' => CR (CXk k P w) fr P w H s Q E (.error e) s') s
section
variable {P : Program} {w : World} {K : PySem.W.Frag} {mg : Str → Option Value} {base : Heap}
structure FnCV (P : Program) (w : World) (K : PySem.W.Frag) (mg : Str → Option Value) (base : Heap) (k : Nat) (x : Str) (spec : List D → M D) : Prop where
  ex : ∃ (f : Addr) (fd : FuncData) (p y qual : Str) (stm : Stmt), FnBody P w K mg base k f fd (defBody stm) [p] (spD K 1 spec) ∧ Fun K y qual stm f fd ∧ (defScope stm).isCoroutine = false ∧ (defScope stm).isGenerator = false ∧ mg x = some (.ref f) ∧ PySem.W.keepIn K (.ref f) = true ∧
    ∀ us : List Value, bindArgs fd ⟨us, []⟩ = (newTuple us >>= fun t => pure [(p, t)])
end
end Dn
namespace Dn
open PySem PySem.Spec PyProof.Rows L2
variable [HzC]
end Dn
namespace Dn
open PySem PySem.Spec PyProof.Rows L2
inductive Rs (S α : Type) where
  | ok (a : α) (s : S) | exc (x : Xc) (s : S) | bad | amb (P : Nat → Prop) (f : Nat → Rs S α)
def Mt (S α : Type) := S → Rs S α
section
variable {S α β γ : Type}
def rbind (r : Rs S α) (k : α → Mt S β) : Rs S β := match r with
  | .ok a s => k a s
  | .exc x s => .exc x s
  | .bad => .bad
  | .amb P f => .amb P fun n => rbind (f n) k
def mpure (a : α) : Mt S α := fun s => .ok a s
def mbind (m : Mt S α) (k : α → Mt S β) : Mt S β := fun s => rbind (m s) k
def mbad : Mt S α := fun _ => .bad
def mraise (x : Xc) : Mt S α := fun s => .exc x s
def mopt (o : Option α) : Mt S α := match o with
  | some a => mpure a
  | none => mbad
@[simp] theorem rbind_ok (a : α) (s : S) (k : α → Mt S β) : rbind (.ok a s) k = k a s := rfl
@[simp] theorem rbind_exc (x : Xc) (s : S) (k : α → Mt S β) : rbind (.exc x s) k = .exc x s := rfl
@[simp] theorem rbind_bad (k : α → Mt S β) : rbind .bad k = .bad := rfl
@[simp] theorem rbind_amb (P : Nat → Prop) (f : Nat → Rs S α) (k : α → Mt S β) : rbind (.amb P f) k = .amb P fun n => rbind (f n) k := rfl
@[simp] theorem mbind_pure (a : α) (k : α → Mt S β) : mbind (mpure a) k = k a := rfl
@[simp] theorem mopt_some (a : α) : (mopt (some a) : Mt S α) = mpure a := rfl
@[simp] theorem mopt_none : (mopt none : Mt S α) = mbad := rfl
@[simp] theorem mbind_bad (k : α → Mt S β) : mbind mbad k = mbad := rfl
@[simp] theorem mbind_raise (x : Xc) (k : α → Mt S β) : mbind (mraise x) k = mraise x := rfl
end
structure Wd (S : Type) where
  has : S → Sto → Prop
  own : Sto → Nat → Prop
  inb : ∀ {s : S} {st : Sto} {l : Nat}, has s st → own st l → l < st.length
  grow : ∀ {s : S} {st : Sto} (g : Sto), (∀ m ∈ g, m.isIns = false) → has s st → has s (st ++ g)
  ownG : ∀ {s : S} {st : Sto} (g : Sto) {l : Nat}, (∀ m ∈ g, m.isIns = false) → has s st → own (st ++ g) l → own st l
  set : ∀ {s : S} {st : Sto} {l : Nat} (m : MO), m.isIns = false → has s st → ¬ own st l → has s (st.set l m)
  ownS : ∀ {s : S} {st : Sto} {l : Nat} (m : MO) {k : Nat}, m.isIns = false → has s st → ¬ own st l → own (st.set l m) k → own st k
  take : ∀ {s0 s : S} {b st : Sto}, has s0 b → has s st → Tidy b st → has s (st.take b.length)
  ownT : ∀ {s0 s : S} {b st : Sto} {l : Nat}, has s0 b → has s st → Tidy b st → own (st.take b.length) l → own st l
inductive Sl where
  | any | val (d : D) | mut (m : MO) | bor (m : MO)
structure Pre {S : Type} (W : Wd S) (b : Sto) (s : S) (st : Sto) : Prop where
  has : W.has s st
  long : b.length ≤ st.length
  keep : ∀ l : Nat, l < b.length → ¬ W.own b l → ¬ W.own st l ∧ st[l]? = b[l]?
structure Has {S : Type} (W : Wd S) (fr : Sto) (s : S) (Γ : List Sl) (ρ : Rho) (st : Sto) : Prop where
  len : ρ.length = Γ.length
  pre : Pre W fr s st
  val : ∀ (i : Nat) d, Γ[i]? = some (.val d) → ρ[i]? = some (some d)
  mt : ∀ (i : Nat) m, Γ[i]? = some (.mut m) → ∃ l, ρ[i]? = some (some (.ref l)) ∧ (fr.length ≤ l ∧ ¬ W.own st l) ∧ st[l]? = some m
  nal : ∀ (i j : Nat) m1 m2, Γ[i]? = some (.mut m1) → Γ[j]? = some (.mut m2) → ρ[i]? = ρ[j]? → i = j
  bo : ∀ (i : Nat) m, Γ[i]? = some (.bor m) → ∃ l, ρ[i]? = some (some (.ref l)) ∧ ¬ W.own fr l ∧ fr[l]? = some m
section
variable {S : Type} {W : Wd S} {fr : Sto} {s s' : S} {Γ Γ' : List Sl} {ρ ρ' : Rho} {st st' st2 : Sto}
theorem Pre.refl (h : W.has s st) : Pre W st s st := ⟨h, Nat.le_refl _, fun l _ n => ⟨n, rfl⟩⟩
theorem Pre.trans (h1 : Pre W fr s st) (h2 : Pre W st s' st') : Pre W fr s' st' := ⟨h2.has, Nat.le_trans h1.long h2.long, fun l hl n => by
  obtain ⟨a, b⟩ := h1.keep l hl n
  obtain ⟨c, d⟩ := h2.keep l (Nat.lt_of_lt_of_le hl h1.long) a
  exact ⟨c, d.trans b⟩⟩
theorem Pre.grow (h : Pre W fr s st) (g : Sto) (hg : ∀ m ∈ g, m.isIns = false) : Pre W fr s (st ++ g) := ⟨W.grow g hg h.has, by rw [List.length_append]; have := h.long; omega, fun l hl n => by
  obtain ⟨a, b⟩ := h.keep l hl n
  exact ⟨fun q => a (W.ownG g hg h.has q), by rw [List.getElem?_append_left (Nat.lt_of_lt_of_le hl h.long)]; exact b⟩⟩
theorem Pre.set (h : Pre W fr s st) {l : Nat} (m : MO) (hm : m.isIns = false) (hl : fr.length ≤ l) (n : ¬ W.own st l) : Pre W fr s (st.set l m) := ⟨W.set m hm h.has n, by rw [List.length_set]; exact h.long, fun k hk n2 => by
  obtain ⟨a, b⟩ := h.keep k hk n2
  exact ⟨fun q => a (W.ownS m hm h.has n q), by rw [List.getElem?_set_ne (by omega)]; exact b⟩⟩
theorem noIns1 {m : MO} (hm : m.isIns = false) : ∀ x ∈ [m], x.isIns = false := fun x hx => by rw [List.mem_singleton.mp hx]; exact hm
theorem Pre.fresh (h : Pre W fr s st) (m : MO) (hm : m.isIns = false) : ¬ W.own (st ++ [m]) st.length := fun q => Nat.lt_irrefl _ (W.inb h.has (W.ownG [m] (noIns1 hm) h.has q))
theorem Has.grow (h : Has W fr s Γ ρ st) (g : Sto) (hg : ∀ m ∈ g, m.isIns = false) : Has W fr s Γ ρ (st ++ g) := by
  refine ⟨h.len, h.pre.grow g hg, h.val, fun j m e => ?_, h.nal, h.bo⟩
  obtain ⟨l, q1, q2, q3⟩ := h.mt j m e
  exact ⟨l, q1, ⟨q2.1, fun q => q2.2 (W.ownG g hg h.pre.has q)⟩, by rw [List.getElem?_append_left (List.getElem?_eq_some_iff.mp q3).1]; exact q3⟩
theorem Has.call (h : Has W fr s Γ ρ st) (p : Pre W st s' st') : Has W fr s' Γ ρ st' := by
  refine ⟨h.len, h.pre.trans p, h.val, fun j m e => ?_, h.nal, h.bo⟩
  obtain ⟨l, q1, q2, q3⟩ := h.mt j m e
  obtain ⟨a, b⟩ := p.keep l (List.getElem?_eq_some_iff.mp q3).1 q2.2
  exact ⟨l, q1, ⟨q2.1, a⟩, b.trans q3⟩
inductive Wk : List Sl → List Sl → Prop where
  | nil : Wk [] []
  | any {a : Sl} {Γ Γ' : List Sl} (h : Wk Γ Γ') : Wk (a :: Γ) (.any :: Γ')
  | same {a : Sl} {Γ Γ' : List Sl} (h : Wk Γ Γ') : Wk (a :: Γ) (a :: Γ')
theorem Wk.len {Γ Γ' : List Sl} (h : Wk Γ Γ') : Γ.length = Γ'.length := by
  induction h with
  | nil => rfl
  | any _ ih => simp [ih]
  | same _ ih => simp [ih]
theorem Wk.get {Γ Γ' : List Sl} (h : Wk Γ Γ') : ∀ (i : Nat) (a : Sl), Γ'[i]? = some a → a = .any ∨ Γ[i]? = some a := by
  induction h with
  | nil => intro i a e; simp at e
  | any _ ih =>
    intro i a e
    cases i with
    | zero => left; simpa using e.symm
    | succ i => simpa using ih i a (by simpa using e)
  | same _ ih =>
    intro i a e
    cases i with
    | zero => right; simpa using e
    | succ i => simpa using ih i a (by simpa using e)
theorem Wk.refl : ∀ Γ : List Sl, Wk Γ Γ
  | [] => .nil
  | _ :: Γ => .same (Wk.refl Γ)
theorem Has.drop (h : Has W fr s Γ ρ st) (i : Nat) : Has W fr s (Γ.set i .any) ρ st := by
  have g : ∀ (j : Nat) (a : Sl), (Γ.set i .any)[j]? = some a → a ≠ .any → Γ[j]? = some a := fun j a e n => by
    by_cases hj : i = j
    · subst hj
      have hl : i < Γ.length := by have := (List.getElem?_eq_some_iff.mp e).1; simpa using this
      rw [List.getElem?_set_self hl] at e
      cases e
      exact absurd rfl n
    · rw [List.getElem?_set_ne hj] at e; exact e
  exact ⟨by simp [h.len], h.pre, fun i d e => h.val i d (g i _ e (by simp)), fun i m e => h.mt i m (g i _ e (by simp)), fun i j m1 m2 e1 e2 => h.nal i j m1 m2 (g i _ e1 (by simp)) (g j _ e2 (by simp)), fun i m e => h.bo i m (g i _ e (by simp))⟩
end
def Xc.pl (_ : Xc) : Prop := True
section
variable {S : Type} (W : Wd S) (fr : Sto)
def OR {A β : Type} (Γ' : β → List Sl) (ρ : Rho) (enc : β → A) (r : Out A) (q : Rs S β) : Prop := match q with
  | .ok b s' => ∃ st', r = .ok (enc b) st' ∧ Has W fr s' (Γ' b) ρ st'
  | .exc x s' => ∃ st', r = .exc x st' ∧ Pre W fr s' st' ∧ x.pl
  | .bad => True
  | .amb P f => ∃ n, P n ∧ OR Γ' ρ enc r (f n)
def HT {A β : Type} (Γ : List Sl) (m : Rho → M A) (q : Mt S β) (enc : β → A) (Γ' : β → List Sl) : Prop := ∀ s ρ st, Has W fr s Γ ρ st → OR W fr Γ' ρ enc (m ρ st) (q s)
end
section
variable {S : Type} {W : Wd S} {fr : Sto} {Γ Γ1 Γ2 : List Sl} {ρ : Rho}
theorem OR.bind {A B β γ : Type} {Γ' : β → List Sl} {Γ'' : γ → List Sl} {e : β → A} {e' : γ → B} {r : Out A} {q : Rs S β} {f : A → Sto → Out B} {k : β → Mt S γ} (h : OR W fr Γ' ρ e r q)
    (hk : ∀ b s st, Has W fr s (Γ' b) ρ st → OR W fr Γ'' ρ e' (f (e b) st) (k b s)) : OR W fr Γ'' ρ e' (r.bind f) (rbind q k) := by
  induction q with
  | ok b s =>
    obtain ⟨st', rfl, h2⟩ := h
    exact hk b s st' h2
  | exc x s =>
    obtain ⟨st', rfl, h2⟩ := h
    exact ⟨st', rfl, h2⟩
  | bad => trivial
  | amb P_ f_ ih_ => obtain ⟨n_, p_, h⟩ := h; exact ⟨n_, p_, ih_ n_ h⟩
def F2 (p : Sto → D → D → Option D) : List D → M D := fun ds st => match ds with
  | [a, b] => lift (p st a b) st
  | _ => .bad
def F1 (p : Sto → D → Option D) : List D → M D := fun ds st => match ds with
  | [a] => lift (p st a) st
  | _ => .bad
end
end Dn
namespace Dn
open PySem PySem.Spec PyProof.Rows L2
inductive Lp (σ β : Type) where
  | nx (z : σ) | bk (z : σ) | rt (b : β)
section
variable {S α β σ τ : Type}
def mfin (q : Mt S (σ ⊕ β)) (k : σ → Mt S β) : Mt S β := mbind q fun r => match r with
  | .inl z => k z
  | .inr b => mpure b
def mfinL (q : Mt S (σ ⊕ β)) (k : σ → Mt S (Lp τ β)) : Mt S (Lp τ β) := mbind q fun r => match r with
  | .inl z => k z
  | .inr b => mpure (.rt b)
end
section
variable {S : Type} (W : Wd S) (fr : Sto)
def NR {σ : Type} (J : σ → List Sl) (r : Fl) (q : Rs S σ) : Prop := match q with
  | .ok z s' => ∃ ρ' st', r = .next ρ' st' ∧ Has W fr s' (J z) ρ' st'
  | .exc x s' => ∃ ρ' st', r = .exc x ρ' st' ∧ Pre W fr s' st' ∧ x.pl
  | .bad => True
  | .amb P f => ∃ n, P n ∧ NR J r (f n)
def TN {σ : Type} (Γ : List Sl) (m : Rho → Sto → Fl) (q : Mt S σ) (J : σ → List Sl) : Prop := ∀ s ρ st, Has W fr s Γ ρ st → NR W fr J (m ρ st) (q s)
def RR {β : Type} (enc : β → D) (r : Fl) (q : Rs S β) : Prop := match q with
  | .ok b s' => ∃ st', r = .ret (enc b) st' ∧ Pre W fr s' st'
  | .exc x s' => ∃ ρ' st', r = .exc x ρ' st' ∧ Pre W fr s' st' ∧ x.pl
  | .bad => True
  | .amb P f => ∃ n, P n ∧ RR enc r (f n)
def TR {β : Type} (Γ : List Sl) (m : Rho → Sto → Fl) (q : Mt S β) (enc : β → D) : Prop := ∀ s ρ st, Has W fr s Γ ρ st → RR W fr enc (m ρ st) (q s)
def FR {σ β : Type} (J : σ → List Sl) (enc : β → D) (r : Fl) (q : Rs S (σ ⊕ β)) : Prop := match q with
  | .ok (.inl z) s' => ∃ ρ' st', r = .next ρ' st' ∧ Has W fr s' (J z) ρ' st'
  | .ok (.inr b) s' => ∃ st', r = .ret (enc b) st' ∧ Pre W fr s' st'
  | .exc x s' => ∃ ρ' st', r = .exc x ρ' st' ∧ Pre W fr s' st' ∧ x.pl
  | .bad => True
  | .amb P f => ∃ n, P n ∧ FR J enc r (f n)
def TF {σ β : Type} (Γ : List Sl) (m : Rho → Sto → Fl) (q : Mt S (σ ⊕ β)) (J : σ → List Sl) (enc : β → D) : Prop := ∀ s ρ st, Has W fr s Γ ρ st → FR W fr J enc (m ρ st) (q s)
end
section
variable {S : Type} {W : Wd S} {fr : Sto} {Γ Γ1 Γ2 : List Sl}
theorem OR.fl {A β σ : Type} {Γ' : β → List Sl} {J : σ → List Sl} {ρ : Rho} {e : β → A} {r : Out A} {q : Rs S β} {f : A → Sto → Fl} {k : β → Mt S σ} (h : OR W fr Γ' ρ e r q)
    (hk : ∀ b s st, Has W fr s (Γ' b) ρ st → NR W fr J (f (e b) st) (k b s)) : NR W fr J (r.fl ρ f) (rbind q k) := by
  induction q with
  | ok b s =>
    obtain ⟨st', rfl, h2⟩ := h
    exact hk b s st' h2
  | exc x s =>
    obtain ⟨st', rfl, h2, h3⟩ := h
    exact ⟨ρ, st', rfl, h2, h3⟩
  | bad => trivial
  | amb P_ f_ ih_ => obtain ⟨n_, p_, h⟩ := h; exact ⟨n_, p_, ih_ n_ h⟩
theorem Has.put {s : S} {Γ : List Sl} {ρ : Rho} {st : Sto} {d : D} {a : Sl} {Γ' : List Sl} {ρ' : Rho} (h : Has W fr s (Γ ++ a :: Γ') (ρ ++ some d :: ρ') st) (hl : ρ.length = Γ.length) (i : Nat) (hi : i < Γ.length) : Has W fr s (Γ.set i a ++ Γ') (ρ.set i (some d) ++ ρ') st := by
  have hll : ρ'.length = Γ'.length := by have := h.len; simp at this; omega
  -- where slot j of the new slots stood
  let f : Nat → Nat := fun j => if j = i then Γ.length else if j < Γ.length then j else j + 1
  have key : ∀ (j : Nat) b, (Γ.set i a ++ Γ')[j]? = some b → (Γ ++ a :: Γ')[f j]? = some b ∧ (ρ.set i (some d) ++ ρ')[j]? = (ρ ++ some d :: ρ')[f j]? := fun j b e => by
    by_cases h1 : j = i
    · subst h1
      have ef : f j = Γ.length := if_pos rfl
      rw [ef]
      rw [List.getElem?_append_left (by simpa using hi), List.getElem?_set_self hi] at e
      rw [List.getElem?_append_right (Nat.le_refl _), Nat.sub_self, List.getElem?_append_left (by simpa [hl] using hi), List.getElem?_set_self (by omega), List.getElem?_append_right (by omega), hl, Nat.sub_self]
      exact ⟨by simpa using e, rfl⟩
    · by_cases h2 : j < Γ.length
      · have ef : f j = j := by simp only [f]; rw [if_neg h1, if_pos h2]
        rw [ef]
        rw [List.getElem?_append_left (by simpa using h2), List.getElem?_set_ne (Ne.symm h1)] at e
        rw [List.getElem?_append_left h2, List.getElem?_append_left (by simpa [hl] using h2), List.getElem?_set_ne (Ne.symm h1), List.getElem?_append_left (by omega)]
        exact ⟨e, rfl⟩
      · have ef : f j = j + 1 := by simp only [f]; rw [if_neg h1, if_neg h2]
        rw [ef]
        have e' := e
        rw [List.getElem?_append_right (by simp; omega), List.length_set] at e
        rw [List.getElem?_append_right (by omega), List.getElem?_append_right (by simp [hl]; omega), List.getElem?_append_right (by omega), List.length_set, hl]
        have e1 : j + 1 - Γ.length = (j - Γ.length) + 1 := by omega
        rw [e1, List.getElem?_cons_succ, List.getElem?_cons_succ]
        exact ⟨e, rfl⟩
  have fi : ∀ j k, f j = f k → j = k := fun j k e => by
    simp only [f] at e
    split at e <;> split at e <;> (try split at e) <;> (try split at e) <;> omega
  refine ⟨by simp [hl, hll], h.pre, fun j d' e => ?_, fun j m e => ?_, fun j k m1 m2 e1 e2 e3 => ?_, fun j m e => ?_⟩
  · obtain ⟨q1, q2⟩ := key j _ e
    rw [q2]; exact h.val _ _ q1
  · obtain ⟨q1, q2⟩ := key j _ e
    rw [q2]; exact h.mt _ _ q1
  · obtain ⟨q1, q2⟩ := key j _ e1
    obtain ⟨q3, q4⟩ := key k _ e2
    exact fi j k (h.nal _ _ m1 m2 q1 q3 (by rw [← q2, ← q4]; exact e3))
  · obtain ⟨q1, q2⟩ := key j _ e
    rw [q2]; exact h.bo _ _ q1
end
end Dn
namespace Dn
open PySem PySem.Spec PyProof.Rows L2
section
variable {S : Type} {W : Wd S} {fr : Sto} {Γ Γ1 Γ2 : List Sl}
def wipeG (Γ : List Sl) : List Nat → List Sl
  | [] => Γ
  | v :: vs => (wipeG Γ vs).set v .any
theorem Has.unset {s : S} {Γ : List Sl} {ρ : Rho} {st : Sto} (h : Has W fr s Γ ρ st) (i : Nat) : Has W fr s (Γ.set i .any) (ρ.set i none) st := by
  have g : ∀ (j : Nat) (a : Sl), (Γ.set i .any)[j]? = some a → a ≠ .any → Γ[j]? = some a ∧ (ρ.set i none)[j]? = ρ[j]? := fun j a e n => by
    by_cases hj : i = j
    · subst hj
      have hl : i < Γ.length := by have := (List.getElem?_eq_some_iff.mp e).1; simpa using this
      rw [List.getElem?_set_self hl] at e
      cases e
      exact absurd rfl n
    · rw [List.getElem?_set_ne hj] at e ⊢; exact ⟨e, rfl⟩
  refine ⟨by simp [h.len], h.pre, fun i d e => ?_, fun i m e => ?_, fun i j m1 m2 e1 e2 e3 => ?_, fun i m e => ?_⟩
  · rw [(g i _ e (by simp)).2]; exact h.val i d (g i _ e (by simp)).1
  · rw [(g i _ e (by simp)).2]; exact h.mt i m (g i _ e (by simp)).1
  · exact h.nal i j m1 m2 (g i _ e1 (by simp)).1 (g j _ e2 (by simp)).1 (by rw [← (g i _ e1 (by simp)).2, ← (g j _ e2 (by simp)).2]; exact e3)
  · rw [(g i _ e (by simp)).2]; exact h.bo i m (g i _ e (by simp)).1
theorem Has.wipe {s : S} {Γ : List Sl} {ρ : Rho} {st : Sto} (h : Has W fr s Γ ρ st) : ∀ vs : List Nat, Has W fr s (wipeG Γ vs) (wipeD ρ vs) st
  | [] => h
  | v :: vs => (h.wipe vs).unset v
section
variable {α β : Type}
variable {e : α → D} {enc : β → D} {gf : D → Rho → M Rho} {mt : Rho → M Bool} {me : Rho → M D} {vs js : List Nat} {G : α → List Sl}
def rcalm {γ : Type} (r : Rs S γ) : Rs S γ := match r with
  | .ok a s' => .ok a s'
  | .amb P f => .amb P fun n => rcalm (f n)
  | _ => .bad
def calmly {γ : Type} (q : Mt S γ) : Mt S γ := fun s => rcalm (q s)
end
theorem Pre.take {s0 s' : S} {b st' : Sto} (h0 : W.has s0 b) (h : Pre W b s' st') (t : Tidy b st') : Pre W b s' (st'.take b.length) := by
  refine ⟨W.take h0 h.has t, ?_, fun l hl n => ?_⟩
  · rw [List.length_take]
    have := h.long
    omega
  · obtain ⟨p, q⟩ := h.keep l hl n
    exact ⟨fun z => p (W.ownT h0 h.has t z), by rw [List.getElem?_take_of_lt hl]; exact q⟩
end
end Dn
namespace Dn
open PySem PySem.Spec PyProof.Rows L2
def eI : Int → D := .int
def eB : Bool → D := .bl
def eS : Str → D := .str
def eD : D → D := fun d => d
def eU : Unit → D := fun _ => .non
def eT {α : Type} (e : α → D) (xs : List α) : D := .tup (xs.map e)
def eL {α : Type} (e : α → D) (xs : List α) : D := .lst (xs.map e)
def eP {α β : Type} (e : α → D) (f : β → D) (z : α × β) : D := .tup [e z.1, f z.2]
def eP3 {α β γ : Type} (e : α → D) (f : β → D) (g : γ → D) (z : α × β × γ) : D := .tup [e z.1, f z.2.1, g z.2.2]
def eO {α : Type} (e : α → D) (o : Option α) : D := match o with
  | none => .non
  | some x => e x
class Ev {α : Type} [DecidableEq α] (e : α → D) (dp : outParam Nat) : Prop where
  p : ∀ x, isP (e x) = true
  dep : ∀ x, (toP (e x)).depth ≤ dp
  eq : ∀ x y, PyData.eqv (toP (e x)) (toP (e y)) = decide (x = y)
class Pl {α : Type} (e : α → D) : Prop where
  p : ∀ x, isP (e x) = true
instance : Pl eI := ⟨fun _ => rfl⟩
instance : Pl eB := ⟨fun _ => rfl⟩
instance : Pl eS := ⟨fun _ => rfl⟩
instance : Pl eU := ⟨fun _ => rfl⟩
theorem isPs_of {α : Type} {e : α → D} (h : ∀ x, isP (e x) = true) : ∀ xs : List α, isPs (xs.map e) = true
  | [] => rfl
  | x :: xs => by rw [List.map_cons, isPs, h x, isPs_of h xs] <;> rfl
instance {α : Type} {e : α → D} [Pl e] : Pl (eT e) := ⟨fun xs => by unfold eT; rw [isP]; exact isPs_of Pl.p xs⟩
instance {α : Type} {e : α → D} [Pl e] : Pl (eL e) := ⟨fun xs => by unfold eL; rw [isP]; exact isPs_of Pl.p xs⟩
instance {α β : Type} {e : α → D} {f : β → D} [Pl e] [Pl f] : Pl (eP e f) := ⟨fun z => by unfold eP; simp only [isP, isPs, Pl.p, Bool.and_self]⟩
instance {α β γ : Type} {e : α → D} {f : β → D} {g : γ → D} [Pl e] [Pl f] [Pl g] : Pl (eP3 e f g) := ⟨fun z => by unfold eP3; simp only [isP, isPs, Pl.p, Bool.and_self]⟩
instance {α : Type} {e : α → D} [Pl e] : Pl (eO e) := ⟨fun o => by cases o with
  | none => rfl
  | some x => exact Pl.p x⟩
instance : Ev eI 0 := ⟨fun _ => rfl, fun _ => Nat.le_refl _, fun x y => by
  show (x == y) = _
  rw [Bool.eq_iff_iff]; simp⟩
instance : Ev eB 0 := ⟨fun _ => rfl, fun _ => Nat.le_refl _, fun x y => by
  show (x == y) = _
  rw [Bool.eq_iff_iff]; simp⟩
instance : Ev eS 0 := ⟨fun _ => rfl, fun _ => Nat.le_refl _, fun x y => by
  show (x == y) = _
  rw [Bool.eq_iff_iff]; simp⟩
instance : Ev eU 0 := ⟨fun _ => rfl, fun _ => Nat.le_refl _, fun x y => rfl⟩
theorem depAll_of {α : Type} {e : α → D} {n : Nat} (h : ∀ x, (toP (e x)).depth ≤ n) : ∀ xs : List α, PyData.depthAll (toPs (xs.map e)) ≤ n
  | [] => Nat.zero_le _
  | x :: xs => by
    rw [List.map_cons, toPs, PyData.depthAll]
    exact Nat.max_le.mpr ⟨h x, depAll_of h xs⟩
theorem eqvAll_of {α : Type} [DecidableEq α] {e : α → D} (h : ∀ x y, PyData.eqv (toP (e x)) (toP (e y)) = decide (x = y)) : ∀ xs ys : List α, PyData.eqvAll (toPs (xs.map e)) (toPs (ys.map e)) = decide (xs = ys)
  | [], [] => rfl
  | [], y :: ys => by simp only [List.map_nil, List.map_cons, toPs, PyData.eqvAll]; rfl
  | x :: xs, [] => by simp only [List.map_nil, List.map_cons, toPs, PyData.eqvAll]; rfl
  | x :: xs, y :: ys => by
    simp only [List.map_cons, toPs, PyData.eqvAll]
    rw [h x y, eqvAll_of h xs ys, Bool.eq_iff_iff]
    simp
instance {α : Type} [DecidableEq α] {e : α → D} {n : Nat} [Ev e n] : Ev (eT e) (n + 1) := ⟨fun xs => by unfold eT; rw [isP]; exact isPs_of Ev.p xs, fun xs => by
  unfold eT
  rw [toP, PyData.depth]
  have := depAll_of (n := n) (e := e) Ev.dep xs
  omega, fun xs ys => by
  unfold eT
  rw [toP, toP, PyData.eqv]
  exact eqvAll_of Ev.eq xs ys⟩
instance {α : Type} [DecidableEq α] {e : α → D} {n : Nat} [Ev e n] : Ev (eL e) (n + 1) := ⟨fun xs => by unfold eL; rw [isP]; exact isPs_of Ev.p xs, fun xs => by
  unfold eL
  rw [toP, PyData.depth]
  have := depAll_of (n := n) (e := e) Ev.dep xs
  omega, fun xs ys => by
  unfold eL
  rw [toP, toP, PyData.eqv]
  exact eqvAll_of Ev.eq xs ys⟩
instance {α β : Type} [DecidableEq α] [DecidableEq β] {e : α → D} {f : β → D} {n m : Nat} [Ev e n] [Ev f m] : Ev (eP e f) (max n m + 1) := ⟨fun z => by unfold eP; simp only [isP, isPs, Ev.p, Bool.and_self], fun z => by
  unfold eP
  have h1 := Ev.dep (e := e) z.1
  have h2 := Ev.dep (e := f) z.2
  simp only [toP, toPs, PyData.depth, PyData.depthAll]
  omega, fun x y => by
  unfold eP
  simp only [toP, toPs, PyData.eqv, PyData.eqvAll, Ev.eq]
  rw [Bool.eq_iff_iff]
  simp [Prod.ext_iff]⟩
class Nn {α : Type} (e : α → D) : Prop where
  nn : ∀ x, toP (e x) ≠ .none
instance : Nn eI := ⟨fun _ h => nomatch h⟩
instance : Nn eB := ⟨fun _ h => nomatch h⟩
instance : Nn eS := ⟨fun _ h => nomatch h⟩
instance {α : Type} {e : α → D} : Nn (eT e) := ⟨fun _ h => by unfold eT at h; rw [toP] at h; cases h⟩
instance {α : Type} {e : α → D} : Nn (eL e) := ⟨fun _ h => by unfold eL at h; rw [toP] at h; cases h⟩
instance {α β : Type} {e : α → D} {f : β → D} : Nn (eP e f) := ⟨fun _ h => by unfold eP at h; rw [toP] at h; cases h⟩
theorem eqv_none_l {d : PyData} (h : d ≠ .none) : PyData.eqv .none d = false := by cases d <;> first | rfl | exact absurd rfl h
theorem eqv_none_r {d : PyData} (h : d ≠ .none) : PyData.eqv d .none = false := by cases d <;> first | rfl | exact absurd rfl h
instance {α : Type} [DecidableEq α] {e : α → D} {n : Nat} [Ev e n] [Nn e] : Ev (eO e) n := ⟨fun o => by cases o with
  | none => rfl
  | some x => exact Ev.p x, fun o => by cases o with
  | none => exact Nat.zero_le _
  | some x => exact Ev.dep x, fun o p => by
  cases o with
  | none =>
    cases p with
    | none => rfl
    | some y =>
      show PyData.eqv .none (toP (e y)) = _
      rw [eqv_none_l (Nn.nn (e := e) y)] <;> rfl
  | some x =>
    cases p with
    | none =>
      show PyData.eqv (toP (e x)) .none = _
      rw [eqv_none_r (Nn.nn (e := e) x)] <;> rfl
    | some y =>
      show PyData.eqv (toP (e x)) (toP (e y)) = _
      rw [Ev.eq (e := e)]
      simp⟩
end Dn
namespace Dn
open PySem PySem.Spec PyProof.Rows L2
def lexB {α : Type} [DecidableEq α] (lt : α → α → Bool) : List α → List α → Bool
  | _, [] => false
  | [], _ :: _ => true
  | x :: xs, y :: ys => if x = y then lexB lt xs ys else lt x y
class Or {α : Type} [DecidableEq α] (e : α → D) (lt : outParam (α → α → Bool)) : Prop where
  al : ∀ x y, PySem.W.alike (toP (e x)) (toP (e y)) = true
  lt : ∀ x y, PySem.W.dataLt (toP (e x)) (toP (e y)) = lt x y
def ltI (a b : Int) : Bool := decide (a < b)
def ltS (a b : Str) : Bool := decide (a.cps.toList < b.cps.toList)
instance : Or eI ltI := ⟨fun _ _ => rfl, fun x y => PySem.W.dataLt_int x y⟩
instance : Or eS ltS := ⟨fun _ _ => rfl, fun x y => PySem.W.dataLt_str x y⟩
theorem alikeAll_of {α : Type} {e : α → D} (h : ∀ x y, PySem.W.alike (toP (e x)) (toP (e y)) = true) : ∀ xs ys : List α, PySem.W.alikeAll (toPs (xs.map e)) (toPs (ys.map e)) = true
  | [], ys => by rw [List.map_nil, toPs, PySem.W.alikeAll]
  | x :: xs, [] => by rw [List.map_nil, List.map_cons, toPs, toPs, PySem.W.alikeAll]
  | x :: xs, y :: ys => by rw [List.map_cons, List.map_cons, toPs, toPs, PySem.W.alikeAll, h x y, alikeAll_of h xs ys] <;> rfl
theorem ltAll_of {α : Type} [DecidableEq α] {e : α → D} {n : Nat} [Ev e n] {lt : α → α → Bool} (ha : ∀ x y, PySem.W.alike (toP (e x)) (toP (e y)) = true) (hl : ∀ x y, PySem.W.dataLt (toP (e x)) (toP (e y)) = lt x y) :
    ∀ xs ys : List α, PyProof.Rows.lexLt itemOrd (PySem.W.keyToksAll (toPs (xs.map e))) (PySem.W.keyToksAll (toPs (ys.map e))) = lexB lt xs ys
  | [], [] => rfl
  | [], y :: ys => rfl
  | x :: xs, [] => rfl
  | x :: xs, y :: ys => by
    rw [List.map_cons, List.map_cons, toPs, toPs]
    unfold lexB
    by_cases h : x = y
    · rw [if_pos h, PySem.W.dataLt_all_yes (ha x y) (by rw [Ev.eq, decide_eq_true h]), ltAll_of ha hl xs ys]
    · rw [if_neg h, PySem.W.dataLt_all_no (ha x y) (by rw [Ev.eq, decide_eq_false h]), hl]
instance {α : Type} [DecidableEq α] {e : α → D} {n : Nat} {lt : α → α → Bool} [Ev e n] [Or e lt] : Or (eT e) (lexB lt) := ⟨fun xs ys => by
  unfold eT
  rw [toP, toP, PySem.W.alike]
  exact alikeAll_of (Or.al (e := e)) xs ys, fun xs ys => by
  unfold eT
  rw [toP, toP, PySem.W.dataLt_tuple]
  exact ltAll_of (Or.al (e := e)) (Or.lt (e := e)) xs ys⟩
class Sb {α : Type} (e : α → D) : Prop where
  sb : (∀ x, ∃ xs, toP (e x) = .tuple xs) ∨ ∀ x, toP (e x) ≠ .none ∧ ∀ xs, toP (e x) ≠ .tuple xs
instance : Sb eI := ⟨.inr fun _ => ⟨(fun h => nomatch h), fun _ h => nomatch h⟩⟩
instance : Sb eS := ⟨.inr fun _ => ⟨(fun h => nomatch h), fun _ h => nomatch h⟩⟩
instance {α : Type} {e : α → D} : Sb (eT e) := ⟨.inl fun xs => ⟨_, by unfold eT; rw [toP]⟩⟩
end Dn
namespace Dn
open PySem PySem.Spec PyProof.Rows L2
end Dn
namespace Dn
open PySem PySem.Spec PyProof.Rows L2
variable [HzC]
section
variable {S α β γ σ : Type}
@[simp] theorem calmly_pure' (a : α) : calmly (mpure a : Mt S α) = mpure a := rfl
@[simp] theorem calmly_bad' : calmly (mbad : Mt S α) = mbad := rfl
@[simp] theorem mfin_inl (z : σ) (k : σ → Mt S β) : mfin (mpure (.inl z)) k = k z := rfl
@[simp] theorem mfin_inr (b : β) (k : σ → Mt S β) : mfin (mpure (.inr b)) k = mpure b := rfl
@[simp] theorem mfinL_inl (z : σ) (k : σ → Mt S (Lp γ β)) : mfinL (mpure (.inl z)) k = k z := rfl
@[simp] theorem mfinL_inr (b : β) (k : σ → Mt S (Lp γ β)) : mfinL (mpure (.inr b)) k = mpure (.rt b) := rfl
end
end Dn
namespace Dn
open PySem PySem.Spec PyProof.Rows L2
def rowAt (pan : List (List Int)) (b : Int) : List Int := pan.getD b.toNat []
theorem getD_mem {α : Type} {xs : List α} {b : Int} (d : α) (h0 : 0 ≤ b) (h : b < xs.length) : xs.getD b.toNat d ∈ xs := by
  have hl : b.toNat < xs.length := by omega
  rw [List.getD_eq_getElem?_getD, List.getElem?_eq_getElem hl]
  exact List.getElem_mem hl
structure Pan (K : Nat) (pan : List (List Int)) : Prop where
  pos : 1 ≤ pan.length
  le : pan.length ≤ K
  len : ∀ r ∈ pan, r.length ≤ K
  rng : ∀ r ∈ pan, ∀ a ∈ r, 0 ≤ a ∧ a < (pan.length : Int)
theorem Pan.row {K : Nat} {pan : List (List Int)} (h : Pan K pan) {b : Int} (h0 : 0 ≤ b) (h1 : b < pan.length) : rowAt pan b ∈ pan := getD_mem [] h0 h1
end Dn
namespace Dn
open PySem PySem.Spec PyProof.Rows L2
end Dn
namespace Dn
open PySem PySem.Spec PyProof.Rows L2
end Dn
namespace Dn
open PySem PySem.Spec PyProof.Rows L2
abbrev Kv (α : Type) := List (List Int × α)
section
variable {α : Type}
def eK (kv : Kv α) : List (List Int) := kv.map Prod.fst
def eW (e : α → D) (kv : Kv α) : List D := kv.map fun p => e p.2
def eDc (e : α → D) (kv : Kv α) : D := .fd (eK kv) (eW e kv)
theorem low_eW {e : α → D} (he : ∀ x n, (e x).low n = true) (n : Nat) : ∀ kv : Kv α, D.lows n (eW e kv) = true
  | [] => by show D.lows n [] = true; simp only [D.lows]
  | p :: ps => by
    show D.lows n (e p.2 :: eW e ps) = true
    simp only [D.lows, Bool.and_eq_true]
    exact ⟨he _ _, low_eW he n ps⟩
end
class Lo {α : Type} (e : α → D) : Prop where
  lo : ∀ x n, (e x).low n = true
instance (priority := low) {α : Type} {e : α → D} [Pl e] : Lo e := ⟨fun x n => low_of_isP n _ (Pl.p x)⟩
instance {α : Type} {e : α → D} [Lo e] : Lo (eDc e) := ⟨fun x n => by
  unfold eDc
  rw [D.low]
  exact low_eW Lo.lo n x⟩
end Dn
namespace Dn
open PySem PySem.Spec PyProof.Rows L2
variable [HzC]
def ErrX (K : PySem.W.Frag) (mg : Str → Option Value) (x : Str) : Prop := ∃ C, ErrN K mg x C
def eQ {α β : Type} (e : α → D) (f : β → D) (z : α × β) : D := .lst [e z.1, f z.2]
instance {α β : Type} {e : α → D} {f : β → D} [Pl e] [Pl f] : Pl (eQ e f) := ⟨fun z => by unfold eQ; simp only [isP, isPs, Pl.p, Bool.and_self]⟩
instance {α β : Type} [DecidableEq α] [DecidableEq β] {e : α → D} {f : β → D} {n m : Nat} [Ev e n] [Ev f m] : Ev (eQ e f) (max n m + 1) := ⟨fun z => by unfold eQ; simp only [isP, isPs, Ev.p, Bool.and_self], fun z => by
  unfold eQ
  have h1 := Ev.dep (e := e) z.1
  have h2 := Ev.dep (e := f) z.2
  simp only [toP, toPs, PyData.depth, PyData.depthAll]
  omega, fun x y => by
  unfold eQ
  simp only [toP, toPs, PyData.eqv, PyData.eqvAll, Ev.eq]
  rw [Bool.eq_iff_iff]
  simp [Prod.ext_iff]⟩
end Dn
namespace Dn
open PySem PySem.Spec PyProof.Rows L2
inductive CV where
  | two (w : Str) (xs : List Int) | three (w : Str) (b : Int) (ms : List Int)
def eCV : CV → D
  | .two w xs => eP eS (eT eI) (w, xs)
  | .three w b ms => eP3 eS eI (eT eI) (w, b, ms)
def CV.w : CV → Str
  | .two w _ => w
  | .three w _ _ => w
def CV.len : CV → Int
  | .two _ _ => 2
  | .three _ _ _ => 3
instance : Pl eCV := ⟨fun v => by
  cases v with
  | two w xs => exact Pl.p (e := eP eS (eT eI)) (w, xs)
  | three w b ms => exact Pl.p (e := eP3 eS eI (eT eI)) (w, b, ms)⟩
end Dn
namespace Dn
open PySem PySem.Spec PyProof.Rows L2
def MaskB (m : Nat) : Prop := m = 7 ∨ m = 31 ∨ m = 127 ∨ m = 511 ∨ m = 2047
theorem inB_way (m : Nat) (h : Int) (k : Nat) : way m h k ≤ m := by
  have hi : SetTable.bits h % (m + 1) < m + 1 := Nat.mod_lt _ (Nat.succ_pos _)
  have r := runEnd_bd (Nat.le_of_lt_succ hi)
  refine Nat.le_trans (Nat.le_add_right _ _) (nth_in k (runAt m (SetTable.bits h % (m + 1)) (SetTable.bits h)) ?_)
  show SetTable.bits h % (m + 1) + (SetTable.runEnd m (SetTable.bits h % (m + 1)) - SetTable.bits h % (m + 1)) ≤ m
  omega
structure TbB (t : SetTable) (hs : List Int) : Prop where
  ris : Ris t.place.toList
  dm : t.dummies = #[]
  len : t.place.toList.length = hs.length
  mask : MaskB t.mask
  bd : ∀ x ∈ t.place.toList, x ≤ t.mask
  met : ∀ q ∈ hs.zip t.place.toList, ∃ k, way t.mask q.1 k = q.2 ∧ ∀ k', k' < k → way t.mask q.1 k' ∈ t.place.toList
theorem zip_cut {α β : Type} {A : List α} {B : List β} (hl : A.length = B.length) {p : Nat} {x : α} {y : β} {q : α × β} (h : q ∈ (A.take p ++ x :: A.drop p).zip (B.take p ++ y :: B.drop p)) : q = (x, y) ∨ q ∈ A.zip B := by
  have e : (A.take p).length = (B.take p).length := by rw [List.length_take, List.length_take, hl]
  have z : A.zip B = (A.take p).zip (B.take p) ++ (A.drop p).zip (B.drop p) := by
    rw [← List.zip_append e, List.take_append_drop, List.take_append_drop]
  rw [List.zip_append e, List.zip_cons_cons, List.mem_append, List.mem_cons] at h
  rw [z, List.mem_append]
  rcases h with h | h | h
  · exact .inr (.inl h)
  · exact .inl h
  · exact .inr (.inr h)
theorem TbB.more {t : SetTable} {hs : List Int} (T : TbB t hs) {h : Int} {K j p : Nat} (ej : way t.mask h K = j) (ep : SetTable.below t.place j = p) (hK : j ∉ t.place.toList) (hb : ∀ k, k < K → way t.mask h k ∈ t.place.toList) :
    (t.put j).2 = p ∧ TbB (t.put j).1 (hs.take p ++ h :: hs.drop p) ∧ (t.put j).1.mask = t.mask ∧ (t.put j).1.led = t.led ∧ (t.put j).1.plain = t.plain := by
  have e1 : (t.put j).1.place.toList = t.place.toList.take p ++ j :: t.place.toList.drop p := by
    rw [put_place, ep]
  have hno : ¬ t.place[SetTable.below t.place j]? = some j := fun z => hK (by rw [← Array.getElem?_toList] at z; exact List.mem_of_getElem? z)
  have old : ∀ x ∈ t.place.toList, x ∈ (t.put j).1.place.toList := fun x hx => by
    rw [e1]
    exact mem_ins.mpr (.inr hx)
  have hpl : p ≤ t.place.toList.length := by
    rw [← ep, Array.length_toList]
    exact (below_cut T.ris j).1
  refine ⟨ep, { ris := ris_insert T.ris hno, dm := put_dm T.dm j, len := ?_, mask := T.mask, bd := fun x hx => ?_, met := fun q hq => ?_ }, rfl, rfl, rfl⟩
  · rw [e1, len_ins _ hpl, len_ins _ (by rw [← T.len]; exact hpl), T.len]
  · rw [e1] at hx
    rcases mem_ins.mp hx with rfl | hx
    · rw [← ej]; exact inB_way _ _ _
    · exact T.bd x hx
  · rw [e1] at hq
    rcases zip_cut T.len.symm hq with rfl | hq
    · exact ⟨K, ej, fun k hk => old _ (hb k hk)⟩
    · obtain ⟨k, a1, a2⟩ := T.met q hq
      exact ⟨k, a1, fun k' hk' => old _ (a2 k' hk')⟩
structure SetB (P : Program) (w : World) (h : Heap) (a : Addr) (L : List (Addr × List Int)) (es : Array (Int × Value)) (ep : Nat) (t : SetTable) : Prop where
  ob : ∃ o, h.get? a = some o ∧ o.ExactSet ∧ o.data = .set es ep t
  rw_ : es.toList = rowsOf P w L
  tb : TbB t (L.map fun p => thash P w p.2)
  once : (L.map (·.2)).Nodup
  tups : ∀ p ∈ L, IsT P w h p.2 p.1
  pv : t.plain = true
  lead : w.params.followText "set-order" = true ∨ t.led = true
  gap : L.length * 5 < t.mask * 3
  lim : L.length < 1200
section
variable {P : Program} {w : World} {A : Around} {E : Value → Shared → Prop}
theorem SetB.stay {h h' : Heap} {a : Addr} {L : List (Addr × List Int)} {es : Array (Int × Value)} {ep : Nat} {t : SetTable} (R : SetB P w h a L es ep t) (ha : ∀ o, h.get? a = some o → h'.get? a = some o) (ht : ∀ p ∈ L, IsT P w h' p.2 p.1) : SetB P w h' a L es ep t :=
  { R with ob := by obtain ⟨o, go, r⟩ := R.ob; exact ⟨o, ha o go, r⟩, tups := ht }
end
end Dn
namespace Dn
open PySem PySem.Spec PyProof.Rows L2
variable [HzC]
end Dn
namespace Dn
open PySem PySem.Spec PyProof.Rows L2
variable [HzC]
end Dn
namespace Dn
open PySem PySem.Spec PyProof.Rows L2
variable [HzC]
mutual
def isR : D → Bool
  | .non => true | .bl _ => true | .int _ => true | .str _ => true | .sd _ => true
  | .tup xs => isRs xs | .lst xs => isRs xs
  | .scr _ => false | .ref _ => false | .adr _ => false | .fd _ _ => false | .exo _ _ _ _ => false | .obj _ _ _ => false | .fnv _ => false
def isRs : List D → Bool
  | [] => true
  | d :: ds => isR d && isRs ds
end
structure ROkR (dp bk : Nat) (d : D) : Prop where
  p : isR d = true
  dep : (toP d).depth ≤ dp
  show_ : (toP d).showable = true
  leaf : (toP d).leavesShort 60 = true
  blk : (toP d).bulk ≤ bk
theorem ROkR.mono {dp bk dp' bk' : Nat} {d : D} (h : ROkR dp bk d) (h1 : dp ≤ dp') (h2 : bk ≤ bk') : ROkR dp' bk' d := ⟨h.p, Nat.le_trans h.dep h1, h.show_, h.leaf, Nat.le_trans h.blk h2⟩
section
variable {X : Cx} {W : WX} {pos : Pos}
inductive SdE (X : Cx) : List (Option Expr) → List Expr → List (Str × Option Int) → Prop where
  | nil : SdE X [] [] []
  | cons {k v : Expr} {ks : List (Option Expr)} {vs : List Expr} {x : Str} {o : Option Int} {kvs : List (Str × Option Int)} (hk : PE X k (tC (.str x))) (hv : PE X v (tC (oV o))) (t : SdE X ks vs kvs) : SdE X (some k :: ks) (v :: vs) ((x, o) :: kvs)
end
section
variable {X : Cx} {x : Xc} {e : D} {a : Addr} {oe : Obj} {pn : List (Addr × Obj)} {i : Nat} {p p2 p3 pos : Pos} {yes no : List Str}
def KitT (K : PySem.W.Frag) (n : Str) (T : String) (b : Bool) : Prop := ∀ C, PySem.W.nsIn K mainGlobals n = some (some (.ref C)) → PySem.W.kitOne K (.ref C) (.type T) = some b
end
end Dn
namespace Dn
open PySem PySem.Spec PyProof.Rows L2
variable [HzC]
def spE (K : PySem.W.Frag) (spec : List D → M D) : Sp := fun vs H Q E => ∃ F ι st ds, Sim K F ι st H ∧ Reps K F ι ds vs ∧ post K (wE E) [] F ι H (pV K) (spec ds st) Q
def RunE (P : Program) (w : World) (K : PySem.W.Frag) (mg : Str → Option Value) (base : Heap) (k : Nat) (f : Addr) (spec : List D → M D) : Prop :=
  ∀ (B : Around) (fr : List Env) (s : Shared) (H : Hp) (us : List Value) (vs : List V) (Q : VK) (E : XK), Room k B → (5 < k → B.guards = some []) → Env0 P w K mg base B fr s H → K.In s.heap → Vals vs us → spE K spec vs H Q E →
    codeAny (model P w) B (.call (.ref f) ⟨us, []⟩) (CR (CXk k P w) fr P w H s Q E) s
section
variable {P : Program} {w : World} {K : PySem.W.Frag} {mg : Str → Option Value} {base : Heap} {k k' : Nat} {f : Addr} {spec : List D → M D}
theorem RunE.mono (h : RunE P w K mg base k f spec) (hk : k ≤ k') : RunE P w K mg base k' f spec := fun B fr s H us vs Q E hr hg e0 KI r q => codeAny_mono (h B fr s H us vs Q E (hr.mono hk) (fun h5 => hg (by omega)) e0 KI r q) fun _ _ z => crk_mono hk z
def padN (j : Nat) (spec : List D → M D) : List D → M D := fun ds st => spec (ds ++ List.replicate j D.non) st
theorem reps_non {F : Hp} {ι : List Addr} : ∀ j : Nat, Reps K F ι (List.replicate j D.non) (List.replicate j V.non)
  | 0 => Reps.nil
  | j + 1 => Reps.cons (by simp only [Rep]) (reps_non j)
theorem runE_pad {fd : FuncData} {ps : List Str} {np j : Nat} {us0 : List Value} (F : FnG P w K mg base k f fd ps (spD K np spec)) (nn : NeedN np spec) (hb : Binds K fd ps us0) (hv : Vals (List.replicate j V.non) us0) : RunE P w K mg base k f (padN j spec) := by
  intro B fr s H us vs Q E hr hg e0 KI r h
  obtain ⟨F0, ι, st, ds, S, rs, q⟩ := h
  by_cases hn : (ds ++ List.replicate j D.non).length = np
  · have hsp : spD K np spec (vs ++ List.replicate j V.non) H Q E := ⟨by rw [← hn, ← (rs.append (reps_non j)).length], F0, ι, st, _, S, rs.append (reps_non j), q⟩
    have hl : (us ++ us0).length = ps.length := by rw [← (r.append hv).length]; exact F.len _ _ _ _ hsp
    exact F.run B fr s H ⟨us, []⟩ (us ++ us0) (vs ++ List.replicate j V.non) Q E hr hg e0 (hb s us KI hl) (r.append hv) hsp
  · have q : post K (wE E) [] F0 ι H (pV K) (spec (ds ++ List.replicate j D.non) st) Q := q
    rw [nn _ _ hn] at q
    exact (q : False).elim
theorem runE_of {fd : FuncData} {ps : List Str} {np : Nat} (F : FnG P w K mg base k f fd ps (spD K np spec)) (nn : NeedN np spec) (hb : Binds K fd ps []) : RunE P w K mg base k f spec := by
  have h := runE_pad (j := 0) F nn hb .nil
  have e : padN 0 spec = spec := by
    funext ds st
    unfold padN
    rw [List.replicate_zero, List.append_nil]
  rwa [e] at h
end
structure FnN (P : Program) (w : World) (K : PySem.W.Frag) (mg : Str → Option Value) (base : Heap) (k : Nat) (x : Str) (spec : List D → M D) : Prop where
  ex : ∃ f : Addr, mg x = some (.ref f) ∧ PySem.W.keepIn K (.ref f) = true ∧ RunE P w K mg base k f spec
theorem FnC.n {P : Program} {w : World} {K : PySem.W.Frag} {mg : Str → Option Value} {base : Heap} {k np : Nat} {x : Str} {spec : List D → M D} (C : FnC P w K mg base k x np spec) (nn : NeedN np spec) : FnN P w K mg base k x spec := by
  obtain ⟨f, fd, ps, F, hm, kp, hb⟩ := C.ex
  exact ⟨f, hm, kp, runE_of F nn hb⟩
def KlsF (K : PySem.W.Frag) (nm f : Str) : Prop := ∃ C, PySem.W.nsIn K mainGlobals nm = some (some (.ref C)) ∧ Cls K C ∧ NoAttr K C f
theorem Kls.f {K : PySem.W.Frag} {mg : Str → Option Value} {nm f : Str} {fs : List Str} (h : Kls K mg nm fs) (hf : f ∈ fs) : KlsF K nm f := let ⟨C, h1, _, h2, h3⟩ := h.ex; ⟨C, h1, h2, h3 f hf⟩
abbrev Tbl := List (Str × (List D → M D))
def EntM (P : Program) (w : World) (K : PySem.W.Frag) (mg : Str → Option Value) (base : Heap) (k : Nat) (m n : Str) (spec : List D → M D) : Prop :=
  ∃ C f, PySem.W.nsIn K mainGlobals n = some (some (.ref C)) ∧ Cls K C ∧ Meth K C m f ∧ RunE P w K mg base k f spec
section
variable {P : Program} {w : World} {K : PySem.W.Frag} {mg : Str → Option Value} {base : Heap} {k k' : Nat} {m n : Str} {spec : List D → M D} {t : Tbl}
theorem EntM.mono (h : EntM P w K mg base k m n spec) (hk : k ≤ k') : EntM P w K mg base k' m n spec := let ⟨C, f, a, b, c, d⟩ := h; ⟨C, f, a, b, c, d.mono hk⟩
end
end Dn
namespace Dn
open PySem PySem.Spec PyProof.Rows L2
variable [HzC]
def EntP (P : Program) (w : World) (K : PySem.W.Frag) (mg : Str → Option Value) (base : Heap) (k : Nat) (f n : Str) (spec : List D → M D) : Prop :=
  ∃ C p g, PySem.W.nsIn K mainGlobals n = some (some (.ref C)) ∧ Cls K C ∧ PropOf K C f p g ∧ RunE P w K mg base k g spec
section
variable {P : Program} {w : World} {K : PySem.W.Frag} {mg : Str → Option Value} {base : Heap} {k k' : Nat} {f n : Str} {spec : List D → M D} {t : Tbl}
theorem EntP.mono (h : EntP P w K mg base k f n spec) (hk : k ≤ k') : EntP P w K mg base k' f n spec := let ⟨C, p, g, a, b, c, d⟩ := h; ⟨C, p, g, a, b, c, d.mono hk⟩
end
structure FnIE (P : Program) (w : World) (K : PySem.W.Frag) (mg : Str → Option Value) (base : Heap) (k : Nat) (nm : Str) (spec : List D → M D) : Prop where
  ex : ∃ C f : Addr, PySem.W.nsIn K mainGlobals nm = some (some (.ref C)) ∧ mg nm = some (.ref C) ∧ Mk K C f ∧ RunE P w K mg base k f spec
theorem FnI.e {P : Program} {w : World} {K : PySem.W.Frag} {mg : Str → Option Value} {base : Heap} {k np : Nat} {nm : Str} {spec : List D → M D} (C : FnI P w K mg base k nm np spec) (nn : NeedN np spec) : FnIE P w K mg base k nm spec := by
  obtain ⟨C, f, fd, ps, hC, hmg, Mk, F, hb⟩ := C.ex
  exact ⟨C, f, hC, hmg, Mk, runE_of F nn hb⟩
end Dn
namespace Dn
open PySem PySem.Spec PyProof.Rows L2
variable [HzC]
end Dn
namespace Dn
open PySem PySem.Spec PyProof.Rows L2
def eR : Nat → D := .ref
class Dec {α : Type} (e : α → D) where
  dec : D → Option α
  ok : ∀ d a, dec d = some a → d = e a
  full : ∀ a, dec (e a) = some a
instance : Dec eI where
  dec d := match d with | .int i => some i | _ => none
  ok d a h := by
    cases d <;> first | (cases h; rfl) | cases h
  full a := rfl
instance : Dec eB where
  dec d := match d with | .bl i => some i | _ => none
  ok d a h := by
    cases d <;> first | (cases h; rfl) | cases h
  full a := rfl
instance : Dec eS where
  dec d := match d with | .str i => some i | _ => none
  ok d a h := by
    cases d <;> first | (cases h; rfl) | cases h
  full a := rfl
instance : Dec eR where
  dec d := match d with | .ref i => some i | _ => none
  ok d a h := by
    cases d <;> first | (cases h; rfl) | cases h
  full a := rfl
instance : Dec eU where
  dec d := match d with | .non => some () | _ => none
  ok d a h := by
    cases d <;> first | (cases h; rfl) | cases h
  full a := rfl
instance : Dec eD := ⟨some, fun d a h => by cases h; rfl, fun a => rfl⟩
def decs {α : Type} (e : α → D) [Dec e] : List D → Option (List α)
  | [] => some []
  | d :: ds => (Dec.dec e d).bind fun a => (decs e ds).map fun as => a :: as
theorem decs_ok {α : Type} {e : α → D} [Dec e] : ∀ (ds : List D) (as : List α), decs e ds = some as → ds = as.map e
  | [], as, h => by cases h; rfl
  | d :: ds, as, h => by
    unfold decs at h
    cases h1 : Dec.dec e d with
    | none => rw [h1] at h; cases h
    | some a =>
      rw [h1, Option.bind_some] at h
      cases h2 : decs e ds with
      | none => rw [h2] at h; cases h
      | some bs =>
        rw [h2] at h
        cases h
        rw [List.map_cons, ← decs_ok ds bs h2, ← Dec.ok d a h1]
theorem decs_full {α : Type} {e : α → D} [Dec e] : ∀ as : List α, decs e (as.map e) = some as
  | [] => rfl
  | a :: as => by
    rw [List.map_cons]
    unfold decs
    rw [Dec.full, Option.bind_some, decs_full as] <;> rfl
instance {α : Type} {e : α → D} [Dec e] : Dec (eT e) where
  dec d := match d with | .tup ds => decs e ds | _ => none
  ok d a h := by
    cases d <;> first | (have := decs_ok _ _ h; subst this; rfl) | cases h
  full a := decs_full a
instance {α : Type} {e : α → D} [Dec e] : Dec (eL e) where
  dec d := match d with | .lst ds => decs e ds | _ => none
  ok d a h := by
    cases d <;> first | (have := decs_ok _ _ h; subst this; rfl) | cases h
  full a := decs_full a
instance {α β : Type} {e : α → D} {f : β → D} [Dec e] [Dec f] : Dec (eP e f) where
  dec d := match d with | .tup [a, b] => (Dec.dec e a).bind fun x => (Dec.dec f b).map fun y => (x, y) | _ => none
  ok d a h := by
    split at h
    · rename_i x y
      cases h1 : Dec.dec e x with
      | none => rw [h1] at h; cases h
      | some u =>
        rw [h1, Option.bind_some] at h
        cases h2 : Dec.dec f y with
        | none => rw [h2] at h; cases h
        | some v =>
          rw [h2] at h
          cases h
          rw [Dec.ok _ _ h1, Dec.ok _ _ h2]
          rfl
    · cases h
  full a := by
    show (Dec.dec e (e a.1)).bind _ = _
    rw [Dec.full, Option.bind_some, Dec.full]
    rfl
def mdec {S α : Type} (e : α → D) [Dec e] (d : D) : Mt S α := mopt (Dec.dec e d)
def mdecs {S α : Type} (e : α → D) [Dec e] (ds : List D) : Mt S (List α) := mopt (decs e ds)
@[simp] theorem mdec_full {S α : Type} {e : α → D} [Dec e] (a : α) : mdec (S := S) e (e a) = mpure a := by unfold mdec; rw [Dec.full] <;> rfl
@[simp] theorem mdecs_full {S α : Type} {e : α → D} [Dec e] (as : List α) : mdecs (S := S) e (as.map e) = mpure as := by unfold mdecs; rw [decs_full] <;> rfl
structure DkR (A : Type) where
  d0 : A → MO
  d1 : A → MO
  n0 : ∀ a, (d0 a).isIns = false
  n1 : ∀ a, (d1 a).isIns = false
  /-- lists that are lent to the world -/
  G : List Nat := []
def DkR.lend {A : Type} (R : DkR A) (G : List Nat) : DkR A := { R with G := G }
structure OS (A : Type) where
  dk : A
  m : Nat → Option MO
def OS.put {A : Type} (s : OS A) (l : Nat) (o : MO) : OS A := ⟨s.dk, fun k => if k = l then some o else s.m k⟩
def Own (G : List Nat) (st : Sto) (l : Nat) : Prop := (l < 2 ∨ l ∈ G) ∨ (∃ n fs, st[l]? = some (MO.ins n fs)) ∨ ∃ (k : Nat) (n : Str) (fs : List (Str × D)) (f : Str), st[k]? = some (.ins n fs) ∧ (f, D.ref l) ∈ fs
structure HasO {A : Type} (R : DkR A) (s : OS A) (st : Sto) : Prop where
  a0 : st[0]? = some (R.d0 s.dk)
  a1 : st[1]? = some (R.d1 s.dk)
  at_ : ∀ l o, s.m l = some o → 2 ≤ l ∧ st[l]? = some o ∧ Own R.G st l
  ins : ∀ l n fs, st[l]? = some (.ins n fs) → s.m l ≠ none
  ref : ∀ (k : Nat) n fs f l, st[k]? = some (.ins n fs) → (f, D.ref l) ∈ fs → 2 ≤ l ∧ l < st.length
  gin : ∀ l ∈ R.G, 2 ≤ l ∧ l < st.length
  gno : ∀ l ∈ R.G, (∀ n fs, st[l]? ≠ some (.ins n fs)) ∧ ∀ (k : Nat) n fs f, st[k]? = some (.ins n fs) → (f, D.ref l) ∉ fs
section
variable {A : Type} {R : DkR A} {s : OS A} {st : Sto} {G : List Nat}
theorem HasO.len (h : HasO R s st) : 2 ≤ st.length := by have := (List.getElem?_eq_some_iff.mp h.a1).1; omega
theorem HasO.inb (h : HasO R s st) {l : Nat} (o : Own R.G st l) : l < st.length := by
  rcases o with o | ⟨n, fs, o⟩ | ⟨k, n, fs, f, o, i⟩
  · rcases o with o | o
    · have := h.len; omega
    · exact (h.gin l o).2
  · exact (List.getElem?_eq_some_iff.mp o).1
  · exact (h.ref k n fs f l o i).2
theorem getApp {g : Sto} {l : Nat} (hg : ∀ m ∈ g, m.isIns = false) {n : Str} {fs : List (Str × D)} (e : (st ++ g)[l]? = some (.ins n fs)) : st[l]? = some (.ins n fs) := by
  by_cases hl : l < st.length
  · rw [List.getElem?_append_left hl] at e; exact e
  · rw [List.getElem?_append_right (by omega)] at e
    have := hg _ (List.mem_of_getElem? e)
    cases this
theorem appGet {g : Sto} {l : Nat} {m : MO} (e : st[l]? = some m) : (st ++ g)[l]? = some m := by
  rw [List.getElem?_append_left (List.getElem?_eq_some_iff.mp e).1]; exact e
theorem Own.app {g : Sto} {l : Nat} (h : Own G st l) : Own G (st ++ g) l := by
  rcases h with o | ⟨n, fs, o⟩ | ⟨k, n, fs, f, o, i⟩
  · exact .inl o
  · exact .inr (.inl ⟨n, fs, appGet o⟩)
  · exact .inr (.inr ⟨k, n, fs, f, appGet o, i⟩)
theorem Own.unapp {g : Sto} {l : Nat} (hg : ∀ m ∈ g, m.isIns = false) (h : Own G (st ++ g) l) : Own G st l := by
  rcases h with o | ⟨n, fs, o⟩ | ⟨k, n, fs, f, o, i⟩
  · exact .inl o
  · exact .inr (.inl ⟨n, fs, getApp hg o⟩)
  · exact .inr (.inr ⟨k, n, fs, f, getApp hg o, i⟩)
theorem setNe {l k : Nat} {m : MO} (hm : m.isIns = false) {n : Str} {fs : List (Str × D)} (e : (st.set l m)[k]? = some (.ins n fs)) : st[k]? = some (.ins n fs) := by
  by_cases hk : l = k
  · subst hk
    have hl : l < st.length := by have := (List.getElem?_eq_some_iff.mp e).1; simpa using this
    rw [List.getElem?_set_self hl] at e
    cases e
    cases hm
  · rw [List.getElem?_set_ne hk] at e; exact e
theorem Own.unset {l k : Nat} {m : MO} (hm : m.isIns = false) (h : Own G (st.set l m) k) : Own G st k := by
  rcases h with o | ⟨n, fs, o⟩ | ⟨k', n, fs, f, o, i⟩
  · exact .inl o
  · exact .inr (.inl ⟨n, fs, setNe hm o⟩)
  · exact .inr (.inr ⟨k', n, fs, f, setNe hm o, i⟩)
theorem nIns {l k : Nat} {m : MO} (no : ∀ n fs, st[l]? ≠ some (.ins n fs)) {n : Str} {fs : List (Str × D)} (e : st[k]? = some (.ins n fs)) : (st.set l m)[k]? = some (.ins n fs) := by
  rw [List.getElem?_set_ne (fun q => no n fs (by rw [q]; exact e))]; exact e
theorem Own.set {l k : Nat} {m : MO} (no : ∀ n fs, st[l]? ≠ some (.ins n fs)) (h : Own G st k) : Own G (st.set l m) k := by
  rcases h with o | ⟨n, fs, o⟩ | ⟨k', n, fs, f, o, i⟩
  · exact .inl o
  · exact .inr (.inl ⟨n, fs, nIns no o⟩)
  · exact .inr (.inr ⟨k', n, fs, f, nIns no o, i⟩)
theorem HasO.grow (h : HasO R s st) (g : Sto) (hg : ∀ m ∈ g, m.isIns = false) : HasO R s (st ++ g) :=
  ⟨appGet h.a0, appGet h.a1, fun l o e => let ⟨a, b, c⟩ := h.at_ l o e; ⟨a, appGet b, c.app⟩, fun l n fs e => h.ins l n fs (getApp hg e), fun k n fs f l e i => by
    obtain ⟨a, b⟩ := h.ref k n fs f l (getApp hg e) i
    exact ⟨a, by rw [List.length_append]; omega⟩, fun l q => by
    obtain ⟨a, b⟩ := h.gin l q
    exact ⟨a, by rw [List.length_append]; omega⟩, fun l q => ⟨fun n fs e => (h.gno l q).1 n fs (getApp hg e), fun k n fs f e => (h.gno l q).2 k n fs f (getApp hg e)⟩⟩
theorem HasO.set (h : HasO R s st) {l : Nat} (m : MO) (hm : m.isIns = false) (no : ¬ Own R.G st l) : HasO R s (st.set l m) := by
  have ni : ∀ n fs, st[l]? ≠ some (.ins n fs) := fun n fs e => no (.inr (.inl ⟨n, fs, e⟩))
  have l2 : 2 ≤ l := by
    by_cases q : 2 ≤ l
    · exact q
    · exact absurd (Or.inl (Or.inl (by omega))) no
  refine ⟨by rw [List.getElem?_set_ne (by omega)]; exact h.a0, by rw [List.getElem?_set_ne (by omega)]; exact h.a1, fun k o e => ?_, fun k n fs e => h.ins k n fs (setNe hm e), fun k n fs f l' e i => ?_, fun k q => by rw [List.length_set]; exact h.gin k q, fun l q => ⟨fun n fs e => (h.gno l q).1 n fs (setNe hm e), fun k n fs f e => (h.gno l q).2 k n fs f (setNe hm e)⟩⟩
  · obtain ⟨a, b, c⟩ := h.at_ k o e
    exact ⟨a, by rw [List.getElem?_set_ne (fun q => no (by rw [q]; exact c))]; exact b, c.set ni⟩
  · rw [List.length_set]; exact h.ref k n fs f l' (setNe hm e) i
theorem HasO.take {s0 : OS A} {b : Sto} (h0 : HasO R s0 b) (h : HasO R s st) (t : Tidy b st) : HasO R s (st.take b.length) := by
  have low : ∀ k n fs f l, st[k]? = some (.ins n fs) → (f, D.ref l) ∈ fs → k < b.length ∧ l < b.length := fun k n fs f l e i => by
    have hk : k < b.length := by
      by_cases q : k < b.length
      · exact q
      · have := t.2.2 k _ (by omega) e; cases this
    refine ⟨hk, ?_⟩
    rcases t.2.1 k _ hk e with q | q
    · exact (h0.ref k n fs f l q i).2
    · simp only [MO.low, List.all_eq_true] at q
      have := q _ i
      simp only [D.low, decide_eq_true_eq] at this
      exact this
  have tk : ∀ k (m : MO), k < b.length → st[k]? = some m → (st.take b.length)[k]? = some m := fun k m hk e => by rw [List.getElem?_take_of_lt hk]; exact e
  have un : ∀ k (m : MO), (st.take b.length)[k]? = some m → st[k]? = some m := fun k m e => by
    have hk := (List.getElem?_eq_some_iff.mp e).1
    rw [List.length_take] at hk
    rw [List.getElem?_take_of_lt (by omega)] at e; exact e
  have b2 := h0.len
  refine ⟨tk 0 _ (by omega) h.a0, tk 1 _ (by omega) h.a1, fun l o e => ?_, fun l n fs e => h.ins l n fs (un _ _ e), fun k n fs f l e i => ?_, fun l q => ?_, fun l q => ⟨fun n fs e => (h.gno l q).1 n fs (un _ _ e), fun k n fs f e => (h.gno l q).2 k n fs f (un _ _ e)⟩⟩
  · obtain ⟨a, c, d⟩ := h.at_ l o e
    rcases d with d | ⟨n, fs, d⟩ | ⟨k, n, fs, f, d, i⟩
    · rcases d with d | d
      · omega
      · exact ⟨a, tk _ _ (h0.gin l d).2 c, .inl (.inr d)⟩
    · have hl : l < b.length := by
        by_cases q : l < b.length
        · exact q
        · have := t.2.2 l _ (by omega) d; cases this
      exact ⟨a, tk _ _ hl c, .inr (.inl ⟨n, fs, tk _ _ hl d⟩)⟩
    · obtain ⟨h1, h2⟩ := low k n fs f l d i
      exact ⟨a, tk _ _ h2 c, .inr (.inr ⟨k, n, fs, f, tk _ _ h1 d, i⟩)⟩
  · have z := un _ _ e
    refine ⟨(h.ref k n fs f l z i).1, ?_⟩
    rw [List.length_take]
    have := (low k n fs f l z i).2
    have := (h.ref k n fs f l z i).2
    omega
  · have q1 := h0.gin l q
    have q2 := h.gin l q
    refine ⟨q1.1, ?_⟩
    rw [List.length_take]
    omega
theorem Own.untake {n l : Nat} (h : Own G (st.take n) l) : Own G st l := by
  have un : ∀ k (m : MO), (st.take n)[k]? = some m → st[k]? = some m := fun k m e => by
    have hk := (List.getElem?_eq_some_iff.mp e).1
    rw [List.length_take] at hk
    rw [List.getElem?_take_of_lt (by omega)] at e; exact e
  rcases h with o | ⟨n, fs, o⟩ | ⟨k, n, fs, f, o, i⟩
  · exact .inl o
  · exact .inr (.inl ⟨n, fs, un _ _ o⟩)
  · exact .inr (.inr ⟨k, n, fs, f, un _ _ o, i⟩)
end
def WO {A : Type} (R : DkR A) : Wd (OS A) where
  has := HasO R
  own := Own R.G
  inb := fun h o => h.inb o
  grow := fun g hg h => h.grow g hg
  ownG := fun g _ hg _ o => Own.unapp hg o
  set := fun m hm h no => h.set m hm no
  ownS := fun m _ hm _ _ o => Own.unset hm o
  take := fun h0 h t => HasO.take h0 h t
  ownT := fun _ _ _ o => Own.untake o
end Dn
namespace Dn
open PySem PySem.Spec PyProof.Rows L2
section
variable {A : Type} {R : DkR A} {fr : Sto} {Γ : List Sl} {ρ : Rho} {s s' : OS A} {st : Sto}
theorem HasO.put (h : HasO R s st) {l : Nat} {o o' : MO} (e : s.m l = some o) (hi : o.isIns = false) (hi' : o'.isIns = false) : HasO R (s.put l o') (st.set l o') := by
  obtain ⟨l2, b, c⟩ := h.at_ l o e
  have ni : ∀ n fs, st[l]? ≠ some (.ins n fs) := fun n fs q => by rw [b] at q; cases q; cases hi
  have hl := (List.getElem?_eq_some_iff.mp b).1
  refine ⟨by rw [List.getElem?_set_ne (by omega)]; exact h.a0, by rw [List.getElem?_set_ne (by omega)]; exact h.a1, fun k u q => ?_, fun k n fs q => ?_, fun k n fs f l' q i => ?_, fun k q => by rw [List.length_set]; exact h.gin k q, fun l' q => ⟨fun n fs e => (h.gno l' q).1 n fs (setNe hi' e), fun k n fs f e => (h.gno l' q).2 k n fs f (setNe hi' e)⟩⟩
  · unfold OS.put at q
    dsimp only at q
    by_cases hk : k = l
    · subst hk
      rw [if_pos rfl] at q
      cases q
      exact ⟨l2, by rw [List.getElem?_set_self hl], c.set ni⟩
    · rw [if_neg hk] at q
      obtain ⟨x, y, z⟩ := h.at_ k u q
      exact ⟨x, by rw [List.getElem?_set_ne (Ne.symm hk)]; exact y, z.set ni⟩
  · unfold OS.put
    dsimp only
    by_cases hk : k = l
    · subst hk; simp
    · rw [if_neg hk]; exact h.ins k n fs (setNe hi' q)
  · rw [List.length_set]; exact h.ref k n fs f l' (setNe hi' q) i
theorem HasO.pre (h : HasO R s st) {l : Nat} {o o' : MO} (e : s.m l = some o) (hi : o.isIns = false) (hi' : o'.isIns = false) : Pre (WO R) st (s.put l o') (st.set l o') :=
  ⟨h.put e hi hi', by rw [List.length_set]; exact Nat.le_refl _, fun k _ no => ⟨fun o => no (o.unset hi'), by
    obtain ⟨_, _, c⟩ := h.at_ l o e
    rw [List.getElem?_set_ne (fun q => no (by rw [← q]; exact c))]⟩⟩
end
section
variable {A : Type} {R : DkR A} {fr : Sto} {Γ : List Sl} {ρ : Rho} {s s' : OS A} {st : Sto}
theorem HasO.fresh {l : Nat} (h : HasO R s st) (no : ¬ Own R.G st l) : s.m l = none := by
  cases e : s.m l with
  | none => rfl
  | some o => exact absurd (h.at_ l o e).2.2 no
end
end Dn
namespace Dn
open PySem PySem.Spec PyProof.Rows L2
end Dn
namespace Dn
open PySem PySem.Spec PyProof.Rows L2
variable [HzC]
def RunK (P : Program) (w : World) (K : PySem.W.Frag) (mg : Str → Option Value) (base : Heap) (k : Nat) (nm : Str) (f : Addr) (spec : List D → M D) : Prop :=
  ∀ (B : Around) (fr : List Env) (s : Shared) (H : Hp) (us : List Value) (u : Value) (vs : List V) (Q : VK) (E : XK), Room k B → (5 < k → B.guards = some []) → Env0 P w K mg base B fr s H → K.In s.heap → Vals vs (us ++ [u]) → spE K spec vs H Q E →
    codeAny (model P w) B (.call (.ref f) ⟨us, [(nm, u)]⟩) (CR (CXk k P w) fr P w H s Q E) s
section
variable {P : Program} {w : World} {K : PySem.W.Frag} {mg : Str → Option Value} {base : Heap} {k k' : Nat} {f : Addr} {spec : List D → M D} {nm m n : Str} {t : Tbl}
theorem RunK.mono (h : RunK P w K mg base k nm f spec) (hk : k ≤ k') : RunK P w K mg base k' nm f spec := fun B fr s H us u vs Q E hr hg e0 KI r q => codeAny_mono (h B fr s H us u vs Q E (hr.mono hk) (fun h5 => hg (by omega)) e0 KI r q) fun _ _ z => crk_mono hk z
end
end Dn
namespace Dn
open PySem PySem.Spec PyProof.Rows L2
variable [HzC]
def envK (ρ : Rho) (i : Nat) (e : D) : Rho := ρ.set i (some e)
structure AgI (i : Nat) (e e' : D) (ρ ρ' : Rho) : Prop where
  l : ρ'.length = ρ.length
  a : ρ[i]? = some (some e)
  b : ρ'[i]? = some (some e')
  o : ∀ j, j ≠ i → ρ'[j]? = ρ[j]?
def AgF (i : Nat) (e e' : D) (r r' : Fl) : Prop := match r, r' with
  | .next ρ st, .next ρ' st' => AgI i e e' ρ ρ' ∧ st = st'
  | .brk ρ st, .brk ρ' st' => AgI i e e' ρ ρ' ∧ st = st'
  | .cnt ρ st, .cnt ρ' st' => AgI i e e' ρ ρ' ∧ st = st'
  | .ret d st, .ret d' st' => d = d' ∧ st = st'
  | .exc _ _ _, .exc _ _ _ => True
  | .bad, .bad => True
  | _, _ => False
def IndS (i : Nat) (m : D → Rho → Sto → Fl) : Prop := ∀ e e' ρ ρ' st, AgI i e e' ρ ρ' → AgF i e e' (m e ρ st) (m e' ρ' st)
end Dn
namespace Dn
open PySem PySem.Spec PyProof.Rows L2
variable [HzC]
abbrev keepK : List Sl → List Sl := List.map fun a => match a with | .mut _ => .any | a => a
end Dn
namespace Dn
open PySem PySem.Spec PyProof.Rows L2
variable [HzC]
inductive ClA (X : Cx) (n : Str) : List ExceptHandler → List (Value × (Addr → Value → Option Addr → TS)) → Prop
  | nil : ClA X n [] []
  | cons {x : Str} {c : Value} {ts : Addr → Value → Option Addr → TS} {b₀ : Stmt} {suite : List Stmt} {np pos' : Pos} {hds : List ExceptHandler} {l : List (Value × (Addr → Value → Option Addr → TS))} (hc : Names X x c)
      (hsu : ∀ (a : Addr) (oe : Obj) (cls : Value) (d : Option Addr) (pn : List (Addr × Obj)), Zc cls d oe → (∃ vs, oe.data = .fields vs) → PSs (X.suite a ((a, oe) :: pn)) (b₀ :: suite) (ts a cls d)) (r : ClA X n hds l) :
      ClA X n (.ExceptHandler (some (.Name x np)) (some n) (b₀ :: suite) pos' :: hds) ((c, ts) :: l)
abbrev Clz := List (List Str × List Str × (Xc → D → Rho → Sto → Fl))
def hdC (i : Nat) (x : Xc) (ρ : Rho) (st : Sto) : Clz → Fl
  | [] => .exc x ρ st
  | (yes, no, mh) :: r => if x.nm ∈ yes then tidyF i (mh x (e0 x) (envK ρ i (e0 x)) st) else if x.nm ∈ no then hdC i x ρ st r else .bad
inductive CLs (X : Cx) (n : Str) (i : Nat) : List ExceptHandler → Clz → Prop
  | nil : CLs X n i [] []
  | cons {y : Str} {suite : List Stmt} {b₀ : Stmt} {np pos' : Pos} {mh : Xc → D → Rho → Sto → Fl} {yes no : List Str} {hds : List ExceptHandler} {cl : Clz} (hg : Gl X y) (T : ErrX X.K X.mg y) (hE1 : ∀ z ∈ yes, ErrX X.K X.mg z) (hE2 : ∀ z ∈ no, ErrX X.K X.mg z) (hyes : ∀ z ∈ yes, ExmB X.K z y true) (hno : ∀ z ∈ no, ExmB X.K z y false)
      (hh : ∀ (x : Xc) (e : D) (a : Addr) (oe : Obj) (pn : List (Addr × Obj)), x.nm ∈ yes → HC X x e a oe → DSs (X.suite a ((a, oe) :: pn)) wN (b₀ :: suite) (mh x e)) (hu : ∀ x, IndS i (mh x)) (r : CLs X n i hds cl) (hdb : (y == ("__debug__" : Str)) = false := by decide) :
      CLs X n i (.ExceptHandler (some (.Name y np)) (some n) (b₀ :: suite) pos' :: hds) ((yes, no, mh) :: cl)
end Dn
namespace Dn
open PySem PySem.Spec PyProof.Rows L2
variable [HzC]
abbrev Clm (S σ : Type) := List (List Str × List Str × (Xc → Mt S σ))
section
variable {S : Type} {W : Wd S} {fr : Sto} {Γ : List Sl} {σ β : Type} {i : Nat}
inductive ClN (W : Wd S) (fr : Sto) (Γ : List Sl) (i : Nat) (J : σ → List Sl) : Clz → Clm S σ → Prop
  | nil : ClN W fr Γ i J [] []
  | cons {yes no : List Str} {mh : Xc → D → Rho → Sto → Fl} {qh : Xc → Mt S σ} {cl : Clz} {cm : Clm S σ} (hh : ∀ x, TN W fr ((keepK Γ).set i (.val (e0 x))) (mh x (e0 x)) (qh x) J) (r : ClN W fr Γ i J cl cm) : ClN W fr Γ i J ((yes, no, mh) :: cl) ((yes, no, qh) :: cm)
inductive ClR (W : Wd S) (fr : Sto) (Γ : List Sl) (i : Nat) (enc : β → D) : Clz → Clm S β → Prop
  | nil : ClR W fr Γ i enc [] []
  | cons {yes no : List Str} {mh : Xc → D → Rho → Sto → Fl} {qh : Xc → Mt S β} {cl : Clz} {cm : Clm S β} (hh : ∀ x, TR W fr ((keepK Γ).set i (.val (e0 x))) (mh x (e0 x)) (qh x) enc) (r : ClR W fr Γ i enc cl cm) : ClR W fr Γ i enc ((yes, no, mh) :: cl) ((yes, no, qh) :: cm)
end
end Dn
namespace Dn
open PySem PySem.Spec PyProof.Rows L2
variable [HzC]
inductive CK where
  | own (n : Str) | bt (T : String)
inductive KitL (K : PySem.W.Frag) (n : Str) : List CK → Bool → Prop
  | nil : KitL K n [] false
  | own1 {y : Str} {r : List CK} (h : KitB K n y true) : KitL K n (.own y :: r) true
  | own0 {y : Str} {r : List CK} {b : Bool} (h : KitB K n y false) (t : KitL K n r b) : KitL K n (.own y :: r) b
  | bt1 {T : String} {r : List CK} (h : KitT K n T true) : KitL K n (.bt T :: r) true
  | bt0 {T : String} {r : List CK} {b : Bool} (h : KitT K n T false) (t : KitL K n r b) : KitL K n (.bt T :: r) b
inductive CkV (K : PySem.W.Frag) : List CK → List V → List Value → Prop
  | nil : CkV K [] [] []
  | own {y : Str} {C : Addr} {r : List CK} {vs : List V} {us : List Value} (h : PySem.W.nsIn K mainGlobals y = some (some (.ref C))) (t : CkV K r vs us) : CkV K (.own y :: r) (.ref C :: vs) (.ref C :: us)
  | bt {T : String} {r : List CK} {vs : List V} {us : List Value} (t : CkV K r vs us) : CkV K (.bt T :: r) (.ty T :: vs) (.type T :: us)
end Dn
namespace Dn
open PySem PySem.Spec PyProof.Rows L2
end Dn
namespace Dn
open PySem PySem.Spec PyProof.Rows L2
end Dn
namespace Dn
open PySem PySem.Spec PyProof.Rows L2
variable [HzC]
inductive GEn (P : Params) : List DictEntry → List (Str × Int) → Prop
  | nil : GEn P [] []
  | cons {h : Int} {x : Str} {i : Int} {t u : Tok} {es : List DictEntry} {kvs : List (Str × Int)} (e : h = PyData.keyHash P x) (r : GEn P es kvs) : GEn P (⟨h, .str x t, .int i u⟩ :: es) ((x, i) :: kvs)
structure GDict (K : PySem.W.Frag) (w : World) (mg : Str → Option Value) (x : Str) (kvs : List (Str × Int)) (d : Addr) : Prop where
  ex : ∃ (es : List DictEntry) (n : Nat), K.lookup d = some ⟨.type "dict", none, .dict es.toArray n, #[]⟩ ∧ GEn w.params es kvs
  low : (d == sysModules) = false
  mg_ : mg x = some (.ref d)
theorem GEn.lit {P : Params} {es : List DictEntry} {kvs : List (Str × Int)} (h : GEn P es kvs) : PySem.W.KeysLit P es := by
  induction h with
  | nil => trivial
  | cons e r ih => exact ⟨⟨_, _, rfl, e⟩, ih⟩
section
variable {X : Cx} {W : WX} {a : Expr} {x : Str} {p1 p2 : Pos} {kvs : List (Str × Int)} {m : Rho → M D} {d : Addr} {es : List DictEntry} {n : Nat}
theorem GEn.map {h : Heap} (g : GEn X.w.params es kvs) (I : X.K.In h) (hl : X.K.lookup d = some ⟨.type "dict", none, .dict es.toArray n, #[]⟩) : h.MapOf (strKind X.prog X.w) d (fun k => findBy Value.isStrOf es.toArray k) :=
  PySem.W.mapOf_K (prog := X.prog) I hl (by simpa using g.lit)
end
theorem Bd.nx {X : Cx} {W : WX} {k : Nat} (b : Bd X W k) : Bd X.nox wN k := ⟨b.room, b.gd, b.calm, b.nd, .of takes_wN⟩
end Dn
namespace Dn
open PySem PySem.Spec PyProof.Rows L2
variable [HzC]
end Dn
namespace Dn
open PySem PySem.Spec PyProof.Rows L2
variable [HzC]
end Dn
namespace PySem
open Sem (wp)
section
variable {M : Model} {A : Around} {R : GenEnd} {Y : Protocol} {n : Nat} {s₀ : Shared} {c : Code} {fs : List Frame} {s : Shared} {env : Env}
  {K : Flow → Sem Fin} {H : Value → Sem Fin} {gd : Bool → Bool} {lv : List Value → List Value}
end
end PySem
namespace L2
open PySem PySem.Spec PyProof.Rows GenW
end L2
namespace Dn
open PySem PySem.Spec PyProof.Rows L2
variable [HzC]
def Hid (F : Hp) (ι : List Addr) (K : PySem.W.Frag) (ρ : Rho) (σ : L2.St) (ys : List V) : Prop := ∃ yd, ρ.getLast? = some (some (.lst yd)) ∧ REnv K F ι ρ.dropLast σ ∧ Reps K F ι yd ys
theorem GS.weak {X : Cx} {e : Stmt} {t t' : TGn} (h : GS X e t) (w : ∀ D ys σ H, t' D ys σ H → t D ys σ H) : GS X e t' :=
  ⟨fun A S ip R n ys s₀ c fs K J gd lv s σ H D a1 a2 a3 a4 q => h.run A S ip R n ys s₀ c fs K J gd lv s σ H D a1 a2 a3 a4 (w D ys σ H q)⟩
theorem GSs.weak {X : Cx} {e : List Stmt} {t t' : TGn} (h : GSs X e t) (w : ∀ D ys σ H, t' D ys σ H → t D ys σ H) : GSs X e t' :=
  ⟨fun A S ip R n ys s₀ c fs K J gd lv s σ H D a1 a2 a3 a4 q => h.run A S ip R n ys s₀ c fs K J gd lv s σ H D a1 a2 a3 a4 (w D ys σ H q)⟩
theorem Hid.ext {K : PySem.W.Frag} {F F1 H H1 : Hp} {ι ι1 : List Addr} {ρ : Rho} {σ : L2.St} {ys : List V} (h : Hid F ι K ρ σ ys) (x : Ext F ι H F1 ι1 H1) : Hid F1 ι1 K ρ σ ys :=
  let ⟨yd, a, b, c⟩ := h; ⟨yd, a, b.ext x, c.ext x⟩
section
variable {X : Cx} {W : WX} {pos : Pos} {st : Stmt} {rest : List Stmt} {s1 s2 : Rho → Sto → Fl}
def Fl.push (r : Fl) (y : Option D) : Fl := match r with
  | .next ρ st => .next (ρ ++ [y]) st
  | .brk ρ st => .brk (ρ ++ [y]) st
  | .cnt ρ st => .cnt (ρ ++ [y]) st
  | .exc x ρ st => .exc x (ρ ++ [y]) st
  | .ret _ _ => .bad
  | .bad => .bad
end
end Dn
namespace Dn
open PySem PySem.Spec PyProof.Rows L2
section
variable {S : Type} {W : Wd S} {fr : Sto} {s : S} {Γ Γ' : List Sl} {ρ : Rho} {st : Sto} {y : D}
theorem Has.push (h : Has W fr s Γ ρ st) (y : D) : Has W fr s (Γ ++ [.val y]) (ρ ++ [some y]) st := by
  have hl := h.len
  have key : ∀ (i : Nat) (a : Sl), (Γ ++ [.val y])[i]? = some a → (i < Γ.length ∧ Γ[i]? = some a ∧ (ρ ++ [some y])[i]? = ρ[i]?) ∨ (i = Γ.length ∧ a = .val y) := fun i a e => by
    by_cases hi : i < Γ.length
    · rw [List.getElem?_append_left hi] at e
      exact .inl ⟨hi, e, List.getElem?_append_left (by omega)⟩
    · rw [List.getElem?_append_right (by omega)] at e
      have h0 : i - Γ.length = 0 := by
        cases q : i - Γ.length with
        | zero => rfl
        | succ n => rw [q] at e; simp at e
      rw [h0] at e
      exact .inr ⟨by omega, (Option.some.inj e).symm⟩
  refine ⟨by rw [List.length_append, List.length_append, hl]; rfl, h.pre, fun i d e => ?_, fun i m e => ?_, fun i j m1 m2 e1 e2 e3 => ?_, fun i m e => ?_⟩
  · rcases key i _ e with ⟨_, q, r⟩ | ⟨q, r⟩
    · rw [r]; exact h.val i d q
    · cases r
      rw [q, ← hl]
      simp
  · rcases key i _ e with ⟨_, q, r⟩ | ⟨_, r⟩
    · rw [r]; exact h.mt i m q
    · cases r
  · rcases key i _ e1 with ⟨_, q, r⟩ | ⟨_, r⟩
    · rcases key j _ e2 with ⟨_, q2, r2⟩ | ⟨_, r2⟩
      · exact h.nal i j m1 m2 q q2 (by rw [← r, ← r2]; exact e3)
      · cases r2
    · cases r
  · rcases key i _ e with ⟨_, q, r⟩ | ⟨_, r⟩
    · rw [r]; exact h.bo i m q
    · cases r
theorem OR.push {A β : Type} {J : β → List Sl} {enc : β → A} {r : Out A} {q : Rs S β} (h : OR W fr J ρ enc r q) (y : D) : OR W fr (fun b => J b ++ [.val y]) (ρ ++ [some y]) enc r q := by
  induction q with
  | ok b s' => obtain ⟨st', e, H⟩ := h; exact ⟨st', e, H.push y⟩
  | exc x s' => exact h
  | bad => trivial
  | amb P f ih => obtain ⟨n, p, q⟩ := h; exact ⟨n, p, ih n q⟩
theorem NR.push {σ : Type} {J : σ → List Sl} {r : Fl} {q : Rs S σ} (h : NR W fr J r q) (y : D) : NR W fr (fun z => J z ++ [.val y]) (r.push (some y)) q := by
  induction q with
  | ok b s' => obtain ⟨ρ', st', rfl, H⟩ := h; exact ⟨_, st', rfl, H.push y⟩
  | exc x s' => obtain ⟨ρ', st', rfl, H⟩ := h; exact ⟨_, st', rfl, H⟩
  | bad => trivial
  | amb P f ih => obtain ⟨n, p, q⟩ := h; exact ⟨n, p, ih n q⟩
end
end Dn
namespace Dn
open PySem PySem.Spec PyProof.Rows L2
variable [HzC]
structure FnCls (P : Program) (w : World) (K : PySem.W.Frag) (mg : Str → Option Value) (base : Heap) (k : Nat) (nm m : Str) (spec : List D → M D) : Prop where
  ex : ∃ (C f : Addr) (mc : Value), mg nm = some (.ref C) ∧ ClX.CRead K C mc ∧ PySem.W.findCls K (.ref C) mc m = some (.val (.ref f)) ∧ PySem.W.keepIn K (.ref f) = true ∧ RunE P w K mg base k f spec
structure FunS (K : PySem.W.Frag) (x qual : Str) (st : Stmt) (f : Addr) (fd : FuncData) (cda cc : Addr) : Prop where
  ex : ∃ (oc : Value) (od : Option Addr) (kV doc pm : Value) (an : Option Addr) (ct : Value) (osl : Array (Option Value)),
    fd = PySem.W.ksFn x qual (defArgs st) (defBody st) (defScope st) .none kV doc pm an (.ref cda) ct cc ∧ K.lookup f = some ⟨oc, od, .func fd, osl⟩ ∧ PySem.W.codeIn K (.ref cda) qual = true
structure SupK (P : Program) (K : PySem.W.Frag) (mg : Str → Option Value) (nm : Str) (cda cc Dc fD : Addr) : Prop where
  cell : ∃ cl cld csl, K.lookup cc = some ⟨cl, cld, .cell (some (.ref Dc)), csl⟩
  cls : ∃ cd, PySem.W.clsIn K Dc = some cd
  at_ : PySem.W.nsIn K mainGlobals nm = some (some (.ref Dc))
  own : PySem.W.mroIn K Dc (.ref Dc) = some true
  nsup : mg "super" = none
  code : ∃ ccl cdd vs ccs file tf, K.lookup cda = some ⟨ccl, cdd, .fields vs, ccs⟩ ∧ vs[2]? = some (.str file tf) ∧ ((P.main.file : Str) == file) = true
  top : (P.main.scope.names.lookup ("super" : Str)).isSome = false
  up : PySem.W.ks_superIn K Dc Dc "__init__" = some (some (.ref fD))
  ty : PySem.W.typeIn K (.ref fD) = some (.type "function")
  fi : PySem.W.fnIn K fD = true
  op : PySem.W.nsIn K cStatics "thirdparty.any" = some none
structure ScS (sc : Scope) : Prop where
  kind : sc.kind = .function
  co : sc.isCoroutine = false
  gen : sc.isGenerator = false
  nocell : ∀ y ∈ sc.names, y.2 ≠ .cell
  free : ∀ y, sc.names.lookup y = some .free → y = "__class__"
  cl : sc.names.lookup ("__class__" : Str) = some .free
  p0 : sc.names.lookup ("self" : Str) = some .local
  p1 : sc.names.lookup ("panel" : Str) = some .local
  p2 : sc.names.lookup ("state" : Str) = some .local
  sup : sc.names.lookup ("super" : Str) = some .globalImplicit
end Dn
namespace Dn
open PySem PySem.Spec PyProof.Rows L2
variable [HzC]
end Dn
namespace Dn
open PySem PySem.Spec PyProof.Rows L2
end Dn
namespace Dn
open PySem PySem.Spec PyProof.Rows L2
variable [HzC]
structure IsK (K : PySem.W.Frag) (n : Str) (Dc : Addr) (b : Bool) : Prop where
  ex : ∃ C, PySem.W.nsIn K mainGlobals n = some (some (.ref C)) ∧ Cls K C ∧ PySem.W.findIn K (.ref C) "__class__" = some (some (.builtin "object.__class__")) ∧ PySem.W.specialIn K (.builtin "object.__class__") "__get__" = some (some (.builtin "getset_descriptor.__get__")) ∧
    PySem.W.takesIn K (.builtin "object.__class__") = some true ∧ PySem.W.mroIn K C (.type "object") = some true ∧ PySem.W.kitOne K (.ref C) (.ref Dc) = some b
end Dn
namespace Dn
open PySem PySem.Spec PyProof.Rows L2
end Dn
namespace Dn
open PySem PySem.Spec PyProof.Rows L2
variable [HzC]
abbrev KF := PySem.W.Frag
def frcK {α : Type} : List (Addr × Obj) → (List (Addr × Obj) → α) → α
  | [], k => k []
  | (a, o) :: r, k => HandSHeadRun.frNat a fun a => frcK r fun r' => k ((a, o) :: r')
theorem frcK_eq {α : Type} : ∀ (l : List (Addr × Obj)) (k : List (Addr × Obj) → α), frcK l k = k l
  | [], _ => rfl
  | (a, o) :: r, k => by
    show HandSHeadRun.frNat a (fun a => frcK r fun r' => k ((a, o) :: r')) = _
    rw [HandSHeadRun.frNat_eq, frcK_eq r]
structure FnQ where
  at_ : KF → Addr
  name : Str
  qual : Str
  params : Arguments
  body : List Stmt
  scope : Scope
  clo : List Str := []
abbrev FvQ : Type := Option (Str × Str × Arguments × FuncBody × Scope × Addr × List Str × Value × Addr)
def fvQ (K : KF) (a : Addr) : FvQ := match K.lookup a with
  | some ⟨_, _, .func fd, _⟩ => some (fd.name, fd.qualname, fd.params, fd.body, fd.scope, fd.globals, fd.closure.map (·.1), fd.defaults, fd.builtins)
  | _ => none
def FnQ.val (d : FnQ) : FvQ := some (d.name, d.qual, d.params, .stmts d.body, d.scope, mainGlobals, d.clo, .none, builtinsNs)
def fnB (K : KF) (a : Addr) (q : Str) : Bool := PySem.W.keepIn K (.ref a) && (PySem.W.isFn K (.ref a) && (match K.lookup a with
  | some ⟨_, _, .func fd, _⟩ => PySem.W.codeIn K fd.code q
  | _ => false))
def intB (K : KF) (x : Str) (i : Int) : Bool := match PySem.W.nsIn K mainGlobals x with
  | some (some (.int j _)) => decide (j = i)
  | _ => false
def strB (K : KF) (x z : Str) : Bool := match PySem.W.nsIn K mainGlobals x with
  | some (some (.str j _)) => decide (j = z)
  | _ => false
def gdH (K : KF) (a : Addr) : List Int := match K.lookup a with
  | some ⟨_, _, .dict es _, _⟩ => es.toList.map (·.hash)
  | _ => []
abbrev AlQ : Type := Bool × List FvQ × List (List Int)
abbrev HdQ : Type := List ((KF → Addr) × List Str)
def obsQ (fa : List (KF → Bool)) (fn : List FnQ) (hd : HdQ) (K : KF) : AlQ := (fa.all fun f => f K, fn.map fun d => fvQ K (d.at_ K), hd.map fun p => gdH K (p.1 K))
def valQ (fn : List FnQ) (hd : HdQ) (P : Params) : AlQ := (true, fn.map FnQ.val, hd.map fun p => p.2.map (PyData.keyHash P))
def SaysQ (fa : List (KF → Bool)) (fn : List FnQ) (hd : HdQ) (P : Params) (K : KF) : Prop := obsQ fa fn hd K = valQ fn hd P
def obsQG (fa : List (KF → Bool)) (fn : List FnQ) (hd : HdQ) (g : Addr → Option Obj) (n : Nat) : AlQ := frcK (He.frG g (List.range n)) fun K => obsQ fa fn hd K
def hookQ (fa : List (KF → Bool)) (fn : List FnQ) (hd : HdQ) : PySem.W.Hook where
  α := AlQ
  obs := fun s => obsQG fa fn hd s.heap.get? s.heap.objs.size
  val := fun w => valQ fn hd w.params
  says := fun w h => ∃ K : KF, K.In h ∧ SaysQ fa fn hd w.params K
  of := fun w s e => by
    have e : frcK (He.frG s.heap.get? (List.range s.heap.objs.size)) (fun K => obsQ fa fn hd K) = valQ fn hd w.params := e
    rw [frcK_eq] at e
    exact ⟨_, He.frG_in, e⟩
  keeps := fun _ _ _ ⟨K, hK, c⟩ k => ⟨K, PySem.W.Frag.In.keeps hK k, c⟩
def obQ (fa : List (KF → Bool)) (fn : List FnQ) (hd : HdQ) (s : PySem.W.SharedT) : AlQ := obsQG fa fn hd (HandSHeadRun.getT s) s.n
section
variable {fa : List (KF → Bool)} {fn : List FnQ} {hd : HdQ} {P : Params} {K : KF}
theorem SaysQ.hash (c : SaysQ fa fn hd P K) (i : Nat) {p : (KF → Addr) × List Str} (h : hd[i]? = some p := by rfl) : gdH K (p.1 K) = p.2.map (PyData.keyHash P) := by
  have e : (hd.map fun p => gdH K (p.1 K)) = hd.map fun p => p.2.map (PyData.keyHash P) := congrArg (fun z : AlQ => z.2.2) c
  have e2 : (hd.map fun p => gdH K (p.1 K))[i]? = (hd.map fun p => p.2.map (PyData.keyHash P))[i]? := by rw [e]
  rw [List.getElem?_map, List.getElem?_map, h] at e2
  exact Option.some.inj e2
end
end Dn
namespace Dn
open PySem PySem.Spec PyProof.Rows L2
variable [HzC]
end Dn
namespace Dn
open PySem PySem.Spec PyProof.Rows L2
variable [HzC]
def spG (K : PySem.W.Frag) (np : Nat) (spec : List D → M (List D)) : SpG := fun vs H cont E => vs.length = np ∧ ∃ F ι st ds, Sim K F ι st H ∧ Reps K F ι ds vs ∧ post K (wE E) [] F ι H (pA K) (spec ds st) cont
structure GnC (P : Program) (w : World) (K : PySem.W.Frag) (mg : Str → Option Value) (base : Heap) (k : Nat) (x : Str) (np : Nat) (spec : List D → M (List D)) : Prop where
  ex : ∃ (f : Addr) (fd : FuncData) (ps : List Str), GFn P w K mg base k f fd ps (spG K np spec) ∧ mg x = some (.ref f) ∧ PySem.W.keepIn K (.ref f) = true ∧ Binds K fd ps []
structure GnM (P : Program) (w : World) (K : PySem.W.Frag) (mg : Str → Option Value) (base : Heap) (k : Nat) (m n : Str) (np : Nat) (spec : List D → M (List D)) : Prop where
  ex : ∃ (C f : Addr) (fd : FuncData) (ps : List Str), PySem.W.nsIn K mainGlobals n = some (some (.ref C)) ∧ Cls K C ∧ Meth K C m f ∧ GFn P w K mg base k f fd ps (spG K np spec) ∧ Binds K fd ps []
end Dn
namespace Dn
open PySem PySem.Spec PyProof.Rows L2
end Dn
namespace Dn
open PySem PySem.Spec PyProof.Rows L2
variable [HzC]
abbrev TblG := List (Str × (List D → M (List D)))
end Dn
namespace Dn
open PySem PySem.Spec PyProof.Rows L2
inductive ClT (X : Cx) : Expr → List Value → Prop
  | one {x : Str} {c : Value} {np : Pos} (hc : Names X x c) : ClT X (.Name x np) [c]
  | two {x y : Str} {c d : Value} {np nq tp : Pos} {kk : Nat} (hc : Names X x c) (hd : Names X y d) : ClT X (.Tuple [.Name x np, .Name y nq] kk tp) [c, d]
inductive ClB (X : Cx) (n : Str) : List ExceptHandler → List (List Value × (Addr → Value → Option Addr → TS)) → Prop
  | nil : ClB X n [] []
  | cons {t : Expr} {cs : List Value} {ts : Addr → Value → Option Addr → TS} {b₀ : Stmt} {suite : List Stmt} {pos' : Pos} {hds : List ExceptHandler} {l : List (List Value × (Addr → Value → Option Addr → TS))} (hc : ClT X t cs)
      (hsu : ∀ (a : Addr) (oe : Obj) (cls : Value) (d : Option Addr) (pn : List (Addr × Obj)), Zc cls d oe → (∃ vs, oe.data = .fields vs) → PSs (X.suite a ((a, oe) :: pn)) (b₀ :: suite) (ts a cls d)) (r : ClB X n hds l) :
      ClB X n (.ExceptHandler (some t) (some n) (b₀ :: suite) pos' :: hds) ((cs, ts) :: l)
end Dn
namespace Dn
open PySem PySem.Spec PyProof.Rows L2
variable [HzC]
def ExmP (K : PySem.W.Frag) (n y1 y2 : Str) (b : Bool) : Prop := ∀ C D1 D2, PySem.W.nsIn K mainGlobals n = some (some (.ref C)) → PySem.W.nsIn K mainGlobals y1 = some (some (.ref D1)) → PySem.W.nsIn K mainGlobals y2 = some (some (.ref D2)) →
  PySem.W.exmAny K (.ref C) [.ref D1, .ref D2] = some b
inductive CLb (X : Cx) (n : Str) (i : Nat) : List ExceptHandler → Clz → Prop
  | nil : CLb X n i [] []
  | cons {y : Str} {suite : List Stmt} {b₀ : Stmt} {np pos' : Pos} {mh : Xc → D → Rho → Sto → Fl} {yes no : List Str} {hds : List ExceptHandler} {cl : Clz} (hg : Gl X y) (T : ErrX X.K X.mg y) (hE1 : ∀ z ∈ yes, ErrX X.K X.mg z) (hE2 : ∀ z ∈ no, ErrX X.K X.mg z) (hyes : ∀ z ∈ yes, ExmB X.K z y true) (hno : ∀ z ∈ no, ExmB X.K z y false)
      (hh : ∀ (x : Xc) (e : D) (a : Addr) (oe : Obj) (pn : List (Addr × Obj)), x.nm ∈ yes → HC X x e a oe → DSs (X.suite a ((a, oe) :: pn)) wN (b₀ :: suite) (mh x e)) (hu : ∀ x, IndS i (mh x)) (r : CLb X n i hds cl) (hdb : (y == ("__debug__" : Str)) = false := by decide) :
      CLb X n i (.ExceptHandler (some (.Name y np)) (some n) (b₀ :: suite) pos' :: hds) ((yes, no, mh) :: cl)
  | two {y y2 : Str} {suite : List Stmt} {b₀ : Stmt} {np nq tp pos' : Pos} {kk : Nat} {mh : Xc → D → Rho → Sto → Fl} {yes no : List Str} {hds : List ExceptHandler} {cl : Clz} (hg : Gl X y) (T : ErrX X.K X.mg y) (hg2 : Gl X y2) (T2 : ErrX X.K X.mg y2) (hE1 : ∀ z ∈ yes, ErrX X.K X.mg z) (hE2 : ∀ z ∈ no, ErrX X.K X.mg z) (hyes : ∀ z ∈ yes, ExmP X.K z y y2 true) (hno : ∀ z ∈ no, ExmP X.K z y y2 false)
      (hh : ∀ (x : Xc) (e : D) (a : Addr) (oe : Obj) (pn : List (Addr × Obj)), x.nm ∈ yes → HC X x e a oe → DSs (X.suite a ((a, oe) :: pn)) wN (b₀ :: suite) (mh x e)) (hu : ∀ x, IndS i (mh x)) (r : CLb X n i hds cl) (hdb : (y == ("__debug__" : Str)) = false := by decide) (hdb2 : (y2 == ("__debug__" : Str)) = false := by decide) :
      CLb X n i (.ExceptHandler (some (.Tuple [.Name y np, .Name y2 nq] kk tp)) (some n) (b₀ :: suite) pos' :: hds) ((yes, no, mh) :: cl)
end Dn
namespace HotX
open PySem PySem.Spec PyProof.Rows
end HotX
namespace L2H
open PySem PySem.Spec PyProof.Rows L2 HotX
end L2H
namespace Dn
open PySem PySem.Spec PyProof.Rows L2
abbrev suiteE (X : Cx) (a : Addr) (pn : List (Addr × Obj)) (xe : Value → Shared → Prop) : Cx := { X with A := X.A.mark (some (.ref a)), calm := false, pn := pn, xe := xe }
def sxe (X : Cx) (Wr : WX) (i : Nat) : Value → Shared → Prop := fun u s' => L2.XE X (fun cls d σ H => Wr cls d (σ.set i none) H) u s'
abbrev ZL := List (List Value × Bool × (Addr → Value → Option Addr → TS))
inductive ClZ (X : Cx) (Wr : WX) (i : Nat) (n : Str) : List ExceptHandler → ZL → Prop
  | nil : ClZ X Wr i n [] []
  | named {t : Expr} {cs : List Value} {ts : Addr → Value → Option Addr → TS} {b₀ : Stmt} {suite : List Stmt} {pos' : Pos} {hds : List ExceptHandler} {l : ZL} (hc : ClT X t cs) (hi : X.N[i]? = some n) (hln : X.env.kindOf n = some .local)
      (hsu : ∀ (a : Addr) (oe : Obj) (cls : Value) (d : Option Addr) (pn : List (Addr × Obj)), L2N.Zn cls d oe → (∃ vs, oe.data = .fields vs) → (∀ W' : WX, (∀ c d σ H, W' c d σ H → Wr c d (σ.set i none) H) → L2.Takes (suiteE X a ((a, oe) :: pn) (sxe X Wr i)) W') → PSs (suiteE X a ((a, oe) :: pn) (sxe X Wr i)) (b₀ :: suite) (ts a cls d)) (r : ClZ X Wr i n hds l) :
      ClZ X Wr i n (.ExceptHandler (some t) (some n) (b₀ :: suite) pos' :: hds) ((cs, true, ts) :: l)
  | bare {t : Expr} {cs : List Value} {ts : Addr → Value → Option Addr → TS} {b₀ : Stmt} {suite : List Stmt} {pos' : Pos} {hds : List ExceptHandler} {l : ZL} (hc : ClT X t cs)
      (hsu : ∀ (a : Addr) (oe : Obj) (cls : Value) (d : Option Addr) (pn : List (Addr × Obj)), L2N.Zn cls d oe → (∃ vs, oe.data = .fields vs) → PSs (X.suite a ((a, oe) :: pn)) (b₀ :: suite) (ts a cls d)) (r : ClZ X Wr i n hds l) :
      ClZ X Wr i n (.ExceptHandler (some t) none (b₀ :: suite) pos' :: hds) ((cs, false, ts) :: l)
end Dn
namespace HotX
open PySem PySem.Spec PyProof.Rows
section
variable {prog : Program} {w : World} {A : Around} {E : Value → Shared → Prop} {s : Shared}
theorem HotAt.keep {x1 : Addr} {h h' : Heap} (q : HotAt A x1 h) (k : ∀ o, h.get? x1 = some o → h'.get? x1 = some o) : HotAt A x1 h' := by
  obtain ⟨q1, o, vs, q2, q3, q4⟩ := q
  exact ⟨q1, o, vs, k o q2, q3, q4⟩
end
end HotX
namespace Dn
open PySem PySem.Spec PyProof.Rows L2 HotX L2H
variable [HzC]
end Dn
namespace Dn
open PySem PySem.Spec PyProof.Rows L2 HotX L2H
variable [HzC]
def FnX (P : Program) (w : World) (K : PySem.W.Frag) (mg : Str → Option Value) (base : Heap) (k : Nat) (f : Addr) (fd : FuncData) (p1 : Str) (nms : List Str) : Prop :=
  ∀ (A : Around) (outer : List Env) (s : Shared) (H : Hp) (ar : Args) (a : Addr) (oe : Obj) (x : Xc) (e : D) (F : Hp) (ι : List Addr) (st : Sto) (Q : VK) (E : XK), RoomH k A → A.handled = some (.ref a) → PinOk outer H s (a, oe) →
    (∃ C d, PySem.W.nsIn K mainGlobals x.nm = some (some (.ref C)) ∧ ExcC K C ∧ Zc (.ref C) d oe ∧ EV x a d e) → (∃ vs, oe.data = .fields vs) → PXN.CtxN oe → x.nm ∈ nms → Env0 P w K mg base A outer s H → BindsTo s fd ar [(p1, .ref a)] →
    Sim K F ι st H → Rep K F ι e (.ref a) → (∀ F' ι' H' v, Ext F ι H F' ι' H' → Sim K F' ι' st H' → Rep K F' ι' (.str x.nm) v → Q v H') → codeAny (model P w) A (.call (.ref f) ar) (CR (L2.CX P w) outer P w H s Q E) s
section
variable {P : Program} {w : World} {K : PySem.W.Frag} {mg : Str → Option Value} {base : Heap}
structure FnXC (P : Program) (w : World) (K : PySem.W.Frag) (mg : Str → Option Value) (base : Heap) (k : Nat) (x : Str) (nms : List Str) : Prop where
  ex : ∃ (f : Addr) (fd : FuncData) (p1 : Str), FnX P w K mg base k f fd p1 nms ∧ mg x = some (.ref f) ∧ PySem.W.keepIn K (.ref f) = true ∧ Binds K fd [p1] []
end
end Dn
namespace Dn
open PySem PySem.Spec PyProof.Rows L2 HotX L2H PySem.FldX
variable [HzC]
structure ClTX (X : Cx) (t : Expr) (yes no : List Str) : Prop where
  ex : ∃ cs, ClT X t cs ∧ (∀ z ∈ yes, ∀ C, PySem.W.nsIn X.K mainGlobals z = some (some (.ref C)) → PySem.W.exmAny X.K (.ref C) cs = some true) ∧ (∀ z ∈ no, ∀ C, PySem.W.nsIn X.K mainGlobals z = some (some (.ref C)) → PySem.W.exmAny X.K (.ref C) cs = some false)
inductive CLz (X : Cx) (n : Str) (i : Nat) : List ExceptHandler → Clz → Prop
  | nil : CLz X n i [] []
  | cons {t : Expr} {suite : List Stmt} {b₀ : Stmt} {pos' : Pos} {mh : Xc → D → Rho → Sto → Fl} {yes no : List Str} {hds : List ExceptHandler} {cl : Clz} (hct : ClTX X t yes no) (hE1 : ∀ z ∈ yes, ErrX X.K X.mg z) (hE2 : ∀ z ∈ no, ErrX X.K X.mg z)
      (hh : ∀ (x : Xc) (e : D) (a : Addr) (oe : Obj) (pn : List (Addr × Obj)), x.nm ∈ yes → HC X x e a oe → PXN.CtxN oe → DSs (X.suite a ((a, oe) :: pn)) wN (b₀ :: suite) (mh x e)) (hu : ∀ x, IndS i (mh x)) (r : CLz X n i hds cl) :
      CLz X n i (.ExceptHandler (some t) (some n) (b₀ :: suite) pos' :: hds) ((yes, no, mh) :: cl)
end Dn
namespace Dn
open PySem PySem.Spec PyProof.Rows L2
variable [HzC]
end Dn
namespace Dn
open PySem PySem.Spec PyProof.Rows L2
end Dn
namespace Dn
open PySem PySem.Spec PyProof.Rows L2 HotX L2H
variable [HzC]
structure NdX (X : Cx) : Prop where nd : X.N.Nodup
end Dn
namespace Dn
open PySem PySem.Spec PyProof.Rows L2
variable [HzC]
structure FnIC (P : Program) (w : World) (K : PySem.W.Frag) (mg : Str → Option Value) (base : Heap) (k : Nat) (nm : Str) (spec : List D → M D) (C : Addr) : Prop where
  ex : ∃ f : Addr, PySem.W.nsIn K mainGlobals nm = some (some (.ref C)) ∧ Mk K C f ∧ RunE P w K mg base k f spec
structure FnCM (P : Program) (w : World) (K : PySem.W.Frag) (mg : Str → Option Value) (base : Heap) (k : Nat) (nm m : Str) (spec : Addr → List D → M D) : Prop where
  ex : ∃ (C p g : Addr) (mc : Value), mg nm = some (.ref C) ∧ ClX.CRead K C mc ∧ ClX.CMet K C mc m p g ∧ RunE P w K mg base k g (spec C)
  ind : ∀ a ds st, spec a (.adr a :: ds) st = spec 0 (.adr 0 :: ds) st
end Dn
namespace Dn
open PySem PySem.Spec PyProof.Rows L2
end Dn
namespace Dn
open PySem PySem.Spec PyProof.Rows L2
variable [HzC]
structure IsKU (K : PySem.W.Frag) (n : Str) (T : String) (b : Bool) : Prop where
  ex : ∃ C, PySem.W.nsIn K mainGlobals n = some (some (.ref C)) ∧ Cls K C ∧ PySem.W.findIn K (.ref C) "__class__" = some (some (.builtin "object.__class__")) ∧ PySem.W.specialIn K (.builtin "object.__class__") "__get__" = some (some (.builtin "getset_descriptor.__get__")) ∧
    PySem.W.takesIn K (.builtin "object.__class__") = some true ∧ PySem.W.mroIn K C (.type "object") = some true ∧ PySem.W.kitOne K (.ref C) (.type T) = some b
structure ConK (K : PySem.W.Frag) (n f : Str) (i : Int) : Prop where
  ex : ∃ C t, PySem.W.nsIn K mainGlobals n = some (some (.ref C)) ∧ Cls K C ∧ PySem.W.findIn K (.ref C) f = some (some (.int i t)) ∧ PySem.W.specialIn K (.int i t) "__get__" = some none
end Dn
namespace Dn
open PySem PySem.Spec PyProof.Rows L2
section
variable {S : Type} {W : Wd S} {fr : Sto} {Γ : List Sl} {τ β : Type} {i : Nat} {enc : β → D}
inductive ClF (W : Wd S) (fr : Sto) (Γ : List Sl) (i : Nat) (J : τ → List Sl) (enc : β → D) : Clz → Clm S (τ ⊕ β) → Prop
  | nil : ClF W fr Γ i J enc [] []
  | cons {yes no : List Str} {mh : Xc → D → Rho → Sto → Fl} {qh : Xc → Mt S (τ ⊕ β)} {cl : Clz} {cm : Clm S (τ ⊕ β)} (hh : ∀ x, TF W fr ((keepK Γ).set i (.val (e0 x))) (mh x (e0 x)) (qh x) J enc) (r : ClF W fr Γ i J enc cl cm) : ClF W fr Γ i J enc ((yes, no, mh) :: cl) ((yes, no, qh) :: cm)
end
end Dn
namespace Dn
open PySem PySem.Spec PyProof.Rows L2
variable [HzC]
section
variable {P : Program} {w : World} {K : PySem.W.Frag} {mg : Str → Option Value} {base : Heap}
structure FnV (P : Program) (w : World) (K : PySem.W.Frag) (mg : Str → Option Value) (base : Heap) (k : Nat) (x : Str) (np : Nat) (spec : List D → M D) : Prop where
  ex : ∃ (f : Addr) (fd : FuncData) (ps : List Str), FnG P w K mg base k f fd ps (spD K np spec) ∧ mg x = some (.ref f) ∧ PySem.W.keepIn K (.ref f) = true ∧ Binds K fd ps []
  at_ : ∃ f, mg x = some (.ref f) ∧ PySem.W.nsIn K mainGlobals x = some (some (.ref f))
end
structure ConC (K : PySem.W.Frag) (mg : Str → Option Value) (nm f : Str) (i : Int) : Prop where
  ex : ∃ (C : Addr) (t : Tok), mg nm = some (.ref C) ∧ ClX.CRead K C (.type "type") ∧ PySem.W.findCls K (.ref C) (.type "type") f = some (.val (.int i t))
end Dn
namespace Dn
open PySem PySem.Spec PyProof.Rows L2
variable [HzC]
end Dn
namespace Dn
open PySem PySem.Spec PyProof.Rows L2
end Dn
namespace Dn
open PySem PySem.Spec PyProof.Rows L2
variable [HzC]
def txOf (e : Int × Value) : Str := match e.2 with | .str k _ => k | _ => Str.empty
def TxRow (w : World) (e : Int × Value) : Prop := ∃ k u, e.2 = Value.str k u ∧ e.1 = hashStr w k
def SetX (w : World) (h : Heap) (b : Addr) (M : Str → Bool) (c : Nat) : Prop :=
  ∃ ob rw_ ep tb, h.get? b = some ob ∧ ob.ExactSet ∧ ob.data = .set rw_ ep tb ∧ (∀ e ∈ rw_.toList, TxRow w e) ∧ (rw_.toList.map txOf).Nodup ∧ (∀ k, M k = true ↔ k ∈ rw_.toList.map txOf) ∧
    rw_.size < scanBound ∧ tb.fits rw_.size = true ∧ rw_.size = c ∧ Ris tb.place.toList ∧ (w.params.followText "set-order" = true ∨ tb.led = true)
section
variable {P : Program} {w : World} {h h' : Heap} {b : Addr} {M : Str → Bool} {c : Nat}
theorem SetX.at (X : SetX w h b M c) (k : ∀ ob, h.get? b = some ob → h'.get? b = some ob) : SetX w h' b M c := by
  obtain ⟨ob, rw_, ep, tb, ho, q⟩ := X
  exact ⟨ob, rw_, ep, tb, k ob ho, q⟩
theorem SetX.same {M' : Str → Bool} (X : SetX w h b M c) (e : ∀ k, M' k = M k) : SetX w h b M' c := by
  rw [show M' = M from funext e]; exact X
end
end Dn
namespace Dn
open PySem PySem.Spec PyProof.Rows L2
variable [HzC]
end Dn
namespace Dn
open PySem PySem.Spec PyProof.Rows L2
variable [HzC]
open PySem.SeqAt PySem.MeetsSeq
end Dn
namespace Dn
open PySem PySem.Spec PyProof.Rows L2
variable [HzC]
theorem Grow.trans {F F1 F2 : Hp} {ι ι1 ι2 : List Addr} (a : Grow F ι F1 ι1) (b : Grow F1 ι1 F2 ι2) : Grow F ι F2 ι2 := ⟨fun x o h => b.f x o (a.f x o h), fun l x h => b.i l x (a.i l x h)⟩
end Dn
namespace Dn
open PySem PySem.Spec PyProof.Rows L2
variable [HzC]
end Dn
namespace Dn
open PySem PySem.Spec PyProof.Rows L2
end Dn
namespace Dn
open PySem PySem.Spec PyProof.Rows L2
variable [HzC]
end Dn
namespace Dn
open PySem PySem.Spec PyProof.Rows L2
variable [HzC]
def dctOfW (st : Sto) : D → Option (List (List Str) × List D)
  | .ref l => match st[l]? with
    | some (.dcs ks xs) => some (ks, xs)
    | _ => none
  | _ => none
section
variable {K : PySem.W.Frag} {F H : Hp} {ι : List Addr} {st : Sto} {a b : Addr} {xs : List (List Str × Addr × Value)}
theorem Sim.dcs (S : Sim K F ι st H) {d : D} {v : V} {ks : List (List Str)} {ds : List D} (r : Rep K F ι d v) (h : dctOfW st d = some (ks, ds)) : ∃ a xs ws, v = .ref a ∧ (a == sysModules) = false ∧ H a = some (DcsO a xs) ∧ KeysS K F ks xs ∧ Vals ws (xs.map (·.2.2)) ∧ Reps K F ι ds ws := by
  unfold dctOfW at h
  split at h
  · rename_i l
    split at h
    · rename_i ks' xs' e
      cases h
      simp only [Rep] at r
      obtain ⟨a, e2, q⟩ := r
      obtain ⟨xs, ws, z, q2, kt, vr, r⟩ := S.obj l _ a e q
      exact ⟨a, xs, ws, e2, z, q2, kt, vr, r⟩
    · cases h
  · cases h
end
end Dn
namespace Dn
open PySem PySem.Spec PyProof.Rows L2
end Dn
namespace DnY
open PySem PySem.Spec PyProof.Rows L2 Dn
abbrev thash (P : Program) (w : World) (k : List Str) : Int := tupleKeyHash (PySem.strKind P w) k
abbrev IsT (P : Program) (w : World) (h : Heap) (k : List Str) (a : Addr) : Prop := IsTupleKey (PySem.strKind P w) h k a
def rowsOf (P : Program) (w : World) (L : List (Addr × List Str)) : List (Int × Value) := L.map fun zz => (thash P w zz.2, Value.ref zz.1)
structure Got (ks : List (Addr × List Str)) (i : Nat) (L : List (Addr × List Str)) : Prop where
  sub : ∀ p ∈ L, p ∈ ks.take i
  all : ∀ p ∈ ks.take i, p.2 ∈ L.map (·.2)
  len : L.length ≤ i
theorem Got.zero (ks : List (Addr × List Str)) : Got ks 0 [] := ⟨fun _ h => (nomatch h), fun p h => absurd h (by simp), Nat.le_refl _⟩
theorem Got.same {ks L : List (Addr × List Str)} {i : Nat} {x : Addr × List Str} (g : Got ks i L) (h : ks[i]? = some x) (hm : x.2 ∈ L.map (·.2)) : Got ks (i + 1) L := by
  have et := take_next h
  refine ⟨fun p hp => ?_, fun p hp => ?_, Nat.le_succ_of_le g.len⟩
  · rw [et, List.mem_append]
    exact .inl (g.sub p hp)
  · rw [et, List.mem_append, List.mem_singleton] at hp
    rcases hp with z | z
    · exact g.all p z
    · rwa [z]
theorem Got.more {ks L L' : List (Addr × List Str)} {i : Nat} {x : Addr × List Str} (g : Got ks i L) (h : ks[i]? = some x) (pm : L'.Perm (x :: L)) : Got ks (i + 1) L' := by
  have et := take_next h
  refine ⟨fun p hp => ?_, fun p hp => ?_, ?_⟩
  · rw [et, List.mem_append, List.mem_singleton]
    rcases List.mem_cons.mp (pm.mem_iff.mp hp) with e | z
    · exact .inr e
    · exact .inl (g.sub p z)
  · rw [(pm.map (·.2)).mem_iff, List.map_cons, List.mem_cons]
    rw [et, List.mem_append, List.mem_singleton] at hp
    rcases hp with z | z
    · exact .inr (g.all p z)
    · exact .inl (by rw [z])
  · rw [pm.length_eq, List.length_cons]
    have := g.len
    omega
def MaskB (m : Nat) : Prop := m = 7 ∨ m = 31 ∨ m = 127 ∨ m = 511 ∨ m = 2047 ∨ m = 8191
theorem inB_way (m : Nat) (h : Int) (k : Nat) : way m h k ≤ m := by
  have hi : SetTable.bits h % (m + 1) < m + 1 := Nat.mod_lt _ (Nat.succ_pos _)
  have r := runEnd_bd (Nat.le_of_lt_succ hi)
  refine Nat.le_trans (Nat.le_add_right _ _) (nth_in k (runAt m (SetTable.bits h % (m + 1)) (SetTable.bits h)) ?_)
  show SetTable.bits h % (m + 1) + (SetTable.runEnd m (SetTable.bits h % (m + 1)) - SetTable.bits h % (m + 1)) ≤ m
  omega
structure TbB (t : SetTable) (hs : List Int) : Prop where
  ris : Ris t.place.toList
  dm : t.dummies = #[]
  len : t.place.toList.length = hs.length
  mask : MaskB t.mask
  bd : ∀ x ∈ t.place.toList, x ≤ t.mask
  met : ∀ q ∈ hs.zip t.place.toList, ∃ k, way t.mask q.1 k = q.2 ∧ ∀ k', k' < k → way t.mask q.1 k' ∈ t.place.toList
theorem zip_cut {α β : Type} {A : List α} {B : List β} (hl : A.length = B.length) {p : Nat} {x : α} {y : β} {q : α × β} (h : q ∈ (A.take p ++ x :: A.drop p).zip (B.take p ++ y :: B.drop p)) : q = (x, y) ∨ q ∈ A.zip B := by
  have e : (A.take p).length = (B.take p).length := by rw [List.length_take, List.length_take, hl]
  have z : A.zip B = (A.take p).zip (B.take p) ++ (A.drop p).zip (B.drop p) := by
    rw [← List.zip_append e, List.take_append_drop, List.take_append_drop]
  rw [List.zip_append e, List.zip_cons_cons, List.mem_append, List.mem_cons] at h
  rw [z, List.mem_append]
  rcases h with h | h | h
  · exact .inr (.inl h)
  · exact .inl h
  · exact .inr (.inr h)
theorem TbB.more {t : SetTable} {hs : List Int} (T : TbB t hs) {h : Int} {K j p : Nat} (ej : way t.mask h K = j) (ep : SetTable.below t.place j = p) (hK : j ∉ t.place.toList) (hb : ∀ k, k < K → way t.mask h k ∈ t.place.toList) :
    (t.put j).2 = p ∧ TbB (t.put j).1 (hs.take p ++ h :: hs.drop p) ∧ (t.put j).1.mask = t.mask ∧ (t.put j).1.led = t.led ∧ (t.put j).1.plain = t.plain := by
  have e1 : (t.put j).1.place.toList = t.place.toList.take p ++ j :: t.place.toList.drop p := by
    rw [put_place, ep]
  have hno : ¬ t.place[SetTable.below t.place j]? = some j := fun z => hK (by rw [← Array.getElem?_toList] at z; exact List.mem_of_getElem? z)
  have old : ∀ x ∈ t.place.toList, x ∈ (t.put j).1.place.toList := fun x hx => by
    rw [e1]
    exact mem_ins.mpr (.inr hx)
  have hpl : p ≤ t.place.toList.length := by
    rw [← ep, Array.length_toList]
    exact (below_cut T.ris j).1
  refine ⟨ep, { ris := ris_insert T.ris hno, dm := put_dm T.dm j, len := ?_, mask := T.mask, bd := fun x hx => ?_, met := fun q hq => ?_ }, rfl, rfl, rfl⟩
  · rw [e1, len_ins _ hpl, len_ins _ (by rw [← T.len]; exact hpl), T.len]
  · rw [e1] at hx
    rcases mem_ins.mp hx with rfl | hx
    · rw [← ej]; exact inB_way _ _ _
    · exact T.bd x hx
  · rw [e1] at hq
    rcases zip_cut T.len.symm hq with rfl | hq
    · exact ⟨K, ej, fun k hk => old _ (hb k hk)⟩
    · obtain ⟨k, a1, a2⟩ := T.met q hq
      exact ⟨k, a1, fun k' hk' => old _ (a2 k' hk')⟩
structure SetB (P : Program) (w : World) (h : Heap) (a : Addr) (L : List (Addr × List Str)) (es : Array (Int × Value)) (ep : Nat) (t : SetTable) : Prop where
  ob : ∃ o, h.get? a = some o ∧ o.ExactSet ∧ o.data = .set es ep t
  rw_ : es.toList = rowsOf P w L
  tb : TbB t (L.map fun p => thash P w p.2)
  once : (L.map (·.2)).Nodup
  tups : ∀ p ∈ L, IsT P w h p.2 p.1
  lead : w.params.followText "set-order" = true ∨ t.led = true
  gap : L.length * 5 < t.mask * 3
  lim : L.length < 4000
section
variable {P : Program} {w : World} {A : Around} {E : Value → Shared → Prop}
theorem SetB.stay {h h' : Heap} {a : Addr} {L : List (Addr × List Str)} {es : Array (Int × Value)} {ep : Nat} {t : SetTable} (R : SetB P w h a L es ep t) (ha : ∀ o, h.get? a = some o → h'.get? a = some o) (ht : ∀ p ∈ L, IsT P w h' p.2 p.1) : SetB P w h' a L es ep t :=
  { R with ob := by obtain ⟨o, go, r⟩ := R.ob; exact ⟨o, ha o go, r⟩, tups := ht }
end
end DnY
namespace DnY
open PySem PySem.Spec PyProof.Rows L2 Dn
variable [HzC]
theorem seq_next (ρ : Rho) (st : Sto) (g : Rho → Sto → Fl) : (Fl.next ρ st).seq g = g ρ st := rfl
theorem seq_ret (d : D) (st : Sto) (g : Rho → Sto → Fl) : (Fl.ret d st).seq g = .ret d st := rfl
end DnY
namespace Dn
open PySem PySem.Spec PyProof.Rows L2
variable [HzC]
abbrev lamObj (L : LamT) (cl : List (Str × Addr)) (pm : Value) (c' : Addr) (ctv : Value) : Obj := PySem.W.kla_obj "<lambda>" L.qual L.params L.body L.scope cl pm c' ctv
structure FnLam (P : Program) (w : World) (K : PySem.W.Frag) (mg : Str → Option Value) (base : Heap) (k : Nat) (L : LamT) (spec : List D → M D) : Prop where
  run : ∀ (A : Around) (outer : List Env) (s : Shared) (H : Hp) (f : Addr) (cl : List (Str × Addr)) (pm : Value) (c' : Addr) (ctv : Value) (us : List Value) (vs ws : List V) (Q : VK) (E : XK), Room k A → (5 < k → A.guards = some []) → Env0 P w K mg base A outer s H →
    s.heap.get? f = some (lamObj L cl pm c' ctv) → s.heap.CodeRec (.ref c') L.qual → NdefX.CellsAt cl L.fr (ws.map some) s.heap H → Vals vs us → vs.length = L.ps.length → spD K (L.ps.length + L.fr.length) spec (vs ++ ws) H Q E →
    codeAny (model P w) A (.call (.ref f) ⟨us, []⟩) (CR (CXk k P w) outer P w H s Q E) s
end Dn
namespace Dn
open PySem PySem.Spec PyProof.Rows L2
variable [HzC]
def Less (F F' : Hp) : Prop := ∀ b o, F b = some o → (∃ ob x, o = KeepO ob x) ∨ F' b = some o
section
variable {K : PySem.W.Frag} {F F' : Hp} {ι : List Addr}
theorem Less.to (h : Less F F') {b : Addr} {o : HO} (e : F b = some o) (n : ∀ ob x, o ≠ KeepO ob x) : F' b = some o := (h b o e).resolve_left fun ⟨ob, x, q⟩ => n ob x q
end
def sans (T : Hp) (C : List Addr) : Hp := fun b => if b ∈ C then none else T b
def mixH (T0 T : Hp) (C : List Addr) : Hp := fun b => if b ∈ C then T0 b else T b
theorem sans_in {T : Hp} {C : List Addr} {b : Addr} (h : b ∈ C) : sans T C b = none := if_pos h
theorem sans_out {T : Hp} {C : List Addr} {b : Addr} (h : b ∉ C) : sans T C b = T b := if_neg h
theorem mix_in {T0 T : Hp} {C : List Addr} {b : Addr} (h : b ∈ C) : mixH T0 T C b = T0 b := if_pos h
theorem mix_out {T0 T : Hp} {C : List Addr} {b : Addr} (h : b ∉ C) : mixH T0 T C b = T b := if_neg h
structure Owns (F : Hp) (a : Addr) (C : List Addr) : Prop where
  at_ : ∀ c ∈ C, c ≠ a ∧ ∃ ob, F c = some (KeepO ob a)
section
variable {P : Program} {w : World} {fs : List Addr} {H H' : Hp} {h h' B : Heap} {a : Addr} {C : List Addr} {fo : Obj}
structure OwnsH (H : Hp) (h : Heap) (a : Addr) (fo : Obj) (C : List Addr) : Prop where
  fn : H a = some (KeepO fo a)
  at_ : ∀ c ∈ C, c ≠ a ∧ ∃ ob, H c = some (KeepO ob a) ∧ h.get? c = some ob
theorem OwnsH.na (O : OwnsH H h a fo C) : a ∉ C := fun z => (O.at_ a z).1 rfl
theorem OwnsH.gone (O : OwnsH H h a fo C) (free : ∀ b o, h.get? b = some o → sans H C b = none → H' b = none) : ∀ c ∈ C, H' c = none := fun c hc => by
  obtain ⟨_, ob, _, e⟩ := O.at_ c hc
  exact free c ob e (sans_in hc)
theorem OwnsH.same (O : OwnsH H h a fo C) (frzs : ∀ b o u, sans H C b = some (.frz o u) → H' b = some (.frz o u)) : H' a = some (KeepO fo a) := frzs a fo _ (by rw [sans_out O.na]; exact O.fn)
theorem OwnsH.out (O : OwnsH H h a fo C) {b : Addr} (e : H b = none) : b ∉ a :: C := fun z => by
  rcases List.mem_cons.mp z with z | z
  · rw [z, O.fn] at e; cases e
  · obtain ⟨_, ob, q, _⟩ := O.at_ b z
    rw [e] at q; cases q
theorem OwnsH.tup (O : OwnsH H h a fo C) (tups : ∀ b xs, sans H C b = some (.tup xs) → H' b = some (.tup xs)) : ∀ b xs, H b = some (.tup xs) → mixH H H' (a :: C) b = some (.tup xs) := fun b xs e => by
  by_cases hc : b ∈ a :: C
  · rw [mix_in hc]; exact e
  · rw [mix_out hc]; exact tups b xs (by rw [sans_out fun z => hc (List.mem_cons_of_mem _ z)]; exact e)
theorem OwnsH.frz (O : OwnsH H h a fo C) (frzs : ∀ b o u, sans H C b = some (.frz o u) → H' b = some (.frz o u)) : ∀ b o u, H b = some (.frz o u) → mixH H H' (a :: C) b = some (.frz o u) := fun b o u e => by
  by_cases hc : b ∈ a :: C
  · rw [mix_in hc]; exact e
  · rw [mix_out hc]; exact frzs b o u (by rw [sans_out fun z => hc (List.mem_cons_of_mem _ z)]; exact e)
theorem OwnsH.tbl (O : OwnsH H h a fo C) (tbls : ∀ b ps, sans H C b = some (.tbl ps) → ∃ more, H' b = some (.tbl (ps ++ more))) : ∀ b ps, H b = some (.tbl ps) → ∃ more, mixH H H' (a :: C) b = some (.tbl (ps ++ more)) := fun b ps e => by
  by_cases hc : b ∈ a :: C
  · exact ⟨#[], by rw [mix_in hc, e]; simp⟩
  · rw [mix_out hc]; exact tbls b ps (by rw [sans_out fun z => hc (List.mem_cons_of_mem _ z)]; exact e)
theorem OwnsH.hok (O : OwnsH H h a fo C) (hC : ∀ c ∈ C, H' c = none) (ha : H' a = some (KeepO fo a)) (keep : ∀ c ∈ C, ∀ o, h.get? c = some o → B.get? c = some o) (hok : HOk P w H' B) : HOk P w (mixH H H' (a :: C)) B := fun b u e => by
  by_cases hb : b = a
  · subst hb
    rw [mix_in List.mem_cons_self, O.fn] at e
    cases e
    exact hok b _ ha
  · by_cases hc : b ∈ C
    · rw [mix_in (List.mem_cons_of_mem _ hc)] at e
      obtain ⟨_, ob, q, g⟩ := O.at_ b hc
      rw [q] at e
      cases e
      exact ⟨keep b hc ob g, ob, keep b hc ob g⟩
    · rw [mix_out (fun z => (List.mem_cons.mp z).elim hb hc)] at e
      have out : ∀ {d : Addr} {o : HO}, H' d = some o → (∀ ob x, o ≠ KeepO ob x) → d ∉ a :: C := fun {d o} q n z => by
        rcases List.mem_cons.mp z with z | z
        · rw [z, ha] at q; exact n _ _ (Option.some.inj q).symm
        · rw [hC d z] at q; cases q
      exact (hok b u e).stay (fun _ _ _ q => q) (fun d q => by rw [mix_out (out q fun _ _ z => nomatch z)]; exact q) fun d xs q => by rw [mix_out (out q fun _ _ z => nomatch z)]; exact q
end
abbrev LamTab := List (Str × (List D → M D))
structure FnL (P : Program) (w : World) (K : PySem.W.Frag) (mg : Str → Option Value) (base : Heap) (k : Nat) (t : LamTab) : Prop where
  at_ : ∀ nm spec, t.lookup nm = some spec → ∃ L, HzC.lam nm = some L ∧ FnLam P w K mg base k L spec ∧ NeedN (L.ps.length + L.fr.length) spec
end Dn
namespace Dn
open PySem PySem.Spec PyProof.Rows L2
variable [HzC]
def plusH (T : Hp) (C : List Addr) (g : Addr → Option Obj) (f : Addr) : Hp := fun b => if b ∈ C then (g b).map fun ob => KeepO ob f else T b
theorem plus_in {T : Hp} {C : List Addr} {g : Addr → Option Obj} {f b : Addr} {ob : Obj} (h : b ∈ C) (e : g b = some ob) : plusH T C g f b = some (KeepO ob f) := by unfold plusH; rw [if_pos h, e]; rfl
section
variable {P : Program} {w : World} {fs : List Addr} {T H' : Hp} {h h' B : Heap} {f : Addr} {C : List Addr}
structure Free (T : Hp) (h : Heap) (f : Addr) (C : List Addr) : Prop where
  at_ : ∀ c ∈ C, c ≠ f ∧ T c = none ∧ ∃ ob, h.get? c = some ob
theorem Free.keep (O : Free T h f C) (frzs : ∀ b o u, plusH T C h.get? f b = some (.frz o u) → H' b = some (.frz o u)) : ∀ c ∈ C, ∃ ob, h.get? c = some ob ∧ H' c = some (KeepO ob f) := fun c hc => by
  obtain ⟨_, _, ob, e⟩ := O.at_ c hc
  exact ⟨ob, e, frzs c ob _ (plus_in hc e)⟩
theorem Free.out (O : Free T h f C) {b : Addr} {o : HO} (e : T b = some o) : b ∉ C := fun hc => by
  rw [(O.at_ b hc).2.1] at e; cases e
end
end Dn
namespace Dn
open PySem PySem.Spec PyProof.Rows L2
variable [HzC]
structure LamAt (X : Cx) (nm : Str) (params : Arguments) (body : Expr) (scope : Scope) (pos : Pos) (js : List Nat) : Prop where
  tb : ∃ (c P : Addr) (nf : Nat → Nat → Str), LamX.TabB X.base X.mg c P ∧ X.env.code = .ref c ∧ (P, nf) ∈ HzC.tb ∧ nf pos.line pos.col = X.env.qual ++ "<lambda>" ∧ ∀ p ∈ HzC.tb, p.1 = P → p = (P, nf)
  lam : ∃ fr ps, HzC.lam nm = some ⟨X.env.qual ++ "<lambda>", params, body, scope, fr, ps⟩ ∧ (∀ y ∈ fr, (y, NameKind.free) ∈ scope.names) ∧
    (∀ y ∈ scope.names, y.2 = .free → y.1 ∈ fr ∧ (X.env.scope.names.lookup y.1 = some .cell ∨ X.env.scope.names.lookup y.1 = some .free)) ∧ js.map (fun j => X.N[j]?) = fr.map some
  hdef : defaultsOf params X.env = ([], [])
  fn : ∀ y, X.fn y = true
end Dn
namespace Dn
open PySem PySem.Spec PyProof.Rows L2
end Dn
namespace Dn
open PySem PySem.Spec PyProof.Rows L2
variable [HzC]
def OnlyT (H : Hp) : Prop := ∀ b, H b = none ∨ H b = some (.tbl #[]) ∨ ∃ o xs, H b = some (.frz o (.lst xs))
section
variable {P : Program} {w : World} {K : PySem.W.Frag} {mg mb : Str → Option Value} {k : Nat} {fa p : Addr} {tt : List (Addr × Addr)} {fd : FuncData} {x : Str} {sp : Sp} {t : Shared} {us : List Value} {ns : List Int}
structure StartT (H : Hp) (tt : List (Addr × Addr)) (p : Addr) : Prop where
  tab : ∀ q ∈ tt, H q.2 = some (.tbl #[])
  one : ∀ c, H c ≠ none → (c = p ∧ ∃ o xs, H c = some (.frz o (.lst xs))) ∨ (H c = some (.tbl #[]) ∧ ∃ q ∈ tt, q.2 = c)
theorem StartT.only {H : Hp} (S : StartT H tt p) : OnlyT H := fun c => by
  cases e : H c with
  | none => exact .inl rfl
  | some u =>
    rcases S.one c (by rw [e]; simp) with ⟨_, z⟩ | ⟨z, _⟩
    · rw [e] at z; exact .inr (.inr z)
    · rw [e] at z; exact .inr (.inl z)
end
end Dn
namespace Dn
open PySem PySem.Spec PyProof.Rows L2
end Dn
namespace Dn
open PySem PySem.Spec PyProof.Rows L2
section
variable [HzC]
section
variable {P : Program} {w : World} {K : PySem.W.Frag} {mg : Str → Option Value} {base : Heap}
theorem FnLam.mono {k k' : Nat} {L : LamT} {spec : List D → M D} (h : FnLam P w K mg base k L spec) (hk : k ≤ k') : FnLam P w K mg base k' L spec := ⟨fun A outer s H f cl pm c' ctv us vs ws Q E hr hg e0 ho hcr C r hl hsp => codeAny_mono (h.run A outer s H f cl pm c' ctv us vs ws Q E (hr.mono hk) (fun h5 => hg (by omega)) e0 ho hcr C r hl hsp) fun _ _ z => crk_mono hk z⟩
end
end
end Dn
namespace Dn
open PySem PySem.Spec PyProof.Rows L2
end Dn
namespace Dn
open PySem PySem.Spec PyProof.Rows L2
def Sl.lend : Sl → Sl
  | .mut m => .bor m
  | x => x
end Dn
namespace Dn
open PySem PySem.Spec PyProof.Rows L2 HotX L2H PySem.FldX
variable [HzC]
theorem REnv.drop {K : PySem.W.Frag} {F : Hp} {ι : List Addr} {ρ : Rho} {σ : L2.St} (h : REnv K F ι ρ σ) (i : Nat) : REnv K F ι (ρ.set i none) σ := by
  refine ⟨by rw [List.length_set]; exact h.len, fun j d e => h.at_ j d ?_⟩
  by_cases q : i = j
  · subst q
    rw [List.getElem?_set] at e
    simp at e
  · rw [List.getElem?_set_ne q] at e
    exact e
inductive CLy (X : Cx) (n : Str) (i : Nat) : List ExceptHandler → Clz → Prop
  | nil : CLy X n i [] []
  | cons {t : Expr} {suite : List Stmt} {b₀ : Stmt} {pos' : Pos} {mh : Xc → D → Rho → Sto → Fl} {yes no : List Str} {hds : List ExceptHandler} {cl : Clz} (hct : ClTX X t yes no) (hE1 : ∀ z ∈ yes, ErrX X.K X.mg z) (hE2 : ∀ z ∈ no, ErrX X.K X.mg z)
      (hh : ∀ (x : Xc) (e : D) (a : Addr) (oe : Obj) (pn : List (Addr × Obj)), x.nm ∈ yes → HC X x e a oe → PXN.CtxN oe → DSs (X.suite a ((a, oe) :: pn)) wN (b₀ :: suite) (mh x e)) (hu : ∀ x, IndS i (mh x)) (r : CLy X n i hds cl) :
      CLy X n i (.ExceptHandler (some t) (some n) (b₀ :: suite) pos' :: hds) ((yes, no, mh) :: cl)
  | bare {t : Expr} {suite : List Stmt} {b₀ : Stmt} {pos' : Pos} {mh : Rho → Sto → Fl} {yes no : List Str} {hds : List ExceptHandler} {cl : Clz} (hct : ClTX X t yes no) (hE1 : ∀ z ∈ yes, ErrX X.K X.mg z) (hE2 : ∀ z ∈ no, ErrX X.K X.mg z)
      (hh : ∀ (a : Addr) (oe : Obj) (pn : List (Addr × Obj)), DSs (X.suite a ((a, oe) :: pn)) wN (b₀ :: suite) mh) (r : CLy X n i hds cl) :
      CLy X n i (.ExceptHandler (some t) none (b₀ :: suite) pos' :: hds) ((yes, no, fun _ _ ρ st => mh (ρ.set i none) st) :: cl)
end Dn
namespace Dn
open PySem PySem.Spec PyProof.Rows L2
section
variable {A : Type} {R : DkR A} {fr : Sto} {Γ : List Sl} {nm : Str} {ds : List D} {js : List Nat} {s s' : OS A} {ρ : Rho} {st st' : Sto} {k : Nat}
abbrev DkR.more (R : DkR A) (k : Nat) : DkR A := R.lend (k :: R.G)
end
end Dn
namespace PySem
section
variable {M : Model}
def deadT : Sem Fin := .unsupported ""
theorem runs_dead0 {Γ : Ctx} {p : Pos} {s s' : Shared} {e : End} : ¬ Runs M Γ p deadT [] s e s' := fun h => by
  unfold deadT at h
  cases h
theorem runs_dead {Γ : Ctx} {p : Pos} {fs : List Frame} {s s' : Shared} {e : End} (h : Runs M Γ p deadT fs s e s') : False := by
  cases fs with
  | nil => exact runs_dead0 h
  | cons F fs =>
    unfold deadT at h
    cases h with
    | segRet h1 _ => exact runs_dead0 h1
    | segGen h1 _ => exact runs_dead0 h1
    | segSuspOut _ h1 => exact runs_dead0 h1
    | segSuspGen _ h1 _ _ => exact runs_dead0 h1
def Frame.isG : Frame → Bool
  | .gen .. => true
  | _ => false
def Frame.lay : Frame → Frame
  | .gen _ _ l c p => .ret (fun _ => deadT) none false l c p []
  | F => F
theorem Frame.lay_where (F : Frame) : F.lay.where_ = F.where_ := by cases F <;> rfl
theorem Frame.lay_isG (F : Frame) : F.lay.isG = false := by cases F <;> rfl
theorem lay_wheres (fs : List Frame) : (fs.map Frame.lay).map Frame.where_ = fs.map Frame.where_ := by
  rw [List.map_map]
  exact List.map_congr_left fun F _ => F.lay_where
def GenState.susp : GenState → Bool
  | .suspended .. => true
  | _ => false
def GenState.still : GenState → GenState
  | .suspended _ l c p fs cl => .suspended (fun _ => deadT) l c p (fs.map Frame.lay) cl
  | x => x
theorem GenState.still_seen (x : GenState) : x.still.seen = x.seen := by
  cases x with
  | suspended k l c p fs cl =>
    show (GenStatus.suspended, some ((c, p) :: (fs.map Frame.lay).map Frame.where_)) = _
    rw [lay_wheres] <;> rfl
  | _ => rfl
theorem GenState.still_bare (x : GenState) : x.still.bare = x.bare := by cases x <;> rfl
def GenState.Flat : GenState → Prop
  | .suspended _ _ _ _ fs _ => ∀ F ∈ fs, F.isG = false
  | _ => True
theorem GenState.still_flat (x : GenState) : x.still.Flat := by
  cases x with
  | suspended k l c p fs cl =>
    intro F hF
    obtain ⟨F', _, rfl⟩ := List.mem_map.mp hF
    exact F'.lay_isG
  | _ => trivial
def End.Flat : End → Prop
  | .susp _ _ _ _ _ _ fs => ∀ F ∈ fs, F.isG = false
  | _ => True
theorem End.Flat.gen {e : End} (h : e.Flat) : e.genState.Flat := by
  cases e with
  | ret r => trivial
  | susp v g l k c p fs => exact h
def Slp (o : Array GenState) (i : Nat) : Prop := ∃ y, o[i]? = some y ∧ y.susp = true
structure Poi (o a b : Array GenState) : Prop where
  size : a.size = b.size
  le : o.size ≤ a.size
  poi : ∀ (i : Nat) (y : GenState), o[i]? = some y → y.susp = true → a[i]? = some y.still ∧ b[i]? = some y
  same : ∀ (i : Nat), ¬ Slp o i → a[i]? = b[i]?
theorem Poi.seen {o a b : Array GenState} (h : Poi o a b) {i : Nat} {y : GenState} (e : a[i]? = some y) : ∃ z, b[i]? = some z ∧ z.seen = y.seen := by
  by_cases q : Slp o i
  · obtain ⟨z, h1, h2⟩ := q
    obtain ⟨h3, h4⟩ := h.poi i z h1 h2
    rw [h3] at e
    cases e
    exact ⟨z, h4, z.still_seen.symm⟩
  · exact ⟨y, (h.same i q).symm.trans e, rfl⟩
theorem GenState.still_susp (x : GenState) : x.still.susp = x.susp := by cases x <;> rfl
theorem Poi.awk {o a b : Array GenState} (h : Poi o a b) {g : Nat} {x : GenState} (e : a[g]? = some x) (hx : x.susp = false) : ¬ Slp o g := fun ⟨y, h1, h2⟩ => by
  have := (h.poi g y h1 h2).1
  rw [e] at this
  rw [Option.some.inj this, y.still_susp, h2] at hx
  cases hx
theorem Poi.awk2 {o a b : Array GenState} (h : Poi o a b) {g : Nat} {k : Resume → Sem Fin} {l : List Value} {c : Code} {p : Pos} {fs : List Frame} {cl : Bool} (e : a[g]? = some (.suspended k l c p fs cl)) (hk : k = (fun _ => deadT) → False) : ¬ Slp o g := fun ⟨y, h1, h2⟩ => by
  have := (h.poi g y h1 h2).1
  rw [e] at this
  cases y with
  | suspended k' l' c' p' fs' cl' =>
    have := Option.some.inj this
    unfold GenState.still at this
    injection this with q
    exact hk q
  | _ => cases h2
theorem Poi.set {o a b : Array GenState} (h : Poi o a b) {g : Nat} (hg : ¬ Slp o g) (x : GenState) : Poi o (a.setIfInBounds g x) (b.setIfInBounds g x) where
  size := by rw [Array.size_setIfInBounds, Array.size_setIfInBounds]; exact h.size
  le := by rw [Array.size_setIfInBounds]; exact h.le
  poi := fun i y e s => by
    have ne : g ≠ i := fun q => hg (q ▸ ⟨y, e, s⟩)
    rw [Array.getElem?_setIfInBounds_ne ne, Array.getElem?_setIfInBounds_ne ne]
    exact h.poi i y e s
  same := fun i q => by
    rw [Array.getElem?_setIfInBounds, Array.getElem?_setIfInBounds, h.size, h.same i q]
theorem Poi.push {o a b : Array GenState} (h : Poi o a b) (x : GenState) : Poi o (a.push x) (b.push x) where
  size := by rw [Array.size_push, Array.size_push, h.size]
  le := by rw [Array.size_push]; exact Nat.le_succ_of_le h.le
  poi := fun i y e s => by
    have hi : i < o.size := (Array.getElem?_eq_some_iff.mp e).1
    have h1 : i ≠ a.size := Nat.ne_of_lt (Nat.lt_of_lt_of_le hi h.le)
    rw [Array.getElem?_push, Array.getElem?_push, if_neg h1, if_neg (h.size ▸ h1)]
    exact h.poi i y e s
  same := fun i q => by
    rw [Array.getElem?_push, Array.getElem?_push, h.size, h.same i q]
def AllFlat (a : Array GenState) : Prop := ∀ (i : Nat) (y : GenState), a[i]? = some y → y.Flat
theorem AllFlat.set {a : Array GenState} (h : AllFlat a) {g : Nat} {x : GenState} (hx : x.Flat) : AllFlat (a.setIfInBounds g x) := fun i y e => by
  rw [Array.getElem?_setIfInBounds] at e
  split at e
  · split at e
    · cases e; exact hx
    · cases e
  · exact h i y e
theorem AllFlat.push {a : Array GenState} (h : AllFlat a) {x : GenState} (hx : x.Flat) : AllFlat (a.push x) := fun i y e => by
  rw [Array.getElem?_push] at e
  split at e
  · cases e; exact hx
  · exact h i y e
theorem split_none : ∀ {fs : List Frame}, splitAtGen fs = none → ∀ F ∈ fs, F.isG = false
  | [], _, F, h => nomatch h
  | .gen .. :: fs, e, F, h => by cases e
  | .ret k hd g l c p kp :: fs, e, F, h => by
    have e' : splitAtGen fs = none := by
      unfold splitAtGen at e
      exact Option.map_eq_none_iff.mp e
    rcases List.mem_cons.mp h with q | q
    · rw [q]; rfl
    · exact split_none e' F q
theorem split_some : ∀ {fs pre rest : List Frame} {g : Nat} {k : GenResult → Sem Fin} {c : Code} {p : Pos}, splitAtGen fs = some (pre, (g, k, c, p), rest) → (∀ F ∈ pre, F.isG = false) ∧ ∃ l, fs = pre ++ .gen g k l c p :: rest
  | [], pre, rest, g, k, c, p, e => by cases e
  | .gen g' k' l' c' p' :: fs, pre, rest, g, k, c, p, e => by
    unfold splitAtGen at e
    cases e
    exact ⟨fun F h => (nomatch h), l', rfl⟩
  | .ret k' hd g' l' c' p' kp :: fs, pre, rest, g, k, c, p, e => by
    unfold splitAtGen at e
    obtain ⟨⟨fs2, b2, r2⟩, e1, e2⟩ := Option.map_eq_some_iff.mp e
    cases e2
    obtain ⟨h1, l, h2⟩ := split_some e1
    refine ⟨fun F h => ?_, l, by rw [h2] <;> rfl⟩
    rcases List.mem_cons.mp h with q | q
    · rw [q]; rfl
    · exact h1 F q
def NoS (o : Array GenState) (fs : List Frame) : Prop := ∀ g k l c p, Frame.gen g k l c p ∈ fs → ¬ Slp o g
theorem noS_flat {o : Array GenState} {fs : List Frame} (h : ∀ F ∈ fs, F.isG = false) : NoS o fs := fun g k l c p hm => by
  have := h _ hm
  cases this
theorem noS_nil {o : Array GenState} : NoS o [] := fun _ _ _ _ _ h => nomatch h
theorem NoS.tail {o : Array GenState} {F : Frame} {fs : List Frame} (h : NoS o (F :: fs)) : NoS o fs := fun g k l c p hm => h g k l c p (List.mem_cons_of_mem _ hm)
theorem Runs.asleep {o : Array GenState} {Γ : Ctx} {p : Pos} {t : Sem Fin} {fs : List Frame} {s s' : Shared} {e : End} (h : Runs M Γ p t fs s e s') :
    ∀ b, Poi o s.gens b → AllFlat s.gens → NoS o fs → ∃ b', Runs M Γ p t fs { s with gens := b } e { s' with gens := b' } ∧ Poi o s'.gens b' ∧ AllFlat s'.gens ∧ e.Flat := by
  induction h with
  | done => exact fun b P F _ => ⟨b, .done, P, F, trivial⟩
  | raise => exact fun b P F _ => ⟨b, .raise, P, F, trivial⟩
  | again hq _ ih => intro b P F N; obtain ⟨b', r, q⟩ := ih b P F noS_nil; exact ⟨b', .again hq r, q⟩
  | rule _ ih => intro b P F N; obtain ⟨b', r, q⟩ := ih b P F noS_nil; exact ⟨b', .rule r, q⟩
  | «at» _ ih => intro b P F N; obtain ⟨b', r, q⟩ := ih b P F noS_nil; exact ⟨b', .at r, q⟩
  | load ho _ ih => intro b P F N; obtain ⟨b', r, q⟩ := ih b P F noS_nil; exact ⟨b', .load ho r, q⟩
  | update ho _ ih => intro b P F N; obtain ⟨b', r, q⟩ := ih b P F noS_nil; exact ⟨b', .update ho r, q⟩
  | loadIfAlive _ ih => intro b P F N; obtain ⟨b', r, q⟩ := ih b P F noS_nil; exact ⟨b', .loadIfAlive r, q⟩
  | point _ ih => intro b P F N; obtain ⟨b', r, q⟩ := ih b P F noS_nil; exact ⟨b', .point r, q⟩
  | alloc _ ih => intro b P F N; obtain ⟨b', r, q⟩ := ih b P F noS_nil; exact ⟨b', .alloc r, q⟩
  | fresh _ ih => intro b P F N; obtain ⟨b', r, q⟩ := ih b P F noS_nil; exact ⟨b', .fresh r, q⟩
  | ask _ ih => intro b P F N; obtain ⟨b', r, q⟩ := ih b P F noS_nil; exact ⟨b', .ask r, q⟩
  | choose hn _ ih => intro b P F N; obtain ⟨b', r, q⟩ := ih b P F noS_nil; exact ⟨b', .choose hn r, q⟩
  | os _ ih => intro b P F N; obtain ⟨b', r, q⟩ := ih b P F noS_nil; exact ⟨b', .os r, q⟩
  | handled _ ih => intro b P F N; obtain ⟨b', r, q⟩ := ih b P F noS_nil; exact ⟨b', .handled r, q⟩
  | genState hg _ ih =>
    intro b P F N
    obtain ⟨b', r, q⟩ := ih b P F noS_nil
    obtain ⟨z, hz, es⟩ := P.seen hg
    exact ⟨b', .genState hz (by rw [es]; exact r), q⟩
  | stack _ ih => intro b P F N; obtain ⟨b', r, q⟩ := ih b P F noS_nil; exact ⟨b', .stack r, q⟩
  | thread _ ih => intro b P F N; obtain ⟨b', r, q⟩ := ih b P F noS_nil; exact ⟨b', .thread r, q⟩
  | newGen _ ih =>
    intro b P F N
    obtain ⟨b', r, q⟩ := ih _ (P.push _) (F.push trivial) noS_nil
    refine ⟨b', .newGen ?_, q⟩
    rw [P.size] at r
    exact r
  | call _ _ ih1 ih2 =>
    intro b P F N
    obtain ⟨b1, r1, P1, F1, _⟩ := ih1 b P F noS_nil
    obtain ⟨b2, r2, q⟩ := ih2 b1 P1 F1 noS_nil
    exact ⟨b2, .call r1 r2, q⟩
  | callSusp _ ih =>
    intro b P F N
    obtain ⟨b1, r1, P1, F1, E1⟩ := ih b P F noS_nil
    refine ⟨b1, .callSusp r1, P1, F1, fun G hG => ?_⟩
    rcases List.mem_append.mp hG with q | q
    · exact E1 G q
    · rw [List.mem_singleton.mp q]; rfl
  | yield => exact fun b P F _ => ⟨b, .yield, P, F, fun _ h => nomatch h⟩
  | resumeFresh hg _ hq _ ih1 ih2 =>
    intro b P F N
    have ns := P.awk hg rfl
    have hb := (P.same _ ns).symm.trans hg
    obtain ⟨b1, r1, P1, F1, E1⟩ := ih1 _ (P.set ns .running) (F.set trivial) noS_nil
    obtain ⟨b2, r2, q⟩ := ih2 _ (P1.set ns _) (F1.set E1.gen) noS_nil
    exact ⟨b2, .resumeFresh hb r1 hq r2, q⟩
  | resumeSuspended hg h1 hq _ ih1 ih2 =>
    intro b P F N
    have ns := P.awk2 hg fun q => by rw [q] at h1; exact runs_dead h1
    have hb := (P.same _ ns).symm.trans hg
    obtain ⟨b1, r1, P1, F1, E1⟩ := ih1 _ (P.set ns .running) (F.set trivial) (noS_flat (F _ _ hg))
    obtain ⟨b2, r2, q⟩ := ih2 _ (P1.set ns _) (F1.set E1.gen) noS_nil
    exact ⟨b2, .resumeSuspended hb r1 hq r2, q⟩
  | resumeJustStarted hg hv _ ih =>
    intro b P F N
    have ns := P.awk hg rfl
    obtain ⟨b2, r2, q⟩ := ih b P F noS_nil
    exact ⟨b2, .resumeJustStarted ((P.same _ ns).symm.trans hg) hv r2, q⟩
  | resumeThrowFresh hg _ ih =>
    intro b P F N
    have ns := P.awk hg rfl
    obtain ⟨b2, r2, q⟩ := ih _ (P.set ns .finished) (F.set trivial) noS_nil
    exact ⟨b2, .resumeThrowFresh ((P.same _ ns).symm.trans hg) r2, q⟩
  | resumeRunning hg _ ih =>
    intro b P F N
    have ns := P.awk hg rfl
    obtain ⟨b2, r2, q⟩ := ih b P F noS_nil
    exact ⟨b2, .resumeRunning ((P.same _ ns).symm.trans hg) r2, q⟩
  | resumeFinished hg _ ih =>
    intro b P F N
    have ns := P.awk hg rfl
    obtain ⟨b2, r2, q⟩ := ih b P F noS_nil
    exact ⟨b2, .resumeFinished ((P.same _ ns).symm.trans hg) r2, q⟩
  | segRet _ _ ih1 ih2 =>
    intro b P F N
    obtain ⟨b1, r1, P1, F1, _⟩ := ih1 b P F noS_nil
    obtain ⟨b2, r2, q⟩ := ih2 b1 P1 F1 N.tail
    exact ⟨b2, .segRet r1 r2, q⟩
  | segGen _ _ ih1 ih2 =>
    intro b P F N
    have ns := N _ _ _ _ _ List.mem_cons_self
    obtain ⟨b1, r1, P1, F1, _⟩ := ih1 b P F noS_nil
    obtain ⟨b2, r2, q⟩ := ih2 _ (P1.set ns .finished) (F1.set trivial) N.tail
    exact ⟨b2, .segGen r1 r2, q⟩
  | segSuspOut hs _ ih =>
    intro b P F N
    obtain ⟨b1, r1, P1, F1, E1⟩ := ih b P F noS_nil
    refine ⟨b1, .segSuspOut hs r1, P1, F1, fun G hG => ?_⟩
    rcases List.mem_append.mp hG with q | q
    · exact E1 G q
    · exact split_none hs G q
  | segSuspGen hs _ hq _ ih1 ih2 =>
    intro b P F N
    obtain ⟨hp, l, efs⟩ := split_some hs
    have ns := N _ _ _ _ _ (by rw [efs]; exact List.mem_append_right _ List.mem_cons_self)
    obtain ⟨b1, r1, P1, F1, E1⟩ := ih1 b P F noS_nil
    obtain ⟨b2, r2, q⟩ := ih2 _ (P1.set ns _) (F1.set (show GenState.Flat (End.genState (.susp _ _ _ _ _ _ _)) from fun G hG => (List.mem_append.mp hG).elim (E1 G) (hp G))) fun g' k' l' c' p' hm => N g' k' l' c' p' (by rw [efs]; exact List.mem_append_right _ (List.mem_cons_of_mem _ hm))
    exact ⟨b2, .segSuspGen hs r1 hq r2, q⟩
theorem Wakes.asleep {o : Array GenState} {Γ : Ctx} {p : Pos} {g : Nat} {r : Resume} {s s' : Shared} {res : GenResult} (h : Wakes M Γ p g r s res s') {b : Array GenState} (P : Poi o s.gens b) (F : AllFlat s.gens) :
    ∃ b', Wakes M Γ p g r { s with gens := b } res { s' with gens := b' } ∧ Poi o s'.gens b' ∧ AllFlat s'.gens := by
  unfold Wakes at h
  cases hg : s.gens[g]? with
  | none => rw [hg] at h; exact h.elim
  | some x =>
    rw [hg] at h
    cases x with
    | fresh c =>
      have ns := P.awk hg rfl
      have hb : b[g]? = some (.fresh c) := (P.same _ ns).symm.trans hg
      have hb' : ({ s with gens := b } : Shared).gens[g]? = some (.fresh c) := hb
      cases r with
      | send v =>
        by_cases hv : v = .none
        · subst hv
          obtain ⟨e₁, s₁, h1, h2, h3, h4⟩ := h
          obtain ⟨b1, r1, P1, F1, E1⟩ := h1.asleep _ (P.set ns .running) (F.set trivial) noS_nil
          subst h4
          refine ⟨_, ?_, P1.set ns _, F1.set E1.gen⟩
          unfold Wakes
          rw [hb']
          exact ⟨e₁, _, r1, h2, h3, rfl⟩
        · have h' : res = .justStarted ∧ s' = s := by
            cases v <;> first | exact absurd rfl hv | exact h
          obtain ⟨h1, h2⟩ := h'
          subst h2
          refine ⟨b, ?_, P, F⟩
          unfold Wakes
          rw [hb']
          cases v <;> first | exact absurd rfl hv | exact ⟨h1, rfl⟩
      | throw x =>
        obtain ⟨h1, h2⟩ := h
        subst h2
        refine ⟨_, ?_, P.set ns _, F.set trivial⟩
        unfold Wakes
        rw [hb']
        exact ⟨h1, rfl⟩
    | suspended k₀ l₀ c₀ p₀ fs cl =>
      obtain ⟨e₁, s₁, h1, h2, h3, h4⟩ := h
      have ns := P.awk2 hg fun q => by rw [q] at h1; exact runs_dead h1
      have hb : b[g]? = some (.suspended k₀ l₀ c₀ p₀ fs cl) := (P.same _ ns).symm.trans hg
      obtain ⟨b1, r1, P1, F1, E1⟩ := h1.asleep _ (P.set ns .running) (F.set trivial) (noS_flat (F _ _ hg))
      subst h4
      refine ⟨_, ?_, P1.set ns _, F1.set E1.gen⟩
      unfold Wakes
      rw [show ({ s with gens := b } : Shared).gens[g]? = some (.suspended k₀ l₀ c₀ p₀ fs cl) from hb]
      exact ⟨e₁, _, r1, h2, h3, rfl⟩
    | running =>
      obtain ⟨h1, h2⟩ := h
      subst h2
      refine ⟨b, ?_, P, F⟩
      unfold Wakes
      rw [show ({ s' with gens := b } : Shared).gens[g]? = some .running from (P.same _ (P.awk hg rfl)).symm.trans hg]
      exact ⟨h1, rfl⟩
    | finished =>
      obtain ⟨h1, h2⟩ := h
      subst h2
      refine ⟨b, ?_, P, F⟩
      unfold Wakes
      rw [show ({ s' with gens := b } : Shared).gens[g]? = some .finished from (P.same _ (P.awk hg rfl)).symm.trans hg]
      exact ⟨h1, rfl⟩
def Aslp {α : Type} (o : Array GenState) (Q : α → Pos → Shared → Prop) (a : α) (p : Pos) (s : Shared) : Prop := ∃ g, Poi o g s.gens ∧ AllFlat g ∧ Q a p { s with gens := g }
theorem wp_asleep {α : Type} {o : Array GenState} {Γ : Ctx} {Q : α → Pos → Shared → Prop} {E : Value → Pos → Shared → Prop} (t : Sem α) : ∀ {p : Pos} {s : Shared} {b : Array GenState}, Sem.wp M Γ t Q E p s → Poi o s.gens b → AllFlat s.gens →
    Sem.wp M Γ t (Aslp o Q) (Aslp o E) p { s with gens := b } := by
  induction t with
  | pure a => exact fun {p s b} h P F => ⟨s.gens, P, F, h⟩
  | raise x => exact fun {p s b} h P F => ⟨s.gens, P, F, h⟩
  | unsupported what => exact fun {p s b} h P F => h.elim
  | finish x => exact fun {p s b} h P F => h.elim
  | register a k => exact fun {p s b} h P F => h.elim
  | yield v g l k => exact fun {p s b} h P F => h.elim
  | fork c k => exact fun {p s b} h P F => h.elim
  | await a f d l k => exact fun {p s b} h P F => h.elim
  | rule tag k ih => exact fun {p s b} h P F => ih () (s := s) h P F
  | «at» p' k ih => exact fun {p s b} h P F => ih () (s := s) h P F
  | load a part k ih => exact fun {p s b} ⟨ob, ho, h⟩ P F => ⟨ob, ho, ih ob (s := s) h P F⟩
  | update a part f k ih => exact fun {p s b} ⟨ho, h⟩ P F => ⟨ho, ih () (s := { s with heap := s.heap.update a f }) h P F⟩
  | alloc ob k ih => exact fun {p s b} h P F => ih _ (s := { s with heap := s.heap.push ob }) h P F
  | loadIfAlive a k ih => exact fun {p s b} h P F => ih _ (s := s) h P F
  | point l k ih => exact fun {p s b} h P F => ih () (s := s) h P F
  | fresh k ih => exact fun {p s b} h P F => ih _ (s := { s with toks := s.toks + 1 }) h P F
  | ask k ih => exact fun {p s b} h P F => ih _ (s := s) h P F
  | choose src n k ih => exact fun {p s b} ⟨hn, h⟩ P F => ⟨hn, ih _ (s := { s with drawn := s.drawn.bump src }) h P F⟩
  | os q l k ih => exact fun {p s b} h P F => ih _ (s := { s with os := (Os.step s.os q).1 }) h P F
  | call c h g l k ih =>
    exact fun {p s b} ⟨r, s₁, hr, hk⟩ P F => by
      obtain ⟨b1, r1, P1, F1, _⟩ := Runs.asleep hr b P F noS_nil
      exact ⟨r, _, r1, ih r (s := s₁) hk P1 F1⟩
  | handled own k ih => exact fun {p s b} h P F => ih _ (s := s) h P F
  | newGen c k ih =>
    exact fun {p s b} h P F => by
      have := ih _ (s := { s with gens := s.gens.push (.fresh c) }) h (P.push _) (F.push trivial)
      show Sem.wp M Γ (k b.size) _ _ _ _
      rw [P.size] at this
      exact this
  | genState g k ih =>
    exact fun {p s b} ⟨st, hg, h⟩ P F => by
      obtain ⟨z, hz, es⟩ := P.seen hg
      exact ⟨z, hz, by rw [es]; exact ih _ (s := s) h P F⟩
  | resume g r l k ih =>
    exact fun {p s b} ⟨res, s₁, hw, h⟩ P F => by
      obtain ⟨b1, w1, P1, F1⟩ := hw.asleep P F
      exact ⟨res, _, w1, ih res (s := s₁) h P1 F1⟩
  | stack k ih => exact fun {p s b} h P F => ih _ (s := s) h P F
  | thread k ih => exact fun {p s b} h P F => ih _ (s := s) h P F
def Shared.still (s : Shared) : Shared := { s with gens := s.gens.map GenState.still }
theorem poi_still (a : Array GenState) : Poi a (a.map GenState.still) a where
  size := Array.size_map
  le := by rw [Array.size_map]; exact Nat.le_refl _
  poi := fun i y e _ => ⟨by rw [Array.getElem?_map, e] <;> rfl, e⟩
  same := fun i h => by
    rw [Array.getElem?_map]
    cases e : a[i]? with
    | none => rfl
    | some y =>
      have : y.susp = false := by
        cases q : y.susp with
        | false => rfl
        | true => exact absurd ⟨y, e, q⟩ h
      cases y <;> first | rfl | cases this
theorem flat_still (a : Array GenState) : AllFlat (a.map GenState.still) := fun i y e => by
  rw [Array.getElem?_map] at e
  obtain ⟨z, _, rfl⟩ := Option.map_eq_some_iff.mp e
  exact z.still_flat
structure SlKept (s s' : Shared) : Prop where
  gens : ∀ (i : Nat) (y : GenState), s.gens[i]? = some y → y.susp = true → s'.gens[i]? = some y
  size : s.gens.size ≤ s'.gens.size
end
end PySem
namespace PySem
def Heap.cut (h : Heap) (n : Nat) : Heap := { h with objs := h.objs.extract 0 n }
theorem Heap.cut_size {h : Heap} {n : Nat} (hn : n ≤ h.objs.size) : (h.cut n).objs.size = n := by
  unfold Heap.cut
  rw [Array.size_extract]
  omega
theorem Heap.cut_get {h : Heap} {n b : Nat} : (h.cut n).get? b = if b < n then h.get? b else none := by
  unfold Heap.cut Heap.get?
  by_cases hb : b < n
  · rw [if_pos hb]
    have : (h.objs.extract 0 n)[b]? = h.objs[b]? := by
      rw [Array.getElem?_extract]
      simp only [Nat.zero_add, Nat.sub_zero]
      by_cases h2 : b < h.objs.size
      · rw [if_pos (by omega)]
      · rw [if_neg (by omega), Array.getElem?_eq_none (by omega)]
    rw [this]
  · rw [if_neg hb]
    have : (h.objs.extract 0 n)[b]? = none := by
      rw [Array.getElem?_extract]
      exact if_neg (by omega)
    rw [this]
theorem Heap.cut_some {h : Heap} {n b : Nat} {o : Obj} (e : (h.cut n).get? b = some o) : b < n ∧ h.get? b = some o := by
  rw [Heap.cut_get] at e
  split at e
  · exact ⟨by assumption, e⟩
  · cases e
theorem Heap.cut_of {h : Heap} {n b : Nat} {o : Obj} (e : h.get? b = some o) (hb : b < n) : (h.cut n).get? b = some o := by
  rw [Heap.cut_get, if_pos hb, e]
theorem Heap.FunFrames.cut {h base : Heap} {n : Nat} : ∀ {l : List Env}, h.FunFrames base l → (∀ b ∈ l.filterMap (·.frame), b < n) → (h.cut n).FunFrames base l
  | [], _, _ => trivial
  | env :: rest, ⟨hk, ⟨L, o, hf, hn, ho, hd⟩, hr⟩, hb => by
    rw [List.filterMap_cons, hf] at hb
    exact ⟨hk, ⟨L, o, hf, hn, Heap.cut_of ho (hb L List.mem_cons_self), hd⟩, Heap.FunFrames.cut hr fun b h => hb b (List.mem_cons_of_mem _ h)⟩
end PySem
namespace L2
open PySem PySem.Spec PyProof.Rows GenW
abbrev Cx.n0 (X : Cx) : Nat := X.s_0.heap.objs.size
def Cx.reb (X : Cx) (s : Shared) (H : Hp) : Cx := { X with s_0 := { s with heap := s.heap.cut X.n0 }, H_0 := H }
def young (n m : Nat) : List Addr := List.range' n (m - n)
theorem young_ge {n m b : Nat} (hb : b ∈ young n m) : n ≤ b := by
  unfold young at hb
  rw [List.mem_range'_1] at hb
  omega
def Cx.own (X : Cx) (ip : List (Addr × Obj)) (h : Heap) : List (Addr × Obj) := pinsAt [X.env.locals] h ++ (X.pn ++ ip)
structure Back (X : Cx) (own : List (Addr × Obj)) (H' : Hp) (s' : Shared) : Prop where
  bare : AllBare s'.gens
  base : ∀ b o, X.base.get? b = some o → s'.heap.get? b = some o ∧ H' b = none
  own : ∀ p ∈ own, s'.heap.get? p.1 = some p.2 ∧ H' p.1 = none
  hok : HOk X.prog X.w H' s'.heap
  funs : s'.heap.FunFrames X.base X.outer
  fr : ∀ b ∈ X.fs, H' b = none
structure Tk (H H' : Hp) : Prop where
  tups : ∀ b xs, H b = some (.tup xs) → H' b = some (.tup xs)
  frzs : ∀ b o u, H b = some (.frz o u) → H' b = some (.frz o u)
theorem Tk.refl {H : Hp} : Tk H H := ⟨fun _ _ e => e, fun _ _ _ e => e⟩
theorem Tk.trans {H H' H2 : Hp} (a : Tk H H') (b : Tk H' H2) : Tk H H2 := ⟨fun c xs e => b.tups c xs (a.tups c xs e), fun c o u e => b.frzs c o u (a.frzs c o u e)⟩
theorem Un.tk {fs ex : List Addr} {H H' : Hp} {h h' : Heap} (u : Un fs ex H H' h h') : Tk H H' := ⟨u.tups, u.frzs⟩
theorem Inv.reb {X : Cx} {ip : List (Addr × Obj)} {σ : St} {H1 H' : Hp} {s1 s' : Shared} (I : Inv X ip σ H1 s1) (hex : X.ex = []) (hc : X.env.cells = []) (B : Back X (X.own ip s1.heap) H' s') : Inv (X.reb s' H') ip σ H' s' ∧ (X.reb s' H').n0 = X.n0 := by
  obtain ⟨m, ⟨oL, es, ep, hoL, rL⟩, hl⟩ := I.loc
  have hL := B.own (X.env.locals, oL) (List.mem_append_left _ (mem_pinsAt (List.mem_singleton.mpr rfl) hoL))
  have hp : ∀ p ∈ X.pn ++ ip, s'.heap.get? p.1 = some p.2 ∧ H' p.1 = none := fun p hp => B.own p (List.mem_append_right _ hp)
  have hlt : X.n0 ≤ s'.heap.objs.size := Nat.le_trans I.ok.above (Nat.le_of_lt (Heap.lt_size hL.1))
  have hsz : (s'.heap.cut X.n0).objs.size = X.n0 := Heap.cut_size hlt
  have hfl : ∀ b ∈ X.fs, b < X.n0 := fun b hb => by
    obtain ⟨_, o, ho, _⟩ := I.ok.funs.mem hb
    exact Heap.lt_size ho
  have nocell : ∀ {x : Str} {c : Addr}, X.env.cells.lookup x = some c → False := fun {x c} e => by rw [hc] at e; cases e
  have ok : (X.reb s' H').Ok :=
    { mod := I.ok.mod, kind := I.ok.kind, glob := I.ok.glob, blt := I.ok.blt
      above := by show (s'.heap.cut X.n0).objs.size ≤ _; rw [hsz]; exact I.ok.above
      inj := I.ok.inj, has := I.ok.has
      cab := fun x c _ e => (nocell e).elim
      hd := I.ok.hd, frames := I.ok.frames, stk := I.ok.stk, exf := I.ok.exf
      bs := fun b o e => by
        have h1 := Heap.lt_size e
        exact ⟨Heap.cut_of (B.base b o e).1 (Nat.lt_of_lt_of_le h1 I.ok.bsz), (B.base b o e).2⟩
      bsz := by show _ ≤ (s'.heap.cut X.n0).objs.size; rw [hsz]; exact I.ok.bsz
      noex := I.ok.noex, exfs := I.ok.exfs
      funs := Heap.FunFrames.cut B.funs hfl
      frf := B.fr }
  refine ⟨?_, hsz⟩
  refine ⟨ok, rfl, B.bare, ⟨fun b o e _ _ _ => (Heap.cut_some e).2, fun b o e _ _ _ => ⟨o.slots, (Heap.cut_some e).2⟩, fun b o _ n _ => n, fun b o e _ => ⟨o, (Heap.cut_some e).2⟩, fun _ _ e => e, fun _ _ _ e => e, fun b ps e => ⟨#[], by simpa using (show H' b = some (.tbl ps) from e)⟩⟩, ⟨m, ⟨oL, es, ep, hL.1, rL⟩, fun i x v e1 e2 e3 => ?_⟩, fun x c e => (nocell e).elim, hL.2, fun x c e => (nocell e).elim, fun p h => ?_, B.hok, I.len⟩
  · obtain ⟨u, r, l⟩ := hl i x v e1 e2 e3
    refine ⟨u, r, ?_⟩
    rcases l with l | ⟨_, c, e, _⟩
    · exact .inl l
    · exact (nocell e).elim
  · obtain ⟨_, _, h3, h4, h5⟩ := I.pin p h
    obtain ⟨h1, h2⟩ := hp p h
    exact ⟨h1, h2, h3, h4, h5⟩
def Le (H H' : Hp) : Prop := (∀ b o, H b = some o → (∀ ps, o ≠ .tbl ps) → H' b = some o) ∧ ∀ b, H' b = none → H b = none
theorem Le.refl {H : Hp} : Le H H := ⟨fun _ _ e _ => e, fun _ e => e⟩
theorem Le.trans {H H' H2 : Hp} (a : Le H H') (b : Le H' H2) : Le H H2 := ⟨fun c o e n => b.1 c o (a.1 c o e n) n, fun c e => a.2 c (b.2 c e)⟩
theorem Le.tk {H H' : Hp} (a : Le H H') : Tk H H' := ⟨fun c xs e => a.1 c _ e fun _ q => (nomatch q), fun c o u e => a.1 c _ e fun _ q => (nomatch q)⟩
structure Outs (X : Cx) (H H' : Hp) (s s' : Shared) : Prop where
  os : s'.os = s.os
  bare : AllBare s'.gens
  un : Un X.fs (young X.n0 s.heap.objs.size) H H' s.heap s'.heap
  hok : HOk X.prog X.w H' s'.heap
  le : Le H H'
end L2
namespace L2
open PySem PySem.Spec PyProof.Rows GenW
open Sem (wp)
end L2
namespace PySem
open Sem (wp)
def DvEnd (R : Result → Shared → Prop) (Y : Value → Shared → GenState → Prop) (e : End) (s : Shared) : Prop := match e with
  | .ret r => R r s
  | .susp v g l k c p fs => (End.susp v g l k c p fs).quiet = true ∧ Y v s (End.susp v g l k c p fs).genState
def Dv (M : Model) (A : Around) (R : Result → Shared → Prop) (Y : Value → Shared → GenState → Prop) (c : Code) (t : Sem Fin) (fs : List Frame) (s : Shared) : Prop :=
  ∀ (Γ : Ctx) (p : Pos), Γ.code = c → Γ.Woken A → ∃ e s', Runs M Γ p t fs s e s' ∧ DvEnd R Y e s'
section
variable {M : Model} {A : Around} {R : Result → Shared → Prop} {Y : Value → Shared → GenState → Prop} {c : Code} {fs : List Frame} {s : Shared}
def GenState.Dvs (M : Model) (A : Around) (R : Result → Shared → Prop) (Y : Value → Shared → GenState → Prop) (gs : GenState) (s : Shared) : Prop := match gs with
  | .fresh c => Dv M A R Y c (M.den c) [] s
  | .suspended k _ c _ fs _ => Dv M A R Y c (k (.send .none)) fs s
  | _ => False
variable {env : Env} {K : Flow → Sem Fin} {H : Value → Sem Fin} {gd : Bool → Bool} {lv : List Value → List Value}
end
end PySem
namespace L2
open PySem PySem.Spec PyProof.Rows GenW
open Sem (wp)
def PrK (pr : List (Nat × GenState)) (s : Shared) : Prop := ∀ p ∈ pr, s.gens[p.1]? = some p.2
def PrOk (g : Nat) (pr : List (Nat × GenState)) (s : Shared) : Prop := ∀ p ∈ pr, g < p.1 ∧ p.2.susp = true ∧ s.gens[p.1]? = some p.2
def OwnOk (X : Cx) (own : List (Addr × Obj)) (H : Hp) (s : Shared) : Prop := ∀ p ∈ own, X.n0 ≤ p.1 ∧ s.heap.get? p.1 = some p.2 ∧ H p.1 = none ∧ ∀ v, p.2.data ≠ .cell v
def Kn (f H H' : Hp) : Hp := fun a => match f a with
  | some o => some o
  | none => match H a with
    | some _ => none
    | none => match H' a with
      | some (.frz ob (.tup xs)) => some (.frz ob (.tup xs))
      | _ => none
def Tsb (f H : Hp) : Prop := ∀ a ob xs, f a = some (.frz ob (.tup xs)) → H a = some (.frz ob (.tup xs))
def Dlv {α : Type} (Rp : Hp → α → V → Prop) (X : Cx) (A : Around) (a : Addr) (g : Nat) : List α → Hp → List (Addr × Obj) → List (Nat × GenState) → GenState → Prop
  | [], f, own, pr, gs => ∀ s' H', Back X own H' s' → Tsb f H' → PrK pr s' → g < s'.gens.size →
    gs.Dvs (model X.prog X.w) A (fun r s₁ => (r = .ok (.ret .none) ∨ r = .ok .next) ∧ ∃ H₁, Outs X H' H₁ s' s₁) (fun _ _ _ => False) s'
  | x :: xs, f, own, pr, gs => ∀ s' H', Back X own H' s' → Tsb f H' → PrK pr s' → g < s'.gens.size →
    gs.Dvs (model X.prog X.w) A (fun r s₁ => (r = .ok (.ret .none) ∨ r = .ok .next) ∧ False) (fun v s₁ gs' => ∃ u H₁ own' pr', RelV u v ∧ Rp (Kn f H' H₁) x u ∧ Outs X H' H₁ s' s₁ ∧ OwnOk X own' H₁ s₁ ∧ PrOk g pr' s₁ ∧ (∀ h : Heap, (∀ p ∈ own', h.get? p.1 = some p.2) → h.IsGen a g) ∧ Dlv Rp X A a g xs (Kn f H' H₁) own' pr' gs') s'
structure Asl {α : Type} (Rp : Hp → α → V → Prop) (X : Cx) (A : Around) (a : Addr) (g : Nat) (xs : List α) (f : Hp) (own : List (Addr × Obj)) (pr : List (Nat × GenState)) (H : Hp) (s : Shared) : Prop where
  isg : ∀ h : Heap, (∀ p ∈ own, h.get? p.1 = some p.2) → h.IsGen a g
  ow : OwnOk X own H s
  pk : PrOk g pr s
  lt : g < s.gens.size
  gs : ∃ gs, s.gens[g]? = some gs ∧ Dlv Rp X A a g xs f own pr gs
  kn : Tsb f H
structure Und (Xc : Cx) (pins : List (Addr × Obj)) (X : Cx) : Prop where
  prog : X.prog = Xc.prog
  w : X.w = Xc.w
  base : X.base = Xc.base
  outer : X.outer = Xc.stack
  ex : X.ex = []
  sz : Xc.s_0.heap.objs.size ≤ X.n0
  loc : Xc.env.locals < X.n0
  cell : ∀ x c, Xc.env.cells.lookup x = some c → c < X.n0
  pin : ∀ p ∈ Xc.pn ++ pins, p.1 < X.n0
section
variable {Xc X : Cx} {pins own : List (Addr × Obj)} {σ : St} {H H' : Hp} {s s' : Shared}
theorem Inv.gens (I : Inv Xc pins σ H s) {G : Array GenState} (hG : AllBare G) : Inv Xc pins σ H { s with gens := G } :=
  I.call' (ch := []) rfl Un.refl I.hok hG fun _ z => nomatch z
theorem Und.call (U : Und Xc pins X) (I : Inv Xc pins σ H s) (O : Outs X H H' s s') : Inv Xc pins σ H' s' := by
  have hun := O.un
  have e : X.fs = frs Xc.stack := by show frs X.outer = _; rw [U.outer]
  rw [e] at hun
  have hok := O.hok
  rw [U.prog, U.w] at hok
  refine I.call' O.os hun hok O.bare fun b hb => ?_
  have hge := young_ge hb
  refine ⟨.inr (Nat.le_trans U.sz hge), fun q => ?_, fun x c h q => ?_, fun p hp q => ?_⟩
  · have := U.loc; rw [← q] at this; exact absurd (Nat.lt_of_lt_of_le this hge) (Nat.lt_irrefl _)
  · have := U.cell x c h; rw [q] at this; exact absurd (Nat.lt_of_lt_of_le this hge) (Nat.lt_irrefl _)
  · have := U.pin p hp; rw [q] at this; exact absurd (Nat.lt_of_lt_of_le this hge) (Nat.lt_irrefl _)
variable {A : Around} {a : Addr} {g : Nat} {α : Type} {Rp : Hp → α → V → Prop} {xs : List α} {f : Hp} {pr : List (Nat × GenState)}
end
end L2
namespace L2
open PySem PySem.Spec PyProof.Rows GenW
def Cx.GenX (X : Cx) : Prop := ∀ e s o G, Poi o s.gens G → AllFlat s.gens → AllBare o → X.xe e s → X.xe e { s with gens := G }
theorem poi_bare {o a b : Array GenState} (h : Poi o a b) (ha : AllBare a) (ho : AllBare o) : AllBare b := fun y hy => by
  obtain ⟨i, hi, e⟩ := Array.mem_iff_getElem.mp hy
  have eb : b[i]? = some y := by rw [Array.getElem?_eq_some_iff]; exact ⟨hi, e⟩
  by_cases q : Slp o i
  · obtain ⟨z, h1, h2⟩ := q
    have := (h.poi i z h1 h2).2
    rw [eb] at this
    cases this
    exact ho y (Array.mem_of_getElem? h1)
  · exact ha y (Array.mem_of_getElem? ((h.same i q).trans eb))
section
variable {X : Cx} {pins : List (Addr × Obj)} {σ : St} {H : Hp} {s : Shared}
theorem still_bare (h : AllBare s.gens) : AllBare s.still.gens := fun y hy => by
  obtain ⟨z, hz, rfl⟩ := Array.mem_map.mp hy
  rw [GenState.still_bare]
  exact h z hz
theorem _root_.PySem.SlKept.trans {s s1 s2 : Shared} (a : SlKept s s1) (b : SlKept s1 s2) : SlKept s s2 := ⟨fun i y h1 h2 => b.gens i y (a.gens i y h1 h2) h2, Nat.le_trans a.size b.size⟩
end
structure Sl (o : Array GenState) (s : Shared) (G : Array GenState) : Prop where
  poi : Poi o G s.gens
  flat : AllFlat G
theorem sl_still (s : Shared) : Sl s.gens s s.still.gens := ⟨poi_still s.gens, flat_still s.gens⟩
section
variable {X : Cx} {pins : List (Addr × Obj)} {σ : St} {H : Hp} {s : Shared} {o : Array GenState}
theorem Sl.inv {G : Array GenState} (h : Sl o s G) (ho : AllBare o) (I : Inv X pins σ H { s with gens := G }) : Inv X pins σ H s := I.gens (poi_bare h.poi I.bare ho)
theorem Sl.run {α : Type} {A : Around} {t : Sem α} {Q : α → Shared → Prop} {G : Array GenState} (hx : X.GenX) (ho : AllBare o) (h : Sl o s G) (r : wpAny (model X.prog X.w) A t Q X.xe { s with gens := G }) :
    wpAny (model X.prog X.w) A t (fun a s' => ∃ G', Sl o s' G' ∧ Q a { s' with gens := G' }) X.xe s := fun Γ p hΓ =>
  Sem.wp_mono _ Γ t (fun a _ s' ⟨G', P, F, q⟩ => ⟨G', ⟨P, F⟩, q⟩) (fun e _ s' ⟨G', P, F, q⟩ => hx e { s' with gens := G' } o s'.gens P F ho q) p s
    (wp_asleep (s := { s with gens := G }) (b := s.gens) t (r Γ p hΓ) h.poi h.flat)
end
structure Wkn where
  h : Hp
  f : Hp
structure RI (X : Cx) (g : Nat) (s₀ : Shared) (H₀ : Wkn) (pr : List (Nat × GenState)) (ip : List (Addr × Obj)) (σ : St) (H : Hp) (s : Shared) : Prop where
  lt : g < s.gens.size
  n0 : (X.reb s₀ H₀.h).n0 = X.n0
  inv : Inv (X.reb s₀ H₀.h) ip σ H s
  pk : ∀ p ∈ pr, g < p.1 ∧ p.2.susp = true ∧ s.gens[p.1]? = some p.2
structure OEnds (α : Type) where
  nx : List α → Wkn → St → Hp → Prop
  rt : List α → Wkn → VK
  bk : List α → Wkn → St → Hp → Prop := fun _ _ _ _ => False
  ct : List α → Wkn → St → Hp → Prop := fun _ _ _ _ => False
abbrev TOn (α : Type) := OEnds α → List α → Wkn → St → Hp → Prop
section
variable {α : Type}
def OEnds.at (D : OEnds α) (ys : List α) (Hw : Wkn) : Ends := { nx := D.nx ys Hw, rt := D.rt ys Hw, bk := D.bk ys Hw, ct := D.ct ys Hw }
def OP (X : Cx) (g : Nat) (s₀ : Shared) (H₀ : Wkn) (pr : List (Nat × GenState)) (ip : List (Addr × Obj)) (D : OEnds α) (ys : List α) (f : Flow) (s : Shared) : Prop :=
  match f with
  | .next => ∃ σ H, RI X g s₀ H₀ pr ip σ H s ∧ D.nx ys H₀ σ H
  | .brk => ∃ σ H, RI X g s₀ H₀ pr ip σ H s ∧ D.bk ys H₀ σ H
  | .cont => ∃ σ H, RI X g s₀ H₀ pr ip σ H s ∧ D.ct ys H₀ σ H
  | .ret u => ∃ v σ H, RI X g s₀ H₀ pr ip σ H s ∧ RelV v u ∧ D.rt ys H₀ v H
structure OC (X : Cx) (a : Addr) (g : Nat) (ip : List (Addr × Obj)) (A : Around) (c : Code) (fs : List Frame) (gd : Bool → Bool) : Prop where
  ex : X.ex = []
  cells : X.env.cells = []
  above : X.n0 ≤ X.env.locals
  pn : ∀ p ∈ X.pn, X.n0 ≤ p.1
  isg : ∀ h : Heap, (∀ p ∈ X.pn, h.get? p.1 = some p.2) → h.IsGen a g
  ip : ∀ p ∈ ip, X.n0 ≤ p.1
  over : A.over c fs = X.A
  split : splitAtGen fs = none
  guard : fs.any Frame.guarded = false
  gd : gd false = false
def RR (X : Cx) (ys : List α) (H₀ : Wkn) (s₀ : Shared) : Result → Shared → Prop := match ys with
  | [] => fun r s₁ => (r = .ok (.ret .none) ∨ r = .ok .next) ∧ ∃ H₁, Outs X H₀.h H₁ s₀ s₁
  | _ :: _ => fun r s₁ => (r = .ok (.ret .none) ∨ r = .ok .next) ∧ False
def YY (Rp : Hp → α → V → Prop) (X : Cx) (A : Around) (a : Addr) (g : Nat) (ys : List α) (H₀ : Wkn) (s₀ : Shared) : Value → Shared → GenState → Prop := match ys with
  | [] => fun _ _ _ => False
  | x :: xs => fun v s₁ gs' => ∃ u H₁ own' pr', RelV u v ∧ Rp (Kn H₀.f H₀.h H₁) x u ∧ Outs X H₀.h H₁ s₀ s₁ ∧ OwnOk X own' H₁ s₁ ∧ PrOk g pr' s₁ ∧ (∀ h : Heap, (∀ p ∈ own', h.get? p.1 = some p.2) → h.IsGen a g) ∧ Dlv Rp X A a g xs (Kn H₀.f H₀.h H₁) own' pr' gs'
abbrev OSeg (Rp : Hp → α → V → Prop) (X : Cx) (A : Around) (a : Addr) (g : Nat) (ys : List α) (s₀ : Shared) (H₀ : Wkn) (c : Code) (t : Sem PySem.Fin) (fs : List Frame) (s : Shared) : Prop := Dv (model X.prog X.w) A (RR X ys H₀ s₀) (YY Rp X A a g ys H₀ s₀) c t fs s
structure OK' (Rp : Hp → α → V → Prop) (X : Cx) (a : Addr) (g : Nat) (pr : List (Nat × GenState)) (ip : List (Addr × Obj)) (A : Around) (c : Code) (fs : List Frame) (K : Flow → Sem PySem.Fin) (J : Value → Sem PySem.Fin) (D : OEnds α) : Prop where
  ok : ∀ (ys : List α) (s₀ : Shared) (H₀ : Wkn) (s : Shared) (f : Flow), OP X g s₀ H₀ pr ip D ys f s → OSeg Rp X A a g ys s₀ H₀ c (K f) fs s
  exc : ∀ (ys : List α) (s₀ : Shared) (H₀ : Wkn) (e : Value) (s : Shared), X.xe e s → OSeg Rp X A a g ys s₀ H₀ c (J e) fs s
structure OSt (Rp : Hp → α → V → Prop) (X : Cx) (Z : Bool) (st : Stmt) (t : TOn α) : Prop where
  run : ∀ (A : Around) (a : Addr) (g : Nat) (pr : List (Nat × GenState)) (ip : List (Addr × Obj)) (ys : List α) (s₀ : Shared) (H₀ : Wkn) (c : Code) (fs : List Frame) (K : Flow → Sem PySem.Fin) (J : Value → Sem PySem.Fin) (gd : Bool → Bool) (lv : List Value → List Value) (s : Shared) (σ : St) (H : Hp) (D : OEnds α),
    (Z = true → pr = []) → OC X a g ip A c fs gd → OK' Rp X a g pr ip A c fs K J D → RI X g s₀ H₀ pr ip σ H s → t D ys H₀ σ H →
    OSeg Rp X A a g ys s₀ H₀ c ((exec st X.env).wrap K J gd lv) fs s
structure OSs (Rp : Hp → α → V → Prop) (X : Cx) (Z : Bool) (st : List Stmt) (t : TOn α) : Prop where
  run : ∀ (A : Around) (a : Addr) (g : Nat) (pr : List (Nat × GenState)) (ip : List (Addr × Obj)) (ys : List α) (s₀ : Shared) (H₀ : Wkn) (c : Code) (fs : List Frame) (K : Flow → Sem PySem.Fin) (J : Value → Sem PySem.Fin) (gd : Bool → Bool) (lv : List Value → List Value) (s : Shared) (σ : St) (H : Hp) (D : OEnds α),
    (Z = true → pr = []) → OC X a g ip A c fs gd → OK' Rp X a g pr ip A c fs K J D → RI X g s₀ H₀ pr ip σ H s → t D ys H₀ σ H →
    OSeg Rp X A a g ys s₀ H₀ c ((execs st X.env).wrap K J gd lv) fs s
section
variable {Rp : Hp → α → V → Prop} {X : Cx} {Z : Bool} {st : Stmt} {rest : List Stmt}
theorem RI.step {α : Type} {A : Around} {g : Nat} {s₀ s : Shared} {H₀ : Wkn} {pr : List (Nat × GenState)} {ip : List (Addr × Obj)} {σ : St} {H : Hp} {t : Sem α} {Q : α → Shared → Prop} (r : RI X g s₀ H₀ pr ip σ H s) (hx : X.GenX)
    (h : Inv (X.reb s₀ H₀.h) ip σ H s.still → wpAny (model X.prog X.w) A t Q X.xe s.still) : wpAny (model X.prog X.w) A t (fun a s' => g < s'.gens.size ∧ ∃ G, Sl s.gens s' G ∧ Q a { s' with gens := G }) X.xe s :=
  wpAny_gsz (n := g + 1) r.lt (wpAny_mono (Sl.run (X := X) hx r.inv.bare (sl_still s) (h (r.inv.gens (still_bare r.inv.bare)))) (fun a s' q hl => ⟨hl, q⟩) fun e s' q _ => q)
end
end
end L2
namespace L2
open PySem PySem.Spec PyProof.Rows GenW
def OMade {α : Type} (Rp : Hp → α → V → Prop) (P : Program) (w : World) (base : Heap) (k : Nat) (outer : List Env) (H : Hp) (s : Shared) (xs : List α) (f : Hp) (u : Value) (s' : Shared) : Prop :=
  ∃ (a : Addr) (g : Nat), u = .ref a ∧ s.gens.size ≤ g ∧ s.heap.objs.size ≤ a ∧ s'.heap.IsGen a g ∧ s'.os = s.os ∧ AllBare s'.gens ∧ (∀ b o, s.heap.get? b = some o → s'.heap.get? b = some o) ∧
    ∀ A : Around, Room k A → A.frames = some outer → ∃ (X : Cx) (own : List (Addr × Obj)), X.prog = P ∧ X.w = w ∧ X.base = base ∧ X.outer = outer ∧ X.ex = [] ∧ X.n0 = s.heap.objs.size ∧ Asl Rp X A a g xs f own [] H s'
abbrev SpO (α : Type) := List V → Hp → Hp → List α → Prop
structure GFo {α : Type} (Rp : Hp → α → V → Prop) (P : Program) (w : World) (K : PySem.W.Frag) (mg : Str → Option Value) (base : Heap) (k : Nat) (fa : Addr) (fd : FuncData) (ps : List Str) (sp : SpO α) : Prop where
  len : ∀ vs H f xs, sp vs H f xs → vs.length = ps.length
  kn : ∀ vs H f xs, sp vs H f xs → Tsb f H
  run : ∀ (A : Around) (outer : List Env) (s : Shared) (H : Hp) (args : Args) (us : List Value) (vs : List V) (f : Hp) (xs : List α), Room k A → Env0 P w K mg base A outer s H → BindsTo s fd args (ps.zip us) → Vals vs us → sp vs H f xs →
    codeAny (model P w) A (.call (.ref fa) args) (fun r s' => match r with | .ok (.ret u) => OMade Rp P w base k outer H s xs f u s' | _ => False) s
def noX : XK := fun _ _ _ => False
end L2
namespace L2
open PySem PySem.Spec PyProof.Rows GenW
abbrev TGo (α : Type) := L2.St → Hp → (List α → Hp → Hp → Prop) → Prop
structure PGo {α : Type} (Rp : Hp → α → V → Prop) (X : Cx) (k : Nat) (e : Expr) (tg : TGo α) : Prop where
  run : ∀ (pins : List (Addr × Obj)) (s : Shared) (σ : L2.St) (H : Hp) (cont : List α → Hp → Hp → Prop), Inv X pins σ H s → tg σ H cont → wpAny (model X.prog X.w) X.A (eval e X.env)
    (fun u s' => ∃ H1 sc xs f, s.gens.size ≤ sc.gens.size ∧ Inv X pins σ H1 sc ∧ OMade Rp X.prog X.w X.base k X.stack H1 sc xs f u s' ∧ cont xs f H1) X.xe s
end L2
namespace L2
open PySem PySem.Spec PyProof.Rows GenW
end L2
namespace L2
open PySem PySem.Spec PyProof.Rows GenW
end L2
namespace L2
open PySem PySem.Spec PyProof.Rows GenW
end L2
namespace Dn
open PySem PySem.Spec PyProof.Rows L2
variable [HzC]
section
variable {K : PySem.W.Frag} {F F' : Hp} {ι ι' : List Addr}
def Sub (F F' : Hp) : Prop := ∀ a o, F a = some o → F' a = some o
theorem Sub.sb (h : Sub F F') : Tsb F F' := fun a ob xs e => h a _ e
def FT (F : Hp) : Hp := fun a => match F a with
  | some (.frz ob (.tup xs)) => some (.frz ob (.tup xs))
  | _ => none
def IsFT (f : Hp) : Prop := ∀ a o, f a = some o → ∃ ob xs, o = .frz ob (.tup xs)
theorem ft_is : IsFT (FT F) := fun a o e => by
  unfold FT at e
  split at e
  · rename_i ob xs _
    cases e
    exact ⟨ob, xs, rfl⟩
  · cases e
theorem ft_sub : Sub (FT F) F := fun a o e => by
  unfold FT at e
  split at e
  · rename_i ob xs h
    cases e
    exact h
  · cases e
theorem ft_tps : Tsb F (FT F) := fun a ob xs e => by
  unfold FT
  rw [e]
theorem IsFT.sub (i : IsFT F) (h : Tsb F F') : Sub F F' := fun a o e => by
  obtain ⟨ob, xs, rfl⟩ := i a o e
  exact h a ob xs e
theorem kn_is {f H H' : Hp} (h : IsFT f) : IsFT (Kn f H H') := fun a o e => by
  unfold Kn at e
  split at e
  · rename_i o' h1
    cases e
    exact h a o h1
  · split at e
    · cases e
    · split at e
      · rename_i ob xs _
        cases e
        exact ⟨ob, xs, rfl⟩
      · cases e
theorem kn_up {f H H' : Hp} : Sub f (Kn f H H') := fun a o e => by
  unfold Kn
  rw [e]
theorem kn_new {f H H' : Hp} {a : Addr} {ob : Obj} {xs : List V} (h : f a = none) (h1 : H a = none) (h2 : H' a = some (.frz ob (.tup xs))) : Kn f H H' a = some (.frz ob (.tup xs)) := by
  unfold Kn
  rw [h, h1, h2]
theorem kn_cases {f H H' : Hp} {a : Addr} {o : HO} (e : Kn f H H' a = some o) : f a = some o ∨ (f a = none ∧ H a = none ∧ H' a = some o) := by
  unfold Kn at e
  split at e
  · rename_i o' h1
    cases e
    exact .inl h1
  · rename_i h0
    split at e
    · cases e
    · rename_i h1
      split at e
      · rename_i ob xs h2
        cases e
        exact .inr ⟨h0, h1, h2⟩
      · cases e
end
abbrev RpD (K : PySem.W.Frag) : Hp → D → V → Prop := fun f d u => Rep K f [] d u
def spO (K : PySem.W.Frag) (np : Nat) (spec : List D → Option (List D)) : SpO D := fun vs H f xs => vs.length = np ∧ Tsb f H ∧ IsFT f ∧ ∃ ds, Reps K f [] ds vs ∧ spec ds = some xs
structure GoC (P : Program) (w : World) (K : PySem.W.Frag) (mg : Str → Option Value) (base : Heap) (k : Nat) (x : Str) (np : Nat) (spec : List D → Option (List D)) : Prop where
  ex : ∃ (fa : Addr) (fd : FuncData) (ps : List Str), GFo (RpD K) P w K mg base k fa fd ps (spO K np spec) ∧ mg x = some (.ref fa) ∧ PySem.W.keepIn K (.ref fa) = true ∧ Binds K fd ps []
  np : ∀ ds xs, spec ds = some xs → ds.length = np
end Dn
namespace Dn
open PySem PySem.Spec PyProof.Rows L2
variable [HzC]
structure OSim (F : Hp) (Hw : Wkn) (H : Hp) : Prop where
  sb : Sub F H
  ft : IsFT F
  kn : Sub F (Kn Hw.f Hw.h H)
  le : Le Hw.h H
  fh : Sub Hw.f Hw.h
  wf : IsFT Hw.f
section
variable {K : PySem.W.Frag} {W : WX} {F : Hp} {Hw : Wkn} {H : Hp} {ρ : Rho} {σ : L2.St}
theorem kn_more {f h H H1 : Hp} {a : Addr} {o : HO} (i : IsFT (Kn f h H)) (e : Kn f h H a = some o) (e1 : H1 a = some o) : Kn f h H1 a = some o := by
  obtain ⟨ob, xs, rfl⟩ := i a o e
  rcases kn_cases e with q | ⟨q1, q2, _⟩
  · exact kn_up a _ q
  · exact kn_new q1 q2 e1
theorem none_of {F F' : Hp} (h : Sub F F') {a : Addr} (e : F' a = none) : F a = none := by
  cases q : F a with
  | none => rfl
  | some o => rw [h a o q] at e; cases e
theorem OSim.next (O : OSim F Hw H) {F1 H1 : Hp} {ι1 : List Addr} {st1 : Sto} (x : Ext F [] H F1 ι1 H1) (S1 : Sim K F1 ι1 st1 H1) : OSim (FT F1) Hw H1 ∧ Sub F (FT F1) := by
  refine ⟨⟨fun a o e => S1.sub a o (ft_sub a o e), ft_is, fun a o e => ?_, O.le.trans ⟨fun b o e n => x.keep b o e List.not_mem_nil n, x.there⟩, O.fh, O.wf⟩, O.ft.sub fun a ob xs e => ft_tps a ob xs (x.f a _ e)⟩
  obtain ⟨ob, xs, rfl⟩ := ft_is a o e
  have e1 := ft_sub a _ e
  have e2 := S1.sub a _ e1
  rcases x.newF a _ e1 with q | q | q
  · exact kn_more (kn_is O.wf) (O.kn a _ q) e2
  · have h1 := O.le.2 a q
    exact kn_new (none_of O.fh h1) h1 e2
  · exact nomatch q
theorem REnv.sub {F' : Hp} (R : REnv K F [] ρ σ) (t : Sub F F') : REnv K F' [] ρ σ := ⟨R.len, fun i d e => by
  obtain ⟨v, h1, h2⟩ := R.at_ i d e
  exact ⟨v, h1, Rep.mono t (fun _ _ h => h) d v h2⟩⟩
end
section
variable {K : PySem.W.Frag} {W : WX}
abbrev mEnA : Rho → M (List D) := mCons (mSlT (mVar 0) (oSome (mOp pAdd (mVar 2) (mLit (.int 1)))) oNone) (mCons (mOp pSub (mVar 1) (mLit (.int 1))) mNil)
end
structure RowsP (X : Cx) (c0 e0 tg1 it1 c1 tg2 : Expr) (as : List Expr) (e1 : Expr) (js js2 : List Nat) : Prop where
  c0 : DT X (wE noX) c0 (isB (mOp pEq (mVar 1) (mLit (.int 0))))
  e0 : DE X (wE noX) e0 (mTup mNil)
  it1 : PI X tg1 it1 (iEnumX X.K (tCons (tV X.K (wE noX) (mVar 0)) tNil))
  tg1 : DG X js tg1 (gT 2 (gsCons (gN 2) (gsCons (gN 3) gsNil)))
  c1 : DT X (wE noX) c1 (isB (mOp pGt (mVar 1) (mLit (.int 0))))
  tg2 : DG X js2 tg2 (gN 4)
  ca : DA X (wE noX) as mEnA
  e1 : DE X (wE noX) e1 (mTup (mCons (mVar 3) (mStar (mVar 4) mNil)))
end Dn
namespace Dn
open PySem PySem.Spec PyProof.Rows L2
end Dn
namespace L2
open PySem PySem.Spec PyProof.Rows GenW
abbrev TCh := V → St → Hp → VK → Prop
structure PCh (X : Cx) (ops : List CmpOp) (es : List Expr) (t : TCh) : Prop where
  run : ∀ (pos : Pos) (pins : List (Addr × Obj)) (s : Shared) (σ : L2.St) (H : Hp) (x : V) (v : Value) (Q : VK), Inv X pins σ H s → RelV x v → t x σ H Q → wpAny (model X.prog X.w) X.A (compareChain pos v ops (evalEach es X.env)) (EP X pins σ Q) X.xe s
end L2
namespace Dn
open PySem PySem.Spec PyProof.Rows L2
variable [HzC]
section
variable {X : Cx} {W : WX} {op : CmpOp} {a b : Expr} {ops : List CmpOp} {es : List Expr} {p : Sto → D → D → Option D} {m : Rho → M D} {k : D → Rho → M D} {pos : Pos}
theorem PCh.weak {t t' : TCh} (h : PCh X ops es t) (w : ∀ x σ H Q, t' x σ H Q → t x σ H Q) : PCh X ops es t' := ⟨fun pos pins s σ H x v Q I r q => h.run pos pins s σ H x v Q I r (w x σ H Q q)⟩
end
def ltP2 (a b : Int × Int) : Bool := lexB ltI [a.1, a.2] [b.1, b.2]
instance : Or (eP eI eI) ltP2 := ⟨fun x y => Or.al (e := eT eI) [x.1, x.2] [y.1, y.2], fun x y => Or.lt (e := eT eI) [x.1, x.2] [y.1, y.2]⟩
instance {α β : Type} {e : α → D} {f : β → D} : Sb (eP e f) := ⟨.inl fun z => ⟨_, by unfold eP; rw [toP]⟩⟩
end Dn

namespace Lw
open PySem PySem.Spec PyProof.Rows L2 Dn
def top (i : Nat) : Stmt := PySem.Challenge.pw_pressrelease_k39_whole_fewest_buttons_of.main.body.getD i (.Pass ⟨0, 0, 0, 0⟩)
abbrev s_changed_word : Stmt := top 8
abbrev s_effect_after : Stmt := top 9
abbrev s_effect_of : Stmt := top 10
abbrev s_is_reset : Stmt := top 14
abbrev s_rows_of : Stmt := top 15
abbrev s_shortest_reset : Stmt := top 16
abbrev s_beside : Stmt := top 22
abbrev s__law_deck : Stmt := top 24
abbrev s__law_draw : Stmt := top 25
abbrev s__law_panel : Stmt := top 26
abbrev s__law_row : Stmt := top 27
abbrev s_releasers_of : Stmt := top 12
abbrev s__law_apart : Stmt := top 28
abbrev s_with_list : Stmt := top 18
abbrev s_linked : Stmt := top 19
abbrev s_unlinked : Stmt := top 20
abbrev s__law_links_right : Stmt := top 29
abbrev s_renamed : Stmt := top 21
abbrev s__law_names_right : Stmt := top 30
abbrev s_law : Stmt := top 31
def hds0 : Dn.HdQ := []
def hds : Dn.HdQ := hds0
def fcts0 : List (Dn.KF → Bool) := [fun K => Dn.fnB K (He.ga K "changed_word") "changed_word",
  fun K => Dn.fnB K (He.ga K "effect_after") "effect_after",
  fun K => Dn.fnB K (He.ga K "effect_of") "effect_of",
  fun K => Dn.fnB K (He.ga K "is_reset") "is_reset",
  fun K => Dn.fnB K (He.ga K "rows_of") "rows_of",
  fun K => Dn.fnB K (He.ga K "shortest_reset") "shortest_reset",
  fun K => Dn.fnB K (He.ga K "beside") "beside",
  fun K => Dn.fnB K (He.ga K "_law_deck") "_law_deck",
  fun K => Dn.fnB K (He.ga K "_law_draw") "_law_draw",
  fun K => Dn.fnB K (He.ga K "_law_panel") "_law_panel",
  fun K => Dn.fnB K (He.ga K "_law_row") "_law_row",
  fun K => Dn.fnB K (He.ga K "releasers_of") "releasers_of",
  fun K => Dn.fnB K (He.ga K "_law_apart") "_law_apart",
  fun K => Dn.fnB K (He.ga K "with_list") "with_list",
  fun K => Dn.fnB K (He.ga K "linked") "linked",
  fun K => Dn.fnB K (He.ga K "unlinked") "unlinked",
  fun K => Dn.fnB K (He.ga K "_law_links_right") "_law_links_right",
  fun K => Dn.fnB K (He.ga K "renamed") "renamed",
  fun K => Dn.fnB K (He.ga K "_law_names_right") "_law_names_right",
  fun K => Dn.fnB K (He.ga K "law") "law",
  fun K => decide (PySem.W.nsIn K mainGlobals "changed_word" = some (some (.ref (He.ga K "changed_word")))),
  fun K => decide (PySem.W.nsIn K mainGlobals "effect_after" = some (some (.ref (He.ga K "effect_after")))),
  fun K => decide (PySem.W.nsIn K mainGlobals "effect_of" = some (some (.ref (He.ga K "effect_of")))),
  fun K => decide (PySem.W.nsIn K mainGlobals "is_reset" = some (some (.ref (He.ga K "is_reset")))),
  fun K => decide (PySem.W.nsIn K mainGlobals "rows_of" = some (some (.ref (He.ga K "rows_of")))),
  fun K => decide (PySem.W.nsIn K mainGlobals "shortest_reset" = some (some (.ref (He.ga K "shortest_reset")))),
  fun K => decide (PySem.W.nsIn K mainGlobals "beside" = some (some (.ref (He.ga K "beside")))),
  fun K => decide (PySem.W.nsIn K mainGlobals "_law_deck" = some (some (.ref (He.ga K "_law_deck")))),
  fun K => decide (PySem.W.nsIn K mainGlobals "_law_draw" = some (some (.ref (He.ga K "_law_draw")))),
  fun K => decide (PySem.W.nsIn K mainGlobals "_law_panel" = some (some (.ref (He.ga K "_law_panel"))))]
def fcts1 : List (Dn.KF → Bool) := [fun K => decide (PySem.W.nsIn K mainGlobals "_law_row" = some (some (.ref (He.ga K "_law_row")))),
  fun K => decide (PySem.W.nsIn K mainGlobals "releasers_of" = some (some (.ref (He.ga K "releasers_of")))),
  fun K => decide (PySem.W.nsIn K mainGlobals "_law_apart" = some (some (.ref (He.ga K "_law_apart")))),
  fun K => decide (PySem.W.nsIn K mainGlobals "with_list" = some (some (.ref (He.ga K "with_list")))),
  fun K => decide (PySem.W.nsIn K mainGlobals "linked" = some (some (.ref (He.ga K "linked")))),
  fun K => decide (PySem.W.nsIn K mainGlobals "unlinked" = some (some (.ref (He.ga K "unlinked")))),
  fun K => decide (PySem.W.nsIn K mainGlobals "_law_links_right" = some (some (.ref (He.ga K "_law_links_right")))),
  fun K => decide (PySem.W.nsIn K mainGlobals "renamed" = some (some (.ref (He.ga K "renamed")))),
  fun K => decide (PySem.W.nsIn K mainGlobals "_law_names_right" = some (some (.ref (He.ga K "_law_names_right")))),
  fun K => decide (PySem.W.nsIn K mainGlobals "law" = some (some (.ref (He.ga K "law")))),
  fun K => decide (PySem.W.nsIn K mainGlobals "abs" = some none),
  fun K => decide (PySem.W.nsIn K mainGlobals "enumerate" = some none),
  fun K => decide (PySem.W.nsIn K mainGlobals "int" = some none),
  fun K => decide (PySem.W.nsIn K mainGlobals "len" = some none),
  fun K => decide (PySem.W.nsIn K mainGlobals "list" = some none),
  fun K => decide (PySem.W.nsIn K mainGlobals "max" = some none),
  fun K => decide (PySem.W.nsIn K mainGlobals "range" = some none),
  fun K => decide (PySem.W.nsIn K mainGlobals "set" = some none),
  fun K => decide (PySem.W.nsIn K mainGlobals "sorted" = some none),
  fun K => decide (PySem.W.nsIn K mainGlobals "sum" = some none),
  fun K => decide (PySem.W.nsIn K mainGlobals "tuple" = some none),
  fun K => Dn.intB K "MAX_BUTTONS" 10,
  fun K => Dn.strB K "OFF" ("off" : Str),
  fun K => Dn.strB K "ON" ("on" : Str),
  fun K => Dn.strB K "SAME" ("same" : Str)]
def fcts : List (Dn.KF → Bool) := fcts0 ++ fcts1
def fdfs0 : List Dn.FnQ := [⟨fun K => (He.ga K "changed_word"), "changed_word", "changed_word", (defArgs s_changed_word), (defBody s_changed_word), (defScope s_changed_word), []⟩,
  ⟨fun K => (He.ga K "effect_after"), "effect_after", "effect_after", (defArgs s_effect_after), (defBody s_effect_after), (defScope s_effect_after), []⟩,
  ⟨fun K => (He.ga K "effect_of"), "effect_of", "effect_of", (defArgs s_effect_of), (defBody s_effect_of), (defScope s_effect_of), []⟩,
  ⟨fun K => (He.ga K "is_reset"), "is_reset", "is_reset", (defArgs s_is_reset), (defBody s_is_reset), (defScope s_is_reset), []⟩,
  ⟨fun K => (He.ga K "rows_of"), "rows_of", "rows_of", (defArgs s_rows_of), (defBody s_rows_of), (defScope s_rows_of), []⟩,
  ⟨fun K => (He.ga K "shortest_reset"), "shortest_reset", "shortest_reset", (defArgs s_shortest_reset), (defBody s_shortest_reset), (defScope s_shortest_reset), []⟩,
  ⟨fun K => (He.ga K "beside"), "beside", "beside", (defArgs s_beside), (defBody s_beside), (defScope s_beside), []⟩,
  ⟨fun K => (He.ga K "_law_deck"), "_law_deck", "_law_deck", (defArgs s__law_deck), (defBody s__law_deck), (defScope s__law_deck), []⟩,
  ⟨fun K => (He.ga K "_law_draw"), "_law_draw", "_law_draw", (defArgs s__law_draw), (defBody s__law_draw), (defScope s__law_draw), []⟩,
  ⟨fun K => (He.ga K "_law_panel"), "_law_panel", "_law_panel", (defArgs s__law_panel), (defBody s__law_panel), (defScope s__law_panel), []⟩,
  ⟨fun K => (He.ga K "_law_row"), "_law_row", "_law_row", (defArgs s__law_row), (defBody s__law_row), (defScope s__law_row), []⟩,
  ⟨fun K => (He.ga K "releasers_of"), "releasers_of", "releasers_of", (defArgs s_releasers_of), (defBody s_releasers_of), (defScope s_releasers_of), []⟩,
  ⟨fun K => (He.ga K "_law_apart"), "_law_apart", "_law_apart", (defArgs s__law_apart), (defBody s__law_apart), (defScope s__law_apart), []⟩,
  ⟨fun K => (He.ga K "with_list"), "with_list", "with_list", (defArgs s_with_list), (defBody s_with_list), (defScope s_with_list), []⟩,
  ⟨fun K => (He.ga K "linked"), "linked", "linked", (defArgs s_linked), (defBody s_linked), (defScope s_linked), []⟩,
  ⟨fun K => (He.ga K "unlinked"), "unlinked", "unlinked", (defArgs s_unlinked), (defBody s_unlinked), (defScope s_unlinked), []⟩,
  ⟨fun K => (He.ga K "_law_links_right"), "_law_links_right", "_law_links_right", (defArgs s__law_links_right), (defBody s__law_links_right), (defScope s__law_links_right), []⟩,
  ⟨fun K => (He.ga K "renamed"), "renamed", "renamed", (defArgs s_renamed), (defBody s_renamed), (defScope s_renamed), []⟩,
  ⟨fun K => (He.ga K "_law_names_right"), "_law_names_right", "_law_names_right", (defArgs s__law_names_right), (defBody s__law_names_right), (defScope s__law_names_right), []⟩,
  ⟨fun K => (He.ga K "law"), "law", "law", (defArgs s_law), (defBody s_law), (defScope s_law), []⟩]
def fdfs : List Dn.FnQ := fdfs0
def lse0 : List PySem.Str := ["MAX_BUTTONS",
  "__name__",
  "PanelError",
  "TooLarge",
  "ON",
  "OFF",
  "SAME",
  "changed_word",
  "effect_after",
  "effect_of",
  "releasers_of",
  "is_reset",
  "rows_of",
  "shortest_reset",
  "with_list",
  "linked",
  "unlinked",
  "renamed",
  "beside",
  "_law_deck",
  "_law_draw",
  "_law_panel",
  "_law_row",
  "_law_apart",
  "_law_links_right",
  "_law_names_right"]
def lse : List PySem.Str := lse0
abbrev RQ : PySem.W.OpenRow := PySem.W.OpenLaw.row PySem.Challenge.rw_pressrelease_k39_whole_fewest_buttons_of
theorem run_false (w : World) : HandSHeadRun.RunEq RQ (PySem.W.view RQ.prog [31]) (Dn.hookQ fcts fdfs hds) (Dn.obQ fcts fdfs hds) 9000 lse (w.withFollow "special-get-raises" false) := by
  intro os
  kernel_rfl
theorem run_true (w : World) : HandSHeadRun.RunEq RQ (PySem.W.view RQ.prog [31]) (Dn.hookQ fcts fdfs hds) (Dn.obQ fcts fdfs hds) 9000 lse (w.withFollow "special-get-raises" true) := by
  intro os
  kernel_rfl
theorem run_all (w : World) : HandSHeadRun.RunEq RQ (PySem.W.view RQ.prog [31]) (Dn.hookQ fcts fdfs hds) (Dn.obQ fcts fdfs hds) 9000 lse w := PySem.W.byRow2 "special-get-raises" (P := fun w => HandSHeadRun.RunEq RQ (PySem.W.view RQ.prog [31]) (Dn.hookQ fcts fdfs hds) (Dn.obQ fcts fdfs hds) 9000 lse w) run_false run_true w
end Lw
namespace Dn
open PySem PySem.Spec PyProof.Rows L2
theorem nodup_at {α : Type} {l : List α} (h : l.Nodup) {i j : Nat} {x : α} (a : l[i]? = some x) (b : l[j]? = some x) : i = j := by
  obtain ⟨h1, e1⟩ := List.getElem?_eq_some_iff.mp a
  obtain ⟨h2, e2⟩ := List.getElem?_eq_some_iff.mp b
  exact (List.getElem_inj h).mp (e1.trans e2.symm)
variable [HzC]
section
variable {K : PySem.W.Frag} {F F' F'' : Hp} {ι ι' ι'' : List Addr} {H H' H'' : Hp} {st st' : Sto}
theorem Reps.snoc {ds : List D} {vs : List V} {d : D} {v : V} (h : Reps K F ι ds vs) (g : Rep K F ι d v) : Reps K F ι (ds ++ [d]) (vs ++ [v]) := h.append (Reps.cons g Reps.nil)
theorem Ext.frozen {p : Addr} {o : HO} (hp : H p = none) (hF : ∀ a o, F a = some o → H a = some o) : Ext F ι H (upd F p o) ι (upd H p o) := by
  have ne : ∀ a o', F a = some o' → a ≠ p := fun a o' h e => by
    have := hF a o' h
    rw [e, hp] at this
    cases this
  refine ⟨fun a o' h => ?_, fun _ _ h => h, fun a o' h _ _ => ?_, fun a h => ?_, fun a o' h => ?_, fun _ h => .inl h, Nat.le_refl _⟩
  · rw [upd_ne (ne a o' h)]; exact h
  · rw [upd_ne (ne_of_none h hp)]; exact h
  · by_cases e : a = p
    · subst e; exact hp
    · rw [upd_ne e] at h; exact h
  · by_cases e : a = p
    · subst e; exact .inr (.inl hp)
    · rw [upd_ne e] at h; exact .inl h
theorem Sim.frozen (S : Sim K F ι st H) {p : Addr} {o : HO} (hp : H p = none) (hz : Fz o) : Sim K (upd F p o) ι st (upd H p o) := by
  have X : Ext F ι H (upd F p o) ι (upd H p o) := Ext.frozen hp S.sub
  have np : ∀ a, a ∈ ι → a ≠ p := fun a h e => S.there a h (by rw [e]; exact hp)
  refine ⟨fun a u h => ?_, fun a u h => ?_, S.len, S.nd, fun l a h hg => ?_, fun a h => ?_, fun l m a h1 h2 => ?_, S.tabs.mono X.f fun a ps h => by rw [upd_ne (ne_of_none h hp)]; exact h⟩
  · by_cases e : a = p
    · subst e; rw [upd_same] at h ⊢; exact h
    · rw [upd_ne e] at h ⊢; exact S.sub a u h
  · by_cases e : a = p
    · subst e; rw [upd_same] at h; cases h; exact .inl hz
    · rw [upd_ne e] at h; exact S.kind a u h
  · rw [upd_ne (np a (List.mem_of_getElem? h))]; exact S.free l a h hg
  · rw [upd_ne (np a h)]; exact S.there a h
  · exact (S.obj l m a h1 h2).mono X.f X.i (upd_ne (np a (List.mem_of_getElem? h2)))
theorem Sim.laid (S : Sim K F ι st H) {p : Addr} {o : HO} (hp : H p = none) : Sim K F ι st (upd H p o) := by
  have np : ∀ a, a ∈ ι → a ≠ p := fun a h e => S.there a h (by rw [e]; exact hp)
  refine ⟨fun a u h => ?_, S.kind, S.len, S.nd, S.free, fun a h => ?_, fun l m a h1 h2 => ?_, S.tabs.mono (fun _ _ h => h) fun a ps h => by rw [upd_ne (ne_of_none h hp)]; exact h⟩
  · rw [upd_ne (ne_of_none (S.sub a u h) hp)]; exact S.sub a u h
  · rw [upd_ne (np a h)]; exact S.there a h
  · exact (S.obj l m a h1 h2).mono (fun _ _ h => h) (fun _ _ h => h) (upd_ne (np a (List.mem_of_getElem? h2)))
theorem Ext.laid {p : Addr} {o : HO} (hp : H p = none) : Ext F ι H F ι (upd H p o) := by
  refine ⟨fun _ _ h => h, fun _ _ h => h, fun a u h _ _ => ?_, fun a h => ?_, fun _ _ h => .inl h, fun _ h => .inl h, Nat.le_refl _⟩
  · rw [upd_ne (ne_of_none h hp)]; exact h
  · by_cases e : a = p
    · subst e; exact hp
    · rw [upd_ne e] at h; exact h
theorem Sim.freeze (S : Sim K F ι st H) {p : Addr} {o : HO} (hp : H p = some o) (hF : F p = none) (hi : p ∉ ι) (hz : Fz o) : Sim K (upd F p o) ι st H := by
  refine ⟨fun a u h => ?_, fun a u h => ?_, S.len, S.nd, fun l a h hg => ?_, S.there, fun l m a h1 h2 => ?_, S.tabs.mono (fun a u h => by rw [upd_ne (fun e => by rw [e, hF] at h; cases h)]; exact h) fun _ _ h => h⟩
  · by_cases e : a = p
    · subst e; rw [upd_same] at h; rw [hp]; exact h
    · rw [upd_ne e] at h; exact S.sub a u h
  · by_cases e : a = p
    · subst e; rw [upd_same] at h; cases h; exact .inl hz
    · rw [upd_ne e] at h; exact S.kind a u h
  · rw [upd_ne (fun e => hi (by rw [← e]; exact List.mem_of_getElem? h))]; exact S.free l a h hg
  · exact (S.obj l m a h1 h2).mono (fun a u h => by rw [upd_ne (fun e => by rw [e, hF] at h; cases h)]; exact h) (fun _ _ h => h) rfl
theorem Ext.freeze {p : Addr} {o : HO} (x : Ext F ι H F' ι' H') (hF : F' p = none) (hp : H p = none) : Ext F ι H (upd F' p o) ι' H' := by
  refine ⟨fun a u h => ?_, x.i, x.keep, x.there, fun a u h => ?_, x.newI, x.long⟩
  · have h' := x.f a u h
    rw [upd_ne (fun e => by rw [e, hF] at h'; cases h')]
    exact h'
  · by_cases e : a = p
    · subst e; exact .inr (.inl hp)
    · rw [upd_ne e] at h; exact x.newF a u h
theorem Sim.locate (S : Sim K F ι st H) {p : Addr} {m : MO} (hp : H p ≠ none) (hF : F p = none) (hi : p ∉ ι) (ho : ObjR K F (ι ++ [p]) H p m) : Sim K F (ι ++ [p]) (st ++ [m]) H := by
  have mo : ∀ (l : Nat) (a : Addr), ι[l]? = some a → (ι ++ [p])[l]? = some a := fun l a h => by
    rw [List.getElem?_append_left (List.getElem?_eq_some_iff.mp h).1]; exact h
  refine ⟨S.sub, fun a o h => ?_, by simp [S.len], ?_, fun l a h hg => ?_, fun a h => ?_, fun l m' a h1 h2 => ?_, S.tabs⟩
  · rcases S.kind a o h with q | ⟨ob, x, q, r⟩
    · exact .inl q
    · refine .inr ⟨ob, x, q, r.imp id fun n z => ?_⟩
      rcases List.mem_append.mp z with z | z
      · exact n z
      · rw [List.mem_singleton.mp z, hF] at h; cases h
  · rw [List.nodup_append]
    refine ⟨S.nd, by simp, fun a ha b hb e => ?_⟩
    have : b = p := by simpa using hb
    subst this
    subst e
    exact hi ha
  · by_cases hl : l < st.length
    · rw [List.getElem?_append_left hl] at hg
      rw [List.getElem?_append_left (by rw [S.len]; exact hl)] at h
      exact S.free l a h hg
    · rw [List.getElem?_append_right (by rw [S.len]; omega)] at h
      have : a = p := by
        have := List.mem_of_getElem? h
        simpa using this
      subst this; exact hF
  · rcases List.mem_append.mp h with h | h
    · exact S.there a h
    · have : a = p := by simpa using h
      subst this; exact hp
  · by_cases hl : l < st.length
    · rw [List.getElem?_append_left hl] at h1
      rw [List.getElem?_append_left (by rw [S.len]; exact hl)] at h2
      exact (S.obj l m' a h1 h2).mono (fun _ _ h => h) mo rfl
    · have e : l = st.length := by
        have := (List.getElem?_eq_some_iff.mp h1).1
        simp at this
        omega
      subst e
      rw [List.getElem?_append_right (Nat.le_refl _)] at h1
      rw [List.getElem?_append_right (by rw [S.len]; exact Nat.le_refl _)] at h2
      simp [S.len] at h1 h2
      subst h1 h2
      exact ho
theorem Ext.locate {p : Addr} (x : Ext F ι H F' ι' H') (hp : H p = none) : Ext F ι H F' (ι' ++ [p]) H' := by
  refine ⟨x.f, fun l a h => ?_, x.keep, x.there, x.newF, fun a h => ?_, by simp; exact Nat.le_succ_of_le x.long⟩
  · have h' := x.i l a h
    rw [List.getElem?_append_left (List.getElem?_eq_some_iff.mp h').1]; exact h'
  · rcases List.mem_append.mp h with h | h
    · exact x.newI a h
    · have : a = p := by simpa using h
      subst this; exact .inr hp
theorem Sim.notTbl (S : Sim K F ι st H) {l : Nat} {p : Addr} (hl : ι[l]? = some p) (hgo : st[l]? ≠ some .gone) : ∀ ps, H p ≠ some (.tbl ps) := fun ps e => by
  have hlt : l < st.length := by rw [← S.len]; exact (List.getElem?_eq_some_iff.mp hl).1
  have ho := S.obj l _ p (List.getElem?_eq_getElem hlt) hl
  have hg : st[l] ≠ .gone := fun q => hgo (by rw [List.getElem?_eq_getElem hlt, q])
  revert ho hg
  generalize st[l] = m
  intro ho hg
  cases m with
  | lst xs => obtain ⟨vs, q, _⟩ := ho; rw [e] at q; cases q
  | dct ks ds => obtain ⟨xs, ws, _, q, _⟩ := ho; rw [e] at q; cases q
  | dcs ks ds => obtain ⟨xs, ws, _, q, _⟩ := ho; rw [e] at q; cases q
  | gone => exact hg rfl
  | ins nm fs => obtain ⟨C, dx, gs, _, q, _⟩ := ho; rw [e] at q; cases q
  | clo nm ds => obtain ⟨L, cl, pm, c', ctv, ws, _, q, _⟩ := ho; rw [e] at q; cases q
theorem Sim.write (S : Sim K F ι st H) {l : Nat} {p : Addr} {m : MO} {o : HO} (hl : ι[l]? = some p) (hgo : st[l]? ≠ some .gone) (ho : ObjR K F ι (upd H p o) p m) : Sim K F ι (st.set l m) (upd H p o) := by
  have hp : p ∈ ι := List.mem_of_getElem? hl
  have nf : ∀ a u, F a = some u → a ≠ p := fun a u h e => by
    rw [e, S.free l p hl hgo] at h; cases h
  refine ⟨fun a u h => ?_, S.kind, by simp [S.len], S.nd, fun k a h hg => ?_, fun a h => ?_, fun k m' a h1 h2 => ?_, S.tabs.mono (fun _ _ h => h) fun a ps h => by rw [upd_ne (fun e => S.notTbl hl hgo ps (by rw [← e]; exact h))]; exact h⟩
  · rw [upd_ne (nf a u h)]; exact S.sub a u h
  · by_cases e : k = l
    · subst e
      rw [hl] at h
      cases h
      exact S.free k p hl hgo
    · rw [List.getElem?_set_ne (Ne.symm e)] at hg
      exact S.free k a h hg
  · by_cases e : a = p
    · subst e; rw [upd_same]; simp
    · rw [upd_ne e]; exact S.there a h
  · by_cases e : k = l
    · subst e
      rw [hl] at h2
      cases h2
      have hk : k < st.length := by
        have := (List.getElem?_eq_some_iff.mp h1).1
        simpa using this
      rw [List.getElem?_set_self hk] at h1
      cases h1
      exact ho
    · rw [List.getElem?_set_ne (Ne.symm e)] at h1
      refine (S.obj k m' a h1 h2).mono (fun _ _ h => h) (fun _ _ h => h) (upd_ne fun q => e ?_)
      subst q
      exact nodup_at S.nd h2 hl
theorem Ext.write {l : Nat} {p : Addr} {o : HO} (hl : ι[l]? = some p) (hp : H p ≠ none) : Ext F ι H F ι (upd H p o) := by
  have hm : p ∈ ι := List.mem_of_getElem? hl
  refine ⟨fun _ _ h => h, fun _ _ h => h, fun a u h n _ => ?_, fun a h => ?_, fun _ _ h => .inl h, fun _ h => .inl h, Nat.le_refl _⟩
  · rw [upd_ne (fun e => n (by rw [e]; exact hm))]; exact h
  · by_cases e : a = p
    · subst e; rw [upd_same] at h; cases h
    · rw [upd_ne e] at h; exact h
theorem Sim.retireO (S : Sim K F ι st H) {l : Nat} {p : Addr} {o : HO} (hl : ι[l]? = some p) (hp : H p = some o) (hz : Fz o) : Sim K (upd F p o) ι (st.set l .gone) H := by
  refine ⟨fun a u h => ?_, fun a u h => ?_, by simp [S.len], S.nd, fun k a h hg => ?_, S.there, fun k m' a h1 h2 => ?_, S.tabs.mono (fun a u h => ?_) fun _ _ h => h⟩
  · by_cases e : a = p
    · subst e; rw [upd_same] at h; rw [hp]; exact h
    · rw [upd_ne e] at h; exact S.sub a u h
  · by_cases e : a = p
    · subst e; rw [upd_same] at h; cases h; exact .inl hz
    · rw [upd_ne e] at h; exact S.kind a u h
  · by_cases e : k = l
    · subst e
      refine absurd ?_ hg
      have hk : k < st.length := by rw [← S.len]; exact (List.getElem?_eq_some_iff.mp h).1
      rw [List.getElem?_set_self hk]
    · rw [List.getElem?_set_ne (Ne.symm e)] at hg
      rw [upd_ne fun q => e (by subst q; exact nodup_at S.nd h hl)]
      exact S.free k a h hg
  · by_cases e : k = l
    · subst e
      have hk : k < st.length := by
        have := (List.getElem?_eq_some_iff.mp h1).1
        simpa using this
      rw [List.getElem?_set_self hk] at h1
      cases h1
      trivial
    · rw [List.getElem?_set_ne (Ne.symm e)] at h1
      by_cases eg : m' = .gone
      · subst eg; trivial
      · refine (S.obj k m' a h1 h2).mono (fun b u hb => ?_) (fun _ _ h => h) rfl
        by_cases eb : b = p
        · subst eb
          have := S.sub b u hb
          rw [hp] at this
          cases this
          rw [upd_same]
        · rw [upd_ne eb]; exact hb
  · by_cases e : a = p
    · subst e
      have := S.sub a u h
      rw [hp] at this
      cases this
      rw [upd_same]
    · rw [upd_ne e]; exact h
theorem Sim.retire (S : Sim K F ι st H) {l : Nat} {p : Addr} {vs : List V} (hl : ι[l]? = some p) (hp : H p = some (.lst vs)) : Sim K (upd F p (.lst vs)) ι (st.set l .gone) H := S.retireO hl hp trivial
theorem Ext.retireO (S : Sim K F ι st H) {l : Nat} {p : Addr} {o : HO} (hl : ι[l]? = some p) (hp : H p = some o) : Ext F ι H (upd F p o) ι H := by
  refine ⟨fun a u h => ?_, fun _ _ h => h, fun a u h _ _ => h, fun a h => h, fun a u h => ?_, fun _ h => .inl h, Nat.le_refl _⟩
  · by_cases e : a = p
    · subst e
      have := S.sub a u h
      rw [hp] at this
      cases this
      rw [upd_same]
    · rw [upd_ne e]; exact h
  · by_cases e : a = p
    · subst e; exact .inr (.inr (List.mem_of_getElem? hl))
    · rw [upd_ne e] at h; exact .inl h
theorem Ext.retire (S : Sim K F ι st H) {l : Nat} {p : Addr} {vs : List V} (hl : ι[l]? = some p) (hp : H p = some (.lst vs)) : Ext F ι H (upd F p (.lst vs)) ι H := Ext.retireO S hl hp
end
end Dn
namespace Dn
open PySem PySem.Spec PyProof.Rows L2
variable [HzC]
def pL (K : PySem.W.Frag) : Hp → Hp → List Addr → Hp → List D → V → Prop := fun H0 F ι H ds v => ∃ a vs, v = .ref a ∧ H a = some (.lst vs) ∧ F a = none ∧ a ∉ ι ∧ H0 a = none ∧ Reps K F ι ds vs
theorem back_V {K : PySem.W.Frag} : Back (pV K) := fun _ _ _ _ _ _ _ _ h => h
theorem back_A {K : PySem.W.Frag} : Back (pA K) := fun _ _ _ _ _ _ _ _ h => h
theorem back_B : Back pB := fun _ _ _ _ _ _ _ _ h => h
theorem back_L {K : PySem.W.Frag} : Back (pL K) := fun _ _ _ _ _ _ _ f ⟨a, vs, e, h, hF, hi, h0, r⟩ => ⟨a, vs, e, h, hF, hi, f a h0, r⟩
section
variable {α β γ δ : Type} {K : PySem.W.Frag} {W : WX} {σ : L2.St} {F F1 : Hp} {ι ι1 : List Addr} {H H1 : Hp} {P : Hp → Hp → List Addr → Hp → α → β → Prop} {P' : Hp → Hp → List Addr → Hp → γ → δ → Prop} {Q : δ → Hp → Prop} {Q' : β → Hp → Prop}
theorem post_ext (bk : Back P') {r : Out γ} (h : post K W σ F ι H P' r Q) (x : Ext F ι H F1 ι1 H1) : post K W σ F1 ι1 H1 P' r Q := by
  cases r with
  | ok a st => exact fun F' ι' H' b y S p => h F' ι' H' b (x.trans y) S (bk _ _ _ _ _ _ _ x.there p)
  | exc e st => exact fun F' ι' H' c d y S p => h F' ι' H' c d (x.trans y) S p
  | bad => exact h
theorem post_seq (bk : Back P') {r : Out α} {f : α → Sto → Out γ} (h : post K W σ F ι H P' (r.bind f) Q)
    (k : ∀ a st1 F1 ι1 H1 b, r = .ok a st1 → Ext F ι H F1 ι1 H1 → Sim K F1 ι1 st1 H1 → P H F1 ι1 H1 a b → post K W σ F1 ι1 H1 P' (f a st1) Q → Q' b H1) : post K W σ F ι H P r Q' := by
  cases r with
  | ok a st => exact fun F' ι' H' b y S p => k a st F' ι' H' b rfl y S p (post_ext bk h y)
  | exc e st => exact h
  | bad => exact h
end
abbrev tL (K : PySem.W.Frag) (W : WX) (m : Rho → M (List D)) : TE := tG K W (pL K) m
def DL (X : Cx) (W : WX) (e : Expr) (m : Rho → M (List D)) : Prop := PE X e (tL X.K W m)
theorem tG_seq {α β γ δ : Type} {K : PySem.W.Frag} {W : WX} {P : Hp → Hp → List Addr → Hp → α → β → Prop} {P' : Hp → Hp → List Addr → Hp → γ → δ → Prop} (bk : Back P') {m : Rho → M α} {σ : L2.St} {F : Hp} {ι : List Addr} {H : Hp} {ρ : Rho} {st : Sto} {f : α → Sto → Out γ} {Q : δ → Hp → Prop} {Q' : β → Hp → Prop}
    (S : Sim K F ι st H) (R : REnv K F ι ρ σ) (h : post K W σ F ι H P' ((m ρ st).bind f) Q)
    (k : ∀ a st1 F1 ι1 H1 b, Ext F ι H F1 ι1 H1 → Sim K F1 ι1 st1 H1 → REnv K F1 ι1 ρ σ → P H F1 ι1 H1 a b → post K W σ F1 ι1 H1 P' (f a st1) Q → Q' b H1) : tG K W P m σ H Q' :=
  ⟨F, ι, ρ, st, S, R, post_seq bk h fun a st1 F1 ι1 H1 b _ x S1 p q => k a st1 F1 ι1 H1 b x S1 (R.ext x) p q⟩
section
variable {X : Cx} {W : WX} {pos : Pos}
theorem de_c {e : Expr} {v : V} {d : D} (h : PE X e (tC v)) (r : ∀ F ι, Rep X.K F ι d v) : DE X W e (mLit d) :=
  PE.weak h fun σ H Q ⟨F, ι, ρ, st, S, R, q⟩ => q F ι H v Ext.refl S (r F ι)
theorem de_int {i : Int} {j} : DE X W (.Constant (.int i) j pos) (mLit (.int i)) := de_c pe_int fun _ _ => by simp only [Rep]
theorem de_bl {b : Bool} {j} : DE X W (.Constant (.bool b) j pos) (mLit (.bl b)) := de_c pe_bl fun _ _ => by simp only [Rep]
theorem de_str {x : Str} {j} : DE X W (.Constant (.str x) j pos) (mLit (.str x)) := de_c pe_str fun _ _ => by simp only [Rep]
theorem de_gint {x : Str} {i : Int} {t : Tok} (hg : Gl X x) (hm : X.mg x = some (.int i t)) (hd : (x == ("__debug__" : Str)) = false := by decide) : DE X W (.Name x pos) (mLit (.int i)) := de_c (pe_glob hg hm (v := .int i) ⟨t, rfl⟩ hd) fun _ _ => by simp only [Rep]
theorem de_gstr {x : Str} {i : Str} {t : Tok} (hg : Gl X x) (hm : X.mg x = some (.str i t)) (hd : (x == ("__debug__" : Str)) = false := by decide) : DE X W (.Name x pos) (mLit (.str i)) := de_c (pe_glob hg hm (v := .str i) ⟨t, rfl⟩ hd) fun _ _ => by simp only [Rep]
theorem da_nil : DA X W [] mNil := PA.weak pa_nil fun σ H Q ⟨F, ι, ρ, st, S, R, q⟩ => q F ι H [] Ext.refl S Reps.nil
theorem da_cons {e : Expr} {es : List Expr} {m : Rho → M D} {r : Rho → M (List D)} (h : DE X W e m) (hr : DA X W es r) (hs : starEach (e :: es) X.env = (false, eval e X.env) :: starEach es X.env := by rfl) : DA X W (e :: es) (mCons m r) := by
  refine PA.weak (pa_cons h hr hs) fun σ H Q ⟨F, ι, ρ, st, S, R, q⟩ => ?_
  refine tG_seq back_A S R q fun d st1 F1 ι1 H1 v x1 S1 R1 r1 q1 => ?_
  exact tG_seq back_A S1 R1 q1 fun ds st2 F2 ι2 H2 vs x2 S2 R2 r2 q2 => q2 F2 ι2 H2 _ Ext.refl S2 (Reps.cons (r1.ext x2) r2)
theorem sz_le {n : Nat} (h : n ≤ SZ) : n ≤ sizeLine := Nat.le_trans h (by decide)
theorem sz_lt {n : Nat} (h : n ≤ SZ) : n < sizeLine := Nat.lt_of_le_of_lt h (by decide)
theorem fin_tup {X : Cx} {pins : List (Addr × Obj)} {σ : L2.St} {H : Hp} {s : Shared} {Q : VK} {ys : List V} {its : List Value} {t' : Nat} (I : Inv X pins σ H s) (r : Vals ys its) (z : ys.length ≤ sizeLine)
    (q : ∀ (p : Addr) (o : Obj), o.dict = none → H p = none → Q (.ref p) (upd H p (.frz o (.tup ys)))) : EP X pins σ Q (.ref s.heap.objs.size) { s with heap := s.heap.push { cls := .type "tuple", data := .seq its.toArray }, toks := t' } := by
  have hn := I.hok.fresh (Nat.le_refl _)
  have hg : (s.heap.push { cls := .type "tuple", data := .seq its.toArray }).get? s.heap.objs.size = some { cls := .type "tuple", data := .seq its.toArray } := Heap.get?_push_size _ rfl
  have ok : ObjOk X.prog X.w (upd H s.heap.objs.size (.frz { cls := .type "tuple", data := .seq its.toArray } (.tup ys))) (s.heap.push { cls := .type "tuple", data := .seq its.toArray }) s.heap.objs.size (.frz { cls := .type "tuple", data := .seq its.toArray } (.tup ys)) :=
    ⟨hg, z, its, r, ⟨_, hg, rfl, _, rfl⟩⟩
  exact ⟨.ref s.heap.objs.size, _, I.laid (t' := t') (fun b u e => Heap.get?_push_of_some _ e) (Nat.le_refl _) ok, rfl, q _ _ rfl hn⟩
def tTupP (t : TA) : TE := fun σ H Q => t σ H fun xs H1 => xs.length ≤ sizeLine ∧ ∀ (p : Addr) (o : Obj), o.dict = none → H1 p = none → Q (.ref p) (upd H1 p (.frz o (.tup xs)))
theorem pe_tupP {X : Cx} {es : List Expr} {x1} {pos : Pos} {t : TA} (h : PA X es t) : PE X (.Tuple es x1 pos) (tTupP t) := by
  refine ⟨fun pins s σ H Q I hq => wpAny_Tuple_spliced (thn (h.run pos pins s σ H _ I hq) fun us s1 ⟨xs, H1, I1, r, z, q⟩ => ?_)⟩
  exact ⟨by rw [← r.length]; exact z, fin_tup (t' := s1.toks) I1 r z q⟩
theorem de_tup {es : List Expr} {x1} {a : Rho → M (List D)} (h : DA X W es a) : DE X W (.Tuple es x1 pos) (mTup a) := by
  refine PE.weak (pe_tupP h) fun σ H Q ⟨F, ι, ρ, st, S, R, q⟩ => ?_
  refine tG_seq back_V S R q fun xs st1 F1 ι1 H1 vs x1 S1 R1 r1 q1 => ?_
  split at q1
  · rename_i hz
    refine ⟨by rw [← Reps.length r1]; exact sz_le hz, fun p o ho hp => ?_⟩
    refine q1 (upd F1 p (.frz o (.tup vs))) ι1 _ _ (Ext.frozen hp S1.sub) (S1.frozen hp trivial) ?_
    show Rep _ _ _ _ _
    simp only [Rep]
    exact ⟨p, vs, rfl, .inl ⟨o, ho, upd_same⟩, Reps.ext r1 (Ext.frozen (H := H1) hp S1.sub)⟩
  · exact q1.elim
theorem pL_new {K : PySem.W.Frag} {F : Hp} {ι : List Addr} {H : Hp} {st : Sto} {p : Addr} {ds : List D} {vs : List V} (S : Sim K F ι st H) (hp : H p = none) (r : Reps K F ι ds vs) : pL K H F ι (upd H p (.lst vs)) ds (.ref p) := by
  refine ⟨p, vs, rfl, upd_same, ?_, fun h => S.there p h hp, hp, r⟩
  cases e : F p with
  | none => rfl
  | some o =>
    have := S.sub p o e
    rw [hp] at this
    cases this
theorem dl_disp {es : List Expr} {a : Rho → M (List D)} (h : DA X W es a) : DL X W (.List es pos) (lDisp a) := by
  refine PE.weak (pe_lst h) fun σ H Q ⟨F, ι, ρ, st, S, R, q⟩ => ?_
  refine tG_seq back_L S R q fun xs st1 F1 ι1 H1 vs x1 S1 R1 r1 q1 => ?_
  split at q1
  · rename_i hz
    refine ⟨by rw [← Reps.length r1]; exact sz_le hz, fun p hp => ?_⟩
    exact q1 F1 ι1 _ _ (Ext.laid hp) (S1.laid hp) (pL_new S1 hp r1)
  · exact q1.elim
theorem frz_of {K : PySem.W.Frag} {W : WX} {l : Rho → M (List D)} {σ : L2.St} {H : Hp} {Q : VK} (h : tV K W (mFrz l) σ H Q) : tL K W l σ H Q := by
  obtain ⟨F, ι, ρ, st, S, R, q⟩ := h
  refine ⟨F, ι, ρ, st, S, R, ?_⟩
  unfold mFrz at q
  generalize l ρ st = r at q ⊢
  cases r with
  | ok xs st1 =>
    intro F' ι' H' b x S' ⟨a, vs, e, h, hF, hi, h0, rr⟩
    subst e
    have x' := x.freeze (o := .lst vs) hF h0
    refine q (upd F' a (.lst vs)) ι' H' (.ref a) x' (S'.freeze h hF hi trivial) ?_
    show Rep _ _ _ _ _
    simp only [Rep]
    refine ⟨a, vs, rfl, upd_same, Reps.mono (fun b o hb => ?_) (fun _ _ h => h) _ _ rr⟩
    rw [upd_ne (fun e => by rw [e, hF] at hb; cases hb)]
    exact hb
  | exc _ _ => exact q
  | bad => exact q
theorem de_frz {e : Expr} {l : Rho → M (List D)} (h : DL X W e l) : DE X W e (mFrz l) := PE.weak h fun _ _ _ q => frz_of q
theorem new_of {K : PySem.W.Frag} {W : WX} {l : Rho → M (List D)} {σ : L2.St} {H : Hp} {Q : VK} (h : tV K W (mNew l) σ H Q) : tL K W l σ H Q := by
  obtain ⟨F, ι, ρ, st, S, R, q⟩ := h
  refine ⟨F, ι, ρ, st, S, R, ?_⟩
  unfold mNew at q
  generalize l ρ st = r at q ⊢
  cases r with
  | ok xs st1 =>
    intro F' ι' H' b x S' ⟨a, vs, e, h, hF, hi, h0, rr⟩
    subst e
    have mo : ∀ (l : Nat) (b : Addr), ι'[l]? = some b → (ι' ++ [a])[l]? = some b := fun l b h => by
      rw [List.getElem?_append_left (List.getElem?_eq_some_iff.mp h).1]; exact h
    refine q F' (ι' ++ [a]) H' (.ref a) (x.locate h0) (S'.locate (m := .lst xs) (by rw [h]; simp) hF hi ⟨vs, h, Reps.mono (fun _ _ h => h) mo _ _ rr⟩) ?_
    show Rep _ _ _ _ _
    simp only [Rep]
    exact ⟨a, rfl, by rw [← S'.len, List.getElem?_append_right (Nat.le_refl _)]; simp⟩
  | exc _ _ => exact q
  | bad => exact q
theorem de_new {e : Expr} {l : Rho → M (List D)} (h : DL X W e l) : DE X W e (mNew l) := PE.weak h fun _ _ _ q => new_of q
end
end Dn
namespace Dn
open PySem PySem.Spec PyProof.Rows L2
variable [HzC]
theorem seqOf_ref {st : Sto} {l : Nat} {xs : List D} (h : st[l]? = some (.lst xs)) : seqOf st (.ref l) = some xs := by simp [seqOf, lstOf, h]
def rP (K : PySem.W.Frag) (p : Sto → D → D → Option D) : R2 := fun x y H Q => ∃ F ι st a b d, Sim K F ι st H ∧ Rep K F ι a x ∧ Rep K F ι b y ∧ p st a b = some d ∧
  ∀ F' H' v, Ext F ι H F' ι H' → Sim K F' ι st H' → Rep K F' ι d v → Q v H'
def rPL (K : PySem.W.Frag) (p : Sto → D → D → Option (List D)) : R2 := fun x y H Q => ∃ F ι st a b ds, Sim K F ι st H ∧ Rep K F ι a x ∧ Rep K F ι b y ∧ p st a b = some ds ∧
  ∀ H' v, Ext F ι H F ι H' → Sim K F ι st H' → pL K H F ι H' ds v → Q v H'
section
variable {X : Cx} {W : WX} {pos : Pos} {a b : Expr} {m1 m2 : Rho → M D}
theorem tOp_of {K : PySem.W.Frag} {p : Sto → D → D → Option D} {σ : L2.St} {H : Hp} {Q : VK} (h : tV K W (mOp p m1 m2) σ H Q) : tOp (rP K p) (tV K W m1) (tV K W m2) σ H Q := by
  obtain ⟨F, ι, ρ, st, S, R, q⟩ := h
  refine tG_seq back_V S R q fun d1 st1 F1 ι1 H1 v1 x1 S1 R1 r1 q1 => ?_
  refine tG_seq back_V S1 R1 q1 fun d2 st2 F2 ι2 H2 v2 x2 S2 R2 r2 q2 => ?_
  cases e : p st2 d1 d2 with
  | none => rw [e] at q2; exact q2.elim
  | some d =>
    rw [e] at q2
    exact ⟨F2, ι2, st2, d1, d2, d, S2, Rep.ext r1 x2, r2, e, fun F' H' v x S' r => q2 F' ι2 H' v x S' r⟩
theorem tOpL_of {K : PySem.W.Frag} {p : Sto → D → D → Option (List D)} {σ : L2.St} {H : Hp} {Q : VK} (h : tL K W (lOp p m1 m2) σ H Q) : tOp (rPL K p) (tV K W m1) (tV K W m2) σ H Q := by
  obtain ⟨F, ι, ρ, st, S, R, q⟩ := h
  refine tG_seq back_L S R q fun d1 st1 F1 ι1 H1 v1 x1 S1 R1 r1 q1 => ?_
  refine tG_seq back_L S1 R1 q1 fun d2 st2 F2 ι2 H2 v2 x2 S2 R2 r2 q2 => ?_
  cases e : p st2 d1 d2 with
  | none => rw [e] at q2; exact q2.elim
  | some d =>
    rw [e] at q2
    exact ⟨F2, ι2, st2, d1, d2, d, S2, Rep.ext r1 x2, r2, e, fun H' v x S' r => q2 F2 ι2 H' v x S' r⟩
theorem de_bin {op : Operator} {p : Sto → D → D → Option D} (ho : OpR X (binaryOp op) (rP X.K p)) (ha : DE X W a m1) (hb : DE X W b m2) : DE X W (.BinOp a op b pos) (mOp p m1 m2) :=
  PE.weak (pe_op ho ha hb) fun _ _ _ h => tOp_of h
theorem dl_bin {op : Operator} {p : Sto → D → D → Option (List D)} (ho : OpR X (binaryOp op) (rPL X.K p)) (ha : DE X W a m1) (hb : DE X W b m2) : DL X W (.BinOp a op b pos) (lOp p m1 m2) :=
  PE.weak (pe_op ho ha hb) fun _ _ _ h => tOpL_of h
theorem op_ints {f : Value → Value → Sem Value} {C : Int → Int → Prop} [∀ i j, Decidable (C i j)] {g : Int → Int → Int} {p : Sto → D → D → Option D} (ho : OpR X f (rI C fun i j => .int (g i j)))
    (hp : ∀ st a b d, p st a b = some d → ∃ i j, a = .int i ∧ b = .int j ∧ C i j ∧ d = .int (g i j)) : OpR X f (rP X.K p) := by
  intro pins s σ H x y v u Q I rx ry ⟨F, ι, st, a, b, d, S, ra, rb, e, q⟩
  obtain ⟨i, j, e1, e2, hc, e3⟩ := hp st a b d e
  subst e1 e2 e3
  simp only [Rep] at ra rb
  subst ra rb
  exact ho pins s σ H _ _ v u Q I rx ry ⟨i, j, rfl, rfl, hc, q F H _ Ext.refl S (by simp only [Rep])⟩
noncomputable def pDiv : Sto → D → D → Option D := fun _ a b => match a, b with
  | .int i, .int j => @ite _ (0 < j ∧ j < 1073741824) (Classical.propDecidable _) (some (.int (i / j))) (none)
  | _, _ => none
def pMod : Sto → D → D → Option D := fun _ a b => match a, b with
  | .int i, .int j => if 0 < j then some (.int (i % j)) else none
  | _, _ => none
noncomputable def pPow : Sto → D → D → Option D := fun _ a b => match a, b with
  | .int i, .int j => @ite _ (0 ≤ j ∧ j ≤ 1000000 ∧ i.natAbs < 2 ^ 64) (Classical.propDecidable _) (some (.int (i ^ j.toNat))) (none)
  | _, _ => none
theorem op_pSub : OpR X (binaryOp .Sub) (rP X.K pSub) := by
  refine op_ints (C := fun _ _ => True) (g := fun i j => i - j) (fun pins s σ H x y v u Q I rx ry ⟨i, j, e1, e2, _, q⟩ => op_sub pins s σ H x y v u Q I rx ry ⟨i, j, e1, e2, q⟩) fun st a b d e => ?_
  unfold pSub at e
  split at e
  · cases e; exact ⟨_, _, rfl, rfl, trivial, rfl⟩
  · cases e
theorem op_pDiv : OpR X (binaryOp .FloorDiv) (rP X.K pDiv) := by
  refine op_ints (C := fun i j => 0 < j ∧ j < 1073741824) (g := fun i j => i / j) (op_fdiv) fun st a b d e => ?_
  unfold pDiv at e
  split at e
  · split at e
    · rename_i h; cases e; exact ⟨_, _, rfl, rfl, h, rfl⟩
    · cases e
  · cases e
theorem op_pMod : OpR X (binaryOp .Mod) (rP X.K pMod) := by
  refine op_ints (C := fun i j => 0 < j) (g := fun i j => i % j) (op_mod) fun st a b d e => ?_
  unfold pMod at e
  split at e
  · split at e
    · rename_i h; cases e; exact ⟨_, _, rfl, rfl, h, rfl⟩
    · cases e
  · cases e
theorem op_pPow : OpR X (binaryOp .Pow) (rP X.K pPow) := by
  refine op_ints (C := fun i j => 0 ≤ j ∧ j ≤ 1000000 ∧ i.natAbs < 2 ^ 64) (g := fun i j => i ^ j.toNat) (op_pow) fun st a b d e => ?_
  unfold pPow at e
  split at e
  · split at e
    · rename_i h; cases e; exact ⟨_, _, rfl, rfl, h, rfl⟩
    · cases e
  · cases e
theorem new_tup {K : PySem.W.Frag} {F : Hp} {ι : List Addr} {H : Hp} {st : Sto} {xs : List D} {vs : List V} {Q : VK} (S : Sim K F ι st H) (r : Reps K F ι xs vs) (q : ∀ F' H' v, Ext F ι H F' ι H' → Sim K F' ι st H' → Rep K F' ι (.tup xs) v → Q v H') :
    ∀ (p : Addr) (o : Obj), o.dict = none → H p = none → Q (.ref p) (upd H p (.frz o (.tup vs))) := fun p o ho hp => by
  refine q (upd F p (.frz o (.tup vs))) _ _ (Ext.frozen hp S.sub) (S.frozen hp trivial) ?_
  simp only [Rep]
  exact ⟨p, vs, rfl, .inl ⟨o, ho, upd_same⟩, Reps.ext r (Ext.frozen (H := H) hp S.sub)⟩
theorem same_tup {K : PySem.W.Frag} {F : Hp} {ι : List Addr} {H : Hp} {st : Sto} {xs ys : List D} {v : V} {Q : VK} (S : Sim K F ι st H) (r : Rep K F ι (.tup xs) v) (e : xs = ys) (q : ∀ F' H' v, Ext F ι H F' ι H' → Sim K F' ι st H' → Rep K F' ι (.tup ys) v → Q v H') : Q v H :=
  q F H v Ext.refl S (by rw [← e]; exact r)
def rCatP (K : PySem.W.Frag) : R2 := fun x y H Q => ∃ a b xs ys, x = .ref a ∧ y = .ref b ∧ SqT K H a xs ∧ SqT K H b ys ∧ xs.length + ys.length ≤ sizeLine ∧
  (xs = [] → Q (.ref b) H) ∧ (xs ≠ [] → ys = [] → Q (.ref a) H) ∧ (xs ≠ [] → ys ≠ [] → ∀ (p : Addr) (o : Obj), o.dict = none → H p = none → Q (.ref p) (upd H p (.frz o (.tup (xs ++ ys)))))
theorem op_catP : OpR X (binaryOp .Add) (rCatP X.K) := by
  intro pins s σ H x y v u Q I rx ry ⟨a, b, xs, ys, e1, e2, ha, hb, hz, q0, q1, q2⟩
  subst e1 e2
  by_cases hx : xs = []
  · exact op_catA pins s σ H _ _ v u Q I rx ry ⟨a, b, xs, ys, rfl, rfl, ha, hb, hz, q0, q1, fun h => absurd hx h⟩
  · by_cases hy : ys = []
    · exact op_catA pins s σ H _ _ v u Q I rx ry ⟨a, b, xs, ys, rfl, rfl, ha, hb, hz, q0, q1, fun _ h => absurd hy h⟩
    · cases rx
      cases ry
      obtain ⟨i1, r1, p1, _⟩ := I.tuple ha
      obtain ⟨i2, r2, p2, _⟩ := I.tuple hb
      refine HT.cat_tup p1 p2 (fun z => hx (r1.nil_iff.mp z)) (fun z => absurd (r2.nil_iff.mp z) hy) (fun z => ?_) (by rw [← r1.length, ← r2.length]; exact hz)
      exact fin_tup (t' := s.toks) I (r1.append r2) (by rw [List.length_append]; exact hz) (q2 hx hy)
theorem op_pAdd : OpR X (binaryOp .Add) (rP X.K pAdd) := by
  intro pins s σ H x y v u Q I rx ry ⟨F, ι, st, a, b, d, S, ra, rb, e, q⟩
  unfold pAdd at e
  split at e
  · cases e
    simp only [Rep] at ra rb
    subst ra rb
    exact op_add pins s σ H _ _ v u Q I rx ry ⟨_, _, rfl, rfl, q F H _ Ext.refl S (by simp only [Rep])⟩
  · cases e
    simp only [Rep] at ra rb
    subst ra rb
    exact op_add_ib pins s σ H _ _ v u Q I rx ry ⟨_, _, rfl, rfl, q F H _ Ext.refl S (by simp only [Rep])⟩
  · split at e
    · rename_i hz
      cases e
      simp only [Rep] at ra rb
      subst ra rb
      exact op_add_str pins s σ H _ _ v u Q I rx ry ⟨_, _, rfl, rfl, hz, q F H _ Ext.refl S (by simp only [Rep])⟩
    · cases e
  · split at e
    · rename_i xs ys hz
      cases e
      have ra' := ra
      have rb' := rb
      simp only [Rep] at ra rb
      obtain ⟨a1, vs1, e1, h1, r1⟩ := ra
      obtain ⟨a2, vs2, e2, h2, r2⟩ := rb
      subst e1 e2
      refine op_catP pins s σ H _ _ v u Q I rx ry ⟨a1, a2, vs1, vs2, rfl, rfl, S.sqT h1, S.sqT h2, ?_, fun h => ?_, fun h h' => ?_, fun _ _ => new_tup S (r1.append r2) q⟩
      · rw [← r1.length, ← r2.length]; exact sz_le hz
      · subst h
        have : xs = [] := List.eq_nil_of_length_eq_zero r1.length
        subst this
        exact same_tup S rb' rfl q
      · subst h'
        have : ys = [] := List.eq_nil_of_length_eq_zero r2.length
        subst this
        exact same_tup S ra' (by simp) q
    · cases e
  · cases e
def pCat : Sto → D → D → Option (List D) := fun st a b => match lstOf st a, lstOf st b with
  | some xs, some ys => if xs.length + ys.length ≤ SZ then some (xs ++ ys) else none
  | _, _ => none
theorem op_pCat : OpR X (binaryOp .Add) (rPL X.K pCat) := by
  intro pins s σ H x y v u Q I rx ry ⟨F, ι, st, a, b, d, S, ra, rb, e, q⟩
  unfold pCat at e
  split at e
  · rename_i xs ys e1 e2
    split at e
    · rename_i hz
      cases e
      obtain ⟨a1, vs1, q1, h1, r1⟩ := S.lst ra e1
      obtain ⟨a2, vs2, q2, h2, r2⟩ := S.lst rb e2
      subst q1 q2
      exact op_cat pins s σ H _ _ v u Q I rx ry ⟨a1, a2, vs1, vs2, rfl, rfl, h1, h2, by rw [← r1.length, ← r2.length]; exact sz_le hz, fun p hp => q _ _ (Ext.laid hp) (S.laid hp) (pL_new S hp (r1.append r2))⟩
    · cases e
  · cases e
theorem Reps.rep {K : PySem.W.Frag} {F : Hp} {ι : List Addr} {xs : List D} {vs : List V} (h : Reps K F ι xs vs) : ∀ k : Nat, Reps K F ι (List.replicate k xs).flatten (List.replicate k vs).flatten
  | 0 => Reps.nil
  | k + 1 => by
    rw [List.replicate_succ, List.replicate_succ, List.flatten_cons, List.flatten_cons]
    exact h.append (Reps.rep h k)
def pRepL : Sto → D → D → Option (List D) := fun st a b => match lstOf st a, b with
  | some xs, .int k => if xs.length * k.toNat ≤ SZ ∧ -1000000 ≤ k ∧ k ≤ 1000000 then some (List.replicate k.toNat xs).flatten else none
  | _, _ => none
theorem op_pRepL : OpR X (binaryOp .Mult) (rPL X.K pRepL) := by
  intro pins s σ H x y v u Q I rx ry ⟨F, ι, st, a, b, d, S, ra, rb, e, q⟩
  unfold pRepL at e
  split at e
  · rename_i xs k e1
    split at e
    · rename_i hz
      cases e
      obtain ⟨a1, vs1, q1, h1, r1⟩ := S.lst ra e1
      simp only [Rep] at rb
      subst q1 rb
      exact op_rep pins s σ H _ _ v u Q I rx ry ⟨a1, k, vs1, rfl, rfl, h1, by omega, by omega, by rw [← r1.length]; exact sz_le hz.1, fun p hp => q _ _ (Ext.laid hp) (S.laid hp) (pL_new S hp (r1.rep _))⟩
    · cases e
  · cases e
end
end Dn
namespace Dn
open PySem PySem.Spec PyProof.Rows L2
variable [HzC]
theorem tuple_mul_same (l : Addr) (items : Array Value) (n : Nat) (dd : Option Addr) (sl : Array (Option Value)) (x : Int) (u : Tok) (c0 : (decide (x < -(2 ^ 63)) || decide (x ≥ 2 ^ 63)) = false) (c1 : (items.isEmpty || x == 1) = true) :
    Meets (Builtin.«tuple.__mul__» ⟨[.ref l, .int x u], []⟩) (fun _ R s => s.heap.get? l = some { cls := .type "tuple", dict := dd, data := .seq items n, slots := sl } ∧
      R (.ok (.ret (Value.ref l))) s) :=
  .of_wp fun prog w A R s h => by
    obtain ⟨hp, g, d, tk, os⟩ := s
    obtain ⟨hl, h⟩ := h
    have f1 := AutoSeq1.idx_int
    wp_walk using wpAny_loadPart' hl
    repeat (first
      | (refine wpAny_ite_false (decide_eq_false (by rw [c0]; exact Bool.false_ne_true)) ?_; wp_walk using wpAny_loadPart' hl)
      | (refine wpAny_ite_true (decide_eq_true (by rw [c1])) ?_; wp_walk using wpAny_loadPart' hl))
    exact ⟨_, rfl, h⟩
theorem tuple_mul_nil (l : Addr) (items : Array Value) (n : Nat) (dd : Option Addr) (sl : Array (Option Value)) (x : Int) (u : Tok) (c0 : (decide (x < -(2 ^ 63)) || decide (x ≥ 2 ^ 63)) = false) (c1 : (items.isEmpty || x == 1) = false) (c2 : (decide (x ≤ 0) || items.isEmpty) = true) :
    Meets (Builtin.«tuple.__mul__» ⟨[.ref l, .int x u], []⟩) (fun _ R s => s.heap.get? l = some { cls := .type "tuple", dict := dd, data := .seq items n, slots := sl } ∧
      R (.ok (.ret (Value.ref s.heap.objs.size))) { s with heap := s.heap.push { cls := Value.type "tuple", data := Data.seq #[] }, toks := s.toks }) :=
  .of_wp fun prog w A R s h => by
    obtain ⟨hp, g, d, tk, os⟩ := s
    obtain ⟨hl, h⟩ := h
    have f1 := AutoSeq1.idx_int
    wp_walk using wpAny_loadPart' hl
    repeat (first
      | (refine wpAny_ite_false (decide_eq_false (by rw [c0]; exact Bool.false_ne_true)) ?_; wp_walk using wpAny_loadPart' hl)
      | (refine wpAny_ite_false (decide_eq_false (by rw [c1]; exact Bool.false_ne_true)) ?_; wp_walk using wpAny_loadPart' hl)
      | (refine wpAny_ite_true (decide_eq_true (by rw [c2])) ?_; wp_walk using wpAny_loadPart' hl))
    exact ⟨_, rfl, h⟩
section
variable {X : Cx} {W : WX} {pos : Pos} {a b c : Expr} {m1 m2 m3 : Rho → M D}
theorem op_repP : OpR X (binaryOp .Mult) (fun x y H Q => ∃ l k xs, x = .ref l ∧ y = .int k ∧ SqT X.K H l xs ∧ xs ≠ [] ∧ 2 ≤ k ∧ k ≤ 1000 ∧ xs.length ≤ 1000 ∧ ∀ (p : Addr) (o : Obj), o.dict = none → H p = none → Q (.ref p) (upd H p (.frz o (.tup (List.replicate k.toNat xs).flatten)))) := by
  intro pins s σ H x y v u Q I rx ry ⟨l, k, xs, e1, e2, hT, hne, h1, h2, hz, q⟩
  subst e1 e2
  cases rx
  obtain ⟨t, rfl⟩ := ry
  obtain ⟨its, r, ⟨⟨C, dd, dt, sl⟩, ho, hc, n, hd⟩, hs⟩ := I.tuple hT
  simp only at hc hd
  subst hc hd
  have hlen : its.length = xs.length := r.length.symm
  have hin : its ≠ [] := fun e => hne (List.eq_nil_of_length_eq_zero (by rw [← hlen, e]; rfl))
  have hie : its.toArray.isEmpty = false := by
    cases its with
    | nil => exact absurd rfl hin
    | cons _ _ => rfl
  have hsz : its.toArray.size = xs.length := by rw [List.size_toArray, hlen]
  have hmul : ((its.toArray.size : Nat) : Int) * k ≤ 1000000 := by
    rw [hsz]
    have := Int.mul_le_mul_of_nonneg_right (show ((xs.length : Nat) : Int) ≤ 1000 by omega) (show 0 ≤ k by omega)
    omega
  have hnat : k.toNat * xs.length ≤ 1000000 := Nat.le_trans (Nat.mul_le_mul (show k.toNat ≤ 1000 by omega) hz) (by decide)
  have hflat : (List.replicate k.toNat its).flatten.length ≤ sizeLine := by
    rw [PyProof.Rows.lm_len_rep_flat, hlen, sizeLine_eq]
    omega
  have d0 : (decide (k < -(2 ^ 63)) || decide (k ≥ 2 ^ 63)) = false := by
    rw [Bool.or_eq_false_iff]
    exact ⟨decide_eq_false (by omega), decide_eq_false (by omega)⟩
  have d1 : (its.toArray.isEmpty || k == 1) = false := by
    rw [Bool.or_eq_false_iff]
    exact ⟨hie, beq_eq_false_iff_ne.mpr (by omega)⟩
  have d2 : (decide (k ≤ 0) || its.toArray.isEmpty) = false := by
    rw [Bool.or_eq_false_iff]
    exact ⟨decide_eq_false (by omega), hie⟩
  have d4 : Builtin.Tuple.tupleTooMany (((its.toArray.size : Nat) : Int) * k) = false := by
    unfold Builtin.Tuple.tupleTooMany
    exact decide_eq_false (by rw [sizeLine_eq]; omega)
  refine wpAny_binaryOp_repeat_ref (T := "tuple") (U := "int") (by decide) ⟨_, ho, rfl⟩ (fun s' => typeIs_int s' k t) noFill_tuple_mul PySem.F.fills_int_mul PySem.F.slot_int_rmul repeat_tuple PySem.F.slot_int_index.lookup
    (call_meets PySem.F.slot_int_rmul (typeIs_int s k t) PySem.F.entry_int_rmul (PySem.F.args_int_rmul_2 _ _) (int_rmul_tuple k t l its.toArray n dd sl) ⟨ho, rfl, ⟨_, ho, rfl⟩,
      call_meets PySem.F.slot_tuple_mul ⟨_, ho, rfl⟩ PySem.F.entry_tuple_mul (PySem.F.args_tuple_mul_2 _ _) (tuple_mulW l its.toArray n dd sl k t d0 d1 d2 (by omega) d4 (by rw [size_rep, List.size_toArray]; exact hflat)) ⟨ho, ?_⟩⟩)
  rw [size_rep]
  exact fin_tup (t' := s.toks) I (r.rep k.toNat) (by rw [PyProof.Rows.lm_len_rep_flat, sizeLine_eq]; omega) q
noncomputable def pMul : Sto → D → D → Option D := fun _ a b => match a, b with
  | .int i, .int j => @ite _ (i.natAbs < 2 ^ 64 ∨ j.natAbs < 2 ^ 64) (Classical.propDecidable _) (some (.int (i * j))) (none)
  | .tup xs, .int k => if xs.length ≤ 1000 ∧ -1000 ≤ k ∧ k ≤ 1000 then some (.tup (List.replicate k.toNat xs).flatten) else none
  | _, _ => none
theorem op_pMul : OpR X (binaryOp .Mult) (rP X.K pMul) := by
  intro pins s σ H x y v u Q I rx ry ⟨F, ι, st, a, b, d, S, ra, rb, e, q⟩
  unfold pMul at e
  split at e
  · split at e
    · rename_i hc
      cases e
      simp only [Rep] at ra rb
      subst ra rb
      refine op_mul pins s σ H _ _ v u Q I rx ry ⟨_, _, rfl, rfl, ?_, q F H _ Ext.refl S (by simp only [Rep])⟩
      rcases hc with h | h
      · exact .inl (by omega)
      · exact .inr (by omega)
    · cases e
  · split at e
    · rename_i xs k hc
      cases e
      have ra' := ra
      simp only [Rep] at ra rb
      obtain ⟨a1, vs, e1, h1, r1⟩ := ra
      subst e1 rb
      have hT := S.sqT h1
      have hx := rx
      cases rx
      obtain ⟨t, rfl⟩ := ry
      obtain ⟨its, r, ⟨⟨cls, dd, data, sl⟩, ho, hc1, n, hd⟩, hs⟩ := I.tuple hT
      simp only at hc1 hd
      subst hc1 hd
      have hle : its.length = xs.length := r.length.symm.trans r1.length.symm
      have c0 : (decide (k < -(2 ^ 63)) || decide (k ≥ 2 ^ 63)) = false := by
        rw [decide_eq_false (by omega), decide_eq_false (by omega)] <;> rfl
      by_cases c1 : (its.toArray.isEmpty || k == 1) = true
      · refine wpAny_binaryOp_repeat_ref (T := "tuple") (U := "int") (by decide) ⟨_, ho, rfl⟩ (fun s' => typeIs_int s' k t) noFill_tuple_mul PySem.F.fills_int_mul PySem.F.slot_int_rmul repeat_tuple PySem.F.slot_int_index.lookup
          (call_meets PySem.F.slot_int_rmul (typeIs_int s k t) PySem.F.entry_int_rmul (PySem.F.args_int_rmul_2 _ _) (int_rmul_tuple k t a1 its.toArray n dd sl)
            ⟨ho, rfl, ⟨_, ho, rfl⟩, call_meets PySem.F.slot_tuple_mul ⟨_, ho, rfl⟩ PySem.F.entry_tuple_mul (PySem.F.args_tuple_mul_2 _ _) (tuple_mul_same a1 its.toArray n dd sl k t c0 c1) ⟨ho, ?_⟩⟩)
        refine ⟨.ref a1, H, I, rfl, q F H _ Ext.refl S ?_⟩
        have e2 : (List.replicate k.toNat xs).flatten = xs := by
          rw [Bool.or_eq_true] at c1
          rcases c1 with c1 | c1
          · have : its = [] := by simpa using c1
            have h0 : xs = [] := List.eq_nil_of_length_eq_zero (by rw [← hle, this]; rfl)
            subst h0
            simp
          · have : k = 1 := by simpa using c1
            subst this
            simp
        rw [e2]
        exact ra'
      · have c1 : (its.toArray.isEmpty || k == 1) = false := by simpa using c1
        by_cases c2 : (decide (k ≤ 0) || its.toArray.isEmpty) = true
        · refine wpAny_binaryOp_repeat_ref (T := "tuple") (U := "int") (by decide) ⟨_, ho, rfl⟩ (fun s' => typeIs_int s' k t) noFill_tuple_mul PySem.F.fills_int_mul PySem.F.slot_int_rmul repeat_tuple PySem.F.slot_int_index.lookup
            (call_meets PySem.F.slot_int_rmul (typeIs_int s k t) PySem.F.entry_int_rmul (PySem.F.args_int_rmul_2 _ _) (int_rmul_tuple k t a1 its.toArray n dd sl)
              ⟨ho, rfl, ⟨_, ho, rfl⟩, call_meets PySem.F.slot_tuple_mul ⟨_, ho, rfl⟩ PySem.F.entry_tuple_mul (PySem.F.args_tuple_mul_2 _ _) (tuple_mul_nil a1 its.toArray n dd sl k t c0 c1 c2) ⟨ho, ?_⟩⟩)
          have e2 : (List.replicate k.toNat xs).flatten = [] := by
            rw [Bool.or_eq_true] at c2
            rcases c2 with c2 | c2
            · have : k.toNat = 0 := by
                have := of_decide_eq_true c2
                omega
              rw [this]
              rfl
            · rw [Bool.or_eq_false_iff] at c1
              rw [c1.1] at c2
              cases c2
          rw [e2] at q
          exact fin_tup (t' := s.toks) I (ys := []) (its := []) .nil (Nat.zero_le _) (new_tup S Reps.nil q)
        · have h2 : 2 ≤ k := by
            simp only [Bool.or_eq_true, decide_eq_true_eq, not_or] at c2
            rw [Bool.or_eq_false_iff] at c1
            have : k ≠ 1 := by simpa using c1.2
            omega
          have hne : vs ≠ [] := by
            intro h0
            rw [Bool.or_eq_false_iff] at c1
            have h1 := c1.1
            subst h0
            cases r
            simp at h1
          exact op_repP pins s σ H _ _ _ _ Q I hx (show RelV (V.int k) (Value.int k t) from ⟨t, rfl⟩) ⟨a1, k, vs, rfl, rfl, hT, hne, h2, hc.2.2, by rw [← r1.length]; exact hc.1, new_tup S (r1.rep _) q⟩
    · cases e
  · cases e
mutual
theorem plain_toP : ∀ d : D, isP d = true → (toP d).plain = true
  | .non, _ => rfl
  | .bl _, _ => rfl
  | .int _, _ => rfl
  | .str _, _ => rfl
  | .tup xs, h => by
    simp only [isP] at h
    simp only [toP, PyData.plain]
    exact plain_toPs xs h
  | .lst xs, h => by
    simp only [isP] at h
    simp only [toP, PyData.plain]
    exact plain_toPs xs h
  | .scr _, h => by simp [isP] at h
  | .ref _, h => by simp [isP] at h
  | .adr _, h => by simp [isP] at h
  | .fd _ _, h => by simp [isP] at h
  | .exo _ _ _ _, h => by simp [isP] at h
  | .obj _ _ _, h => by simp [isP] at h
  | .sd _, h => by simp [isP] at h
  | .fnv _, h => by simp [isP] at h
theorem plain_toPs : ∀ ds : List D, isPs ds = true → PyData.plainAll (toPs ds) = true
  | [], _ => rfl
  | d :: ds, h => by
    simp only [isPs, Bool.and_eq_true] at h
    simp only [toPs, PyData.plainAll, plain_toP d h.1, plain_toPs ds h.2, Bool.and_self]
end
theorem dat_plain {st : Sto} {d : D} {p : PyData} (h : dat st d = some p) : p.plain = true := by
  unfold dat at h
  split at h
  · split at h
    · split at h
      · rename_i hp
        cases h
        simp only [PyData.plain]
        exact plain_toPs _ hp
      · cases h
    · cases h
  · split at h
    · rename_i hp
      cases h
      exact plain_toP _ hp
    · cases h
theorem op_pEq (hu : X.A.units + 64 < cLine) : OpR X (compareOp .Eq) (rP X.K pEq) := by
  intro pins s σ H x y v u Q I rx ry ⟨F, ι, st, a, b, d, S, ra, rb, e, q⟩
  unfold pEq at e
  split at e
  · rename_i x1 y1
    cases e
    have e1 : x = V.str x1 := by simpa only [Rep] using ra
    have e2 : y = V.str y1 := by simpa only [Rep] using rb
    subst e1
    subst e2
    refine op_eq pins s σ H _ _ v u Q I rx ry ⟨rfl, ?_⟩
    rw [dec_str]
    exact q F H _ Ext.refl S (by simp only [Rep])
  split at e
  · rename_i p1 p2 e1 e2
    split at e
    · rename_i hc
      cases e
      obtain ⟨as, r1⟩ := Dp.reads I p1 x v (S.dp ra e1) rx
      obtain ⟨bs, r2⟩ := Dp.reads I p2 y u (S.dp rb e2) ry
      exact SeqAt.eq_plain r1 r2 (dat_plain e1) (dat_plain e2) (by omega) ⟨.bl _, H, I, rfl, q F H _ Ext.refl S (by simp only [Rep])⟩
    · cases e
  · cases e
theorem op_pNe (hu : X.A.units + 64 < cLine) : OpR X (compareOp .NotEq) (rP X.K pNe) := by
  intro pins s σ H x y v u Q I rx ry ⟨F, ι, st, a, b, d, S, ra, rb, e, q⟩
  unfold pNe at e
  split at e
  · rename_i x1 y1
    cases e
    have e1 : x = V.str x1 := by simpa only [Rep] using ra
    have e2 : y = V.str y1 := by simpa only [Rep] using rb
    subst e1
    subst e2
    refine op_ne pins s σ H _ _ v u Q I rx ry ⟨rfl, ?_⟩
    rw [dec_str]
    exact q F H _ Ext.refl S (by simp only [Rep])
  split at e
  · rename_i p1 p2 e1 e2
    split at e
    · rename_i hc
      cases e
      obtain ⟨as, r1⟩ := Dp.reads I p1 x v (S.dp ra e1) rx
      obtain ⟨bs, r2⟩ := Dp.reads I p2 y u (S.dp rb e2) ry
      exact SeqAt.ne_plain r1 r2 (dat_plain e1) (dat_plain e2) (by omega) ⟨.bl _, H, I, rfl, q F H _ Ext.refl S (by simp only [Rep])⟩
    · cases e
  · cases e
theorem op_pIn (hu : X.A.units + 65 < cLine) : OpR X (compareOp .In) (rP X.K pIn) := by
  intro pins s σ H x y v u Q I rx ry ⟨F, ι, st, a, b, d, S, ra, rb, e, q⟩
  unfold pIn inD at e
  split at e
  · split at e
    · cases e
      simp only [Rep] at ra rb
      subst ra rb
      exact op_in_str pins s σ H _ _ v u Q I rx ry ⟨_, _, rfl, rfl, q F H _ Ext.refl S (by simp only [Rep])⟩
    · cases e
  · split at e
    · rename_i p ds e1 e2
      split at e
      · rename_i hc
        cases e
        obtain ⟨as, r1⟩ := Dp.reads I p x v (S.dp ra e1) rx
        obtain ⟨bs, r2⟩ := Dp.reads I (.list ds) y u (S.dp rb e2) ry
        exact SeqAt.in_list_data r2 r1 (by simpa only [PyData.plain] using dat_plain e2) (dat_plain e1) (by omega) ⟨.bl _, H, I, rfl, q F H _ Ext.refl S (by simp only [Rep])⟩
      · cases e
    · rename_i p ds e1 e2
      split at e
      · rename_i hc
        cases e
        obtain ⟨as, r1⟩ := Dp.reads I p x v (S.dp ra e1) rx
        obtain ⟨bs, r2⟩ := Dp.reads I (.tuple ds) y u (S.dp rb e2) ry
        exact SeqAt.in_tuple_data r2 r1 (by simpa only [PyData.plain] using dat_plain e2) (dat_plain e1) (by omega) ⟨.bl _, H, I, rfl, q F H _ Ext.refl S (by simp only [Rep])⟩
      · cases e
    · cases e
theorem op_pNotIn (hu : X.A.units + 65 < cLine) : OpR X (compareOp .NotIn) (rP X.K pNotIn) := by
  intro pins s σ H x y v u Q I rx ry ⟨F, ι, st, a, b, d, S, ra, rb, e, q⟩
  unfold pNotIn inD at e
  split at e
  · split at e
    · cases e
      simp only [Rep] at ra rb
      subst ra rb
      exact op_notin_str pins s σ H _ _ v u Q I rx ry ⟨_, _, rfl, rfl, q F H _ Ext.refl S (by simp only [Rep])⟩
    · cases e
  · split at e
    · rename_i p ds e1 e2
      split at e
      · rename_i hc
        cases e
        obtain ⟨as, r1⟩ := Dp.reads I p x v (S.dp ra e1) rx
        obtain ⟨bs, r2⟩ := Dp.reads I (.list ds) y u (S.dp rb e2) ry
        exact SeqAt.notIn_list_data r2 r1 (by simpa only [PyData.plain] using dat_plain e2) (dat_plain e1) (by omega) ⟨.bl _, H, I, rfl, q F H _ Ext.refl S (by simp only [Rep])⟩
      · cases e
    · rename_i p ds e1 e2
      split at e
      · rename_i hc
        cases e
        obtain ⟨as, r1⟩ := Dp.reads I p x v (S.dp ra e1) rx
        obtain ⟨bs, r2⟩ := Dp.reads I (.tuple ds) y u (S.dp rb e2) ry
        exact SeqAt.notIn_tuple_data r2 r1 (by simpa only [PyData.plain] using dat_plain e2) (dat_plain e1) (by omega) ⟨.bl _, H, I, rfl, q F H _ Ext.refl S (by simp only [Rep])⟩
      · cases e
    · cases e
theorem op_cmpI {f : Value → Value → Sem Value} {g : Int → Int → Bool} {p : Sto → D → D → Option D} (ho : OpR X f (rI0 fun i j => .bl (g i j)))
    (hp : ∀ st a b d, p st a b = some d → ∃ i j, a = .int i ∧ b = .int j ∧ d = .bl (g i j)) : OpR X f (rP X.K p) := by
  intro pins s σ H x y v u Q I rx ry ⟨F, ι, st, a, b, d, S, ra, rb, e, q⟩
  obtain ⟨i, j, e1, e2, e3⟩ := hp st a b d e
  subst e1 e2 e3
  simp only [Rep] at ra rb
  subst ra rb
  exact ho pins s σ H _ _ v u Q I rx ry ⟨i, j, rfl, rfl, q F H _ Ext.refl S (by simp only [Rep])⟩
theorem op_pLe : OpR X (compareOp .LtE) (rP X.K pLe) := op_cmpI op_le fun st a b d e => by
  unfold pLe at e
  split at e
  · cases e; exact ⟨_, _, rfl, rfl, rfl⟩
  · cases e
theorem op_pGt : OpR X (compareOp .Gt) (rP X.K pGt) := op_cmpI op_gt fun st a b d e => by
  unfold pGt at e
  split at e
  · cases e; exact ⟨_, _, rfl, rfl, rfl⟩
  · cases e
theorem op_pGe : OpR X (compareOp .GtE) (rP X.K pGe) := op_cmpI op_ge fun st a b d e => by
  unfold pGe at e
  split at e
  · cases e; exact ⟨_, _, rfl, rfl, rfl⟩
  · cases e
theorem de_cmp {op : CmpOp} {p : Sto → D → D → Option D} (ho : OpR X (compareOp op) (rP X.K p)) (ha : DE X W a m1) (hb : DE X W b m2) (hm : behindInMarks op b = false := by rfl) : DE X W (.Compare a [op] [b] pos) (mOp p m1 m2) :=
  PE.weak (pe_cmpR ho ha hb hm) fun _ _ _ h => tOp_of h
theorem isB_of {K : PySem.W.Frag} {m : Rho → M D} {σ : L2.St} {H : Hp} {Q : Bool → Hp → Prop} (h : tT K W (isB m) σ H Q) : tTest (tV K W m) σ H Q := by
  obtain ⟨F, ι, ρ, st, S, R, q⟩ := h
  refine tG_seq back_B S R q fun d1 st1 F1 ι1 H1 v1 x1 S1 R1 r1 q1 => ?_
  split at q1
  · have r : Rep K F1 ι1 (.bl _) v1 := r1
    simp only [Rep] at r
    exact ⟨_, r, q1 F1 ι1 H1 _ Ext.refl S1 rfl⟩
  · exact q1.elim
theorem dt_cmp {op : CmpOp} {p : Sto → D → D → Option D} (ho : OpR X (compareOp op) (rP X.K p)) (ha : DE X W a m1) (hb : DE X W b m2) (hm : behindInMarks op b = false := by rfl) : DT X W (.Compare a [op] [b] pos) (isB (mOp p m1 m2)) :=
  PT.weak (pt_cmpR ho ha hb hm) fun σ H Q h => by
    have q := isB_of h
    unfold tTest at q ⊢
    exact tOp_of q
theorem isEmpty_reps {K : PySem.W.Frag} {F : Hp} {ι : List Addr} {xs : List D} {vs : List V} (r : Reps K F ι xs vs) : (!xs.isEmpty) = !vs.isEmpty := by
  have := r.length
  cases xs <;> cases vs <;> simp at this ⊢
theorem truth_of {K : PySem.W.Frag} {F : Hp} {ι : List Addr} {H : Hp} {st : Sto} {d : D} {v : V} {k : Bool} (S : Sim K F ι st H) (r : Rep K F ι d v) (h : d.truth st = some k) : TruV K v H k := by
  unfold D.truth at h
  split at h
  · cases h; simp only [Rep] at r; subst r; rfl
  · cases h; simp only [Rep] at r; subst r; rfl
  · cases h; simp only [Rep] at r; subst r; rfl
  · split at h
    · rename_i hz
      cases h; simp only [Rep] at r; subst r; exact ⟨hz, rfl⟩
    · cases h
  · cases e : seqOf st d with
    | none => rw [e] at h; cases h
    | some xs =>
      rw [e] at h
      cases h
      obtain ⟨a, vs, e1, hs, r1⟩ := S.seq r e
      subst e1
      show TruV K (V.ref a) H (!xs.isEmpty)
      rw [isEmpty_reps r1]
      rcases hs with hs | hs
      · exact .inl ⟨vs, hs, rfl⟩
      · exact .inr (.inl ⟨vs, hs, rfl⟩)
theorem dt_tru (ha : DE X W a m1) (he : ∀ whole, isTrue a X.env whole = (do let v ← whole; standAt a.pos; holding [v] (truthy v)) := by intro _; rfl) : DT X W a (mTru m1) := by
  refine PT.weak (pt_truth ha he) fun σ H Q ⟨F, ι, ρ, st, S, R, q⟩ => ?_
  refine tG_seq back_B S R q fun d1 st1 F1 ι1 H1 v1 x1 S1 R1 r1 q1 => ?_
  cases e : d1.truth st1 with
  | none => rw [e] at q1; exact q1.elim
  | some k =>
    rw [e] at q1
    exact ⟨k, truth_of S1 r1 e, q1 F1 ι1 H1 k Ext.refl S1 rfl⟩
def DW (X : Cx) (W : WX) (e : Expr) (m : Rho → M Bool) : Prop := PW X e (tT X.K W m)
theorem dt_w {e : Expr} {m : Rho → M Bool} (h : DW X W e m) : DT X W e m := L2.PW.pt h
variable {b1 b2 : Rho → M Bool} {rest : List Expr}
theorem dw_and1 (ha : DT X W a b1) : DW X W (.BoolOp .And [a] pos) b1 := pw_and1 ha
theorem dw_or1 (ha : DT X W a b1) : DW X W (.BoolOp .Or [a] pos) b1 := pw_or1 ha
theorem dw_and (ha : DT X W a b1) (hb : DW X W (.BoolOp .And (b :: rest) pos) b2) : DW X W (.BoolOp .And (a :: b :: rest) pos) (bAnd b1 b2) := by
  refine PW.weak (pw_and ha hb) fun σ H Q ⟨F, ι, ρ, st, S, R, q⟩ => ?_
  refine tG_seq back_B S R q fun k st1 F1 ι1 H1 k' x1 S1 R1 r1 q1 => ?_
  have r1 : k = k' := r1
  subst r1
  cases k with
  | true => exact ⟨F1, ι1, ρ, st1, S1, R1, q1⟩
  | false => exact q1 F1 ι1 H1 false Ext.refl S1 rfl
theorem dw_or (ha : DT X W a b1) (hb : DW X W (.BoolOp .Or (b :: rest) pos) b2) : DW X W (.BoolOp .Or (a :: b :: rest) pos) (bOr b1 b2) := by
  refine PW.weak (pw_or ha hb) fun σ H Q ⟨F, ι, ρ, st, S, R, q⟩ => ?_
  refine tG_seq back_B S R q fun k st1 F1 ι1 H1 k' x1 S1 R1 r1 q1 => ?_
  have r1 : k = k' := r1
  subst r1
  cases k with
  | false => exact ⟨F1, ι1, ρ, st1, S1, R1, q1⟩
  | true => exact q1 F1 ι1 H1 true Ext.refl S1 rfl
theorem dt_not (ha : DT X W a b1) : DT X W (.UnaryOp .Not a pos) (bNot b1) := by
  refine PT.weak (pt_not ha) fun σ H Q ⟨F, ι, ρ, st, S, R, q⟩ => ?_
  refine tG_seq back_B S R q fun k st1 F1 ι1 H1 k' x1 S1 R1 r1 q1 => ?_
  have r1 : k = k' := r1
  subst r1
  exact q1 F1 ι1 H1 _ Ext.refl S1 rfl
def mAndV (m1 m2 : Rho → M D) : Rho → M D := fun ρ st => (m1 ρ st).bind fun d st1 => (lift (d.truth st1) st1).bind fun k st2 => if k = true then m2 ρ st2 else .ok d st2
theorem de_one {op : BoolOp} (h : DE X W a m1) : DE X W (.BoolOp op [a] pos) m1 := pe_one h
theorem de_and (ha : DE X W a m1) (hb : DE X W (.BoolOp .And (b :: rest) pos) m2) : DE X W (.BoolOp .And (a :: b :: rest) pos) (mAndV m1 m2) := by
  refine PE.weak (pe_andT ha hb) fun σ H Q ⟨F, ι, ρ, st, S, R, q⟩ => ?_
  refine tG_seq back_V S R q fun d1 st1 F1 ι1 H1 v1 x1 S1 R1 r1 q1 => ?_
  cases e : d1.truth st1 with
  | none => rw [e] at q1; exact q1.elim
  | some k =>
    rw [e] at q1
    refine ⟨k, truth_of S1 r1 e, ?_⟩
    cases k with
    | true => exact ⟨F1, ι1, ρ, st1, S1, R1, q1⟩
    | false => exact q1 F1 ι1 H1 _ Ext.refl S1 r1
theorem de_if (hc : DT X W c b1) (ha : DE X W a m1) (hb : DE X W b m2) : DE X W (.IfExp c a b pos) (mIf b1 m1 m2) := by
  refine PE.weak (pe_ifExp hc ha hb) fun σ H Q ⟨F, ι, ρ, st, S, R, q⟩ => ?_
  refine tG_seq back_V S R q fun k st1 F1 ι1 H1 k' x1 S1 R1 r1 q1 => ?_
  have r1 : k = k' := r1
  subst r1
  cases k with
  | true => exact ⟨F1, ι1, ρ, st1, S1, R1, q1⟩
  | false => exact ⟨F1, ι1, ρ, st1, S1, R1, q1⟩
end
end Dn
namespace Dn
open PySem PySem.Spec PyProof.Rows L2
variable [HzC]
section
variable {X : Cx} {W : WX} {pos p2 : Pos} {a b c : Expr} {m1 m2 m3 : Rho → M D}
theorem atI_reps {K : PySem.W.Frag} {F : Hp} {ι : List Addr} {xs : List D} {vs : List V} {i : Int} {d : D} (r : Reps K F ι xs vs) (h : atI xs i = some d) : ∃ v, atI vs i = some v ∧ Rep K F ι d v := by
  unfold atI at h ⊢
  rw [← r.length]
  cases e : ixN xs.length i with
  | none => rw [e] at h; cases h
  | some j =>
    rw [e] at h
    exact r.get h
theorem ix_pIdx : IxR X (rP X.K pIdx) := by
  intro value slice pins s σ H x y v u Q I rx ry ⟨F, ι, st, a, b, d, S, ra, rb, e, q⟩ hs
  unfold pIdx at e
  split at e
  · split at e
    · rename_i hz
      rename_i i
      simp only [Rep] at ra rb
      subst ra rb
      rename_i z
      cases e2 : atI z.cps.toList i with
      | none => rw [e2] at e; cases e
      | some cc =>
        rw [e2] at e
        cases e
        exact ix_seq value slice pins s σ H _ _ v u Q I rx ry (.inr (.inr ⟨_, _, cc, rfl, rfl, hz, e2, q F H _ Ext.refl S (by simp only [Rep])⟩)) hs
    · cases e
  · rename_i i hn
    cases e1 : seqOf st a with
    | none => rw [e1] at e; cases e
    | some xs =>
      rw [e1] at e
      have e : atI xs i = some d := e
      obtain ⟨p, vs, e2, h2, r⟩ := S.seq ra e1
      simp only [Rep] at rb
      subst e2 rb
      obtain ⟨w, hw, rw'⟩ := atI_reps r e
      rcases h2 with h2 | h2
      · exact ix_seq value slice pins s σ H _ _ v u Q I rx ry (.inl ⟨p, vs, i, w, rfl, rfl, h2, hw, q F H _ Ext.refl S rw'⟩) hs
      · exact ix_seq value slice pins s σ H _ _ v u Q I rx ry (.inr (.inl ⟨p, vs, i, w, rfl, rfl, h2, hw, q F H _ Ext.refl S rw'⟩)) hs
  · cases e
theorem de_idx (ha : DE X W a m1) (hb : DE X W b m2) (hs : PlainIx b := by intro _ _; rfl) : DE X W (.Subscript a b pos) (mOp pIdx m1 m2) :=
  PE.weak (pe_ix ix_pIdx ha hb hs) fun _ _ _ h => tOp_of h
def pO : Hp → Hp → List Addr → Hp → Option Int → Option Int → Prop := fun _ _ _ _ b c => b = c
theorem back_O : Back pO := fun _ _ _ _ _ _ _ _ h => h
def DO (X : Cx) (W : WX) (e : Option Expr) (m : Rho → M (Option Int)) : Prop := PO X e (tG X.K W pO m)
theorem do_none : DO X W none oNone := PO.weak po_none fun σ H Q ⟨F, ι, ρ, st, S, R, q⟩ => q F ι H none Ext.refl S rfl
theorem do_some (ha : DE X W a m1) : DO X W (some a) (oSome m1) := by
  refine PO.weak (po_some ha) fun σ H Q ⟨F, ι, ρ, st, S, R, q⟩ => ?_
  refine tG_seq back_O S R q fun d1 st1 F1 ι1 H1 v1 x1 S1 R1 r1 q1 => ?_
  split at q1
  · have r : Rep X.K F1 ι1 (.int _) v1 := r1
    simp only [Rep] at r
    exact ⟨_, r, q1 F1 ι1 H1 _ Ext.refl S1 rfl⟩
  · exact q1.elim
theorem cut_reps {K : PySem.W.Frag} {F : Hp} {ι : List Addr} {xs : List D} {vs : List V} (r : Reps K F ι xs vs) (lo hi : Option Int) : Reps K F ι (cutD xs lo hi) (cutV vs lo hi) := by
  unfold cutD cutV
  rw [← r.length]
  exact (r.drop _).take _
theorem cutD_whole {α : Type} {xs : List α} {lo hi : Option Int} (h : HT.sIx xs.length 0 lo = 0 ∧ HT.sIx xs.length xs.length hi = xs.length) : cutD xs lo hi = xs := by
  unfold cutD
  rw [h.1, h.2]
  simp
def rSlP (K : PySem.W.Frag) : V → Option Int → Option Int → Hp → VK → Prop := fun x lo hi H Q => ∃ a xs, x = .ref a ∧ SqT K H a xs ∧
  (HT.sIx xs.length 0 lo = 0 ∧ HT.sIx xs.length xs.length hi = xs.length → Q (.ref a) H) ∧ (¬ (HT.sIx xs.length 0 lo = 0 ∧ HT.sIx xs.length xs.length hi = xs.length) → ∀ (p : Addr) (o : Obj), o.dict = none → H p = none → Q (.ref p) (upd H p (.frz o (.tup (cutV xs lo hi)))))
theorem sl_tupP : SlR X (rSlP X.K) := by
  intro pins s σ H x v vl vu lo hi sl Q I rx hs pl pu ⟨a, xs, e, hx, q1, q2⟩
  subst e
  by_cases hw : HT.sIx xs.length 0 lo = 0 ∧ HT.sIx xs.length xs.length hi = xs.length
  · exact sl_tupA pins s σ H _ v vl vu lo hi sl Q I rx hs pl pu ⟨a, xs, rfl, hx, q1, fun h => absurd hw h⟩
  · cases rx
    obtain ⟨its, r, ht, hz⟩ := I.tuple hx
    have hn : its.toArray.size = xs.length := by rw [List.size_toArray, r.length]
    refine ⟨"tuple", _, PyProof.Rows.slot_tuple_getitem.lookup, ht.typeIs, HT.getItem_tuple_cut ht hs pl pu (by rw [hn]; exact hw) ?_ (by rw [hn]; exact hz)⟩
    rw [hn]
    exact fin_tup (t' := s.toks) I ((r.drop (HT.sIx xs.length 0 lo)).take (HT.sIx xs.length xs.length hi - HT.sIx xs.length 0 lo)) (Nat.le_trans (cutV_length xs lo hi) hz) (q2 hw)
theorem de_slT {lo hi : Option Expr} {l h : Rho → M (Option Int)} (ha : DE X W a m1) (hl : DO X W lo l) (hh : DO X W hi h) : DE X W (.Subscript a (.Slice lo hi none p2) pos) (mSlT m1 l h) := by
  refine PE.weak (pe_slice sl_tupP ha hl hh) fun σ H Q ⟨F, ι, ρ, st, S, R, q⟩ => ?_
  refine tG_seq back_V S R q fun d st1 F1 ι1 H1 v1 x1 S1 R1 r1 q1 => ?_
  refine tG_seq back_V S1 R1 q1 fun lo st2 F2 ι2 H2 lo' x2 S2 R2 r2 q2 => ?_
  refine tG_seq back_V S2 R2 q2 fun hi st3 F3 ι3 H3 hi' x3 S3 R3 r3 q3 => ?_
  have r2 : lo = lo' := r2
  have r3 : hi = hi' := r3
  subst r2 r3
  split at q3
  · rename_i xs
    have r : Rep X.K F3 ι3 (.tup xs) v1 := (Rep.ext r1 x2).ext x3
    have r' := r
    simp only [Rep] at r
    obtain ⟨p, vs, e, hq, rr⟩ := r
    subst e
    have q3' : ∀ F' H' v, Ext F3 ι3 H3 F' ι3 H' → Sim X.K F' ι3 st3 H' → Rep X.K F' ι3 (.tup (cutD xs lo hi)) v → Q v H' := fun F' H' v x S' r => q3 F' ι3 H' v x S' r
    refine ⟨p, vs, rfl, S3.sqT hq, fun hw => ?_, fun hw => new_tup S3 (cut_reps rr lo hi) q3'⟩
    exact same_tup S3 r' (cutD_whole (by rw [rr.length]; exact hw)).symm q3'
  · exact q3.elim
def lSlL (m : Rho → M D) (l h : Rho → M (Option Int)) : Rho → M (List D) := fun ρ st => (m ρ st).bind fun d st1 => (l ρ st1).bind fun lo st2 => (h ρ st2).bind fun hi st3 => match d with
  | .scr xs => .ok (cutD xs lo hi) st3
  | d => (lift (lstOf st3 d) st3).bind fun xs st4 => .ok (cutD xs lo hi) st4
theorem dl_slL {lo hi : Option Expr} {l h : Rho → M (Option Int)} (ha : DE X W a m1) (hl : DO X W lo l) (hh : DO X W hi h) : DL X W (.Subscript a (.Slice lo hi none p2) pos) (lSlL m1 l h) := by
  refine PE.weak (pe_slice sl_list ha hl hh) fun σ H Q ⟨F, ι, ρ, st, S, R, q⟩ => ?_
  refine tG_seq back_L S R q fun d st1 F1 ι1 H1 v1 x1 S1 R1 r1 q1 => ?_
  refine tG_seq back_L S1 R1 q1 fun lo st2 F2 ι2 H2 lo' x2 S2 R2 r2 q2 => ?_
  refine tG_seq back_L S2 R2 q2 fun hi st3 F3 ι3 H3 hi' x3 S3 R3 r3 q3 => ?_
  have r2 : lo = lo' := r2
  have r3 : hi = hi' := r3
  subst r2 r3
  have r : Rep X.K F3 ι3 d v1 := (Rep.ext r1 x2).ext x3
  split at q3
  · rename_i xs
    simp only [Rep] at r
    obtain ⟨p, vs, e, hq, rr⟩ := r
    subst e
    exact ⟨p, vs, rfl, S3.sqL hq, fun n hn => q3 F3 ι3 _ _ (Ext.laid hn) (S3.laid hn) (pL_new S3 hn (cut_reps rr lo hi))⟩
  · cases e : lstOf st3 d with
    | none => rw [e] at q3; exact q3.elim
    | some xs =>
      rw [e] at q3
      obtain ⟨p, vs, e2, hq, rr⟩ := S3.lst r e
      subst e2
      exact ⟨p, vs, rfl, SqL.of hq, fun n hn => q3 F3 ι3 _ _ (Ext.laid hn) (S3.laid hn) (pL_new S3 hn (cut_reps rr lo hi))⟩
end
end Dn
namespace Dn
open PySem PySem.Spec PyProof.Rows L2
variable [HzC]
def rB (K : PySem.W.Frag) (p : Sto → List D → Option D) : List V → Hp → VK → Prop := fun vs H Q => ∃ F ι st ds d, Sim K F ι st H ∧ Reps K F ι ds vs ∧ p st ds = some d ∧
  ∀ F' H' v, Ext F ι H F' ι H' → Sim K F' ι st H' → Rep K F' ι d v → Q v H'
def rBL (K : PySem.W.Frag) (p : Sto → List D → Option (List D)) : List V → Hp → VK → Prop := fun vs H Q => ∃ F ι st ds xs, Sim K F ι st H ∧ Reps K F ι ds vs ∧ p st ds = some xs ∧
  ∀ H' v, Ext F ι H F ι H' → Sim K F ι st H' → pL K H F ι H' xs v → Q v H'
section
variable {X : Cx} {W : WX} {pos p2 p : Pos} {e : Expr} {es : List Expr} {bid T : String} {x : Str} {m1 m2 : Rho → M D} {am : Rho → M (List D)} {pf : Sto → List D → Option D} {pl : Sto → List D → Option (List D)}
theorem tCB_of {σ : L2.St} {H : Hp} {Q : VK} (h : tV X.K W (mB pf am) σ H Q) : tCB (rB X.K pf) (tA X.K W am) σ H Q := by
  obtain ⟨F, ι, ρ, st, S, R, q⟩ := h
  refine tG_seq back_V S R q fun ds st1 F1 ι1 H1 vs x1 S1 R1 r1 q1 => ?_
  cases e : pf st1 ds with
  | none => rw [e] at q1; exact q1.elim
  | some d =>
    rw [e] at q1
    exact ⟨F1, ι1, st1, ds, d, S1, r1, e, fun F' H' v x S' r => q1 F' ι1 H' v x S' r⟩
theorem tCBL_of {σ : L2.St} {H : Hp} {Q : VK} (h : tL X.K W (lB pl am) σ H Q) : tCB (rBL X.K pl) (tA X.K W am) σ H Q := by
  obtain ⟨F, ι, ρ, st, S, R, q⟩ := h
  refine tG_seq back_L S R q fun ds st1 F1 ι1 H1 vs x1 S1 R1 r1 q1 => ?_
  cases e : pl st1 ds with
  | none => rw [e] at q1; exact q1.elim
  | some d =>
    rw [e] at q1
    exact ⟨F1, ι1, st1, ds, d, S1, r1, e, fun H' v x S' r => q1 F1 ι1 H' v x S' r⟩
theorem de_b (hc : CallR X (.builtin bid) (rB X.K pf)) (hg : Gl X x) (hm : X.mg x = none) (hv : bootBuiltins x = some (.builtin bid)) (ha : DA X W (e :: es) am) (hn : x ≠ "__name__" := by decide) (hdb : (x == ("__debug__" : Str)) = false := by decide)
    (he : starEach (e :: es) X.env = (false, eval e X.env) :: starEach es X.env := by rfl) (hpl : (backTo pos (starEach es X.env)).any (·.1) = false := by rfl) : DE X W (.Call (.Name x p) (e :: es) [] pos) (mB pf am) :=
  PE.weak (pe_callB hc hg hm hv ha hn hdb he hpl) fun _ _ _ h => tCB_of h
theorem de_bT (hc : CallR X (.type T) (rB X.K pf)) (hg : Gl X x) (hm : X.mg x = none) (hv : bootBuiltins x = some (.type T)) (ha : DA X W (e :: es) am) (hn : x ≠ "__name__" := by decide) (hdb : (x == ("__debug__" : Str)) = false := by decide)
    (he : starEach (e :: es) X.env = (false, eval e X.env) :: starEach es X.env := by rfl) (hpl : (backTo pos (starEach es X.env)).any (·.1) = false := by rfl) : DE X W (.Call (.Name x p) (e :: es) [] pos) (mB pf am) :=
  PE.weak (pe_callTy hc hg hm hv ha hn hdb he hpl) fun _ _ _ h => tCB_of h
theorem dl_b (hc : CallR X (.builtin bid) (rBL X.K pl)) (hg : Gl X x) (hm : X.mg x = none) (hv : bootBuiltins x = some (.builtin bid)) (ha : DA X W (e :: es) am) (hn : x ≠ "__name__" := by decide) (hdb : (x == ("__debug__" : Str)) = false := by decide)
    (he : starEach (e :: es) X.env = (false, eval e X.env) :: starEach es X.env := by rfl) (hpl : (backTo pos (starEach es X.env)).any (·.1) = false := by rfl) : DL X W (.Call (.Name x p) (e :: es) [] pos) (lB pl am) :=
  PE.weak (pe_callB hc hg hm hv ha hn hdb he hpl) fun _ _ _ h => tCBL_of h
theorem dl_bT (hc : CallR X (.type T) (rBL X.K pl)) (hg : Gl X x) (hm : X.mg x = none) (hv : bootBuiltins x = some (.type T)) (ha : DA X W (e :: es) am) (hn : x ≠ "__name__" := by decide) (hdb : (x == ("__debug__" : Str)) = false := by decide)
    (he : starEach (e :: es) X.env = (false, eval e X.env) :: starEach es X.env := by rfl) (hpl : (backTo pos (starEach es X.env)).any (·.1) = false := by rfl) : DL X W (.Call (.Name x p) (e :: es) [] pos) (lB pl am) :=
  PE.weak (pe_callTy hc hg hm hv ha hn hdb he hpl) fun _ _ _ h => tCBL_of h
theorem call_pLen : CallR X (.builtin "len") (rB X.K pLen) := by
  intro pins s σ H vs us Q I rv ⟨F, ι, st, ds, d, S, ra, e, q⟩
  unfold pLen at e
  split at e
  · split at e
    · rename_i hz
      cases e
      obtain ⟨v, e1, r⟩ := ra.one
      simp only [Rep] at r
      subst e1 r
      exact call_len_str pins s σ H _ us Q I rv ⟨_, rfl, hz, q F H _ Ext.refl S (by simp only [Rep])⟩
    · cases e
  · rename_i d' _
    cases e1 : seqOf st d' with
    | none => rw [e1] at e; cases e
    | some xs =>
      rw [e1] at e
      cases e
      obtain ⟨v, e2, r⟩ := ra.one
      obtain ⟨a, ys, e3, hs, rr⟩ := S.seq r e1
      subst e2 e3
      exact call_len_seq pins s σ H _ us Q I rv ⟨a, ys, rfl, hs, q F H _ Ext.refl S (by simp only [Rep]; rw [rr.length])⟩
  · cases e
def pAbs : Sto → List D → Option D := fun _ ds => match ds with
  | [.int i] => some (.int (if i < 0 then -i else i))
  | _ => none
theorem call_pAbs : CallR X (.builtin "abs") (rB X.K pAbs) := by
  intro pins s σ H vs us Q I rv ⟨F, ι, st, ds, d, S, ra, e, q⟩
  unfold pAbs at e
  split at e
  · cases e
    obtain ⟨v, e1, r⟩ := ra.one
    simp only [Rep] at r
    subst e1 r
    exact call_abs pins s σ H _ us Q I rv ⟨_, rfl, q F H _ Ext.refl S (by simp only [Rep])⟩
  · cases e
def pInt : Sto → List D → Option D := fun _ ds => match ds with
  | [.int i] => some (.int i)
  | [.bl k] => some (.int (if k then 1 else 0))
  | _ => none
theorem call_pInt : CallR X (.type "int") (rB X.K pInt) := by
  intro pins s σ H vs us Q I rv ⟨F, ι, st, ds, d, S, ra, e, q⟩
  unfold pInt at e
  split at e
  · cases e
    obtain ⟨v, e1, r⟩ := ra.one
    simp only [Rep] at r
    subst e1 r
    exact call_int1 pins s σ H _ us Q I rv (.inl ⟨_, rfl, q F H _ Ext.refl S (by simp only [Rep])⟩)
  · cases e
    obtain ⟨v, e1, r⟩ := ra.one
    simp only [Rep] at r
    subst e1 r
    exact call_int1 pins s σ H _ us Q I rv (.inr ⟨_, rfl, q F H _ Ext.refl S (by simp only [Rep])⟩)
  · cases e
def pMax2 : Sto → List D → Option D := fun _ ds => match ds with
  | [.int i, .int j] => some (.int (if j > i then j else i))
  | _ => none
theorem call_pMax2 (hc : X.calm = true) : CallR X (.builtin "max") (rB X.K pMax2) := by
  intro pins s σ H vs us Q I rv ⟨F, ι, st, ds, d, S, ra, e, q⟩
  unfold pMax2 at e
  split at e
  · cases e
    obtain ⟨v, v', e1, r, r'⟩ := ra.two
    simp only [Rep] at r r'
    subst e1 r r'
    exact call_max2 hc pins s σ H _ us Q I rv ⟨_, _, rfl, q F H _ Ext.refl S (by simp only [Rep])⟩
  · cases e
theorem call_tupP : CallR X (.type "tuple") (fun xs H Q => ∃ p ys, xs = [.ref p] ∧ SqL X.K H p ys ∧ ∀ (l : Addr) (o : Obj), o.dict = none → H l = none → Q (.ref l) (upd H l (.frz o (.tup ys)))) := by
  intro pins s σ H xs us Q I r ⟨p, ys, e, hq, q⟩
  subst e
  obtain ⟨u, rfl, rx⟩ := vals1 r
  cases rx
  obtain ⟨its, r', pl, hz⟩ := I.list hq
  have hl := r'.length
  refine call_tuple_list pl.isList (fun h' kp => ?_) (by rw [List.size_toArray]; omega)
  have I1 : Inv X pins σ H { s with heap := h' } := I.kept (t' := s.toks) kp
  exact fin_tup (t' := s.toks) I1 r' hz q
theorem call_pTuple : CallR X (.type "tuple") (rB X.K pTuple) := by
  intro pins s σ H vs us Q I rv ⟨F, ι, st, ds, d, S, ra, e, q⟩
  unfold pTuple at e
  split at e
  · cases e
    obtain ⟨v, e1, r⟩ := ra.one
    have r' := r
    simp only [Rep] at r
    obtain ⟨a, ys, e2, hs, rr⟩ := r
    subst e1 e2
    exact call_tuple_of pins s σ H _ us Q I rv ⟨a, ys, rfl, .inr ⟨S.sqT hs, q F H _ Ext.refl S r'⟩⟩
  · rename_i d' _
    cases e1 : lstOf st d' with
    | none => rw [e1] at e; cases e
    | some xs =>
      rw [e1] at e
      cases e
      obtain ⟨v, e3, r⟩ := ra.one
      obtain ⟨a, ys, e4, hs, rr⟩ := S.lst r e1
      subst e3 e4
      exact call_tupP pins s σ H _ us Q I rv ⟨a, ys, rfl, SqL.of hs, new_tup S rr q⟩
  · cases e
def pList : Sto → List D → Option (List D) := fun st ds => match ds with
  | [d] => seqOf st d
  | _ => none
theorem call_pList : CallR X (.type "list") (rBL X.K pList) := by
  intro pins s σ H vs us Q I rv ⟨F, ι, st, ds, d, S, ra, e, q⟩
  unfold pList at e
  split at e
  · obtain ⟨v, e3, r⟩ := ra.one
    obtain ⟨a, ys, e4, hs, rr⟩ := S.seq r e
    subst e3 e4
    exact call_list_of pins s σ H _ us Q I rv ⟨a, ys, rfl, hs, fun l hl => q _ _ (Ext.laid hl) (S.laid hl) (pL_new S hl rr)⟩
  · cases e
def intOf : List D → Option (List Int)
  | [] => some []
  | .int b :: r => (intOf r).map (b :: ·)
  | _ => none
theorem intOf_map : ∀ bs : List Int, intOf (bs.map D.int) = some bs
  | [] => rfl
  | b :: r => by rw [List.map_cons, intOf, intOf_map r]; rfl
theorem reps_int {K : PySem.W.Frag} {F : Hp} {ι : List Addr} : ∀ {ds : List D} {bs : List Int} {vs : List V}, Reps K F ι ds vs → intOf ds = some bs → vs = bs.map V.int
  | [], _, _, r, h => by simp only [Reps] at r; cases h; subst r; rfl
  | .int b :: ds, bs, vs, r, h => by
    simp only [Reps, Rep] at r
    obtain ⟨v, rs, e, e1, r2⟩ := r
    unfold intOf at h
    cases e2 : intOf ds with
    | none => rw [e2] at h; cases h
    | some cs =>
      rw [e2] at h
      cases h
      rw [e, e1, reps_int r2 e2]
      rfl
  | .non :: _, _, _, _, h => by simp [intOf] at h
  | .bl _ :: _, _, _, _, h => by simp [intOf] at h
  | .str _ :: _, _, _, _, h => by simp [intOf] at h
  | .tup _ :: _, _, _, _, h => by simp [intOf] at h
  | .lst _ :: _, _, _, _, h => by simp [intOf] at h
  | .scr _ :: _, _, _, _, h => by simp [intOf] at h
  | .ref _ :: _, _, _, _, h => by simp [intOf] at h
  | .adr _ :: _, _, _, _, h => by simp [intOf] at h
  | .fd _ _ :: _, _, _, _, h => by simp [intOf] at h
  | .exo _ _ _ _ :: _, _, _, _, h => by simp [intOf] at h
  | .obj _ _ _ :: _, _, _, _, h => by simp [intOf] at h
  | .sd _ :: _, _, _, _, h => by simp [intOf] at h
  | .fnv _ :: _, _, _, _, h => by simp [intOf] at h
def pSum : Sto → List D → Option D := fun st ds => match ds with
  | [d] => ((lstOf st d).bind intOf).map fun ns => .int ns.sum
  | _ => none
theorem call_pSum (hc : X.calm = true) : CallR X (.builtin "sum") (rB X.K pSum) := by
  intro pins s σ H vs us Q I rv ⟨F, ι, st, ds, d, S, ra, e, q⟩
  unfold pSum at e
  split at e
  · rename_i d'
    cases e1 : lstOf st d' with
    | none => rw [e1] at e; cases e
    | some xs =>
      rw [e1] at e
      have e : (intOf xs).map (fun bs => D.int bs.sum) = some d := e
      cases e2 : intOf xs with
      | none => rw [e2] at e; cases e
      | some bs =>
        rw [e2] at e
        cases e
        obtain ⟨v, e3, r⟩ := ra.one
        obtain ⟨a, ys, e4, hs, rr⟩ := S.lst r e1
        subst e3 e4
        have e5 := reps_int rr e2
        subst e5
        exact cr_sum hc pins s σ H _ us Q I rv ⟨a, bs, rfl, SqL.of hs, q F H _ Ext.refl S (by simp only [Rep])⟩
  · cases e
end
end Dn
namespace Dn
open PySem PySem.Spec PyProof.Rows L2
def IsSq (h : Heap) : SK → Addr → Array Value → Prop
  | .l, a, xs => h.IsList a xs
  | .t, a, xs => h.IsTuple a xs
def itObj (a : Addr) : SK → Obj
  | .l => { cls := .type "list_iterator", data := .fields #[.ref a, .int 0 0] }
  | .t => { cls := .type "tuple_iterator", data := .fields #[.ref a, .int 0 0] }
theorem begins_sq (k : SK) (a : Addr) (items : Array Value) : Begins (.ref a) (itObj a k) fun h => IsSq h k a items := by
  cases k with
  | l => exact begins_list a items
  | t => exact begins_tuple a items
theorem draws_sq {prog : Program} {w : World} {A : Around} (hh : A.handled = none) (k : SK) (it a : Addr) (hne : a ≠ it) (items : Array Value) :
    Draws prog w A it [it, a] items.size (fun i v => items[i]? = some v) (fun i h => ItAt h k it a i ∧ IsSq h k a items) := by
  cases k with
  | l => exact Draws.list hh it a hne items
  | t => exact Draws.tuple hh it a hne items
theorem ItAt.start {h : Heap} {k : SK} {it a : Addr} (e : h.get? it = some (itObj a k)) : ItAt h k it a 0 := by
  cases k with
  | l => exact ⟨_, e, rfl, rfl⟩
  | t => exact ⟨_, e, rfl, rfl⟩
theorem _root_.L2.Inv.sqx {X : Cx} {pins : List (Addr × Obj)} {σ : L2.St} {H : Hp} {s : Shared} {k : SK} {a : Addr} {xs : List V} (I : Inv X pins σ H s) (h : SqX X.K H k a xs) : ∃ its : List Value, Vals xs its ∧ IsSq s.heap k a its.toArray ∧ a < s.heap.objs.size := by
  cases k with
  | l =>
    obtain ⟨its, r, p, _⟩ := I.list h
    exact ⟨its, r, p.isList, p.lt⟩
  | t =>
    obtain ⟨its, r, p, _⟩ := I.tuple h
    exact ⟨its, r, p, p.lt⟩
theorem _root_.L2.Inv.sqx_inj {X : Cx} {pins : List (Addr × Obj)} {σ : L2.St} {H : Hp} {s : Shared} {k : SK} {a : Addr} {xs ys : List V} (I : Inv X pins σ H s) (h : SqX X.K H k a xs) (h' : SqX X.K H k a ys) : xs = ys := by
  cases k with
  | l => exact I.list_inj h h'
  | t => exact I.tuple_inj h h'
theorem turn_enumX {P : Program} {w : World} {K : PySem.W.Frag} {elts : List Expr} {kk : Nat} {tpos : Pos} (k : SK) (a e it : Addr) :
    Turn P w K (.Tuple elts kk tpos) (IteX K k a) [e, it] e (fun i h => (∃ old, IsEnum h e it ((i : Nat) : Int) old) ∧ ItAt h k it a i ∧ e ≠ it ∧ a ≠ it ∧ e ≠ a) where
  mem := by simp
  obj := fun i h st b hb => by
    obtain ⟨⟨old, he⟩, hi, _⟩ := st
    have e' : b = e ∨ b = it := by simpa using hb
    rcases e' with z | z
    · rw [z]; exact ⟨_, he, fun v q => nomatch q⟩
    · rw [z]
      obtain ⟨o, n, vs, ho, _, hd⟩ := hi.obj
      exact ⟨o, ho, fun v q => by rw [hd] at q; cases q⟩
  keep := fun i h h' st kp => let ⟨⟨old, he⟩, hi, hne⟩ := st; ⟨⟨old, kp e (by simp) _ he⟩, hi.at fun o q => kp it (by simp) o q, hne⟩
  item := by
    intro X hP hw hK hc i pins s σ H E I hf st hg
    subst hP hw hK
    obtain ⟨⟨old, he⟩, hit, hne, hai, hea⟩ := st
    obtain ⟨xs, x, hq, hx⟩ := hg
    obtain ⟨its, rv, p, hal⟩ := I.sqx hq
    obtain ⟨u, hu, ru⟩ := rv.get hx
    have hel : e < s.heap.objs.size := Heap.lt_size he
    have hil : it < s.heap.objs.size := by obtain ⟨_, _, _, q, _⟩ := hit.obj; exact Heap.lt_size q
    have hlt : i < its.toArray.size := by
      have := (List.getElem?_eq_some_iff.mp hu).1
      simpa using this
    refine wpAny_pyNext_enum_itemD (draws_sq (A := X.A.in1) (I.ok.hd hc) k it a hai its.toArray) he ⟨hit, p⟩ hlt hne (by simp [hne, hea]) fun y h' tk hy ho ⟨hit', p'⟩ hT hsz hk => ?_
    have ey : y = u := by
      have hu' : its.toArray[i]? = some u := by simpa using hu
      rw [hu'] at hy
      exact (Option.some.inj hy).symm
    subst ey
    refine ⟨_, rfl, wpAny_letOwnedTupleGo_enum (s := { s with heap := h', toks := tk + 1 }) ho fun h'' he' sb => ?_⟩
    have hT2 : h''.get? s.heap.objs.size = some { cls := .type "tuple", data := .seq #[.int i tk, y] } := (sb.2 _ (Nat.ne_of_gt hel)).trans hT
    have new : ObjOk X.prog X.w (upd H s.heap.objs.size (.frz { cls := .type "tuple", data := .seq #[.int i tk, y] } (.tup [.int (i : Nat), x]))) h'' s.heap.objs.size (.frz { cls := .type "tuple", data := .seq #[.int i tk, y] } (.tup [.int (i : Nat), x])) :=
      ⟨hT2, by show 2 ≤ sizeLine; decide, [.int i tk, y], .cons ⟨_, rfl⟩ (.cons ru .nil), ⟨_, hT2, rfl, _, rfl⟩⟩
    have I1 : Inv X pins σ (upd H s.heap.objs.size (.frz { cls := .type "tuple", data := .seq #[.int i tk, y] } (.tup [.int (i : Nat), x]))) { s with heap := h'', toks := tk + 1 } :=
      I.turnedNew (ch := [e, it]) (fun b ob hb q => (sb.2 b (fun z => hb (by simp [z]))).trans (hk b ob (fun z => hb (by simp [z])) (fun z => hb (by simp [z])) q)) hf (Nat.le_refl _) new
    refine ⟨.ref s.heap.objs.size, _, I1, rfl, ⟨_, x, _, rfl, I.hok.fresh (Nat.le_refl _), rfl, rfl, fun ys hy => by rw [I.sqx_inj hy hq]; exact hx⟩, ⟨⟨y, ?_⟩, hit'.at fun o q => (sb.2 it (Ne.symm hne)).trans q, hne, hai, hea⟩, fun b hb => ?_⟩
    · have e1 : ((i + 1 : Nat) : Int) = (i : Int) + 1 := by omega
      rw [e1]; exact he'
    · have hb' : b < s.heap.objs.size := by
        have e' : b = e ∨ b = it := by simpa using hb
        rcases e' with z | z
        · rw [z]; exact hel
        · rw [z]; exact hil
      rw [upd_ne (Nat.ne_of_lt hb')]
      exact (hf b hb).1
  done := by
    intro X hP hw hK hc i pins s σ H E I hf st hg
    subst hP hw hK
    obtain ⟨⟨old, he⟩, hit, hne, hai, hea⟩ := st
    obtain ⟨xs, hq, hx⟩ := hg
    obtain ⟨its, rv, p, hal⟩ := I.sqx hq
    obtain ⟨f0, f1, f2, f3, f4, f5⟩ := hf it (by simp)
    have hl := rv.length
    have en : i = its.toArray.size := by simp; omega
    exact wpAny_pyNext_enum_endD (draws_sq (A := X.A.in1) (I.ok.hd hc) k it a hai its.toArray) he ⟨by rw [← en]; exact hit, p⟩ fun h' eb => ⟨rfl, I.turned (t' := s.toks) (fun b o hb q => eb b o hb q) f0 f1 f3 f4 f5⟩
  self := fun A i s Q E st h => let ⟨⟨_, he⟩, _⟩ := st; wpAny_pyIter_enum he h
theorem meets_enumerate_newB1 {v : Value} {o : Obj} {H : Heap → Prop} (B : Begins v o H) :
    Meets (Builtin.«enumerate.__new__» ⟨[.type "enumerate", v], []⟩) (fun _ R s => H s.heap ∧
      R (.ok (.ret (.ref (s.heap.push o).objs.size))) { s with heap := (s.heap.push o).push { cls := .type "enumerate", data := .fields #[.none, .bool false, .ref s.heap.objs.size, rawInt 0, .none, .none] } }) :=
  .of_wp fun prog w A R s h => by
    obtain ⟨hp, g, d, tk, os⟩ := s; obtain ⟨h1, h⟩ := h
    have hsub := sub_enumerate
    have q1 : ∀ {A' : Around} {E : Value → Shared → Prop} {Q : Value → Shared → Prop}, Q (.ref hp.objs.size) ⟨hp.push o, g, d, tk, os⟩ → wpAny (model prog w) A' (pyIter v) Q E ⟨hp, g, d, tk, os⟩ :=
      fun q => B.iter prog w _ _ ⟨hp, g, d, tk, os⟩ _ h1 q
    wp_walk using q1
    refine wpAny_stack_any fun st => wpAny_pure ?_
    split
    · rename_i c _ _ _ _ _
      cases (c == Value.type "enumerate")
      · wp_walk using q1
        exact ⟨_, rfl, h⟩
      · wp_walk using q1
        exact ⟨_, rfl, h⟩
    · wp_walk using q1
      exact ⟨_, rfl, h⟩
theorem call_enumX {prog : Program} {w : World} {A : Around} {E : Value → Shared → Prop} {s : Shared} {v : Value} {o : Obj} {H : Heap → Prop} {Q : Value → Shared → Prop} (B : Begins v o H) (h1 : H s.heap)
    (h : ∀ h', IsEnum h' (s.heap.objs.size + 1) s.heap.objs.size 0 .none → h'.get? s.heap.objs.size = some o → h'.objs.size = s.heap.objs.size + 2 →
      (∀ b o, s.heap.get? b = some o → h'.get? b = some o) → Q (.ref (s.heap.objs.size + 1)) { s with heap := h' }) :
    wpAny (model prog w) A (call (.type "enumerate") [v]) Q E s := by
  refine callType_new PySem.F.called_enumerate (by decide) (PySem.F.typeCall_enumerate_1 _) (PySem.F.newCall_enumerate_1 _) (fun obj => PySem.F.args_object_init_2 obj _) PySem.F.entry_enumerate_new
    (meets_enumerate_newB1 B) ⟨h1, ?_⟩
  have hz : (s.heap.push o).objs.size = s.heap.objs.size + 1 := Heap.size_push ..
  show _ ∧ _
  rw [hz]
  have he : IsEnum ((s.heap.push o).push { cls := .type "enumerate", data := .fields #[.none, .bool false, .ref s.heap.objs.size, rawInt 0, .none, .none] }) (s.heap.objs.size + 1) s.heap.objs.size 0 .none := by
    have := Heap.get?_push_size (s.heap.push o) (o := { cls := .type "enumerate", data := .fields #[.none, .bool false, .ref s.heap.objs.size, rawInt 0, .none, .none] }) rfl
    rw [hz] at this; exact this
  refine ⟨⟨_, he, rfl⟩, h _ he (Heap.get?_push_of_some _ (Heap.get?_push_size _ B.free)) (by rw [Heap.size_push, hz]) fun b o x => Heap.get?_push_of_some _ (Heap.get?_push_of_some _ x)⟩
theorem pi_enumX {X : Cx} {e : Expr} {ta : TA} {p pos tpos : Pos} {elts : List Expr} {kk : Nat} (hg : Gl X "enumerate") (hm : X.mg "enumerate" = none) (ha : PA X [e] ta) (hs : starEach [e] X.env = [(false, eval e X.env)] := by rfl) :
    PI X (.Tuple elts kk tpos) (.Call (.Name "enumerate" p) [e] [] pos) (iEnumX X.K ta) := by
  refine ⟨fun pins s σ H R I h => ?_⟩
  refine Call_ (ld_blt I hg hm boot_enumerate (PyProof.Rows.callWith_type1 (thn (ha.run pos pins s σ H _ I h) fun us s1 ⟨vs, H1, I1, r1, q1⟩ => ?_) hs rfl))
  obtain ⟨a, k, xs, ex, hq, q⟩ := q1
  subst ex
  cases r1 with
  | cons r rr =>
    cases rr
    cases r
    obtain ⟨its, rv, p', hal⟩ := I1.sqx hq
    refine call_enumX (begins_sq k a its.toArray) p' fun h' he hit hsz hk => wpAny_pyIter_enum he ?_
    have I2 : Inv X pins σ H1 { s1 with heap := h' } := I1.kept (t' := s1.toks) hk
    refine ⟨s1.heap.objs.size + 1, [s1.heap.objs.size + 1, s1.heap.objs.size], _, _, H1, rfl, I2, turn_enumX k a (s1.heap.objs.size + 1) s1.heap.objs.size, ⟨⟨.none, he⟩, ItAt.start hit, Nat.succ_ne_self _, Nat.ne_of_lt hal, Nat.ne_of_gt (Nat.lt_succ_of_lt hal)⟩, fun b hb => ?_, q⟩
    have e' : b = s1.heap.objs.size + 1 ∨ b = s1.heap.objs.size := by simpa using hb
    have hle : s1.heap.objs.size ≤ b := by
      rcases e' with z | z
      · rw [z]; exact Nat.le_add_right _ _
      · rw [z]; exact Nat.le_refl _
    exact I1.fpOk hle (I1.hok.fresh hle)
end Dn
namespace Dn
open PySem PySem.Spec PyProof.Rows L2
variable [HzC]
theorem back_R {K : PySem.W.Frag} {js : List Nat} {σ0 : L2.St} : Back (pR K js σ0) := fun _ _ _ _ _ _ _ _ h => h
theorem wipe_set {σ : L2.St} {i : Nat} {x : Option V} : ∀ {vs : List Nat}, i ∈ vs → wipe (σ.set i x) vs = wipe σ vs
  | v :: vs, h => by
    show (wipe (σ.set i x) vs).set v none = (wipe σ vs).set v none
    by_cases hm : i ∈ vs
    · rw [wipe_set hm]
    · have e : i = v := by
        rcases List.mem_cons.mp h with e | e
        · exact e
        · exact absurd e hm
      subst e
      have key : ∀ (vs : List Nat), i ∉ vs → wipe (σ.set i x) vs = (wipe σ vs).set i x := by
        intro vs
        induction vs with
        | nil => intro _; rfl
        | cons u us ih =>
          intro h
          have h1 : i ≠ u := fun e => h (by simp [e])
          have h2 : i ∉ us := fun e => h (List.mem_cons_of_mem _ e)
          show (wipe (σ.set i x) us).set u none = ((wipe σ us).set u none).set i x
          rw [ih h2, List.set_comm _ _ h1]
      rw [key vs hm, List.set_set]
theorem dg_name {X : Cx} {pos : Pos} {i : Nat} {x : Str} (hN : X.N.Nodup) (hi : X.N[i]? = some x) (hx : Loc X.env.scope x) (hf : X.fn x = true ∨ X.env.scope.names.lookup x = some .local := by first | exact .inl rfl | exact .inr rfl | assumption) : DG X [i] (.Name x pos) (gN i) :=
  PG.weak (pg_name hN hi hx hf) fun v σ H Q ⟨F, ι, ρ, st, d, S, R, r, q⟩ =>
    q F ι H _ Ext.refl S ⟨R.set r i, fun vs h => wipe_set (h i (by simp))⟩
def tGts (K : PySem.W.Frag) (js : List Nat) (gf : List D → Rho → M Rho) : TGs := fun vs σ H Q => ∃ F ι ρ st ds, Sim K F ι st H ∧ REnv K F ι ρ σ ∧ Reps K F ι ds vs ∧ post K wN σ F ι H (pR K js σ) (gf ds ρ st) Q
def DGs (X : Cx) (js : List Nat) (es : List Expr) (gf : List D → Rho → M Rho) : Prop := PGs X es (tGts X.K js gf)
theorem dgs_nil {X : Cx} : DGs X [] [] gsNil := by
  refine PGs.weak pgs_nil fun vs σ H Q ⟨F, ι, ρ, st, ds, S, R, r, q⟩ => ?_
  unfold gsNil at q
  split at q
  · simp only [Reps] at r
    exact ⟨r, q F ι H σ Ext.refl S ⟨R, fun _ _ => rfl⟩⟩
  · exact q.elim
theorem dgs_cons {X : Cx} {e : Expr} {es : List Expr} {j1 j2 : List Nat} {g : D → Rho → M Rho} {gs : List D → Rho → M Rho} (h1 : DG X j1 e g) (h2 : DGs X j2 es gs)
    (hs : (assignEach (e :: es) X.env).map (·.2) = assign e X.env :: (assignEach es X.env).map (·.2) := by rfl) : DGs X (j1 ++ j2) (e :: es) (gsCons g gs) := by
  refine PGs.weak (pgs_cons h1 h2 hs) fun vs σ H Q ⟨F, ι, ρ, st, ds, S, R, r, q⟩ => ?_
  unfold gsCons at q
  split at q
  · rename_i d ds'
    simp only [Reps] at r
    obtain ⟨v, vr, e, r1, r2⟩ := r
    refine ⟨v, vr, e, F, ι, ρ, st, d, S, R, r1, ?_⟩
    refine post_seq back_R q fun ρ1 st1 F1 ι1 H1 σ1 _ x1 S1 ⟨R1, k1⟩ q1 => ?_
    refine ⟨F1, ι1, ρ1, st1, ds', S1, R1, Reps.ext r2 x1, ?_⟩
    generalize gs ds' ρ1 st1 = rr at q1
    cases rr with
    | ok ρ2 st2 => exact fun F' ι' H' σ' y S' ⟨R', k'⟩ => q1 F' ι' H' σ' y S' ⟨R', fun vs hv => (k' vs fun j hj => hv j (List.mem_append_right _ hj)).trans (k1 vs fun j hj => hv j (List.mem_append_left _ hj))⟩
    | exc x st2 => exact fun F' ι' H' c d y S' r => (q1 F' ι' H' c d y S' r : False).elim
    | bad => exact q1
  · exact q.elim
theorem dg_tup {X : Cx} {pos : Pos} {es : List Expr} {k n : Nat} {js : List Nat} {gs : List D → Rho → M Rho} (hc : X.calm = true) (h : DGs X js es gs)
    (hn : (assignEach es X.env).length = n := by rfl) (hst : (assignEach es X.env).findIdx? (·.1) = none := by rfl) : DG X js (.Tuple es k pos) (gT n gs) := by
  refine PG.weak (pg_tup hc h hn hst) fun v σ H Q ⟨F, ι, ρ, st, d, S, R, r, q⟩ => ?_
  unfold gT at q
  split at q
  · split at q
    · rename_i xs hl
      simp only [Rep] at r
      obtain ⟨a, vs, e, h, rr⟩ := r
      exact ⟨a, vs, e, S.sqT h, by rw [← rr.length]; exact hl, F, ι, ρ, st, xs, S, R, rr, q⟩
    · exact q.elim
  · exact q.elim
def pI (K : PySem.W.Frag) : Hp → Hp → List Addr → Hp → Src → It → Prop := fun _ F ι _ src J => SrcIt K F ι src J
theorem back_I {K : PySem.W.Frag} : Back (pI K) := fun _ _ _ _ _ _ _ _ h => h
def DI (X : Cx) (W : WX) (tg iter : Expr) (ms : Rho → M Src) : Prop := PI X tg iter (tG X.K W (pI X.K) ms)
theorem src_sq {K : PySem.W.Frag} {F : Hp} {ι : List Addr} {d : D} {v : V} {st : Sto} {H : Hp} {src : Src} (S : Sim K F ι st H) (r : Rep K F ι d v) (h : srcOf st d = some src) :
    ∃ k a, v = .ref a ∧ (∃ vs, SqX K H k a vs) ∧ ∀ F' ι' st' H', Grow F ι F' ι' → Sim K F' ι' st' H' → heldOk src.held st' → ∃ vs, SqX K H' k a vs ∧ Reps K F' ι' src.items vs := by
  unfold srcOf at h
  split at h
  · cases h
    simp only [Rep] at r
    obtain ⟨a, vs, e, hq, rr⟩ := r
    exact ⟨.t, a, e, ⟨vs, S.sqT hq⟩, fun F' ι' st' H' g S' _ => ⟨vs, S'.sqT (SqP.mono hq g.f), Reps.mono g.f g.i _ _ rr⟩⟩
  · cases h
    simp only [Rep] at r
    obtain ⟨a, vs, e, hq, rr⟩ := r
    exact ⟨.l, a, e, ⟨vs, SqL.of (S.sub _ _ hq)⟩, fun F' ι' st' H' g S' _ => ⟨vs, SqL.of (S'.sub _ _ (g.f _ _ hq)), Reps.mono g.f g.i _ _ rr⟩⟩
  · cases h
    simp only [Rep] at r
    obtain ⟨a, vs, e, hq, rr⟩ := r
    exact ⟨.l, a, e, ⟨vs, S.sqL hq⟩, fun F' ι' st' H' g S' _ => ⟨vs, S'.sqL (SqL.mono hq g.f), Reps.mono g.f g.i _ _ rr⟩⟩
  · rename_i l
    split at h
    · rename_i xs e1
      cases h
      simp only [Rep] at r
      obtain ⟨a, e, hi⟩ := r
      obtain ⟨vs, hv, _⟩ := S.obj l _ a e1 hi
      refine ⟨.l, a, e, ⟨vs, SqL.of hv⟩, fun F' ι' st' H' g S' ho => ?_⟩
      obtain ⟨ws, hw, rw'⟩ := S'.obj l _ a (ho (l, xs) (by simp)) (g.i l a hi)
      exact ⟨ws, SqL.of hw, rw'⟩
    · cases h
  · cases h
def ItX (K : PySem.W.Frag) : SK → Addr → It
  | .l, a => Itl K a
  | .t, a => Itt K a
def iSqX (K : PySem.W.Frag) (tl : TE) : TI := fun σ H R => tl σ H fun x H1 => ∃ k a, x = .ref a ∧ (∃ xs, SqX K H1 k a xs) ∧ R (ItX K k a) H1
theorem pi_sqX {X : Cx} {tg l : Expr} {tl : TE} (hl : PE X l tl) : PI X tg l (iSqX X.K tl) := by
  refine ⟨fun pins s σ H R I h => ?_⟩
  refine thn (hl.run pins s σ H _ I h) fun v s1 ⟨x, H1, I1, r1, q1⟩ => ?_
  obtain ⟨k, a, e, ⟨xs, hq⟩, q⟩ := q1
  subst e
  cases r1
  have fp : ∀ b, b ∈ [s1.heap.objs.size] → FpOk X pins H1 b := fun b hb => by
    have e : b = s1.heap.objs.size := by simpa using hb
    subst e
    exact I1.fpOk (Nat.le_refl _) (I1.hok.fresh (Nat.le_refl _))
  cases k with
  | l =>
    obtain ⟨its, rv, p, hz⟩ := I1.list hq
    refine wpAny_pyIter_list p.isList ?_
    exact ⟨s1.heap.objs.size, [s1.heap.objs.size], _, _, H1, rfl, I1.kept (t' := s1.toks) fun b o e => Heap.get?_push_of_some _ e, turn_list a _, ⟨_, Heap.get?_push_size _ rfl, rfl, rfl⟩, fp, q⟩
  | t =>
    obtain ⟨its, rv, p, hz⟩ := I1.tuple hq
    refine wpAny_pyIter_tuple (show s1.heap.IsTuple a its.toArray from p) ?_
    exact ⟨s1.heap.objs.size, [s1.heap.objs.size], _, _, H1, rfl, I1.kept (t' := s1.toks) fun b o e => Heap.get?_push_of_some _ e, turn_tuple a _, ⟨_, Heap.get?_push_size _ rfl, rfl, rfl⟩, fp, q⟩
section
variable {X : Cx} {W : WX} {pos p2 p : Pos} {tg e e2 : Expr} {m1 m2 m3 : Rho → M D} {am : Rho → M (List D)}
theorem di_seq (h : DE X W e m1) : DI X W tg e (iSeq m1) := by
  refine PI.weak (pi_sqX h) fun σ H Q ⟨F, ι, ρ, st, S, R, q⟩ => ?_
  refine tG_seq back_I S R q fun d st1 F1 ι1 H1 v1 x1 S1 R1 r1 q1 => ?_
  cases e1 : srcOf st1 d with
  | none => rw [e1] at q1; exact q1.elim
  | some src =>
    rw [e1] at q1
    obtain ⟨k, a, e, hs, hk⟩ := src_sq S1 r1 e1
    refine ⟨k, a, e, hs, q1 F1 ι1 H1 (ItX X.K k a) Ext.refl S1 ⟨fun i F' ι' st' H' g S' ho hi => ?_, fun F' ι' st' H' g S' ho => ?_, fun i F' ι' st' H' x H2 d g S' ho hd y => ?_⟩⟩
    · obtain ⟨vs, hv, rv⟩ := hk F' ι' st' H' g S' ho
      obtain ⟨v, q, _⟩ := rv.get (List.getElem?_eq_getElem hi)
      cases k with
      | l => exact ⟨vs, v, hv, q⟩
      | t => exact ⟨vs, v, hv, q⟩
    · obtain ⟨vs, hv, rv⟩ := hk F' ι' st' H' g S' ho
      cases k with
      | l => exact ⟨vs, hv, Nat.le_of_eq rv.length.symm⟩
      | t => exact ⟨vs, hv, Nat.le_of_eq rv.length.symm⟩
    · obtain ⟨vs, hv, rv⟩ := hk F' ι' st' H' g S' ho
      cases k with
      | l =>
        obtain ⟨e, y⟩ := y
        subst e
        exact ⟨F', Ext.refl, S', rv.at hd (y vs hv)⟩
      | t =>
        obtain ⟨e, y⟩ := y
        subst e
        exact ⟨F', Ext.refl, S', rv.at hd (y vs hv)⟩
theorem rngD_length (lo : Int) (n : Nat) : (rngD lo n).length = n := by unfold rngD; simp
theorem rngD_get {lo : Int} {n i : Nat} {d : D} (h : (rngD lo n)[i]? = some d) : d = .int (lo + (i : Int)) := by
  unfold rngD at h
  rw [List.getElem?_map] at h
  cases e : (List.range n)[i]? with
  | none => rw [e] at h; cases h
  | some j =>
    rw [e] at h
    have := List.getElem?_eq_some_iff.mp e
    obtain ⟨h1, h2⟩ := this
    rw [List.getElem_range] at h2
    subst h2
    exact (Option.some.inj h).symm
theorem src_range {K : PySem.W.Frag} {F : Hp} {ι : List Addr} {lo : Int} {n : Nat} : SrcIt K F ι ⟨rngD lo n, []⟩ (Itr lo n) := by
  refine ⟨fun i F' ι' st' H' g S' ho hi => ?_, fun F' ι' st' H' g S' ho => ?_, fun i F' ι' st' H' x H2 d g S' ho hd y => ?_⟩
  · have hi' : i < (rngD lo n).length := hi
    rw [rngD_length] at hi'
    exact hi'
  · show n ≤ (rngD lo n).length
    rw [rngD_length]
    exact Nat.le_refl _
  · obtain ⟨e, y⟩ := y
    subst e y
    have hd' := rngD_get hd
    subst hd'
    exact ⟨F', Ext.refl, S', by simp only [Rep]⟩
noncomputable def rng2 : D → D → Option Src
  | .int i, .int j => @ite _ (-(2 ^ 62) ≤ i ∧ i < 2 ^ 62 ∧ -(2 ^ 62) ≤ j ∧ j < 2 ^ 62) (Classical.propDecidable _) (some ⟨rngD i (j - i).toNat, []⟩) (none)
  | _, _ => none
noncomputable def iRng2D (m1 m2 : Rho → M D) : Rho → M Src := fun ρ st => (m1 ρ st).bind fun d1 st1 => (m2 ρ st1).bind fun d2 st2 => lift (rng2 d1 d2) st2
theorem di_range1 (hg : Gl X "range") (hm : X.mg "range" = none) (h : DE X W e m1) (hs : starEach [e] X.env = [(false, eval e X.env)] := by rfl) : DI X W tg (.Call (.Name "range" p) [e] [] pos) (iRng1D m1) := by
  have ha : PA X [e] (tCons (tV X.K W m1) tNil) := pa_cons h pa_nil hs
  refine PI.weak (pi_range1 hg hm ha hs) fun σ H Q ⟨F, ι, ρ, st, S, R, q⟩ => ?_
  refine tG_seq back_I S R q fun d st1 F1 ι1 H1 v1 x1 S1 R1 r1 q1 => ?_
  unfold rng1 at q1
  split at q1
  · rename_i j
    split at q1
    · rename_i hb
      have rv : Rep X.K F1 ι1 (.int j) v1 := r1
      simp only [Rep] at rv
      exact ⟨j, by rw [rv], hb.1, hb.2, q1 F1 ι1 H1 _ Ext.refl S1 src_range⟩
    · exact q1.elim
  · exact q1.elim
theorem di_range2 (hg : Gl X "range") (hm : X.mg "range" = none) (h : DE X W e m1) (h' : DE X W e2 m2) (hs : starEach [e, e2] X.env = [(false, eval e X.env), (false, eval e2 X.env)] := by rfl) (hs2 : starEach [e2] X.env = [(false, eval e2 X.env)] := by rfl) :
    DI X W tg (.Call (.Name "range" p) [e, e2] [] pos) (iRng2D m1 m2) := by
  have ha : PA X [e, e2] (tCons (tV X.K W m1) (tCons (tV X.K W m2) tNil)) := pa_cons h (pa_cons h' pa_nil hs2) (by rw [hs, hs2])
  refine PI.weak (pi_range2 hg hm ha hs hs2) fun σ H Q ⟨F, ι, ρ, st, S, R, q⟩ => ?_
  refine tG_seq back_I S R q fun d1 st1 F1 ι1 H1 v1 x1 S1 R1 r1 q1 => ?_
  refine tG_seq back_I S1 R1 q1 fun d2 st2 F2 ι2 H2 v2 x2 S2 R2 r2 q2 => ?_
  unfold rng2 at q2
  split at q2
  · rename_i i j
    split at q2
    · rename_i hb
      have rv : Rep X.K F1 ι1 (.int i) v1 := r1
      have rv' : Rep X.K F2 ι2 (.int j) v2 := r2
      simp only [Rep] at rv rv'
      exact ⟨i, j, by rw [rv, rv'], hb, q2 F2 ι2 H2 _ Ext.refl S2 src_range⟩
    · exact q2.elim
  · exact q2.elim
def enumD (n : Nat) : List D → List D
  | [] => []
  | d :: r => .tup [.int (n : Int), d] :: enumD (n + 1) r
theorem enumD_length : ∀ (xs : List D) (n : Nat), (enumD n xs).length = xs.length
  | [], _ => rfl
  | _ :: r, n => by rw [enumD, List.length_cons, List.length_cons, enumD_length r]
theorem enumD_get : ∀ {xs : List D} {n i : Nat} {d : D}, (enumD n xs)[i]? = some d → ∃ x, xs[i]? = some x ∧ d = .tup [.int ((n + i : Nat) : Int), x]
  | [], _, _, _, h => by simp [enumD] at h
  | x :: r, n, 0, d, h => by
    simp [enumD] at h
    exact ⟨x, rfl, h.symm⟩
  | x :: r, n, i + 1, d, h => by
    rw [enumD, List.getElem?_cons_succ] at h
    obtain ⟨y, h1, h2⟩ := enumD_get h
    exact ⟨y, by simpa using h1, by rw [h2]; congr 4; omega⟩
def iEnumD (m : Rho → M D) : Rho → M Src := fun ρ st => (m ρ st).bind fun d st1 => (lift (srcOf st1 d) st1).bind fun src st2 => .ok ⟨enumD 0 src.items, src.held⟩ st2
theorem new_pair {K : PySem.W.Frag} {F : Hp} {ι : List Addr} {st : Sto} {H : Hp} {T : Addr} {d1 d2 : D} {v1 v2 : V} {o : Obj} (S : Sim K F ι st H) (hT : H T = none) (ho : o.dict = none) (r1 : Rep K F ι d1 v1) (r2 : Rep K F ι d2 v2) :
    ∃ F2, Ext F ι H F2 ι (upd H T (.frz o (.tup [v1, v2]))) ∧ Sim K F2 ι st (upd H T (.frz o (.tup [v1, v2]))) ∧ Rep K F2 ι (.tup [d1, d2]) (.ref T) := by
  have x : Ext F ι H (upd F T (.frz o (.tup [v1, v2]))) ι (upd H T (.frz o (.tup [v1, v2]))) := Ext.frozen hT S.sub
  refine ⟨_, x, S.frozen hT trivial, ?_⟩
  simp only [Rep]
  exact ⟨T, [v1, v2], rfl, .inl ⟨o, ho, upd_same⟩, Reps.cons (r1.ext x) (Reps.cons (r2.ext x) Reps.nil)⟩
theorem di_enum {elts : List Expr} {kk : Nat} {tpos : Pos} (hg : Gl X "enumerate") (hm : X.mg "enumerate" = none) (h : DE X W e m1) (hs : starEach [e] X.env = [(false, eval e X.env)] := by rfl) : DI X W (.Tuple elts kk tpos) (.Call (.Name "enumerate" p) [e] [] pos) (iEnumD m1) := by
  have ha : PA X [e] (tCons (tV X.K W m1) tNil) := pa_cons h pa_nil hs
  refine PI.weak (pi_enumX hg hm ha hs) fun σ H Q ⟨F, ι, ρ, st, S, R, q⟩ => ?_
  refine tG_seq back_I S R q fun d st1 F1 ι1 H1 v1 x1 S1 R1 r1 q1 => ?_
  cases e1 : srcOf st1 d with
  | none => rw [e1] at q1; exact q1.elim
  | some src =>
    rw [e1] at q1
    obtain ⟨k, a, e, ⟨vs, hs⟩, hk⟩ := src_sq S1 r1 e1
    refine ⟨a, k, vs, by rw [e], hs, q1 F1 ι1 H1 (IteX X.K k a) Ext.refl S1 ⟨fun i F' ι' st' H' g S' ho hi => ?_, fun F' ι' st' H' g S' ho => ?_, fun i F' ι' st' H' x H2 d g S' ho hd y => ?_⟩⟩
    · obtain ⟨vs, hv, rv⟩ := hk F' ι' st' H' g S' ho
      have hi' : i < src.items.length := by
        have h0 : i < (enumD 0 src.items).length := hi
        rw [enumD_length] at h0
        exact h0
      obtain ⟨v, q, _⟩ := rv.get (List.getElem?_eq_getElem hi')
      exact ⟨vs, v, hv, q⟩
    · obtain ⟨vs, hv, rv⟩ := hk F' ι' st' H' g S' ho
      exact ⟨vs, hv, by rw [← rv.length]; exact (enumD_length _ _).symm⟩
    · obtain ⟨vs, hv, rv⟩ := hk F' ι' st' H' g S' ho
      obtain ⟨T, z, o, ex, hT, hd0, eH, y⟩ := y
      obtain ⟨w, hw, ed⟩ := enumD_get hd
      subst ex eH ed
      have e0 : ((0 + i : Nat) : Int) = (i : Int) := by omega
      rw [e0]
      exact new_pair S' hT hd0 (by simp only [Rep]) (rv.at hw (y vs hv))
end
end Dn
namespace Dn
open PySem PySem.Spec PyProof.Rows L2
variable [HzC]
theorem Ext.outF {F : Hp} {ι : List Addr} {H F' : Hp} {ι' : List Addr} {H' : Hp} (x : Ext F ι H F' ι' H') {p : Addr} (hH : H p ≠ none) (hF : F p = none) (hi : p ∉ ι) : F' p = none := by
  cases e : F' p with
  | none => rfl
  | some o =>
    rcases x.newF p o e with q | q | q
    · rw [hF] at q; cases q
    · exact absurd q hH
    · exact absurd q hi
theorem Ext.outI {F : Hp} {ι : List Addr} {H F' : Hp} {ι' : List Addr} {H' : Hp} (x : Ext F ι H F' ι' H') {p : Addr} (hH : H p ≠ none) (hi : p ∉ ι) : p ∉ ι' := fun h => by
  rcases x.newI p h with q | q
  · exact hi q
  · exact hH q
theorem Sim.outside {K : PySem.W.Frag} {F : Hp} {ι : List Addr} {st : Sto} {H : Hp} (S : Sim K F ι st H) {p : Addr} {o : HO} (hF : F p = none) (hi : p ∉ ι) (ht : ∀ ps, H p ≠ some (.tbl ps)) : Sim K F ι st (upd H p o) := by
  have nf : ∀ a u, F a = some u → a ≠ p := fun a u h e => by rw [e, hF] at h; cases h
  have ni : ∀ a, a ∈ ι → a ≠ p := fun a h e => hi (by rw [← e]; exact h)
  refine ⟨fun a u h => by rw [upd_ne (nf a u h)]; exact S.sub a u h, S.kind, S.len, S.nd, S.free, fun a h => by rw [upd_ne (ni a h)]; exact S.there a h, fun l m a h1 h2 => ?_, S.tabs.mono (fun _ _ h => h) fun a ps h => by rw [upd_ne (fun e => ht ps (by rw [← e]; exact h))]; exact h⟩
  exact (S.obj l m a h1 h2).mono (fun _ _ h => h) (fun _ _ h => h) (upd_ne (ni a (List.mem_of_getElem? h2)))
theorem Ext.outside {F : Hp} {ι : List Addr} {H F' : Hp} {ι' : List Addr} {H' : Hp} (x : Ext F ι H F' ι' H') {p : Addr} {o : HO} (h0 : H p = none) (h1 : H' p ≠ none) : Ext F ι H F' ι' (upd H' p o) := by
  refine ⟨x.f, x.i, fun a u h n nt => ?_, fun a h => ?_, x.newF, x.newI, x.long⟩
  · rw [upd_ne (ne_of_none h h0)]; exact x.keep a u h n nt
  · by_cases e : a = p
    · subst e; exact h0
    · rw [upd_ne e] at h; exact x.there a h
theorem wipe_idem (σ : L2.St) (vs : List Nat) : wipe (wipe σ vs) vs = wipe σ vs := by
  have key : ∀ (us : List Nat), (∀ u ∈ us, u ∈ vs) → ∀ τ : L2.St, wipe (wipe τ us) vs = wipe τ vs := by
    intro us
    induction us with
    | nil => intro _ τ; rfl
    | cons u us ih =>
      intro h τ
      show wipe ((wipe τ us).set u none) vs = _
      rw [wipe_set (h u (by simp)), ih (fun v hv => h v (List.mem_cons_of_mem _ hv))]
  exact key vs (fun _ h => h) σ
def DTs (X : Cx) (W : WX) (ifs : List Expr) (m : Rho → M Bool) : Prop := PTs X ifs (tT X.K W m)
theorem dts_nil {X : Cx} {W : WX} : DTs X W [] bYes := ⟨fun pins s σ H Q I ⟨F, ι, ρ, st, S, R, q⟩ => pts_nil.run pins s σ H Q I (q F ι H true Ext.refl S rfl)⟩
theorem dts_one {X : Cx} {W : WX} {c : Expr} {m : Rho → M Bool} (h : DT X W c m) : DTs X W [c] m := pts_one h
theorem post_ok {α β : Type} {K : PySem.W.Frag} {W : WX} {σ : L2.St} {F : Hp} {ι : List Addr} {H : Hp} {P : Hp → Hp → List Addr → Hp → α → β → Prop} {r : Out α} {a : α} {st : Sto} {Q : β → Hp → Prop} (e : r = .ok a st)
    (h : ∀ F' ι' H' b, Ext F ι H F' ι' H' → Sim K F' ι' st H' → P H F' ι' H' a b → Q b H') : post K W σ F ι H P r Q := by
  subst e
  exact h
theorem lc_of {K : PySem.W.Frag} {W : WX} {ms : Rho → M Src} {js : List Nat} {gf : D → Rho → M Rho} {mt : Rho → M Bool} {me : Rho → M D} {vs : List Nat} (hjs : ∀ j, j ∈ js → j ∈ vs) {σ : L2.St} {H : Hp} {Q : VK} (h : tL K W (lLc ms gf mt me vs) σ H Q) :
    tLc (tG K W (pI K) ms) (tGt K js gf) (tT K wN mt) (tV K wN me) vs σ H Q := by
  obtain ⟨F, ι, ρ, st, S, R, q⟩ := h
  refine tG_seq back_L S R q fun src st1 F1 ι1 H1 J x1 S1 R1 hJ q1 => ?_
  have hJ : SrcIt K F1 ι1 src J := hJ
  split at q1
  rotate_left
  · exact q1.elim
  rename_i hsz
  intro D hD
  cases er : lcL src.held (lcF gf mt me (wipeD ρ vs)) src.items st1 with
  | exc _ _ => rw [er] at q1; exact (q1 : False).elim
  | bad => rw [er] at q1; exact (q1 : False).elim
  | ok tot stf =>
    rw [er] at q1
    have q1 : ∀ F' ι' H' b, Ext F1 ι1 H1 F' ι' H' → Sim K F' ι' stf H' → pL K H1 F' ι' H' tot b → Q b H' := q1
    refine ⟨fun i m H' => m = src.items.length - i ∧ i ≤ src.items.length ∧ ∃ F' ι' st' acc av, Ext F1 ι1 H1 F' ι' H' ∧ Sim K F' ι' st' H' ∧ H' D = some (.lst av) ∧ F' D = none ∧ D ∉ ι' ∧ Reps K F' ι' acc av ∧ acc.length ≤ i ∧
      ∃ ys, lcL src.held (lcF gf mt me (wipeD ρ vs)) (src.items.drop i) st' = .ok ys stf ∧ acc ++ ys = tot, ⟨_, rfl, Nat.zero_le _, F1, ι1, st1, [], [], Ext.laid hD, S1.laid hD, upd_same, ?_, fun h => S1.there D h hD, Reps.nil, Nat.zero_le _, tot, er, rfl⟩, ?_⟩
    · cases e : F1 D with
      | none => rfl
      | some o =>
        have := S1.sub D o e
        rw [hD] at this
        cases this
    rintro i m H' ⟨rfl, hi, F', ι', st', acc, av, x', S', hv, hF', hi', ra, hla, ys, ey, et⟩
    by_cases hlt : i < src.items.length
    · right
      rw [List.drop_eq_getElem_cons hlt] at ey
      unfold lcL at ey
      split at ey
      rotate_left
      · cases ey
      rename_i ho
      obtain ⟨o, st2, e1, ey⟩ := bind_ok ey
      obtain ⟨ys', st3, e2, ey⟩ := bind_ok ey
      cases ey
      have g' : Grow F1 ι1 F' ι' := x'.grow
      refine ⟨hJ.go i F' ι' st' H' g' S' ho hlt, fun H'' => ∃ m', m' < src.items.length - i ∧ _, fun H'' h => h, fun x H2 y => ?_⟩
      obtain ⟨F2, x2, S2, r2⟩ := hJ.yld i F' ι' st' H' x H2 src.items[i] g' S' ho (by simp [hlt]) y
      unfold lcF at e1
      obtain ⟨ρ2, s2, e3, e1⟩ := bind_ok e1
      obtain ⟨b, s3, e4, e1⟩ := bind_ok e1
      have nH' : H' D ≠ none := by rw [hv]; simp
      refine ⟨F2, ι', wipeD ρ vs, st', _, S2, ((R1.ext x').ext x2).wipe vs, r2, post_ok e3 fun F3 ι3 H3 σ2 x3 S3 ⟨R3, hw⟩ => ?_⟩
      refine ⟨(hw vs hjs).trans (wipe_idem σ vs), F3, ι3, ρ2, s2, S3, R3, post_ok e4 fun F4 ι4 H4 b' x4 S4 eb => ?_⟩
      have eb : b = b' := eb
      subst eb
      have xx4 : Ext F' ι' H' F4 ι4 H4 := (x2.trans x3).trans x4
      cases b with
      | false =>
        rw [if_neg (by decide)] at e1 ⊢
        cases e1
        refine ⟨_, ?_, rfl, hlt, F4, ι4, _, acc, av, x'.trans xx4, S4, xx4.keep D _ hv hi' (fun _ z => nomatch z), xx4.outF nH' hF' hi', xx4.outI nH' hi', ra.ext xx4, Nat.le_succ_of_le hla, ys', e2, et⟩
        omega
      | true =>
        rw [if_pos rfl] at e1 ⊢
        obtain ⟨yd, s4, e5, e1⟩ := bind_ok e1
        cases e1
        refine ⟨F4, ι4, ρ2, s3, S4, R3.ext x4, post_ok e5 fun F5 ι5 H5 yv x5 S5 r5 => ?_⟩
        have xx5 : Ext F' ι' H' F5 ι5 H5 := xx4.trans x5
        have hv5 := xx5.keep D _ hv hi' (fun _ z => nomatch z)
        have hF5 := xx5.outF nH' hF' hi'
        have hi5 := xx5.outI nH' hi'
        refine ⟨av, hv5, by rw [← ra.length]; exact sz_lt (by omega), _, ?_, rfl, hlt, F5, ι5, _, acc ++ [yd], av ++ [yv], (x'.trans xx5).outside hD (by rw [hv5]; simp), S5.outside hF5 hi5 (fun ps z => by rw [hv5] at z; cases z), upd_same, hF5, hi5, (ra.ext xx5).snoc r5, ?_, ys', e2, ?_⟩
        · omega
        · rw [List.length_append]; simp; omega
        · rw [← et]; simp
    · left
      have e0 : i = src.items.length := by omega
      subst e0
      rw [List.drop_length] at ey
      unfold lcL at ey
      split at ey
      rotate_left
      · cases ey
      rename_i ho
      cases ey
      rw [List.append_nil] at et
      subst et
      exact ⟨hJ.stop F' ι' _ H' x'.grow S' ho, q1 F' ι' H' (.ref D) x' S' ⟨D, av, rfl, hv, hF', hi', hD, ra⟩⟩
section
variable {X : Cx} {W : WX} {pos spos py : Pos} {tg iter elt : Expr} {ifs : List Expr} {scope : Scope} {own : List (Str × Nat)} {ms : Rho → M Src} {js : List Nat} {gf : D → Rho → M Rho} {mt : Rho → M Bool} {me : Rho → M D}
theorem dl_lc (hc : X.calm = true) (hN : X.N.Nodup) (hi : DI X W tg iter ms) (ok : BlkOk X.N X.env.scope scope own) (hjs : ∀ j, j ∈ js → j ∈ own.map (·.2))
    (hg : ∀ (s : Shared) (H : Hp) (C : Addr) (cl : List (Str × Addr)) (fp : List Addr), DG (X.blk s H scope (compEnvC scope cl C X.env) fp) js tg gf) (ht : ∀ (s : Shared) (H : Hp) (C : Addr) (cl : List (Str × Addr)) (fp : List Addr), DTs (X.blk s H scope (compEnvC scope cl C X.env) fp) wN ifs mt)
    (he : ∀ (s : Shared) (H : Hp) (C : Addr) (cl : List (Str × Addr)) (fp : List Addr), DE (X.blk s H scope (compEnvC scope cl C X.env) fp) wN elt me) (hs : ∀ x, foldedSetIterable iter X.env x = pure x := by intro _; rfl) :
    DL X W (.ListComp elt [⟨tg, iter, ifs, 0⟩] scope pos) (lLc ms gf mt me (own.map (·.2))) :=
  PE.weak (pe_lc (g := tGt X.K js gf) (tt := tT X.K wN mt) (te := tV X.K wN me) hc hN hi ok hg ht he hs) fun _ _ _ h => lc_of hjs h
end
section
variable {X : Cx} {W : WX} {pos : Pos} {st : Stmt} {rest : List Stmt} {s1 s2 : Rho → Sto → Fl}
theorem dss_nil : DSs X W [] sNext := PSs.weak pss_nil fun E σ H ⟨F, ι, ρ, st, S, R, q⟩ => q F ι H σ Ext.refl S R
theorem dss_cons (h1 : DS X W st s1) (h2 : DSs X W rest s2) : DSs X W (st :: rest) (sSeq s1 s2) := by
  refine PSs.weak (pss_cons h1 h2) fun E σ H ⟨F, ι, ρ, st, S, R, q⟩ => ⟨F, ι, ρ, st, S, R, ?_⟩
  unfold sSeq Fl.seq at q
  generalize s1 ρ st = r at q
  cases r with
  | next ρ1 st1 => exact fun F' ι' H' σ' x S' R' => ⟨F', ι', ρ1, st1, S', R', sPost_ext q x⟩
  | ret d st1 => exact q
  | brk ρ1 st1 => exact q
  | cnt ρ1 st1 => exact q
  | exc x ρ1 st1 => exact q
  | bad => exact q
theorem dss_one (h1 : DS X W st s1) : DSs X W [st] s1 := pss_one h1
variable {e c : Expr} {m : Rho → M D} {mt : Rho → M Bool}
theorem ds_expr (he : DE X W e m) (hs : swapsWith e none pos.line X.env = pure false := by rfl) : DS X W (.Expr e pos) (sDrop m) :=
  PS.weak (ps_expr he hs) fun E σ H ⟨F, ι, ρ, st, S, R, q⟩ => fl_seq S R q fun a st1 F1 ι1 H1 b x1 S1 R1 r1 q1 => q1 F1 ι1 H1 σ Ext.refl S1 R1
theorem ds_ret (he : DE X W e m) : DS X W (.Return (some e) pos) (sRet m) :=
  PS.weak (ps_ret he) fun E σ H ⟨F, ι, ρ, st, S, R, q⟩ => fl_seq S R q fun a st1 F1 ι1 H1 b x1 S1 R1 r1 q1 => q1 F1 ι1 H1 b Ext.refl S1 r1
theorem ds_if {p1 p2 : List Stmt} (hc : DT X W c mt) (h1 : DSs X W p1 s1) (h2 : DSs X W p2 s2) : DS X W (.If c p1 p2 pos) (sIf mt s1 s2) := by
  refine PS.weak (ps_if hc h1 h2) fun E σ H ⟨F, ι, ρ, st, S, R, q⟩ => fl_seq S R q fun a st1 F1 ι1 H1 b x1 S1 R1 r1 q1 => ?_
  have r1 : a = b := r1
  subst r1
  cases a with
  | true => exact ⟨F1, ι1, ρ, st1, S1, R1, q1⟩
  | false => exact ⟨F1, ι1, ρ, st1, S1, R1, q1⟩
theorem ds_asg {tg : Expr} {js : List Nat} {gf : D → Rho → M Rho} (he : DE X W e m) (hg : DG X js tg gf) (hs : swapsWithSole [tg] e pos.line X.env = pure false := by rfl) (hw : swappedStores [tg] e X.env = pure none := by rfl)
    (h1 : (assignEach [tg] X.env).map (·.2) = [assign tg X.env] := by rfl) : DS X W (.Assign [tg] e pos) (sAsg gf m) := by
  refine PS.weak (ps_asg he hg hs hw h1) fun E σ H ⟨F, ι, ρ, st, S, R, q⟩ => fl_seq S R q fun a st1 F1 ι1 H1 b x1 S1 R1 r1 q1 => ?_
  refine ⟨F1, ι1, ρ, st1, a, S1, R1, r1, ?_⟩
  cases e1 : gf a ρ st1 with
  | ok ρ2 st2 =>
    rw [e1] at q1
    exact fun F' ι' H' σ' x S' r => q1 F' ι' H' σ' x S' r.1
  | exc _ _ => rw [e1] at q1; exact (q1 : False).elim
  | bad => rw [e1] at q1; exact (q1 : False).elim
theorem ds_par {i j : Nat} {x y : Str} {a b : Expr} {am : Rho → M (List D)} {px py pt : Pos} {kt k2 pt2} (hc : X.calm = true) (hN : X.N.Nodup) (hi : X.N[i]? = some x) (hj : X.N[j]? = some y) (hij : i ≠ j)
    (hx : X.env.scope.names.lookup x = some .local) (hy : X.env.scope.names.lookup y = some .local) (ha : DA X W [a, b] am)
    (hw : swappedStores [.Tuple [.Name x px, .Name y py] kt pt] (.Tuple [a, b] k2 pt2) X.env = pure (some [x, y]))
    (hs : swapsWithSole [.Tuple [.Name x px, .Name y py] kt pt] (.Tuple [a, b] k2 pt2) pos.line X.env = pure false := by rfl) :
    DS X W (.Assign [.Tuple [.Name x px, .Name y py] kt pt] (.Tuple [a, b] k2 pt2) pos) (sPar i j am) := by
  refine PS.weak (ps_par hc hN hi hj hij hx hy ha hw hs) fun E σ H ⟨F, ι, ρ, st, S, R, q⟩ => fl_seq S R q fun ds st1 F1 ι1 H1 vs x1 S1 R1 r1 q1 => ?_
  split at q1
  · rename_i d1 d2
    obtain ⟨v1, v2, e, r1, r2⟩ := Reps.two (show Reps X.K F1 ι1 [d1, d2] vs from r1)
    exact ⟨v1, v2, e, q1 F1 ι1 H1 _ Ext.refl S1 ((R1.set r1 i).set r2 j)⟩
  · exact q1.elim
theorem ds_for {tg iter : Expr} {body : List Stmt} {ms : Rho → M Src} {js : List Nat} {gf : D → Rho → M Rho} {mb : Rho → Sto → Fl} (hp : PassesOwn (model X.prog X.w) X.A X.env X.xe) (hc : X.calm = true) (hi : DI X W tg iter ms) (hg : DG X js tg gf) (hb : DSs X W body mb)
    (hs : ∀ x, foldedSetIterable iter X.env x = pure x := by intro _; rfl) : DS X W (.For tg iter body [] pos) (sFor ms gf mb) := by
  refine PS.weak (ps_for hp hc hi hg hb hs) fun E σ H ⟨F, ι, ρ, st, S, R, q⟩ => fl_seq S R q fun src st1 F1 ι1 H1 J x1 S1 R1 hJ q1 => ?_
  have hJ : SrcIt X.K F1 ι1 src J := hJ
  refine ⟨fun i m σ' H' => m = src.items.length - i ∧ i ≤ src.items.length ∧ ∃ F' ι' ρ' st', Ext F1 ι1 H1 F' ι' H' ∧ Sim X.K F' ι' st' H' ∧ REnv X.K F' ι' ρ' σ' ∧ sPost X.K W E F' ι' H' (forL src.held (forB gf mb) (src.items.drop i) ρ' st'),
    ⟨_, rfl, Nat.zero_le _, F1, ι1, ρ, st1, Ext.refl, S1, R1, q1⟩, ?_⟩
  rintro i m σ' H' ⟨rfl, hi, F', ι', ρ', st', x', S', R', q'⟩
  by_cases hlt : i < src.items.length
  · right
    rw [List.drop_eq_getElem_cons hlt] at q'
    unfold forL at q'
    split at q'
    rotate_left
    · exact q'.elim
    rename_i ho
    refine ⟨hJ.go i F' ι' st' H' x'.grow S' ho hlt, fun σ'' H'' => ∃ m', m' < src.items.length - i ∧ _, fun σ'' H'' h => h, fun x H2 y => ?_⟩
    obtain ⟨F2, x2, S2, r2⟩ := hJ.yld i F' ι' st' H' x H2 src.items[i] x'.grow S' ho (by simp [hlt]) y
    refine ⟨F2, ι', ρ', st', _, S2, R'.ext x2, r2, ?_⟩
    unfold forB at q'
    cases e1 : gf src.items[i] ρ' st' with
    | exc _ _ => rw [e1] at q'; exact (q' : False).elim
    | bad => rw [e1] at q'; exact (q' : False).elim
    | ok ρ2 st2 =>
      rw [e1] at q'
      intro F3 ι3 H3 σ3 x3 S3 R3
      refine ⟨F3, ι3, ρ2, st2, S3, R3.1, ?_⟩
      have xx : Ext F' ι' H' F3 ι3 H3 := x2.trans x3
      have q'' := sPost_ext q' xx
      simp only [nox_ok, Out.fl_ok] at q''
      cases e2 : mb ρ2 st2 with
      | next ρ4 st4 =>
        rw [e2] at q''
        intro F4 ι4 H4 σ4 x4 S4 R4
        exact ⟨src.items.length - (i + 1), by omega, rfl, hlt, F4, ι4, ρ4, st4, (x'.trans xx).trans x4, S4, R4, sPost_ext q'' x4⟩
      | cnt ρ4 st4 =>
        rw [e2] at q''
        intro F4 ι4 H4 σ4 x4 S4 R4
        exact ⟨src.items.length - (i + 1), by omega, rfl, hlt, F4, ι4, ρ4, st4, (x'.trans xx).trans x4, S4, R4, sPost_ext q'' x4⟩
      | brk ρ4 st4 => rw [e2] at q''; exact q''
      | ret d st4 => rw [e2] at q''; exact q''
      | exc x ρ4 st4 => rw [e2] at q''; exact q''
      | bad => rw [e2] at q''; exact q''
  · left
    have e0 : i = src.items.length := by omega
    subst e0
    rw [List.drop_length] at q'
    unfold forL at q'
    split at q'
    rotate_left
    · exact q'.elim
    rename_i ho
    exact ⟨hJ.stop F' ι' st' H' x'.grow S' ho, q' F' ι' H' σ' Ext.refl S' R'⟩
def whileL (t : Rho → M Bool) (mb : Rho → Sto → Fl) : Nat → Rho → Sto → Fl
  | 0, _, _ => .bad
  | n + 1, ρ, st => (t ρ st).fl ρ fun b st1 => if b = true then (match mb ρ st1 with
    | .next ρ' st' => whileL t mb n ρ' st'
    | .cnt ρ' st' => whileL t mb n ρ' st'
    | .brk ρ' st' => .next ρ' st'
    | r => r) else .next ρ st1
def sWhile (n : Nat) (t : Rho → M Bool) (mb : Rho → Sto → Fl) : Rho → Sto → Fl := fun ρ st => whileL t mb n ρ st
theorem ds_while {n : Nat} {body : List Stmt} {mb : Rho → Sto → Fl} (hp : PassesOwn (model X.prog X.w) X.A X.env X.xe) (hc : DT X W c mt) (hb : DSs X W body mb) : DS X W (.While c body [] pos) (sWhile n mt mb) := by
  refine PS.weak (ps_while hp hc hb) fun E σ H ⟨F, ι, ρ, st, S, R, q⟩ => ?_
  refine ⟨fun m σ' H' => ∃ F' ι' ρ' st', Sim X.K F' ι' st' H' ∧ REnv X.K F' ι' ρ' σ' ∧ sPost X.K W E F' ι' H' (whileL mt mb m ρ' st'), ⟨n, F, ι, ρ, st, S, R, q⟩, ?_⟩
  rintro m σ' H' ⟨F', ι', ρ', st', S', R', q'⟩
  cases m with
  | zero => exact (q' : False).elim
  | succ m =>
    refine fl_seq S' R' q' fun a st1 F1 ι1 H1 b x1 S1 R1 r1 q1 => ?_
    have r1 : a = b := r1
    subst r1
    cases a with
    | false => exact q1 F1 ι1 H1 σ' Ext.refl S1 R1
    | true =>
      rw [if_pos rfl] at q1 ⊢
      refine ⟨fun σ'' H'' => ∃ m', m' < m + 1 ∧ _, fun σ'' H'' h => h, F1, ι1, ρ', st1, S1, R1, ?_⟩
      cases e2 : mb ρ' st1 with
      | next ρ4 st4 =>
        rw [e2] at q1
        exact fun F4 ι4 H4 σ4 x4 S4 R4 => ⟨m, Nat.lt_succ_self m, F4, ι4, ρ4, st4, S4, R4, sPost_ext q1 x4⟩
      | cnt ρ4 st4 =>
        rw [e2] at q1
        exact fun F4 ι4 H4 σ4 x4 S4 R4 => ⟨m, Nat.lt_succ_self m, F4, ι4, ρ4, st4, S4, R4, sPost_ext q1 x4⟩
      | brk ρ4 st4 => rw [e2] at q1; exact q1
      | ret d st4 => rw [e2] at q1; exact q1
      | exc x ρ4 st4 => rw [e2] at q1; exact q1
      | bad => rw [e2] at q1; exact q1
end
end Dn
namespace Dn
open PySem PySem.Spec PyProof.Rows L2
variable [HzC]
section
variable {K : PySem.W.Frag} {F F' : Hp} {ι ι' : List Addr} {H H' : Hp} {st st' : Sto} {n : Nat}
mutual
theorem Rep.isLow : ∀ (d : D) (v : V), Rep K F ι d v → d.low ι.length = true
  | .non, _, _ => by simp only [D.low]
  | .bl _, _, _ => by simp only [D.low]
  | .int _, _, _ => by simp only [D.low]
  | .str _, _, _ => by simp only [D.low]
  | .adr _, _, _ => by simp only [D.low]
  | .tup xs, v, h => by
    simp only [Rep] at h
    simp only [D.low]
    obtain ⟨a, vs, e, q, r⟩ := h
    exact Reps.isLow xs vs r
  | .lst xs, v, h => by
    simp only [Rep] at h
    simp only [D.low]
    obtain ⟨a, vs, e, q, r⟩ := h
    exact Reps.isLow xs vs r
  | .scr xs, v, h => by
    simp only [Rep] at h
    simp only [D.low]
    obtain ⟨a, vs, e, q, r⟩ := h
    exact Reps.isLow xs vs r
  | .ref j, v, h => by
    simp only [Rep] at h
    simp only [D.low, decide_eq_true_eq]
    obtain ⟨a, e, q⟩ := h
    exact (List.getElem?_eq_some_iff.mp q).1
  | .fd ks ds, v, h => by
    simp only [Rep] at h
    simp only [D.low]
    obtain ⟨a, xs, ws, e, z, q, kt, vr, r⟩ := h
    exact Reps.isLow ds ws r
  | .exo a dd g d, v, h => by
    simp only [Rep] at h
    simp only [D.low]
    obtain ⟨e, u, q, r⟩ := h
    exact Rep.isLow d u r
  | .obj nm ks ds, v, h => by
    simp only [Rep] at h
    simp only [D.low]
    obtain ⟨a, C, dx, gs, e, z, q, kk, r⟩ := h
    exact Reps.isLow ds _ r
  | .sd kvs, v, h => by simp only [D.low]
  | .fnv _, v, h => by simp only [D.low]
theorem Reps.isLow : ∀ (ds : List D) (vs : List V), Reps K F ι ds vs → D.lows ι.length ds = true
  | [], _, _ => by simp only [D.lows]
  | d :: ds, vs, h => by
    simp only [Reps] at h
    simp only [D.lows, Bool.and_eq_true]
    obtain ⟨v, r, e, h1, h2⟩ := h
    exact ⟨Rep.isLow d v h1, Reps.isLow ds r h2⟩
end
theorem RepF.isLow {fs : List (Str × D)} {gs : List (Str × V)} (h : RepF K F ι fs gs) : (fs.all fun p => p.2.low ι.length) = true := by
  induction h with
  | nil => rfl
  | cons a b ih =>
    simp only [List.all_cons, Bool.and_eq_true]
    exact ⟨Rep.isLow _ _ a.2, ih⟩
theorem ObjR.isLow {a : Addr} {m : MO} (h : ObjR K F ι H a m) : m.low ι.length = true := by
  cases m with
  | lst xs =>
    obtain ⟨vs, e, r⟩ := h
    exact Reps.isLow _ _ r
  | dct ks ds =>
    obtain ⟨xs, ws, z, q, kt, vr, r⟩ := h
    exact Reps.isLow _ _ r
  | dcs ks ds =>
    obtain ⟨xs, ws, z, q, kt, vr, r⟩ := h
    exact Reps.isLow _ _ r
  | gone => rfl
  | ins C fs =>
    obtain ⟨C, dx, gs, z, e, r⟩ := h
    exact RepF.isLow r
  | clo nm ds =>
    obtain ⟨L, cl, pm, c', ctv, ws, z, e, q, cf, r⟩ := h
    exact Reps.isLow _ _ r
theorem Sim.isLow (S : Sim K F ι st H) {l : Nat} {m : MO} (e : st[l]? = some m) : m.low st.length = true := by
  have hl : l < ι.length := by rw [S.len]; exact (List.getElem?_eq_some_iff.mp e).1
  rw [← S.len]
  exact (S.obj l m _ e (List.getElem?_eq_getElem hl)).isLow
end
def lowS (n : Nat) (st : Sto) : Prop := ∀ (l : Nat) (m : MO), st[l]? = some m → m.low n = true
open Classical in
noncomputable def clean (st0 : Sto) (r : Out D) : Out D := match r with
  | .ok d st => if d.low st0.length = true ∧ Tidy st0 st then .ok d (st.take st0.length) else .ok d st
  | .exc x st => if x.low st0.length = true ∧ Tidy st0 st then .exc x (st.take st0.length) else .exc x st
  | .bad => .bad
section
variable {K : PySem.W.Frag} {W : WX} {σ : L2.St} {F F' : Hp} {ι ι' : List Addr} {H H' : Hp} {st st' : Sto} {Q : VK}
theorem clean_low (S : Sim K F ι st H) (h : Tidy st st') : lowS st.length (st'.take st.length) := fun l m e => by
  have hl : l < st.length := by
    have := (List.getElem?_eq_some_iff.mp e).1
    rw [List.length_take] at this
    omega
  rw [List.getElem?_take_of_lt hl] at e
  rcases h.2.1 l m hl e with q | q
  · exact S.isLow q
  · exact q
theorem clean_ok {d : D} {v : V} (S : Sim K F ι st H) (x : Ext F ι H F' ι' H') (S' : Sim K F' ι' st' H') (r : Rep K F' ι' d v) (q : post K W σ F ι H (pV K) (clean st (.ok d st')) Q) : Q v H' := by
  unfold clean at q
  dsimp only at q
  split at q
  · rename_i h
    exact q F' (ι'.take st.length) H' v (x.take (by rw [S.len]; exact Nat.le_refl _)) (S'.take (clean_low S h.2)) (Rep.cut _ _ r h.1)
  · exact q F' ι' H' v x S' r
theorem clean_exc {e : Xc} {cls : Value} {dd : Option Addr} (S : Sim K F ι st H) (x : Ext F ι H F' ι' H') (S' : Sim K F' ι' st' H') (r : XcR K F' ι' H' e cls dd) (q : post K W σ F ι H (pV K) (clean st (.exc e st')) Q) : W cls dd σ H' := by
  unfold clean at q
  dsimp only at q
  split at q
  · rename_i h
    refine q F' (ι'.take st.length) H' cls dd (x.take (by rw [S.len]; exact Nat.le_refl _)) (S'.take (clean_low S h.2)) ⟨r.1, ?_⟩
    have h1 := h.1
    have r2 := r.2
    unfold Xc.low at h1
    split
    · rename_i e1
      rw [e1] at r2
      exact r2
    · rename_i f d e1
      rw [e1] at r2 h1
      obtain ⟨a, v, q1, q2, q3⟩ := r2
      exact ⟨a, v, q1, q2, Rep.cut _ _ q3 h1⟩
  · exact q F' ι' H' cls dd x S' r
end
def rho0 (n : Nat) (ds : List D) : Rho := ds.map some ++ List.replicate (n - ds.length) none
noncomputable def fnD (np nN : Nat) (body : Rho → Sto → Fl) : List D → M D := fun ds st => if ds.length = np then clean st (flOut (body (rho0 nN ds) st)) else .bad
theorem tkK_of {k : Nat} {X : Cx} {E : XK} (hs : X.stack = X.env :: X.outer) (hf : X.env.frame = some X.env.locals) (hex : X.ex = []) {E₁ : Value → Shared → Prop}
    (hx : X.xe = fun e s' => wpAny (model X.prog X.w) X.A (leaving X.env e) (fun _ s'' => CXk (k + 1) X.prog X.w X.outer X.H_0 X.s_0 E e s'') E₁ s') : TkK k X (fun cls d _ H => E cls d H) := by
  by_cases h : 40 ≤ k + 1
  · rw [cxk_ge h] at hx
    exact .of (takes_of hs hf hex hx)
  · rw [cxk_lt h] at hx
    exact ⟨L2N.takes_of hs hf hex hx, fun h' => absurd (Nat.le_succ_of_le h') h⟩
theorem passK {k : Nat} {X : Cx} {W : WX} (tk : TkK k X W) (σ : L2.St) : PassesAt (CXk k X.prog X.w) X σ (WE W σ) := by
  by_cases h : 40 ≤ k
  · rw [cxk_ge h]
    exact L2.passAt (tk.c h) σ
  · rw [cxk_lt h]
    exact L2N.passAt tk.n σ
theorem cx_no {k : Nat} {P : Program} {w : World} {fr : List Env} {H : Hp} {s s' : Shared} {e : Value} (h : CXk k P w fr H s (fun _ _ _ => False) e s') : False := by
  replace h := cxk_mono (k' := k + 40) (Nat.le_add_right k 40) h
  rw [cxk_ge (Nat.le_add_left 40 k)] at h
  obtain ⟨a, B, H', cls, d, ea, fl, hok, ub, na, os, ag, he⟩ := h
  exact he
theorem REnv.start {K : PySem.W.Frag} {F : Hp} {ι : List Addr} {ds : List D} {vs : List V} {N : List Str} (r : Reps K F ι ds vs) (hl : ds.length ≤ N.length) : REnv K F ι (rho0 N.length ds) (start N vs) := by
  have e := r.length
  refine ⟨?_, fun i d h => ?_⟩
  · unfold rho0 L2.start
    simp only [List.length_append, List.length_map, List.length_replicate]
    omega
  · unfold rho0 at h
    have hi : i < ds.length := by
      by_cases hi : i < ds.length
      · exact hi
      · rw [List.getElem?_append_right (by simpa using hi), List.getElem?_replicate] at h
        split at h <;> cases h
    rw [List.getElem?_append_left (by simpa using hi), List.getElem?_map] at h
    cases e1 : ds[i]? with
    | none => rw [e1] at h; cases h
    | some d1 =>
      rw [e1] at h
      cases h
      obtain ⟨v, q1, q2⟩ := r.get e1
      refine ⟨v, ?_, q2⟩
      unfold L2.start
      rw [List.getElem?_append_left (by rw [List.length_map]; omega), List.getElem?_map, q1]
      rfl
theorem body_end {K : PySem.W.Frag} {E : XK} {Q : VK} {F : Hp} {ι : List Addr} {H : Hp} {st : Sto} {r : Fl} (S : Sim K F ι st H) (q : post K (wE E) [] F ι H (pV K) (clean st (flOut r)) Q) :
    sPost K (wE E) { nx := fun _ H' => Q .non H', rt := Q } F ι H r := by
  cases r with
  | next ρ st' => exact fun F' ι' H' σ' x S' R' => clean_ok (v := V.non) S x S' (by simp only [Rep]) q
  | ret d st' => exact fun F' ι' H' v x S' r' => clean_ok S x S' r' q
  | exc e ρ st' => exact fun F' ι' H' cls dd σ' x S' R' r' => clean_exc (σ := []) S x S' r' q
  | brk _ _ => exact (q : False).elim
  | cnt _ _ => exact (q : False).elim
  | bad => exact (q : False).elim
section
variable {P : Program} {w : World} {K : PySem.W.Frag} {mg : Str → Option Value} {base : Heap}
theorem fnG_of {x qual : Str} {stm : Stmt} {f : Addr} {fd : FuncData} {N ps : List Str} {k : Nat} {m : Rho → Sto → Fl} (Fn : Fun K x qual stm f fd) (SC : FnScope N ps (defScope stm)) (hN : ps.length ≤ N.length)
    (hb : ∀ (cdv : Value) (B : Around) (fr : List Env) (s : Shared) (H : Hp) (E : XK), Bd (cxOf (CXk (k + 1) P w) P w K mg base N qual (defScope stm) f cdv B fr s H E) (wE E) k →
      PassesOwn (model P w) (B.deeper (envOfC qual (defScope stm) s.heap.objs.size f cdv)) (envOfC qual (defScope stm) s.heap.objs.size f cdv) (cxOf (CXk (k + 1) P w) P w K mg base N qual (defScope stm) f cdv B fr s H E).xe →
      DSs (cxOf (CXk (k + 1) P w) P w K mg base N qual (defScope stm) f cdv B fr s H E) (wE E) (defBody stm) m) :
    FnG P w K mg base (k + 1) f fd ps (spD K ps.length (fnD ps.length N.length m)) := by
  obtain ⟨oc, od, kV, doc, pm, an, cdv, ct, osl, rfl, lk, hcd⟩ := Fn.ex
  refine ⟨fun vs H Q E h => h.1, fun B fr s H ar us vs Q E hr hgd e0 hbn rv hsp => ?_⟩
  have hl : vs.length = ps.length := hsp.1
  have hKs : K.In s.heap := e0.mod.kin.keeps fun b o e => (e0.bs b o e).1
  have hlim : s.heap.NoLimit := e0.mod.nolimit.keeps fun b o e => (e0.bs b o e).1
  refine codeAny_call_function hr.depth (hKs _ _ lk) rfl SC.co SC.gen rfl (PySem.W.codeRec_of hKs hcd) (hbn _ _ _ _ ?_)
  refine wpAny_newFunctionEnv_cells SC.kind (fun ⟨y, u⟩ hy => ?_) fun env he s1 ic => ?_
  · rcases SC.par y (List.of_mem_zip hy).1 with q | q
    · exact .inl q
    · exact .inr ⟨q, PySem.W.cellsFrom_some _ _ _ (.inl q)⟩
  subst he
  refine ⟨hlim.keeps ic.toInCall.keep, codeAny_func ?_⟩
  obtain ⟨_, F, ι, st, ds, S, rs, q⟩ := hsp
  have hds : ds.length = ps.length := by rw [rs.length]; exact hl
  have I := inv_start (CX := CXk (k + 1) P w) (E := E) (cd := cdv) SC hr.hd e0 hl rv ic
  have bd : Bd (cxOf (CXk (k + 1) P w) P w K mg base N qual (defScope stm) f cdv B fr s H E) (wE E) k :=
    ⟨hr.deeper _, fun h => hgd (by omega), rfl, SC.nd, tkK_of (X := cxOf (CXk (k + 1) P w) P w K mg base N qual (defScope stm) f cdv B fr s H E) (E := E) (E₁ := fun e' s'' => CXk (k + 1) P w fr H s E e' s'') rfl rfl rfl rfl⟩
  have hown := passes_of (X := cxOf (CXk (k + 1) P w) P w K mg base N qual (defScope stm) f cdv B fr s H E) (K := fun e s'' => CXk (k + 1) P w fr H s E e s'') (E₁ := fun e' s'' => CXk (k + 1) P w fr H s E e' s'') rfl
  unfold fnD at q
  rw [if_pos hds] at q
  refine wpAny_mono ((hb cdv B fr s H E bd hown).run [] s1 (start N vs) H { nx := fun _ H' => Q .non H', rt := Q } I ⟨F, ι, rho0 N.length ds, st, S, REnv.start rs (by omega), body_end S q⟩) (fun fl s' hs => ?_) fun e s' hs => hs
  cases fl with
  | ret u =>
    obtain ⟨v, σ', H', J, r', qq⟩ := hs
    exact ⟨v, H', J.os, J.bare, J.base, J.hok, r', qq⟩
  | next =>
    obtain ⟨σ', H', J, qq⟩ := hs
    exact ⟨V.non, H', J.os, J.bare, J.base, J.hok, rfl, qq⟩
  | brk =>
    obtain ⟨_, _, _, qq⟩ := hs
    exact False.elim qq
  | cont =>
    obtain ⟨_, _, _, qq⟩ := hs
    exact False.elim qq
end
section
variable {X : Cx} {W : WX} {k j : Nat} {x : Str} {np : Nat} {spec : List D → M D} {p pos : Pos} {e : Expr} {es : List Expr} {am : Rho → M (List D)}
theorem run_fnG {pins : List (Addr × Obj)} {σ : L2.St} {H : Hp} {s : Shared} {Q : VK} {us : List Value} {vs : List V} {f : Addr} {fd : FuncData} {ps : List Str} {sp : Sp} (F : FnG X.prog X.w X.K X.mg X.base k f fd ps sp) (hr : Room k X.A) (hgd : 5 < k → X.A.guards = some []) (hb : Binds X.K fd ps [])
    (tk : TkK k X W) (I : Inv X pins σ H s) (r : Vals vs us) (h : sp vs H Q (fun cls dd H' => W cls dd σ H')) : wpAny (model X.prog X.w) X.A (call (.ref f) us) (EP X pins σ Q) X.xe s := by
  have hl : (us ++ []).length = ps.length := by rw [List.append_nil, ← r.length]; exact F.len _ _ _ _ h
  have bn := hb s us I.kIn hl
  rw [List.append_nil] at bn
  refine wpAny_call (codeAny_mono (F.run X.A X.stack s H ⟨us, []⟩ us vs Q _ hr hgd I.env0 bn r h) fun r s' hq => ?_)
  cases r with
  | error y => exact passK tk σ pins H s y s' I hq
  | ok fl =>
    cases fl with
    | ret u => exact I.after hq
    | next => exact False.elim hq
    | brk => exact False.elim hq
    | cont => exact False.elim hq
theorem post_wE {α β : Type} {K : PySem.W.Frag} {σ : L2.St} {F : Hp} {ι : List Addr} {H : Hp} {R : Hp → Hp → List Addr → Hp → α → β → Prop} {r : Out α} {Q : β → Hp → Prop} (h : post K W σ F ι H R r Q) : post K (wE fun cls dd H' => W cls dd σ H') [] F ι H R r Q := by
  cases r with
  | ok a st => exact h
  | exc y st => exact h
  | bad => exact h
theorem spD_of {σ : L2.St} {F : Hp} {ι : List Addr} {H : Hp} {st : Sto} {ds : List D} {vs : List V} {Q : VK} {K : PySem.W.Frag} (S : Sim K F ι st H) (r : Reps K F ι ds vs) (hn : ds.length = np) (q : post K W σ F ι H (pV K) (spec ds st) Q) : spD K np spec vs H Q (fun cls dd H' => W cls dd σ H') :=
  ⟨by rw [← r.length]; exact hn, F, ι, st, ds, S, r, post_wE q⟩
theorem needN_fnD {nN : Nat} {m : Rho → Sto → Fl} : NeedN np (fnD np nN m) := fun ds st h => by unfold fnD; rw [if_neg h]
theorem de_call (B : Bd X W j) (C : FnC X.prog X.w X.K X.mg X.base k x np spec) (hk : k ≤ j) (hg : Gl X x) (nn : NeedN np spec) (ha : DA X W (e :: es) am) (hdb : (x == ("__debug__" : Str)) = false := by decide)
    (he : starEach (e :: es) X.env = (false, eval e X.env) :: starEach es X.env := by rfl) (hpl : (backTo pos (starEach es X.env)).any (·.1) = false := by rfl) : DE X W (.Call (.Name x p) (e :: es) [] pos) (mCall spec am) := by
  obtain ⟨f, fd, ps, F, hm, kp, hb⟩ := C.ex
  refine ⟨fun pins s σ H Q I ⟨F0, ι, ρ, st, S, R, q⟩ => ?_⟩
  refine wpAny_Call_Name_kw (ld_glob I hg hm ?_ hdb)
  refine PySem.W.callWith_K (h₀ := X.base) I.ok.mod.kin kp (thn (ha.run pos pins s σ H (fun vs H1 => spD X.K np spec vs H1 Q (fun cls dd H' => W cls dd σ H')) I ?_) fun us s1 ⟨vs, H1, I1, r, qq⟩ => ⟨I1.kIn, ?_⟩) he hpl
  · refine tG_seq back_V S R q fun ds st1 F1 ι1 H1 vs x1 S1 R1 r1 q1 => ?_
    by_cases hn : ds.length = np
    · exact spD_of S1 r1 hn q1
    · rw [nn ds st1 hn] at q1
      exact (q1 : False).elim
  · exact run_fnG F (B.room.mono hk) (fun h => B.gd (by omega)) hb (B.tk.mono hk) I1 r qq
end
end Dn
namespace Dn
open PySem PySem.Spec PyProof.Rows L2
variable [HzC]
section
variable {P : Program} {w : World} {K : PySem.W.Frag} {mg mb : Str → Option Value} {k : Nat} {fa p : Addr} {fd : FuncData} {x : Str} {sp : Sp} {t : Shared} {us : List Value} {ns : List Int}
theorem end_at (KX : K.In t.heap) (hns : t.heap.Ns mainGlobals mg) (hb : t.heap.Ns builtinsNs mb) (hbb : ∀ y : Str, y ≠ "__name__" → mb y = bootBuiltins y) (hlim : t.heap.NoLimit) (hg : t.gens = #[])
    (hp : t.heap.get? p = some { cls := .type "list", data := .seq us.toArray }) (hr : Room k callerA) (G : ∀ base : Heap, K.In base → base.Ns mainGlobals mg → FnG P w K mg base k fa fd [x] sp)
    (hbind : ∀ (s : Shared) (u : Value), BindsTo s fd ⟨[u], []⟩ [(x, u)]) {H : Hp} (hO : Only H) (hsp : sp [.ref p] H (fun v _ => v = .bl true) fun _ _ _ => False) (hok : HOk P w H t.heap) (one : ∀ c, H c ≠ none → c = p) (out : H p ≠ none → K.lookup p = none) :
    codeAny (model P w) callerA (.call (.ref fa) ⟨[.ref p], []⟩) (fun r t' => r = .ok (.ret (.bool true)) ∧ OldK t.heap t'.heap ∧ t'.os = t.os ∧ AllBare t'.gens) t := by
  have alone : ∀ {c : Addr} {o : Obj}, t.heap.get? c = some o → (∀ xs : Array Value, o.data ≠ .seq xs) → H c = none := fun {c o} e d => by
    cases q : H c with
    | none => rfl
    | some u =>
      obtain rfl : c = p := one c (by rw [q]; simp)
      rw [e] at hp
      cases hp
      exact absurd rfl (d us.toArray)
  have shown : ∀ {c : Addr} {f : Str → Option Value}, t.heap.Ns c f → (hidT t.heap H).Ns c f := fun {c f} ⟨o, es, n, e, d, r⟩ =>
    ⟨o, es, n, hidT_get e (alone e fun xs z => by rw [d] at z; cases z), d, r⟩
  have inB : K.In (hidT t.heap H) := fun c o e => hidT_get (KX c o e) (by
    cases q : H c with
    | none => rfl
    | some u =>
      obtain rfl : c = p := one c (by rw [q]; simp)
      have := out (by rw [q]; simp)
      rw [e] at this
      cases this)
  have M : Mod K mg (hidT t.heap H) := by
    refine ⟨inB, shown hns, ⟨mb, shown hb, hbb⟩, ?_⟩
    obtain ⟨f, h1, h2⟩ := hlim
    exact ⟨f, shown h1, h2⟩
  have E : Env0 P w K mg (hidT t.heap H) callerA [] t H := by
    refine ⟨rfl, M, fun c o e => of_hidT e, Nat.le_of_eq (hidT_size _ _), trivial, fun c hc => ?_, hok, .of_eq hg⟩
    cases (show c ∈ ([] : List Addr) from hc)
  refine codeAny_mono ((G _ inB (shown hns)).run callerA [] t H ⟨[.ref p], []⟩ [.ref p] [.ref p] _ _ hr (fun _ => rfl) E (hbind t (.ref p)) (.cons rfl .nil) hsp) fun r t' h => ?_
  cases r with
  | error e =>
    exact (cx_no h).elim
  | ok fl =>
    cases fl with
    | next => exact False.elim h
    | brk => exact False.elim h
    | cont => exact False.elim h
    | ret u =>
      obtain ⟨v, H', os, bare, un, hok', rv, hv⟩ := h
      obtain rfl : v = .bl true := hv
      obtain rfl : u = Value.bool true := rv
      refine ⟨rfl, OldK.of_keep fun c o e => ?_, os, bare⟩
      rcases hO c with z | ⟨o2, xs, z⟩
      · refine un.keep c o e z (fun y => ?_) (by simp)
        cases (show c ∈ ([] : List Addr) from y)
      · have y1 := (hok c _ z).1
        have y2 := (hok' c _ (un.frzs c o2 _ z)).1
        rw [e] at y1
        cases y1
        exact y2
theorem end_law (KX : K.In t.heap) (hns : t.heap.Ns mainGlobals mg) (hb : t.heap.Ns builtinsNs mb) (hbb : ∀ y : Str, y ≠ "__name__" → mb y = bootBuiltins y) (hlim : t.heap.NoLimit) (hg : t.gens = #[])
    (hp : t.heap.get? p = some { cls := .type "list", data := .seq us.toArray }) (hi : IntsAre us ns) (hl : ns.length ≤ sizeLine) (hr : Room k callerA) (G : ∀ base : Heap, K.In base → base.Ns mainGlobals mg → FnG P w K mg base k fa fd [x] sp)
    (hbind : ∀ (s : Shared) (u : Value), BindsTo s fd ⟨[u], []⟩ [(x, u)]) (hsp : ∀ H : Hp, Only H → SqL K H p (ns.map V.int) → sp [.ref p] H (fun v _ => v = .bl true) fun _ _ _ => False) :
    codeAny (model P w) callerA (.call (.ref fa) ⟨[.ref p], []⟩) (fun r t' => r = .ok (.ret (.bool true)) ∧ OldK t.heap t'.heap ∧ t'.os = t.os ∧ AllBare t'.gens) t := by
  have rv := vals_ints hi
  have ln := hi.length
  cases hk : K.lookup p with
  | some o =>
    have e := KX p o hk
    rw [hp] at e
    cases e
    let H : Hp := fun _ => none
    have nH : ∀ c, H c = none := fun _ => rfl
    have hS : SqL K H p (ns.map V.int) := .inr ⟨_, us.toArray, _, hk, rfl, rfl, rfl, by rw [List.size_toArray, ln]; exact hl, by simpa using rv⟩
    have hk0 : HOk P w H t.heap := fun c u z => by
      rw [nH c] at z
      cases z
    exact end_at KX hns hb hbb hlim hg hp hr G hbind (H := H) (fun c => .inl rfl) (hsp H (fun c => .inl rfl) hS) hk0 (fun c z => absurd (nH c) z) fun z => absurd (nH p) z
  | none =>
    let o : Obj := { cls := .type "list", data := .seq us.toArray }
    let H : Hp := fun c => if c = p then some (.frz o (.lst (ns.map V.int))) else none
    have atP : H p = some (.frz o (.lst (ns.map V.int))) := if_pos rfl
    have offP : ∀ c, c ≠ p → H c = none := fun c h => if_neg h
    have only : Only H := fun c => by
      by_cases h : c = p
      · exact .inr ⟨o, ns.map V.int, by rw [h]; exact atP⟩
      · exact .inl (offP c h)
    refine end_at KX hns hb hbb hlim hg hp hr G hbind (H := H) only (hsp H only (.inl (.inr ⟨o, atP⟩))) (fun c u z => ?_) (fun c z => ?_) fun _ => hk
    · by_cases h : c = p
      · subst h
        rw [atP] at z
        cases z
        exact ⟨hp, by rw [List.length_map]; exact hl, us, _, rv, hp⟩
      · rw [offP c h] at z
        cases z
    · by_cases h : c = p
      · exact h
      · exact absurd (offP c h) z
end
theorem reps_ints {K : PySem.W.Frag} {F : Hp} {ι : List Addr} : ∀ ns : List Int, Reps K F ι (ns.map D.int) (ns.map V.int)
  | [] => Reps.nil
  | n :: ns => Reps.cons (by simp only [Rep]) (reps_ints ns)
theorem sp_start {K : PySem.W.Frag} {spec : List D → M D} {H : Hp} {a : Addr} {ns : List Int} {st' : Sto} (e : spec [.scr (ns.map D.int)] [] = .ok (.bl true) st') (hO : Only H) (hS : SqL K H a (ns.map V.int)) (hT : TabF H H) :
    spD K 1 spec [.ref a] H (fun v _ => v = .bl true) fun _ _ _ => False := by
  refine ⟨rfl, H, [], [], [.scr (ns.map D.int)], ?_, ?_, ?_⟩
  · refine ⟨fun _ _ h => h, fun b o h => ?_, rfl, List.nodup_nil, (fun l b h _ => nomatch h), (fun b h => nomatch h), (fun l m b h => nomatch h), hT⟩
    rcases hO b with q | ⟨o2, xs, q⟩
    · rw [q] at h; cases h
    · rw [q] at h; cases h; exact .inl trivial
  · refine Reps.cons ?_ Reps.nil
    simp only [Rep]
    exact ⟨a, _, rfl, hS, reps_ints ns⟩
  · rw [e]
    intro F' ι' H' v x S r
    have r' : Rep K F' ι' (.bl true) v := r
    simpa only [Rep] using r'
theorem tabF_none (h : HzC.tb = []) {F H : Hp} : TabF F H := fun p hp => by rw [h] at hp; cases hp
end Dn
namespace Dn
open PySem PySem.Spec PyProof.Rows L2
variable [HzC]
section
variable {X : Cx} {W : WX} {p : Pos} {e : Expr} {es : List Expr} {m : Rho → M D} {r : Rho → M (List D)}
theorem da_star (he : DE X W e m) (hr : DA X W es r) (hs : starEach (.Starred e p :: es) X.env = (true, eval e X.env) :: starEach es X.env := by rfl) : DA X W (.Starred e p :: es) (mStar m r) := by
  refine PA.weak (StX.pa_star he hr hs) fun σ H Q ⟨F, ι, ρ, st, S, R, q⟩ => ?_
  refine tG_seq back_A S R q fun d st1 F1 ι1 H1 v x1 S1 R1 r1 q1 => ?_
  cases e1 : seqOf st1 d with
  | none => rw [e1] at q1; exact (q1 : False).elim
  | some xs =>
    rw [e1] at q1
    obtain ⟨a, vs, ev, hq, rr⟩ := S1.seq r1 e1
    refine ⟨a, vs, ev, hq.symm, ?_⟩
    exact tG_seq back_A S1 R1 q1 fun ds st2 F2 ι2 H2 ws x2 S2 R2 r2 q2 => q2 F2 ι2 H2 _ Ext.refl S2 ((rr.ext x2).append r2)
end
def D.isTy (st : Sto) (T : String) : D → Prop
  | .str _ => T = "str"
  | .int _ => T = "int"
  | .lst _ => T = "list"
  | .scr _ => T = "list"
  | .ref l => T = "list" ∧ ∃ xs, st[l]? = some (.lst xs)
  | _ => False
open Classical in
noncomputable def mMeth (T : String) (p : D → List D → M D) (mo : Rho → M D) (am : Rho → M (List D)) : Rho → M D := fun ρ st =>
  (mo ρ st).bind fun o st1 => if o.isTy st1 T then (am ρ st1).bind fun ds st2 => nox (p o ds st2) else .bad
def rM (K : PySem.W.Frag) (p : D → List D → M D) : V → List V → Hp → VK → Prop := fun x xs H Q => ∃ F ι st d ds d' st', Sim K F ι st H ∧ Rep K F ι d x ∧ Reps K F ι ds xs ∧ p d ds st = .ok d' st' ∧
  ∀ F' ι' H' v, Ext F ι H F' ι' H' → Sim K F' ι' st' H' → Rep K F' ι' d' v → Q v H'
theorem Sim.tyV {K : PySem.W.Frag} {F : Hp} {ι : List Addr} {st : Sto} {H : Hp} {d : D} {v : V} {T : String} (S : Sim K F ι st H) (r : Rep K F ι d v) (h : d.isTy st T) : L2.tyV K T v H := by
  cases d with
  | str z => simp only [Rep] at r; subst r; exact h
  | int i => simp only [Rep] at r; subst r; exact h
  | lst xs =>
    simp only [Rep] at r
    obtain ⟨a, vs, rfl, q, rr⟩ := r
    exact .inl ⟨h, vs, .inl (.inl (S.sub _ _ q))⟩
  | scr xs =>
    simp only [Rep] at r
    obtain ⟨a, vs, rfl, q, rr⟩ := r
    exact .inl ⟨h, vs, S.sqL q⟩
  | ref l =>
    simp only [Rep] at r
    obtain ⟨a, rfl, q⟩ := r
    obtain ⟨hT, xs, e⟩ := h
    obtain ⟨vs, e2, _⟩ := S.obj l _ a e q
    exact .inl ⟨hT, vs, .inl (.inl e2)⟩
  | non => exact h.elim
  | bl _ => exact h.elim
  | tup _ => exact h.elim
  | adr _ => exact h.elim
  | fd _ _ => exact h.elim
  | exo _ _ _ _ => exact h.elim
  | obj _ _ _ => exact h.elim
  | sd _ => exact h.elim
  | fnv _ => exact h.elim
section
variable {X : Cx} {W : WX} {apos cpos : Pos} {o e : Expr} {es : List Expr} {mo : Rho → M D} {am : Rho → M (List D)} {T id : String} {name : Str} {p : D → List D → M D}
theorem de_m (pa : PlainAttrs T) (slot : Slot T name id) (hty : typeOf (.builtin id) = pure (.type "method_descriptor")) (hm : MtR X id (rM X.K p)) (ho : DE X W o mo) (ha : DA X W (e :: es) am)
    (hbase : attributeBase o name X.env (eval o X.env) = eval o X.env := by rfl)
    (hfew : ((backTo cpos (starEach (e :: es) X.env)).all (fun x => !x.1) && (backToKw cpos (keywordEach [] X.env)).all (fun x => x.1.isSome)
      && decide ((e :: es).length + ([] : List Keyword).length + (if ([] : List Keyword).isEmpty then 0 else 1) < 30)) = true := by rfl)
    (hline : (apos.endLine == cpos.line) = true := by rfl) (hs : starEach (e :: es) X.env = (false, eval e X.env) :: starEach es X.env := by rfl) (hpl : (backTo cpos (starEach es X.env)).any (·.1) = false := by rfl) :
    DE X W (.Call (.Attribute o name apos) (e :: es) [] cpos) (mMeth T p mo am) := by
  refine PE.weak (pe_bm pa slot hty hm ho ha hbase hfew hline hs hpl) fun σ H Q ⟨F, ι, ρ, st, S, R, q⟩ => ?_
  refine tG_seq back_V S R q fun d st1 F1 ι1 H1 v x1 S1 R1 r1 q1 => ?_
  split at q1
  rotate_left
  · exact (q1 : False).elim
  rename_i hT
  refine ⟨S1.tyV r1 hT, ?_⟩
  refine tG_seq back_V S1 R1 q1 fun ds st2 F2 ι2 H2 vs x2 S2 R2 r2 q2 => ?_
  cases e1 : p d ds st2 with
  | ok d' st' =>
    rw [e1] at q2
    exact ⟨F2, ι2, st2, d, ds, d', st', S2, r1.ext x2, r2, e1, q2⟩
  | exc _ _ => rw [e1] at q2; exact (q2 : False).elim
  | bad => rw [e1] at q2; exact (q2 : False).elim
end
theorem write_lst {K : PySem.W.Frag} {F : Hp} {ι : List Addr} {st : Sto} {H : Hp} {l : Nat} {a : Addr} {vs ws : List V} {ys : List D} {xs : List D} (S : Sim K F ι st H) (hg : st[l]? = some (.lst xs)) (q : ι[l]? = some a) (h : H a = some (.lst vs)) (r : Reps K F ι ys ws) :
    Ext F ι H F ι (upd H a (.lst ws)) ∧ Sim K F ι (st.set l (.lst ys)) (upd H a (.lst ws)) :=
  ⟨Ext.write q (by rw [h]; simp), S.write q (by rw [hg]; simp) ⟨ws, upd_same, r⟩⟩
def onL (st : Sto) (d : D) (f : Nat → List D → Out D) : Out D := match d with
  | .ref l => match st[l]? with
    | some (.lst xs) => f l xs
    | _ => .bad
  | _ => .bad
theorem onL_ok {st st' : Sto} {d d' : D} {f : Nat → List D → Out D} (h : onL st d f = .ok d' st') : ∃ l xs, d = .ref l ∧ st[l]? = some (.lst xs) ∧ f l xs = .ok d' st' := by
  unfold onL at h
  split at h
  · split at h
    · rename_i l _ xs e
      exact ⟨l, xs, rfl, e, h⟩
    · cases h
  · cases h
theorem rep_non {K : PySem.W.Frag} {F : Hp} {ι : List Addr} : Rep K F ι .non .non := by simp only [Rep]
def pAppend : D → List D → M D := fun d ds st => onL st d fun l xs => match ds with
  | [y] => if xs.length < SZ then .ok .non (st.set l (.lst (xs ++ [y]))) else .bad
  | _ => .bad
def pExtend : D → List D → M D := fun d ds st => onL st d fun l xs => match ds with
  | [y] => match lstOf st y with
    | some ys => if xs.length + ys.length ≤ SZ then .ok .non (st.set l (.lst (xs ++ ys))) else .bad
    | none => .bad
  | _ => .bad
noncomputable def pPopAt : D → List D → M D := fun d ds st => onL st d fun l xs => match ds with
  | [.int i] => @ite _ (-(2 ^ 63) ≤ i ∧ i < 2 ^ 63) (Classical.propDecidable _) (match seqIndex? i xs.length with
    | some k => match xs[k]? with
      | some y => .ok y (st.set l (.lst (xs.eraseIdx k)))
      | none => .bad
    | none => .bad) .bad
  | _ => .bad
theorem Reps.erase {K : PySem.W.Frag} {F : Hp} {ι : List Addr} : ∀ {ds : List D} {vs : List V} (n : Nat), Reps K F ι ds vs → Reps K F ι (ds.eraseIdx n) (vs.eraseIdx n)
  | [], _, n, h => by simp only [Reps] at h; subst h; exact Reps.nil
  | d :: ds, _, 0, h => by
    simp only [Reps] at h
    obtain ⟨v, r, rfl, h1, h2⟩ := h
    exact h2
  | d :: ds, _, n + 1, h => by
    simp only [Reps] at h
    obtain ⟨v, r, rfl, h1, h2⟩ := h
    exact Reps.cons h1 (Reps.erase n h2)
theorem Reps.setAt {K : PySem.W.Frag} {F : Hp} {ι : List Addr} {d : D} {v : V} (hd : Rep K F ι d v) : ∀ {ds : List D} {vs : List V} (n : Nat), Reps K F ι ds vs → Reps K F ι (ds.set n d) (vs.set n v)
  | [], _, n, h => by simp only [Reps] at h; subst h; exact Reps.nil
  | e :: ds, _, 0, h => by
    simp only [Reps] at h
    obtain ⟨v, r, rfl, h1, h2⟩ := h
    exact Reps.cons hd h2
  | e :: ds, _, n + 1, h => by
    simp only [Reps] at h
    obtain ⟨v, r, rfl, h1, h2⟩ := h
    exact Reps.cons h1 (Reps.setAt hd n h2)
theorem Reps.one' {K : PySem.W.Frag} {F : Hp} {ι : List Addr} {d : D} {vs : List V} (h : Reps K F ι [d] vs) : ∃ v, vs = [v] ∧ Rep K F ι d v := by
  simp only [Reps] at h
  obtain ⟨v, r, rfl, h1, rfl⟩ := h
  exact ⟨v, rfl, h1⟩
theorem mtM {X : Cx} {id : String} {r : V → List V → Hp → VK → Prop} {p : D → List D → M D} (h : MtR X id r) (w : ∀ x xs H Q, rM X.K p x xs H Q → r x xs H Q) : MtR X id (rM X.K p) := fun pins s σ H x xs v us Q I rx rxs q => h pins s σ H x xs v us Q I rx rxs (w _ _ _ _ q)
section
variable {X : Cx}
theorem mt_pAppend : MtR X "list.append" (rM X.K pAppend) := mtM mt_append fun x xs H Q ⟨F, ι, st, d, ds, d', st', S, rd, rds, e, q⟩ => by
  obtain ⟨l, ys, rfl, hl, e⟩ := onL_ok e
  split at e
  · split at e
    · rename_i y hz
      cases e
      obtain ⟨a, vs, rfl, q1, q2, q3⟩ := S.mut rd hl
      obtain ⟨v, rfl, rv⟩ := rds.one'
      obtain ⟨x1, S1⟩ := write_lst S hl q1 q2 (q3.snoc rv)
      exact ⟨a, vs, v, rfl, rfl, q2, by rw [← q3.length]; exact sz_lt (Nat.le_of_lt hz), q _ _ _ _ x1 S1 rep_non⟩
    · cases e
  · cases e
theorem mt_pExtend : MtR X "list.extend" (rM X.K pExtend) := mtM mt_extend fun x xs H Q ⟨F, ι, st, d, ds, d', st', S, rd, rds, e, q⟩ => by
  obtain ⟨l, ys, rfl, hl, e⟩ := onL_ok e
  split at e
  · split at e
    · split at e
      · rename_i y zs hy hz
        cases e
        obtain ⟨a, vs, rfl, q1, q2, q3⟩ := S.mut rd hl
        obtain ⟨v, rfl, rv⟩ := rds.one'
        obtain ⟨b, ws, rfl, hb, rb⟩ := S.lst rv hy
        obtain ⟨x1, S1⟩ := write_lst S hl q1 q2 (q3.append rb)
        exact ⟨a, b, vs, ws, rfl, rfl, q2, hb, by rw [← q3.length, ← rb.length]; exact sz_le hz, q _ _ _ _ x1 S1 rep_non⟩
      · cases e
    · cases e
  · cases e
theorem mt_pPopAt : MtR X "list.pop" (rM X.K pPopAt) := mtM mt_popAt fun x xs H Q ⟨F, ι, st, d, ds, d', st', S, rd, rds, e, q⟩ => by
  obtain ⟨l, ys, rfl, hl, e⟩ := onL_ok e
  split at e
  · split at e
    · split at e
      · split at e
        · rename_i hi _ k hk _ y hy
          cases e
          obtain ⟨a, vs, rfl, q1, q2, q3⟩ := S.mut rd hl
          obtain ⟨v, hv, rv⟩ := q3.get hy
          obtain ⟨x1, S1⟩ := write_lst S hl q1 q2 (q3.erase k)
          obtain ⟨u, rfl, ru⟩ := rds.one'
          simp only [Rep] at ru
          subst ru
          exact ⟨a, vs, _, k, v, rfl, rfl, q2, hi.1, hi.2, by rw [← q3.length]; exact hk, hv, q _ _ _ _ x1 S1 rv⟩
        · cases e
      · cases e
    · cases e
  · cases e
end
def gSubD (mo mi : Rho → M D) : D → Rho → M Rho := fun d ρ st => (mo ρ st).bind fun o st1 => (mi ρ st1).bind fun i st2 => match o, i with
  | .ref l, .int k => match st2[l]? with
    | some (.lst xs) => match ixN xs.length k with
      | some j => .ok ρ (st2.set l (.lst (xs.set j d)))
      | none => .bad
    | _ => .bad
  | _, _ => .bad
section
variable {X : Cx} {pos : Pos} {o i : Expr} {mo mi : Rho → M D}
theorem dg_sub (ho : DE X wN o mo) (hi : DE X wN i mi)
    (ha : ∀ v, assign (.Subscript o i pos) X.env v = (do
      let ov ← holding [v] (eval o X.env)
      let iv ← holding [v, ov] (eval i X.env)
      standAt pos
      holding [v, ov, iv] (setItem ov iv v)
      release [v, ov, iv] []) := by intro _; rfl) : DG X [] (.Subscript o i pos) (gSubD mo mi) := by
  refine PG.weak (pg_sub ho hi set_list ha) fun v σ H Q ⟨F, ι, ρ, st, d, S, R, r, q⟩ => ?_
  have bk : Back (pR X.K [] σ) := fun _ _ _ _ _ _ _ _ h => h
  refine tG_seq bk S R q fun od st1 F1 ι1 H1 ov x1 S1 R1 r1 q1 => ?_
  refine tG_seq bk S1 R1 q1 fun id st2 F2 ι2 H2 iv x2 S2 R2 r2 q2 => ?_
  split at q2
  · split at q2
    · split at q2
      · rename_i l k _ xs hl _ j hj
        obtain ⟨a, vs, rfl, e1, e2, e3⟩ := S2.mut (r1.ext x2) hl
        have r2 : iv = V.int k := by simpa only [pV, Rep] using r2
        subst r2
        obtain ⟨x3, S3⟩ := write_lst S2 hl e1 e2 (e3.setAt ((r.ext x1).ext x2) j)
        exact ⟨a, vs, k, j, rfl, rfl, e2, by rw [← e3.length]; exact hj, q2 _ _ _ _ x3 S3 ⟨R2.ext x3, fun vs _ => rfl⟩⟩
      · exact (q2 : False).elim
    · exact (q2 : False).elim
  · exact (q2 : False).elim
end
end Dn
namespace Dn
open PySem PySem.Spec PyProof.Rows L2
variable [HzC]
mutual
theorem reads_lt {h : Heap} : ∀ (d : PyData) (v : Value) (as : List Addr), PySem.W.alike d d = true → Reads h v d as → ∀ a ∈ as, a < h.objs.size
  | .none, _, _, _, r, a, ha => by cases r; cases ha
  | .bool _, _, _, _, r, a, ha => by cases r; cases ha
  | .int _, _, _, _, r, a, ha => by cases r; cases ha
  | .str _, _, _, _, r, a, ha => by cases r; cases ha
  | .list xs, _, _, hal, r, a, ha => by
    cases r with
    | list h1 h2 h3 h4 =>
      rcases List.mem_cons.mp ha with e | e
      · rw [e]; exact Heap.lt_size h1
      · exact readsAll_lt xs _ _ (by simpa [PySem.W.alike] using hal) h4 a e
  | .tuple xs, _, _, hal, r, a, ha => by
    cases r with
    | tuple h1 h2 h3 h4 => exact readsAll_lt xs _ _ (by simpa [PySem.W.alike] using hal) h4 a ha
  | .dict _, _, _, hal, _, _, _ => absurd hal (by simp [PySem.W.alike])
theorem readsAll_lt {h : Heap} : ∀ (ds : List PyData) (vs : List Value) (as : List Addr), PySem.W.alikeAll ds ds = true → ReadsAll h vs ds as → ∀ a ∈ as, a < h.objs.size
  | [], _, _, _, r, a, ha => by cases r; cases ha
  | d :: ds, _, _, hal, r, a, ha => by
    cases r with
    | cons h1 h2 =>
      rcases List.mem_append.mp ha with e | e
      · exact reads_lt d _ _ (PySem.W.alike_all_cons hal).1 h1 a e
      · exact readsAll_lt ds _ _ (PySem.W.alike_all_cons hal).2 h2 a e
end
theorem each_pairs {K : PySem.W.Frag} {F : Hp} {ι : List Addr} : ∀ {ds : List D} {vs : List V} {us : List Value}, Reps K F ι ds vs → Vals vs us → PySem.W.EachIs (fun u (p : D × V) => RelV p.2 u ∧ Rep K F ι p.1 p.2) us (ds.zip vs)
  | [], _, _, h, r => by
    simp only [Reps] at h
    subst h
    cases r
    exact .nil
  | d :: ds, _, _, h, r => by
    simp only [Reps] at h
    obtain ⟨v, ws, rfl, h1, h2⟩ := h
    cases r with
    | cons r1 r2 => exact .cons ⟨r1, h1⟩ (each_pairs h2 r2)
theorem pairs_each {K : PySem.W.Frag} {F : Hp} {ι : List Addr} : ∀ {bs : List (D × V)} {us : List Value}, PySem.W.EachIs (fun u (p : D × V) => RelV p.2 u ∧ Rep K F ι p.1 p.2) us bs → Reps K F ι (bs.map (·.1)) (bs.map (·.2)) ∧ Vals (bs.map (·.2)) us
  | [], _, h => by cases h; exact ⟨Reps.nil, .nil⟩
  | b :: bs, _, h => by
    cases h with
    | cons h1 h2 =>
      obtain ⟨a, c⟩ := pairs_each h2
      exact ⟨Reps.cons h1.2 a, .cons h1.1 c⟩
theorem zip_fst {K : PySem.W.Frag} {F : Hp} {ι : List Addr} {ds : List D} {vs : List V} (h : Reps K F ι ds vs) : (ds.zip vs).map (·.1) = ds := List.map_fst_zip (Nat.le_of_eq h.length)
theorem each_mem2 {α β : Type} {R : α → β → Prop} : ∀ {as : List α} {bs : List β}, PySem.W.EachIs R as bs → PySem.W.EachIs (fun a b => R a b ∧ b ∈ bs) as bs
  | _, _, .nil => .nil
  | _, _, .cons h t => .cons ⟨h, List.mem_cons_self⟩ ((each_mem2 t).mono fun _ _ q => ⟨q.1, List.mem_cons_of_mem _ q.2⟩)
section
open PySem.W PySem.Calls
variable {prog : Program} {w : World} {A : Around} {E : Value → Shared → Prop} {s : Shared}
theorem call_tuple_lt {Q : Value → Shared → Prop} {l b : Addr} {items items2 : Array Value} {e r : Nat → Bool} (hl : s.heap.IsTuple l items) (hb : s.heap.IsTuple b items2)
    (he : ∀ j (h1 : j < items.size) (h2 : j < items2.size), SeqAt.EqAt A.in1 s items[j] items2[j] (e j)) (hr : ∀ j (h1 : j < items.size) (h2 : j < items2.size), e j = false → SeqAt.RcLt A.in1 s items[j] items2[j] (r j))
    (h : Q (.bool (SeqAt.firstLt e r (decide (items.size < items2.size)) (List.range (min items.size items2.size)))) s) : wpAny (model prog w) A (call (.builtin "tuple.__lt__") [.ref l, .ref b]) Q E s := by
  obtain ⟨⟨cls, dd, data, sl⟩, ho, hc, n, hd⟩ := id hl
  obtain ⟨⟨cls2, dd2, data2, sl2⟩, ho2, hc2, n2, hd2⟩ := id hb
  simp only at hc hd hc2 hd2
  subst hc hd hc2 hd2
  exact call_meets F.slot_tuple_lt ⟨_, ho, rfl⟩ F.entry_tuple_lt (F.args_tuple_lt_2 _ _) (SeqAt.tuple_ltAt l b items items2 n n2 dd dd2 sl sl2 e r) ⟨ho, ho2, he, hr, h⟩
theorem oneLt_tuples {f : Bool} {xs ys : List PyData} {a b : Value} {as bs : List Addr} {Q : Bool → Shared → Prop} (ra : Reads s.heap a (.tuple xs) as) (rb : Reads s.heap b (.tuple ys) bs) (h : alike (.tuple xs) (.tuple ys) = true)
    (hu : A.units + min (PyData.depth (.tuple xs)) (PyData.depth (.tuple ys)) < cLine) (hq : Q (dataLt (.tuple xs) (.tuple ys)) s) : wpAny (model prog w) A (oneLt' f a b) Q E s := by
  cases f with
  | false => exact oneLt_alike (fun q => nomatch q) ra rb h (by simp) hu hq
  | true =>
    have hal : alikeAll xs ys = true := by simpa [alike] using h
    cases ra with
    | @tuple l o vs n _ as₁ h1 h2 h3 h4 =>
      cases rb with
      | @tuple l' o' vs' n' _ bs₁ k1 k2 k3 k4 =>
        have n1 : vs.size = xs.length := by simpa using SeqAt.ReadsAll.length _ _ _ h4
        have n2 : vs'.size = ys.length := by simpa using SeqAt.ReadsAll.length _ _ _ k4
        rw [dataLt_tuple, ← firstLt_toks xs ys hal, ← n1, ← n2] at hq
        rw [oneLt'_eq]
        simp only [if_true]
        refine wpAny_bind (wpAny_cRoomFor (SeqAt.room_here hu) ?_)
        refine wpAny_bind (wpAny_callSpecialIfBound?_slot (T := "tuple") ⟨_, h1, h2⟩ F.slot_tuple_lt (call_tuple_lt (e := SeqAt.pairEq xs ys) (r := fun j => dataLt (xs.getD j .none) (ys.getD j .none)) ⟨_, h1, h2, _, h3⟩ ⟨_, k1, k2, _, k3⟩ (fun j j1 j2 => ?_) (fun j j1 j2 hj => ?_) ?_))
        · have := eqAt_alikeAll xs ys A.in1 s vs.toList vs'.toList _ _ h4 k4 hal (SeqAt.room_in hu) j (by simpa using j1) (by simpa using j2)
          simpa using this
        · have := rcLt_alikeAll xs ys A.in1 s vs.toList vs'.toList _ _ h4 k4 hal (SeqAt.room_in hu) j (by simpa using j1) (by simpa using j2) hj
          simpa using this
        · exact wpAny_truthy_bool hq
def firstV (h : Heap) (v : Value) : Option Value := match v with
  | .ref a => match h.get? a with
    | some o => match o.data with
      | .seq xs _ => xs[0]?
      | _ => none
    | none => none
  | _ => none
theorem firsts_tuples : ∀ (vs : List Value) {Q : List (Option Value) → Shared → Prop}, (∀ v ∈ vs, ∃ a o xs n, v = .ref a ∧ s.heap.get? a = some o ∧ o.cls = .type "tuple" ∧ o.data = .seq xs n) → Q (vs.map (firstV s.heap)) s → wpAny (model prog w) A (vs.mapM firstOfTuple') Q E s
  | [], _, _, h => by rw [List.mapM_nil]; exact wpAny_pure h
  | v :: vs, Q, t, h => by
    obtain ⟨a, o, xs, n, rfl, ho, hc, hd⟩ := t v (by simp)
    have e : firstV s.heap (.ref a) = xs[0]? := by
      unfold firstV
      simp only [ho, hd]
    rw [List.mapM_cons]
    refine wpAny_bind ?_
    rw [kas_first_eq]
    refine wpAny_bind (Looks.here (show Looks (model prog w) s.heap (typeOf (.ref a)) o.cls from (Looks.ld ho).andThen .now) ?_)
    rw [hc, if_neg (by first | decide | simp)]
    refine wpAny_bind (listItems_at ho hd (wpAny_pure ?_))
    rw [← e]
    exact wpAny_bind (firsts_tuples vs (Q := fun bs s' => wpAny (model prog w) A (pure (firstV s.heap (.ref a) :: bs)) Q E s') (fun v hv => t v (by simp [hv])) (wpAny_pure h))
theorem kind_tuples {vs : List Value} {Q : SortKind → Shared → Prop} (h2 : 2 ≤ vs.length) (t : ∀ v ∈ vs, ∃ a o xs n, v = .ref a ∧ s.heap.get? a = some o ∧ o.cls = .type "tuple" ∧ o.data = .seq xs n) (hne : ((vs.map (firstV s.heap)).toArray.all (·.isSome)) = false)
    (h : Q (if ((vs.map (firstV s.heap))[0]?.bind id).isSome = true then general' else oneType') s) : wpAny (model prog w) A (keyKind' vs.toArray) Q E s := by
  obtain ⟨v₁, v₂, rest, rfl⟩ : ∃ v₁ v₂ rest, vs = v₁ :: v₂ :: rest := by
    match vs, h2 with
    | [], h2 => simp at h2
    | [_], h2 => simp at h2
    | v₁ :: v₂ :: rest, _ => exact ⟨v₁, v₂, rest, rfl⟩
  rw [keyKind'_eq, List.mapM_toArray, map_eq_pure_bind]
  refine wpAny_bind (wpAny_bind (firsts_tuples _ t (wpAny_pure ?_)))
  rw [if_neg (by rw [hne]; simp)]
  have hg : (((v₁ :: v₂ :: rest).map (firstV s.heap)).toArray[0]?.bind id) = (((v₁ :: v₂ :: rest).map (firstV s.heap))[0]?.bind id) := by simp
  rw [hg]
  by_cases hf : ((((v₁ :: v₂ :: rest).map (firstV s.heap))[0]?.bind id).isSome) = true
  · rw [if_pos hf] at h ⊢
    exact wpAny_pure h
  · rw [if_neg hf] at h ⊢
    rw [oneTypeOnly'_eq, List.mapM_toArray, map_eq_pure_bind]
    refine wpAny_bind (wpAny_bind (wpAny_bind (kas_mapM (r := Value.type "tuple") _ (fun v hv Q' hq => ?_) (wpAny_pure ?_))))
    · obtain ⟨a, o, xs, n, rfl, ho, hc, hd⟩ := t v hv
      exact Looks.here (show Looks (model prog w) s.heap (typeOf (.ref a)) (Value.type "tuple") from hc ▸ (Looks.ld ho).andThen .now) hq
    · have hall : ((List.map (fun _ => Value.type "tuple") (v₁ :: v₂ :: rest)).toArray.all fun x => x == Value.type "tuple") = true := by
        simp only [List.all_toArray, List.all_map, List.all_eq_true]
        intro _ _
        rfl
      have h0 : (List.map (fun _ => Value.type "tuple") (v₁ :: v₂ :: rest)).toArray[0]? = some (Value.type "tuple") := by simp
      rw [h0]
      simp only [hall, if_true]
      exact wpAny_pure (wpAny_pure h)
def SortableX (ds : List PyData) : Prop := (∀ d, d ∈ ds → ∃ xs, d = .tuple xs) ∨ ∀ d, d ∈ ds → d ≠ .none ∧ ∀ xs, d ≠ .tuple xs
theorem first_each {h : Heap} : ∀ {vs : List Value} {ds : List PyData}, EachIs (fun v d => ∃ as, Reads h v d as) vs ds → (∀ d, d ∈ ds → ∃ xs, d = .tuple xs) → ((vs.map (firstV h)).toArray.all (·.isSome)) = true → ∀ d, d ∈ ds → ∃ x r, d = .tuple (x :: r)
  | _, _, .nil, _, _, d, hd => nomatch hd
  | _, _, .cons (b := d0) ⟨as, r⟩ t, ht, ha, d, hd => by
    obtain ⟨xs, rfl⟩ := ht d0 (List.mem_cons_self ..)
    rw [List.map_cons] at ha
    simp only [List.all_toArray, List.all_cons, Bool.and_eq_true] at ha
    have ha' := ha
    rcases List.mem_cons.mp hd with rfl | hd
    · cases r with
      | @tuple a o ys n _ _ ho hc hdt hr =>
        have e : firstV h (.ref a) = ys[0]? := by
          unfold firstV
          simp only [ho, hdt]
        cases xs with
        | nil =>
          have hl : ys.toList.length = 0 := by simpa using SeqAt.ReadsAll.length _ _ _ hr
          have h1 := ha'.1
          rw [e] at h1
          have : ys[0]? = none := by
            rw [Array.getElem?_eq_none]
            simp at hl
            simp [hl]
          rw [this] at h1
          cases h1
        | cons x r => exact ⟨x, r, rfl⟩
    · exact first_each t (fun d hd => ht d (List.mem_cons_of_mem _ hd)) (by simp only [List.all_toArray]; exact ha'.2) d hd
theorem sortsAtX {vs : List Value} {ds : List PyData} (e : EachIs (fun v d => ∃ as, Reads s.heap v d as) vs ds) (hal : AllAlike ds) (hk : SortableX ds) (hu : ∀ d, d ∈ ds → A.units + d.depth < cLine) : SortsAt prog w A s (dataKind s.heap ds) vs := by
  rcases hk with ht | hn
  · by_cases ha : ((vs.map (firstV s.heap)).toArray.all (·.isSome)) = true
    · exact SortsAt.data e hal (.inl (first_each e ht ha)) hu
    · have room : ∀ {d d' : PyData}, d ∈ ds → A.units + min d.depth d'.depth < cLine := fun {d d'} hd => Nat.lt_of_le_of_lt (Nat.add_le_add_left (Nat.min_le_left _ _) _) (hu d hd)
      refine ⟨fun v hv => ?_, if ((vs.map (firstV s.heap))[0]?.bind id).isSome = true then general' else oneType', ?_, fun h2 E Q hq => ?_⟩
      · obtain ⟨d, hd, as, r⟩ := e.left v hv
        exact ⟨_, dataKind_some hal hd r⟩
      · intro E x y a b Q ha hb hq
        obtain ⟨d, as, hd, ra, rfl⟩ := dataKind_inv ha
        obtain ⟨d', as', hd', rb, rfl⟩ := dataKind_inv hb
        have hdd := hal d hd d' hd'
        have hroom := room (d' := d') hd
        obtain ⟨xs, rfl⟩ := ht d hd
        obtain ⟨ys, rfl⟩ := ht d' hd'
        have hq' : Q (dataLt (.tuple xs) (.tuple ys)) s := hq
        split
        · exact oneLt_tuples (f := false) ra rb hdd hroom hq'
        · rw [keyLt'_oneType]
          exact oneLt_tuples (f := true) ra rb hdd hroom hq'
      · refine kind_tuples (by simpa using h2) (fun v hv => ?_) (by simpa using ha) hq
        obtain ⟨d, hd, as, r⟩ := e.left v hv
        obtain ⟨xs, rfl⟩ := ht d hd
        cases r with
        | @tuple a o ys n _ _ ho hc hdt hr => exact ⟨a, o, ys, n, rfl, ho, hc, hdt⟩
  · exact SortsAt.data e hal (.inr hn) hu
theorem list_sort_dataX {β : Type} {R : Value → β → Prop} {enc : β → PyData} {vs : List Value} {bs : List β} {a : Addr} {n : Nat} {Q : Value → Shared → Prop} (ho : s.heap.get? a = some (seqObj "list" vs.toArray n)) (e : EachIs R vs bs) (er : EachIs (fun v b => ∃ as, Reads s.heap v (enc b) as ∧ a ∉ as) vs bs) (hal : AllAlike (bs.map enc)) (hk : SortableX (bs.map enc)) (hL : bs.length ≤ sizeLine)
    (hu : ∀ b, b ∈ bs → A.units + 1 + (enc b).depth < cLine) (h : ∀ out, out.length = bs.length → EachIs R out (bs.mergeSort (dataLe false enc)) → Q .none { s with heap := sortedHeap s.heap a vs (List.toArray out) }) :
    wpAny (model prog w) A (call (.builtin "list.sort") [.ref a]) Q E s := by
  have er' : EachIs (fun v b => ∃ as, Reads (sortingHeap s.heap a vs) v (enc b) as) vs bs := each_keepBut (h' := sortingHeap s.heap a vs) (fun _ _ hb q => sortingHeap_old hb q) (fun o q => by rw [ho] at q; rw [← Option.some.inj q]) hal er
  refine wpAny_call_entry slot_list_sort ⟨_, ho, rfl⟩ entry_list_sort (list_sort_vals (κ := dataKind (sortingHeap s.heap a vs) (bs.map enc)) ho (sortsAtX (s := { s with heap := sortingHeap s.heap a vs }) (each_map (R := fun v d => ∃ as, Reads (sortingHeap s.heap a vs) v d as) enc er') hal hk (bound_map hu)) (by rw [e.length]; exact hL) ⟨.none, rfl, ?_⟩) (args_list_sort _)
  exact h _ (by rw [sortVals_length false rfl]; exact e.length) (sortVals_data false e er' hal)
end
def sortD (ds : List D) : List D := ds.mergeSort (PySem.W.dataLe false toP)
open Classical in
noncomputable def pSorted : Sto → List D → Option (List D) := fun st ds => match ds with
  | [d] => match seqOf st d with
    | some xs => if xs.length ≤ SZ ∧ (∀ x ∈ xs, isP x = true ∧ (toP x).depth ≤ 50) ∧ PySem.W.AllAlike (xs.map toP) ∧ SortableX (xs.map toP) then some (sortD xs) else none
    | none => none
  | _ => none
section
variable {X : Cx} {K : PySem.W.Frag} {F : Hp} {ι : List Addr} {st : Sto} {H : Hp}
theorem rep_dp (S : Sim K F ι st H) {d : D} {v : V} (r : Rep K F ι d v) (h : isP d = true) : Dp K H v (toP d) := by
  refine S.dp r ?_
  unfold dat
  split
  · simp [isP] at h
  · rw [if_pos h]
theorem call_pSorted (hc : X.calm = true) (hu : X.A.units + 70 < cLine) : CallR X (.builtin "sorted") (rBL X.K pSorted) := by
  intro pins s σ H vs us Q I rv ⟨F, ι, st, ds, d, S, ra, e, q⟩
  unfold pSorted at e
  split at e
  rotate_left
  · cases e
  rename_i d1
  cases e1 : seqOf st d1 with
  | none => rw [e1] at e; cases e
  | some xs =>
    rw [e1] at e
    dsimp only at e
    split at e
    rotate_left
    · cases e
    rename_i hok
    obtain ⟨hsz, hp, hal, hso⟩ := hok
    obtain rfl : sortD xs = d := Option.some.inj e
    obtain ⟨v, rfl, rd⟩ := ra.one'
    obtain ⟨u, rfl, ru⟩ := rv.one
    obtain ⟨a, ws, rfl, hq, rr⟩ := S.seq rd e1
    cases ru
    -- the object
    obtain ⟨T, o, its, n, hT, ho, hcl, hd, rits, hz⟩ : ∃ (T : String) (o : Obj) (its : List Value) (n : Nat), (T = "list" ∨ T = "tuple") ∧ s.heap.get? a = some o ∧ o.cls = .type T ∧ o.data = .seq its.toArray n ∧ Vals ws its ∧ ws.length ≤ sizeLine := by
      rcases hq with hq | hq
      · obtain ⟨its, r, pl, hz⟩ := I.list hq
        obtain ⟨o, ho, hc, n, hd⟩ := pl.isList
        exact ⟨"list", o, its, n, .inl rfl, ho, hc, hd, r, hz⟩
      · obtain ⟨its, r, pl, hz⟩ := I.tuple hq
        obtain ⟨o, ho, hc, n, hd⟩ := pl
        exact ⟨"tuple", o, its, n, .inr rfl, ho, hc, hd, r, hz⟩
    have hl := rits.length
    refine Calls.call_function_entry PyProof.Rows.kind_sorted PyProof.Rows.plain_sorted PyProof.Rows.entry_sorted (PyProof.Rows.args_sorted1 _) ?_
    unfold Builtin.«sorted»
    refine wpAny_bind (m := checkCount "sorted" 1 1 _) (wpAny_pure ?_)
    refine wpAny_bind (wpAny_collect_seq a hT ho hcl hd (fun h' hk => ?_) (by rw [List.size_toArray]; omega))
    have I1 : Inv X pins σ H { s with heap := h' } := I.kept (t' := s.toks) hk
    have ei : its.toArray.toList = its := by simp
    rw [ei]
    refine wpAny_bind (wpAny_newList ?_ (by omega))
    have hoL : (h'.push (seqObj "list" its.toArray 0)).get? h'.objs.size = some (seqObj "list" its.toArray 0) := Heap.get?_push_size _ rfl
    have ee := each_pairs rr rits
    have er : PySem.W.EachIs (fun u (b : D × V) => ∃ as, Reads (h'.push (seqObj "list" its.toArray 0)) u (toP b.1) as ∧ h'.objs.size ∉ as) its (xs.zip ws) := by
      refine (each_mem2 ee).mono fun u b ⟨⟨h1, h2⟩, hb⟩ => ?_
      have hb1 : b.1 ∈ xs := (List.of_mem_zip (show (b.1, b.2) ∈ xs.zip ws from hb)).1
      obtain ⟨as, r⟩ := Dp.reads I1 _ _ _ (rep_dp S h2 (hp b.1 hb1).1) h1
      refine ⟨as, PyProof.Rows.Reads.keeps (fun _ _ => Heap.get?_push_of_some _) r, fun hm => ?_⟩
      have hal1 : PySem.W.alike (toP b.1) (toP b.1) = true := hal _ (List.mem_map.mpr ⟨b.1, hb1, rfl⟩) _ (List.mem_map.mpr ⟨b.1, hb1, rfl⟩)
      exact absurd (reads_lt _ _ _ hal1 r _ hm) (Nat.lt_irrefl _)
    have em : (xs.zip ws).map (fun b : D × V => toP b.1) = xs.map toP := by
      have e2 : (xs.zip ws).map (fun b : D × V => toP b.1) = ((xs.zip ws).map Prod.fst).map toP := by rw [List.map_map] <;> rfl
      rw [e2, zip_fst rr]
    show wpAny _ _ _ _ _ { s with heap := h'.push (seqObj "list" its.toArray 0) }
    refine wpAny_bind (wpAny_holding (list_sort_dataX (enc := fun b : D × V => toP b.1) (bs := xs.zip ws) hoL ee er (by rw [em]; exact hal) (by rw [em]; exact hso) ?_ ?_ fun out hout eout => ?_))
    · rw [List.length_zip]; omega
    · intro b hb
      have hb1 : b.1 ∈ xs := (List.of_mem_zip (show (b.1, b.2) ∈ xs.zip ws from hb)).1
      have := (hp b.1 hb1).2
      show X.A.units + 1 + 1 + (toP b.1).depth < cLine
      omega
    obtain ⟨rs, rvs⟩ := pairs_each eout
    have es : ((xs.zip ws).mergeSort (PySem.W.dataLe false fun b : D × V => toP b.1)).map (·.1) = sortD xs := by
      unfold sortD
      have e2 := List.map_mergeSort (r := PySem.W.dataLe false fun b : D × V => toP b.1) (s := PySem.W.dataLe false toP) (f := Prod.fst) (l := xs.zip ws) (fun a _ b _ => rfl)
      rw [zip_fst rr] at e2
      exact e2
    rw [es] at rs
    obtain ⟨e', he'⟩ := PyProof.Rows.sortedHeap_at (vs := its) (out := out.toArray) hoL
    have hlen2 : (((xs.zip ws).mergeSort (PySem.W.dataLe false fun b : D × V => toP b.1)).map (·.2)).length ≤ sizeLine := by
      rw [List.length_map, List.length_mergeSort, List.length_zip]; omega
    have hnew : H h'.objs.size = none := I1.hok.fresh (Nat.le_refl _)
    refine wpAny_pure ⟨_, rfl, .ref h'.objs.size, upd H h'.objs.size (.lst (((xs.zip ws).mergeSort (PySem.W.dataLe false fun b : D × V => toP b.1)).map (·.2))), I1.laid (t' := s.toks) (fun b u e => ?_) (Nat.le_refl _)
      (show ObjOk X.prog X.w _ _ _ (.lst _) from ⟨hlen2, out, e', rvs, he'⟩), rfl, q _ _ (Ext.laid hnew) (S.laid hnew) (pL_new S hnew rs)⟩
    have hb : b < h'.objs.size := Heap.lt_size e
    rw [PyProof.Rows.sortedHeap_old (Nat.ne_of_lt hb) (by rw [size_push']; exact Nat.lt_succ_of_lt hb)]
    exact Heap.get?_push_of_some _ e
end
end Dn
namespace Dn
open PySem PySem.Spec PyProof.Rows L2
variable [HzC]
section
variable {X : Cx} {W : WX} {k : Nat}
theorem Bd.u64 (b : Bd X W k) : X.A.units + 64 < cLine := by have := b.room.un; omega
theorem Bd.u65 (b : Bd X W k) : X.A.units + 65 < cLine := by have := b.room.un; omega
theorem Bd.u70 (b : Bd X W k) : X.A.units + 70 < cLine := by have := b.room.un; omega
theorem gn (i : Nat) {x : Str} {pos : Pos} (b : Bd X W k) (hi : X.N[i]? = some x := by rfl) (hx : Loc X.env.scope x := by first | exact Or.inl rfl | exact Or.inr rfl) (hf : X.fn x = true ∨ X.env.scope.names.lookup x = some .local := by first | exact .inl rfl | exact .inr rfl) : DG X [i] (.Name x pos) (gN i) :=
  dg_name b.nd hi hx hf
theorem dts1 {c : Expr} {m : Rho → M Bool} (h : DT X W c m) : DTs X W [c] m := dts_one h
end
end Dn
namespace Dn
open PySem PySem.Spec PyProof.Rows L2
variable [HzC]
theorem reps_rg {K : PySem.W.Frag} {F : Hp} {ι : List Addr} (lo hi : Int) : Reps K F ι (rngD lo (hi - lo).toNat) (rgV lo hi) := by
  unfold rngD rgV
  generalize (hi - lo).toNat = n
  generalize List.range n = l
  induction l with
  | nil => exact Reps.nil
  | cons x l ih =>
    rw [List.map_cons, List.map_cons]
    exact Reps.cons (by simp only [Rep]) ih
noncomputable def lRange (lo hi : D) : Option (List D) := match lo, hi with
  | .int i, .int j => @ite _ (rgOk i j) (Classical.propDecidable _) (some (rngD i (j - i).toNat)) (none)
  | _, _ => none
noncomputable def mTupRg (m : Rho → M D) : Rho → M D := fun ρ st => (m ρ st).bind fun d st1 => lift ((lRange (.int 0) d).map .tup) st1
noncomputable def lLstRg (m : Rho → M D) : Rho → M (List D) := fun ρ st => (m ρ st).bind fun d st1 => lift (lRange (.int 0) d) st1
theorem lRange_some {d1 d2 : D} {xs : List D} (h : lRange d1 d2 = some xs) : ∃ i j, d1 = .int i ∧ d2 = .int j ∧ rgOk i j ∧ xs = rngD i (j - i).toNat := by
  unfold lRange at h
  split at h
  · split at h
    · rename_i i j hr
      cases h
      exact ⟨i, j, rfl, rfl, hr, rfl⟩
    · cases h
  · cases h
section
variable {X : Cx} {W : WX} {p p2 pos pos2 : Pos} {a b : Expr} {m1 m2 : Rho → M D}
theorem rg_lst {σ : L2.St} {F : Hp} {ι : List Addr} {H : Hp} {st : Sto} {Q : VK} {lo hi : Int} (S : Sim X.K F ι st H) (q : post X.K W σ F ι H (pL X.K) (.ok (rngD lo (hi - lo).toNat) st) Q) : ∀ c, H c = none → Q (.ref c) (upd H c (.lst (rgV lo hi))) :=
  fun c hc => q F ι _ _ (Ext.laid hc) (S.laid hc) (pL_new S hc (reps_rg lo hi))
theorem rg_tup {σ : L2.St} {F : Hp} {ι : List Addr} {H : Hp} {st : Sto} {Q : VK} {lo hi : Int} (S : Sim X.K F ι st H) (q : post X.K W σ F ι H (pV X.K) (.ok (.tup (rngD lo (hi - lo).toNat)) st) Q) : ∀ (c : Addr) (o : Obj), o.dict = none → H c = none → Q (.ref c) (upd H c (.frz o (.tup (rgV lo hi)))) :=
  new_tup S (reps_rg lo hi) fun F' H' v x S' r => q F' ι H' v x S' r
def tTupRgP (te : L2.St → Hp → (Int → Int → Hp → Prop) → Prop) : TE := fun σ H Q => te σ H fun a b H1 => RgOk a b ∧ ∀ (c : Addr) (o : Obj), o.dict = none → H1 c = none → Q (.ref c) (upd H1 c (.frz o (.tup (rgV a b))))
theorem pe_tupRgP {e : Expr} {te : L2.St → Hp → (Int → Int → Hp → Prop) → Prop} (hc : X.calm = true) (hg : Gl X "tuple") (hm : X.mg "tuple" = none) (he : PRg X e te) (na : starEach [e] X.env = (false, eval e X.env) :: starEach [] X.env := by rfl) : PE X (.Call (.Name "tuple" p) [e] [] pos) (tTupRgP te) := by
  refine ⟨fun pins s σ H Q I h => Call_ (ld_blt I hg hm boot_tuple (PyProof.Rows.callWith_type1 (args_cons (thn (he pins s σ H _ I h) fun x s1 ⟨r, a, b, t, u, v, H1, ex, hr, I1, ok, q⟩ => args_nil ?_) na) na))⟩
  subst ex
  obtain ⟨b1, b2, b3, b4, b5⟩ := ok
  refine call_tuple_range (n := (b - a).toNat) (I1.ok.hd hc) hr (small_one b1 b2 b3 b4) (rangeSize_nat a b) b5 fun h' tk acc hk hi => ?_
  have I2 : Inv X pins σ H1 { s1 with heap := h', toks := tk } := I1.kept hk
  have z := fin_tup (t' := tk) (its := acc.toList) I2 (vals_rg hi) (by rw [rgV_length, sizeLine_eq]; omega) q
  rw [Array.toArray_toList] at z
  exact z
theorem de_tupRg (hc : X.calm = true) (hg : Gl X "tuple") (hm : X.mg "tuple" = none) (hg2 : Gl X "range") (hm2 : X.mg "range" = none) (ha : DE X W a m1) (na : starEach [a] X.env = (false, eval a X.env) :: starEach [] X.env := by rfl)
    (nr : starEach [.Call (.Name "range" p2) [a] [] pos2] X.env = (false, eval (.Call (.Name "range" p2) [a] [] pos2) X.env) :: starEach [] X.env := by rfl) : DE X W (.Call (.Name "tuple" p) [.Call (.Name "range" p2) [a] [] pos2] [] pos) (mTupRg m1) := by
  refine PE.weak (pe_tupRgP hc hg hm (prg_1 hg2 hm2 ha na) nr) fun σ H Q ⟨F, ι, ρ, st, S, R, q⟩ => ?_
  refine tG_seq back_V S R q fun d st1 F1 ι1 H1 v x1 S1 R1 r1 q1 => ?_
  cases e : lRange (.int 0) d with
  | none => rw [e] at q1; exact (q1 : False).elim
  | some xs =>
    rw [e] at q1
    obtain ⟨i, j, ei, rfl, hr, rfl⟩ := lRange_some e
    cases ei
    have r1 : v = V.int j := by simpa only [pV, Rep] using r1
    exact ⟨j, r1, hr.ok, rg_tup S1 q1⟩
theorem dl_lstRg (hc : X.calm = true) (hg : Gl X "list") (hm : X.mg "list" = none) (hg2 : Gl X "range") (hm2 : X.mg "range" = none) (ha : DE X W a m1) (na : starEach [a] X.env = (false, eval a X.env) :: starEach [] X.env := by rfl)
    (nr : starEach [.Call (.Name "range" p2) [a] [] pos2] X.env = (false, eval (.Call (.Name "range" p2) [a] [] pos2) X.env) :: starEach [] X.env := by rfl) : DL X W (.Call (.Name "list" p) [.Call (.Name "range" p2) [a] [] pos2] [] pos) (lLstRg m1) := by
  refine PE.weak (pe_listRg hc hg hm (prg_1 hg2 hm2 ha na) nr) fun σ H Q ⟨F, ι, ρ, st, S, R, q⟩ => ?_
  refine tG_seq back_L S R q fun d st1 F1 ι1 H1 v x1 S1 R1 r1 q1 => ?_
  cases e : lRange (.int 0) d with
  | none => rw [e] at q1; exact (q1 : False).elim
  | some xs =>
    rw [e] at q1
    obtain ⟨i, j, ei, rfl, hr, rfl⟩ := lRange_some e
    cases ei
    have r1 : v = V.int j := by simpa only [pV, Rep] using r1
    exact ⟨j, r1, hr.ok, rg_lst S1 q1⟩
end
def intsOf : List D → Option (List Int)
  | [] => some []
  | .int i :: ds => (intsOf ds).map (i :: ·)
  | _ => none
theorem intsOf_some : ∀ {ds : List D} {ns : List Int}, intsOf ds = some ns → ds = ns.map D.int
  | [], _, h => by cases h; rfl
  | .int i :: ds, ns, h => by
    unfold intsOf at h
    cases e : intsOf ds with
    | none => rw [e] at h; cases h
    | some ms =>
      rw [e] at h
      cases h
      rw [intsOf_some e] <;> rfl
  | .non :: _, _, h => by cases h
  | .bl _ :: _, _, h => by cases h
  | .str _ :: _, _, h => by cases h
  | .tup _ :: _, _, h => by cases h
  | .lst _ :: _, _, h => by cases h
  | .scr _ :: _, _, h => by cases h
  | .ref _ :: _, _, h => by cases h
  | .adr _ :: _, _, h => by cases h
  | .fd _ _ :: _, _, h => by cases h
  | .exo _ _ _ _ :: _, _, h => by cases h
  | .obj _ _ _ :: _, _, h => by cases h
  | .sd _ :: _, _, h => by cases h
  | .fnv _ :: _, _, h => by cases h
theorem reps_ints_vs {K : PySem.W.Frag} {F : Hp} {ι : List Addr} : ∀ {ns : List Int} {vs : List V}, Reps K F ι (ns.map D.int) vs → vs = ns.map V.int
  | [], _, h => by simpa only [List.map_nil, Reps] using h
  | n :: ns, _, h => by
    simp only [List.map_cons, Reps] at h
    obtain ⟨v, r, rfl, h1, h2⟩ := h
    simp only [Rep] at h1
    rw [h1, reps_ints_vs h2] <;> rfl
end Dn
namespace Dn
open PySem PySem.Spec PyProof.Rows L2
section
variable (ρ : Rho) (s : Sto)
theorem mVar_ap (i : Nat) : mVar i ρ s = match ρ[i]? with | some (some d) => .ok d s | _ => .bad := rfl
end
theorem clean_same {s s' : Sto} {d : D} (h : s'.length = s.length) : clean s (.ok d s') = .ok d s' := by
  unfold clean
  dsimp only
  split
  · rw [← h, List.take_length]
  · rfl
theorem lcL_pure {held : List (Nat × List D)} {f : D → Sto → Out (Option D)} {g : D → Option D} {s : Sto} (hh : heldOk held s) : ∀ items : List D, (∀ d ∈ items, f d s = .ok (g d) s) → lcL held f items s = .ok (items.filterMap g) s
  | [], _ => by unfold lcL; rw [if_pos hh] <;> rfl
  | d :: ds, h => by
    unfold lcL
    rw [if_pos hh, h d (by simp)]
    simp only [Out.bind_ok]
    rw [lcL_pure hh ds fun d hd => h d (by simp [hd])]
    simp only [Out.bind_ok]
    congr 1
    rw [List.filterMap_cons]
    cases g d <;> rfl
theorem shaped_of {d : PyData} (h1 : d.canLay0 = true) (h2 : d.depth ≤ 64) : SeqAt.shaped d = true := by
  unfold SeqAt.shaped
  rw [h1, decide_eq_true h2] <;> rfl
section
variable (s : Sto) (i j : Int)
theorem pMod_int (h : 0 < j) : pMod s (.int i) (.int j) = some (.int (i % j)) := by unfold pMod; dsimp only; rw [if_pos h]
theorem pDiv_int (h : 0 < j ∧ j < 1073741824) : pDiv s (.int i) (.int j) = some (.int (i / j)) := by unfold pDiv; dsimp only; rw [if_pos h]
theorem pPow_int (h : 0 ≤ j ∧ j ≤ 1000000 ∧ i.natAbs < 2 ^ 64) : pPow s (.int i) (.int j) = some (.int (i ^ j.toNat)) := by unfold pPow; dsimp only; rw [if_pos h]
theorem pMul_int (h : i.natAbs < 2 ^ 64 ∨ j.natAbs < 2 ^ 64) : pMul s (.int i) (.int j) = some (.int (i * j)) := by unfold pMul; dsimp only; rw [if_pos h]
end
theorem pIdx_ref {s : Sto} {l : Nat} {xs : List D} (h : s[l]? = some (.lst xs)) (i : Int) : pIdx s (.ref l) (.int i) = atI xs i := by
  show (seqOf s (.ref l)).bind _ = _
  have e : seqOf s (.ref l) = some xs := by
    show lstOf s (.ref l) = _
    unfold lstOf
    dsimp only
    rw [h]
  rw [e] <;> rfl
theorem gSubD_ref {mo mi : Rho → M D} {d : D} {ρ : Rho} {s s1 s2 : Sto} {l j : Nat} {k : Int} {xs : List D} (ho : mo ρ s = .ok (.ref l) s1) (hi : mi ρ s1 = .ok (.int k) s2) (h : s2[l]? = some (.lst xs)) (hj : ixN xs.length k = some j) : gSubD mo mi d ρ s = .ok ρ (s2.set l (.lst (xs.set j d))) := by
  unfold gSubD
  rw [ho, Out.bind_ok, hi, Out.bind_ok]
  simp only [h, hj]
theorem pLen_ref {s : Sto} {l : Nat} {xs : List D} (h : s[l]? = some (.lst xs)) : pLen s [.ref l] = some (.int xs.length) := by
  show (seqOf s (.ref l)).map _ = _
  have e : seqOf s (.ref l) = some xs := by
    show lstOf s (.ref l) = _
    unfold lstOf
    dsimp only
    rw [h]
  rw [e] <;> rfl
end Dn
namespace Dn
open PySem PySem.Spec PyProof.Rows L2
theorem clean_some (s : Sto) (d : D) (s' : Sto) : ∃ st', clean s (.ok d s') = .ok d st' := by
  unfold clean
  dsimp only
  split
  · exact ⟨_, rfl⟩
  · exact ⟨_, rfl⟩
theorem cutD_take {α : Type} (xs : List α) (n : Nat) : Dn.cutD xs none (some (n : Int)) = xs.take n := by
  unfold Dn.cutD
  rw [HT.sIx_none, HT.sIx_nat, Nat.sub_zero, List.drop_zero]
  by_cases h : n ≤ xs.length
  · rw [Nat.min_eq_left h]
  · rw [Nat.min_eq_right (by omega), List.take_length, List.take_of_length_le (by omega)]
theorem cutD_drop {α : Type} (xs : List α) (n : Nat) : Dn.cutD xs (some (n : Int)) none = xs.drop n := by
  unfold Dn.cutD
  rw [HT.sIx_none, HT.sIx_nat]
  by_cases h : n ≤ xs.length
  · rw [Nat.min_eq_left h, List.take_of_length_le (by rw [List.length_drop]; omega)]
  · rw [Nat.min_eq_right (by omega), Nat.sub_self, List.take_zero, List.drop_of_length_le (by omega)]
end Dn
namespace Dn
open PySem PySem.Spec PyProof.Rows L2
variable [HzC]
section
variable {X : Cx} {W : WX} {apos cpos : Pos} {o e : Expr} {es : List Expr} {mo : Rho → M D} {am : Rho → M (List D)} {id : String} {name : Str} {p : D → List D → M D} {pins : List (Addr × Obj)} {σ : L2.St} {H : Hp} {s : Shared}
open Classical in
noncomputable def indexD (xs : List D) (y : D) : Option D := if isPs xs = true ∧ isP y = true ∧ SeqAt.shaped (.list (toPs xs)) = true ∧ SeqAt.shaped (toP y) = true then (SeqAt.dataPlace (toPs xs) (toP y)).map fun j => .int (j : Nat) else none
noncomputable def pIndexL : D → List D → M D := fun d ds st => match lstOf st d, ds with
  | some xs, [y] => lift (indexD xs y) st
  | _, _ => .bad
theorem lift_ok {α : Type} {o : Option α} {st st' : Sto} {d : α} (h : lift o st = .ok d st') : o = some d ∧ st' = st := by
  cases o with
  | none => cases h
  | some a => cases h; exact ⟨rfl, rfl⟩
theorem reads_all {K : PySem.W.Frag} (hK : K = X.K) (I : Inv X pins σ H s) {F : Hp} {ι : List Addr} {st : Sto} (S : Sim K F ι st H) {xs : List D} {vs : List V} {its : List Value} (h : isPs xs = true) (r : Reps K F ι xs vs) (rv : Vals vs its) : ∃ as, ReadsAll s.heap its (toPs xs) as := by
  subst hK
  exact Dp.readsAll I _ _ _ (dps_of S.sub xs vs h r) rv
theorem shaped_parts {xs : List PyData} (h : SeqAt.shaped (.list xs) = true) : PyData.plainAll xs = true ∧ PyData.depthAll xs ≤ 63 := by
  have h1 := SeqAt.canLay_of_shaped h
  have h2 := SeqAt.depth_of_shaped h
  rw [PyData.depth] at h2
  have h3 := PyData.plain_of_canLay0 (.list xs) h1
  rw [PyData.plain] at h3
  exact ⟨h3, by omega⟩
theorem room_data {xs : List PyData} {d : PyData} (hu : X.A.units + 70 < cLine) (h : PyData.depthAll xs ≤ 63) : X.A.units + 1 + min (PyData.depthAll xs) d.depth < cLine := by
  have := Nat.min_le_left (PyData.depthAll xs) d.depth
  omega
theorem indexD_some {xs : List D} {y d : D} (h : indexD xs y = some d) : isPs xs = true ∧ isP y = true ∧ SeqAt.shaped (.list (toPs xs)) = true ∧ SeqAt.shaped (toP y) = true ∧ ∃ j, SeqAt.dataPlace (toPs xs) (toP y) = some j ∧ d = .int (j : Nat) := by
  unfold indexD at h
  split at h
  · rename_i c
    obtain ⟨j, e, rfl⟩ := Option.map_eq_some_iff.mp h
    exact ⟨c.1, c.2.1, c.2.2.1, c.2.2.2, j, e, rfl⟩
  · cases h
theorem rep_int {K : PySem.W.Frag} {F : Hp} {ι : List Addr} {i : Int} : Rep K F ι (.int i) (.int i) := by simp only [Rep]
theorem mt_pIndexL (hu : X.A.units + 70 < cLine) : MtR X "list.index" (rM X.K pIndexL) := by
  intro pins s σ H x xs v us Q I rx rxs ⟨F, ι, st, d, ds, d', st', S, rd, rds, e, q⟩
  unfold pIndexL at e
  split at e
  rotate_left
  · cases e
  rename_i ys y e1
  obtain ⟨e2, rfl⟩ := lift_ok e
  obtain ⟨p1, p2, p3, p4, j, hj, rfl⟩ := indexD_some e2
  obtain ⟨w, rfl, ry⟩ := rds.one'
  obtain ⟨u, rfl, ru⟩ := rxs.one
  obtain ⟨a, vs, rfl, hq, rr⟩ := S.lst rd e1
  cases rx
  obtain ⟨its, rv, ⟨⟨C, dd, dt, sl⟩, n, ho, hc, hdn, hd⟩, hz⟩ := I.list (SqL.of hq)
  simp only at hc hd
  subst hc hd
  obtain ⟨as, ra⟩ := reads_all rfl I S p1 rr rv
  obtain ⟨bs, rb⟩ := Dp.reads I _ _ _ (rep_dp S ry p2) ru
  obtain ⟨h1, h2⟩ := shaped_parts p3
  have ra' : ReadsAll s.heap its.toArray.toList (toPs ys) as := by simpa using ra
  obtain ⟨hjs, hit, hno⟩ := SeqAt.hit_at (vs := its.toArray) ra' h1 hj
  have hz' := sizeLine_eq
  exact call_meets PySem.F.slot_list_index ⟨_, ho, rfl⟩ PySem.F.entry_list_index (PySem.F.args_list_index_2 _ _) (SeqAt.list_indexAt a its.toArray n dd sl u (fun z => PyData.eqv (SeqAt.readOf s.heap z) (toP y)) j hjs (by have h8 := rv.length; have h9 := hjs; rw [List.size_toArray] at h9; omega) hit hno)
    ⟨ho, SeqAt.items_plain ra' rb h1 (PyData.plain_of_canLay0 _ (SeqAt.canLay_of_shaped p4)) (room_data hu h2), ⟨.int _, H, I.tok _, ⟨_, rfl⟩, q F ι H _ Ext.refl S rep_int⟩⟩
end
end Dn
namespace Dn
open PySem PySem.Spec PyProof.Rows L2
variable [HzC]
section
variable {X : Cx} {W : WX} {pos : Pos}
theorem de_gi {x : Str} {i : Int} (hg : Gl X x) (hm : ∃ t, X.mg x = some (.int i t)) (hd : (x == ("__debug__" : Str)) = false := by decide) : DE X W (.Name x pos) (mLit (.int i)) := by
  obtain ⟨t, hm⟩ := hm
  exact de_gint hg hm hd
theorem de_gs {x : Str} {i : Str} (hg : Gl X x) (hm : ∃ t, X.mg x = some (.str i t)) (hd : (x == ("__debug__" : Str)) = false := by decide) : DE X W (.Name x pos) (mLit (.str i)) := by
  obtain ⟨t, hm⟩ := hm
  exact de_gstr hg hm hd
end
end Dn
namespace Dn
open PySem PySem.Spec PyProof.Rows L2
variable [HzC]
def bareSet (w : World) : Obj := { cls := .type "set", dict := none, data := .set #[] 0 (.fresh 0 0 (!w.params.followText "set-order")) }
section
variable {P : Program} {w : World} {A : Around} {E : Value → Shared → Prop} {s : Shared}
theorem set_list {l : Addr} {items : Array Value} (ns : List Int) {Q : Value → Shared → Prop} (hh : A.handled = none) (hl : s.heap.IsList l items) (hit : IntsAre items.toList ns) (hb : ns.length + 1 < scanBound)
    (h : ∀ (h' : Heap) (tk c : Nat), SetR w h' s.heap.objs.size (fun j => decide (j ∈ ns)) c → c ≤ ns.length → (∀ b o, s.heap.get? b = some o → h'.get? b = some o) → Q (.ref s.heap.objs.size) { s with heap := h', toks := tk }) :
    wpAny (model P w) A (call (.type "set") [.ref l]) Q E s := by
  have sz : items.size = ns.length := by rw [← Array.length_toList]; exact hit.length
  obtain ⟨c, tl, mro⟩ := F.called_set.mro
  have made := F.called_set.made
  have sub := F.called_set.sub
  refine wpAny_call (codeAny_of_tree ?_)
  show wpAny _ _ (callAny (.type "set") _) _ _ _
  refine wpAny_pure ⟨Code.quiet_builtin _ (by decide +kernel), codeAny_builtin F.entry_type_call ?_⟩
  rw [Around.under_plain (weight_type_call_type "set" [.ref l] []) rfl]
  have n1 := F.called_set.notType
  have n2 := F.called_set.canCreate
  have n3 := F.typeCall_set_1 (.ref l)
  repeat (any_goals (first | assumption | wp_step))
  -- the empty set is laid
  refine codeAny_mono (code_set_led1 (.ref l) (E := E) (Q₁ := fun u t => u = .ref s.heap.objs.size ∧ t = { s with heap := s.heap.push (bareSet w) }) ⟨rfl, rfl⟩) fun r t hr => ?_
  cases r with
  | error e => exact hr
  | ok fl =>
    cases fl with
    | next => exact hr.elim
    | brk => exact hr.elim
    | cont => exact hr.elim
    | ret u =>
      obtain ⟨rfl, rfl⟩ := hr
      have gS : (s.heap.push (bareSet w)).get? s.heap.objs.size = some (bareSet w) := Heap.get?_push_size _ rfl
      have tS : Shared.TypeIs { s with heap := s.heap.push (bareSet w) } (.ref s.heap.objs.size) "set" := ⟨_, gS, rfl⟩
      have i1 := F.called_set.init.lookup
      have i2 := F.called_set.init.bind (.ref s.heap.objs.size)
      repeat (any_goals (first | assumption | wp_step))
      -- its items are put in
      refine codeAny_mono (codeAny_call_builtin (R := wants (fun r t => r = .none ∧ ∃ h' tk c, t = { s with heap := h', toks := tk } ∧ SetR w h' s.heap.objs.size (fun j => decide (j ∈ ns)) c ∧ c ≤ ns.length ∧
          (∀ b o, s.heap.get? b = some o → h'.get? b = some o)) E) F.called_set.init.plain F.entry_set_init (check_set_init_1 tS ?_)) fun r t hr => ?_
      · obtain ⟨⟨oc, od, odt, osl⟩, go, hc, n, hd⟩ := hl
        simp only at hc hd
        subst hc hd
        have gl : (s.heap.push (bareSet w)).get? l = some { cls := .type "list", dict := od, data := .seq items n, slots := osl } := Heap.get?_push_of_some _ go
        have j1 := F.sub_list_set
        have j2 := F.sub_list_frozenset
        have j3 : (Value.type "list" == Value.type "dict") = false := by decide
        have il : (s.heap.push (bareSet w)).IsList l items := ⟨_, gl, rfl, n, rfl⟩
        unfold Builtin.«set.__init__» noKeywords Builtin.Frozenset.updateFrom
        generalize hPI : pyIter = PI
        wp_walk
        subst hPI
        refine wpAny_pyIter_list il (wpAny_bind (wpAny_runValue ?_))
        have lS : l < s.heap.objs.size := Heap.lt_size go
        have z1 : (s.heap.push (bareSet w)).objs.size = s.heap.objs.size + 1 := Heap.size_push ..
        have nI : l ≠ (s.heap.push (bareSet w)).objs.size := fun q => Nat.ne_of_lt (Nat.lt_succ_of_lt lS) (q.trans z1)
        have nS : s.heap.objs.size ∉ [(s.heap.push (bareSet w)).objs.size, l] := by
          intro q
          rcases List.mem_cons.mp q with q | q
          · exact Nat.ne_of_lt (Nat.lt_succ_self _) (q.trans z1)
          · exact Nat.ne_of_gt lS (List.mem_singleton.mp q)
        refine set_update_ints ((Walks.list (by simp [hh]) _ l nI items).toS) s.heap.objs.size nS ns sz hb (fun i v hv => ?_) (items.size - 0) 0 _ (by omega) (Nat.zero_le _) ⟨⟨_, Heap.get?_push_size _ rfl, rfl, rfl⟩, il.push _⟩ ⟨0, Nat.le_refl 0, setR_new_at (Heap.get?_push_of_some _ gS)⟩ fun t c2 mv hc2 R2 => ?_
        · have hi : i < ns.length := by rw [← sz]; exact (Array.getElem?_eq_some_iff.mp hv).1
          obtain ⟨tt, e⟩ := IntsAre.int_at hit i v (by rw [Array.getElem?_toList]; exact hv)
          refine ⟨ns[i], tt, List.getElem?_eq_getElem hi, ?_⟩
          rw [e, List.getD_eq_getElem?_getD, List.getElem?_eq_getElem hi] <;> rfl
        · obtain ⟨h', g2, d', tk', os'⟩ := t
          obtain rfl : g2 = s.gens := mv.gens
          obtain rfl : d' = s.drawn := mv.drawn
          obtain rfl : os' = s.os := mv.os
          show wpAny _ _ _ _ _ _
          refine wpAny_pure ?_
          show wpAny _ _ (ret Value.none) _ _ _
          refine wpAny_pure ⟨rfl, h', tk', c2, rfl, R2, by rw [← sz]; exact hc2, fun b o e => ?_⟩
          have b0 : b < s.heap.objs.size := Heap.lt_size e
          refine mv.heap b o (fun q => ?_) (Heap.get?_push_of_some _ (Heap.get?_push_of_some _ e))
          rcases List.mem_cons.mp q with q | q
          · exact Nat.ne_of_lt b0 q
          · exact Nat.ne_of_lt (Nat.lt_succ_of_lt b0) ((List.mem_singleton.mp q).trans z1)
      · cases r with
        | error e => exact hr
        | ok fl =>
          cases fl with
          | ret r =>
            obtain ⟨rfl, h', tk, c2, rfl, R2, hc2, k⟩ := hr
            repeat (any_goals (first | assumption | wp_step))
            exact h _ _ _ R2 hc2 k
          | next => exact hr.elim
          | brk => exact hr.elim
          | cont => exact hr.elim
end
def setI (ns : List Int) : List Int := ns.foldr (fun n acc => if n ∈ acc then acc else n :: acc) []
theorem mem_setI {a : Int} : ∀ {ns : List Int}, a ∈ setI ns ↔ a ∈ ns
  | [] => Iff.rfl
  | n :: ns => by
    show a ∈ (if n ∈ setI ns then setI ns else n :: setI ns) ↔ _
    have ih := mem_setI (a := a) (ns := ns)
    by_cases h : n ∈ setI ns
    · rw [if_pos h, ih, List.mem_cons]
      refine ⟨.inr, fun q => ?_⟩
      rcases q with e | q
      · rw [e]; exact mem_setI.mp h
      · exact q
    · rw [if_neg h, List.mem_cons, ih, List.mem_cons]
theorem nodup_setI (ns : List Int) : (setI ns).Nodup := by
  induction ns with
  | nil => exact List.nodup_nil
  | cons n ns ih =>
    show (if n ∈ setI ns then setI ns else n :: setI ns).Nodup
    split
    · exact ih
    · rename_i h
      exact List.nodup_cons.mpr ⟨h, ih⟩
theorem setI_count {ns l : List Int} (hn : l.Nodup) (h : ∀ k, k ∈ l ↔ k ∈ ns) : l.length = (setI ns).length :=
  ((List.perm_ext_iff_of_nodup hn (nodup_setI ns)).mpr fun k => by rw [h, mem_setI]).length_eq
def sortI (ns : List Int) : List Int := (setI ns).mergeSort fun a b => decide (a ≤ b)
theorem sortI_eq {ns l : List Int} (hs : l.Pairwise (· < ·)) (h : ∀ k, k ∈ l ↔ k ∈ ns) : l = sortI ns := by
  have hn : l.Nodup := hs.imp fun h => Int.ne_of_lt h
  have hp : (sortI ns).Perm l := (List.mergeSort_perm _ _).trans ((List.perm_ext_iff_of_nodup (nodup_setI ns) hn).mpr fun k => by rw [h, mem_setI])
  refine List.Perm.eq_of_pairwise (le := fun a b => a ≤ b) (fun a b _ _ h1 h2 => Int.le_antisymm h1 h2) (hs.imp fun h => Int.le_of_lt h) ?_ hp.symm
  have := List.pairwise_mergeSort (le := fun a b : Int => decide (a ≤ b)) (by intro a b c; simp; omega) (by intro a b; simp; omega) (setI ns)
  exact this.imp fun h => by simpa using h
def intsAt (st : Sto) (d : D) : Option (List Int) := (seqOf st d).bind intsOf
def lSortSet (m : Rho → M D) : Rho → M (List D) := fun ρ st => (m ρ st).bind fun d st1 => match intsAt st1 d with
  | some ns => if ns.length ≤ 1000 ∧ (setI ns).length < 64 then .ok ((sortI ns).map .int) st1 else .bad
  | none => .bad
section
variable {X : Cx} {W : WX} {a : Expr} {m : Rho → M D} {p p2 q pos : Pos}
theorem set_any {pins : List (Addr × Obj)} {σ : L2.St} {H : Hp} {s : Shared} {F : Hp} {ι : List Addr} {st : Sto} {d : D} {x : V} {v : Value} {ns : List Int} {Q : Value → Shared → Prop} {E : Value → Shared → Prop} (hc : X.calm = true) (I : Inv X pins σ H s) (S : Sim X.K F ι st H) (r : Rep X.K F ι d x) (rv : RelV x v) (e : intsAt st d = some ns) (hl : ns.length ≤ 1000)
    (h : ∀ (h' : Heap) (tk : Nat), SetR X.w h' s.heap.objs.size (fun j => decide (j ∈ ns)) (setI ns).length → (∀ b o, s.heap.get? b = some o → h'.get? b = some o) → Q (.ref s.heap.objs.size) { s with heap := h', toks := tk }) :
    wpAny (model X.prog X.w) X.A (call (.type "set") [v]) Q E s := by
  unfold intsAt at e
  cases e1 : seqOf st d with
  | none => rw [e1] at e; cases e
  | some xs =>
    rw [e1] at e
    have e : intsOf xs = some ns := e
    obtain ⟨l, vs, rfl, hq, rr⟩ := S.seq r e1
    obtain rfl := intsOf_some e
    obtain rfl : v = .ref l := rv
    have hv : vs = ns.map V.int := reps_ints_vs rr
    have fin : ∀ (h' : Heap) (tk c : Nat), SetR X.w h' s.heap.objs.size (fun j => decide (j ∈ ns)) c → c ≤ ns.length → (∀ b o, s.heap.get? b = some o → h'.get? b = some o) → Q (.ref s.heap.objs.size) { s with heap := h', toks := tk } := fun h' tk c R _ k => by
      have R0 := R
      obtain ⟨o, es, ep, t, ho, hex, hd, g, nd, hm2, hb, hf, hn, hr, hl2⟩ := R0
      have hcn : c = (setI ns).length := by
        rw [← setI_count nd fun k => by rw [← hm2 k, decide_eq_true_eq], List.length_map, Array.length_toList, hn]
      subst hcn
      exact h h' tk R k
    have hsb : ns.length + 1 < scanBound := by unfold scanBound; omega
    rcases hq with hq | hq
    · obtain ⟨its, ri, pl, hz⟩ := I.list hq
      subst hv
      exact set_list ns (I.ok.hd hc) pl.isList (ints_of_vals ri) hsb fin
    · obtain ⟨its, ri, pt, hz⟩ := I.tuple hq
      subst hv
      exact call_set_tupI ns (I.ok.hd hc) (show s.heap.IsTuple l its.toArray from pt) (ints_of_vals ri) hsb fin
theorem dl_sortSet (hc : X.calm = true) (hg : Gl X "sorted") (hm : X.mg "sorted" = none) (hg2 : Gl X "set") (hm2 : X.mg "set" = none) (ha : DE X W a m)
    (na : starEach [a] X.env = (false, eval a X.env) :: starEach [] X.env := by rfl) : DL X W (.Call (.Name "sorted" p) [.Call (.Name "set" p2) [a] [] q] [] pos) (lSortSet m) := by
  refine ⟨fun pins s σ H Q I ⟨F, ι, ρ, st, S, R, qq⟩ => ?_⟩
  refine Call_ (ld_blt I hg hm PyProof.Rows.boot_sorted ?_)
  refine PyProof.Rows.callWith_builtin1 (PyProof.Rows.args_cons ?_ rfl) rfl rfl
  refine Call_ (ld_blt I hg2 hm2 PyProof.Rows.boot_set ?_)
  refine PyProof.Rows.callWith_type1 (PyProof.Rows.args_cons (thn (ha.run pins s σ H (fun x H1 => ∃ F1 ι1 st1 d ns, Sim X.K F1 ι1 st1 H1 ∧ Rep X.K F1 ι1 d x ∧ intsAt st1 d = some ns ∧ ns.length ≤ 1000 ∧ (setI ns).length < 64 ∧ post X.K W σ F1 ι1 H1 (pL X.K) (.ok ((sortI ns).map .int) st1) Q) I ?_) fun v s1 ⟨x, H1, I1, r1, q1⟩ => PyProof.Rows.args_nil ?_) na) na rfl
  · refine tG_seq back_L S R qq fun d st1 F1 ι1 H1 x x1 S1 R1 r1 q1 => ?_
    split at q1
    · rename_i ns e
      split at q1
      · rename_i hl
        exact ⟨F1, ι1, st1, d, ns, S1, r1, e, hl.1, hl.2, q1⟩
      · exact (q1 : False).elim
    · exact (q1 : False).elim
  · obtain ⟨F1, ι1, st1, d, ns, S1, rd, e, hl, h64, q1⟩ := q1
    refine set_any hc I1 S1 rd r1 e hl fun h' tk R2 k2 => PyProof.Rows.args_nil ?_
    have I2 : Inv X pins σ H1 { s1 with heap := h', toks := tk } := I1.kept k2
    refine sorted_set R2 (I2.ok.hd hc) h64 fun s' p' out c ns' k g o hp hgp hi hs hmem hlen => ?_
    have hlen2 : (ns'.map V.int).length ≤ sizeLine := by rw [List.length_map, hlen]; exact Nat.le_trans (Nat.le_of_lt h64) (by decide)
    have hn : H1 p' = none := I2.hok.fresh hp
    have J : Inv X pins σ (upd H1 p' (.lst (ns'.map V.int))) { ({ s1 with heap := h', toks := tk } : Shared) with heap := s'.heap, gens := s'.gens, drawn := s'.drawn, toks := s'.toks } :=
      I2.call (ch := []) (Un.laid k hp hn) (I2.hok.laid k hp ⟨hlen2, out.toList, c, vals_of_ints hi, hgp⟩) (by rw [g]; exact I2.bare) (fun _ z => nomatch z)
    have es : s' = { ({ s1 with heap := h', toks := tk } : Shared) with heap := s'.heap, gens := s'.gens, drawn := s'.drawn, toks := s'.toks } := by
      cases s'
      cases s1
      cases o
      rfl
    rw [es]
    have e2 : ns' = sortI ns := sortI_eq hs fun k => by rw [hmem k, decide_eq_true_eq]
    subst e2
    exact ⟨.ref p', _, J, rfl, q1 F1 ι1 _ _ (Ext.laid hn) (S1.laid hn) (pL_new S1 hn (reps_ints _))⟩
end
end Dn
namespace Dn
open PySem PySem.Spec PyProof.Rows L2
variable [HzC]
end Dn
namespace Dn
open PySem PySem.Spec PyProof.Rows L2
variable [HzC]
end Dn
namespace Dn
open PySem PySem.Spec PyProof.Rows L2
variable [HzC]
end Dn
namespace Dn
open PySem PySem.Spec PyProof.Rows L2
variable [HzC]
section
variable {X : Cx} {W : WX} {C : Addr} {bmB : List Value} {B newId initId : String} {x : Str} {p pos pos' : Pos}
def sNever : Rho → Sto → Fl := fun _ _ => .bad
theorem ds_never {s : Stmt} : DS X W s sNever := ⟨fun pins s σ H D I ⟨F, ι, ρ, st, S, R, q⟩ => (q : False).elim⟩
end
theorem Bd.tr {X : Cx} {W W' : WX} {k : Nat} (b : Bd X W k) {pn : List (Addr × Obj)} {xe : Value → Shared → Prop} (tk : Takes (X.tr pn xe) W') : Bd (X.tr pn xe) W' k := ⟨b.room, b.gd, b.calm, b.nd, .of tk⟩
end Dn
namespace Dn
open PySem PySem.Spec PyProof.Rows L2
variable [HzC]
end Dn
namespace Dn
open PySem PySem.Spec PyProof.Rows L2
variable [HzC]
def pIsB : Sto → D → D → Option D := fun _ a b => match a, b with
  | .bl i, .bl j => some (.bl (i == j))
  | _, _ => none
def pIsNotB : Sto → D → D → Option D := fun _ a b => match a, b with
  | .bl i, .bl j => some (.bl (!(i == j)))
  | _, _ => none
theorem op_pIsB {X : Cx} : OpR X (compareOp .Is) (rP X.K pIsB) := by
  intro pins s σ H x y v u Q I rx ry ⟨F, ι, st, a, b, d, S, ra, rb, e, q⟩
  unfold pIsB at e
  split at e
  · rename_i i j
    cases e
    simp only [Rep] at ra rb
    subst ra rb
    cases rx
    cases ry
    show wpAny _ _ ((isSame (.bool i) (.bool j)) >>= fun z => pure (Value.bool z)) _ _ s
    exact wpAny_bind (wpAny_of_eq (show isSame (.bool i) (.bool j) = pure (i == j) by cases i <;> cases j <;> rfl) (wpAny_pure ⟨.bl (i == j), H, I, rfl, q F H _ Ext.refl S (by simp only [Rep])⟩))
  · cases e
theorem op_pIsNotB {X : Cx} : OpR X (compareOp .IsNot) (rP X.K pIsNotB) := by
  intro pins s σ H x y v u Q I rx ry ⟨F, ι, st, a, b, d, S, ra, rb, e, q⟩
  unfold pIsNotB at e
  split at e
  · rename_i i j
    cases e
    simp only [Rep] at ra rb
    subst ra rb
    cases rx
    cases ry
    show wpAny _ _ ((isSame (.bool i) (.bool j)) >>= fun z => pure (Value.bool (!z))) _ _ s
    exact wpAny_bind (wpAny_of_eq (show isSame (.bool i) (.bool j) = pure (i == j) by cases i <;> cases j <;> rfl) (wpAny_pure ⟨.bl (!(i == j)), H, I, rfl, q F H _ Ext.refl S (by simp only [Rep])⟩))
  · cases e
end Dn
namespace PySem
namespace FldX
open PySem.W PySem.Calls PyProof.Rows PySem.HandSPX
end FldX
end PySem
namespace Dn
open PySem PySem.Spec PyProof.Rows L2 PySem.FldX
variable [HzC]
section
variable {P : Program} {w : World} {K : PySem.W.Frag} {mg : Str → Option Value} {base : Heap}
theorem fnBody_of {x qual : Str} {stm : Stmt} {f : Addr} {fd : FuncData} {N ps : List Str} {k : Nat} {m : Rho → Sto → Fl} (Fn : Fun K x qual stm f fd) (SC : FnScope N ps (defScope stm)) (hN : ps.length ≤ N.length)
    (hb : ∀ (cdv : Value) (B : Around) (fr : List Env) (s : Shared) (H : Hp) (E : XK), Bd (cxOf (CXk (k + 1) P w) P w K mg base N qual (defScope stm) f cdv B fr s H E) (wE E) k →
      PassesOwn (model P w) (B.deeper (envOfC qual (defScope stm) s.heap.objs.size f cdv)) (envOfC qual (defScope stm) s.heap.objs.size f cdv) (cxOf (CXk (k + 1) P w) P w K mg base N qual (defScope stm) f cdv B fr s H E).xe →
      DSs (cxOf (CXk (k + 1) P w) P w K mg base N qual (defScope stm) f cdv B fr s H E) (wE E) (defBody stm) m) :
    FnBody P w K mg base (k + 1) f fd (defBody stm) ps (spD K ps.length (fnD ps.length N.length m)) := by
  obtain ⟨oc, od, kV, doc, pm, an, cdv, ct, osl, rfl, lk, hcd⟩ := Fn.ex
  intro B fr s H us vs Q E hr hgd e0 rv hsp
  have hl : vs.length = ps.length := hsp.1
  have hKs : K.In s.heap := e0.mod.kin.keeps fun b o e => (e0.bs b o e).1
  have hlim : s.heap.NoLimit := e0.mod.nolimit.keeps fun b o e => (e0.bs b o e).1
  refine wpAny_newFunctionEnv_cells SC.kind (fun ⟨y, u⟩ hy => ?_) fun env he s1 ic => ?_
  · rcases SC.par y (List.of_mem_zip hy).1 with q | q
    · exact .inl q
    · exact .inr ⟨q, PySem.W.cellsFrom_some _ _ _ (.inl q)⟩
  subst he
  refine ⟨hlim.keeps ic.toInCall.keep, codeAny_func ?_⟩
  obtain ⟨_, F, ι, st, ds, S, rs, q⟩ := hsp
  have hds : ds.length = ps.length := by rw [rs.length]; exact hl
  have I := inv_start (CX := CXk (k + 1) P w) (E := E) (cd := cdv) SC hr.hd e0 hl rv ic
  have bd : Bd (cxOf (CXk (k + 1) P w) P w K mg base N qual (defScope stm) f cdv B fr s H E) (wE E) k :=
    ⟨hr.deeper _, fun h => hgd (by omega), rfl, SC.nd, tkK_of (X := cxOf (CXk (k + 1) P w) P w K mg base N qual (defScope stm) f cdv B fr s H E) (E := E) (E₁ := fun e' s'' => CXk (k + 1) P w fr H s E e' s'') rfl rfl rfl rfl⟩
  have hown := passes_of (X := cxOf (CXk (k + 1) P w) P w K mg base N qual (defScope stm) f cdv B fr s H E) (K := fun e s'' => CXk (k + 1) P w fr H s E e s'') (E₁ := fun e' s'' => CXk (k + 1) P w fr H s E e' s'') rfl
  unfold fnD at q
  rw [if_pos hds] at q
  refine wpAny_mono ((hb cdv B fr s H E bd hown).run [] s1 (start N vs) H { nx := fun _ H' => Q .non H', rt := Q } I ⟨F, ι, rho0 N.length ds, st, S, REnv.start rs (by omega), body_end S q⟩) (fun fl s' hs => ?_) fun e s' hs => hs
  cases fl with
  | ret u =>
    obtain ⟨v, σ', H', J, r', qq⟩ := hs
    exact ⟨v, H', J.os, J.bare, J.base, J.hok, r', qq⟩
  | next =>
    obtain ⟨σ', H', J, qq⟩ := hs
    exact ⟨V.non, H', J.os, J.bare, J.base, J.hok, rfl, qq⟩
  | brk =>
    obtain ⟨_, _, _, qq⟩ := hs
    exact False.elim qq
  | cont =>
    obtain ⟨_, _, _, qq⟩ := hs
    exact False.elim qq
end
def varD (spec : List D → M D) : List D → M D := fun ds st => if ds.length ≤ SZ then spec [.tup ds] st else .bad
section
variable {X : Cx} {W : WX} {k j : Nat} {x : Str} {spec : List D → M D} {p pos : Pos} {e : Expr} {es : List Expr} {am : Rho → M (List D)}
theorem de_callV (B : Bd X W j) (C : FnCV X.prog X.w X.K X.mg X.base k x spec) (hk : k ≤ j) (hg : Gl X x) (ha : DA X W (e :: es) am) (hdb : (x == ("__debug__" : Str)) = false := by decide)
    (he : starEach (e :: es) X.env = (false, eval e X.env) :: starEach es X.env := by rfl) (hpl : (backTo pos (starEach es X.env)).any (·.1) = false := by rfl) : DE X W (.Call (.Name x p) (e :: es) [] pos) (mCall (varD spec) am) := by
  obtain ⟨f, fd, pn, y, qual, stm, F, Fn, hco, hgen, hm, kp, hb⟩ := C.ex
  refine ⟨fun pins s σ H Q I ⟨F0, ι, ρ, st, S, R, q⟩ => ?_⟩
  refine wpAny_Call_Name_kw (ld_glob I hg hm ?_ hdb)
  refine PySem.W.callWith_K (h₀ := X.base) I.ok.mod.kin kp (thn (ha.run pos pins s σ H (fun vs H1 => vs.length ≤ sizeLine ∧ ∀ (p : Addr) (o : Obj), o.dict = none → H1 p = none → spD X.K 1 spec [.ref p] (upd H1 p (.frz o (.tup vs))) Q (fun cls dd H' => W cls dd σ H')) I ?_) fun us s1 ⟨vs, H1, I1, r, z, qq⟩ => ⟨I1.kIn, ?_⟩) he hpl
  · refine tG_seq back_V S R q fun ds st1 F1 ι1 H1 vs x1 S1 R1 r1 q1 => ?_
    unfold varD at q1
    by_cases hz : ds.length ≤ SZ
    · rw [if_pos hz] at q1
      refine ⟨by rw [← Reps.length r1]; exact sz_le hz, fun p o ho hp => ?_⟩
      refine spD_of (S1.frozen hp trivial) (ds := [.tup ds]) ?_ rfl (post_ext back_V q1 (Ext.frozen hp S1.sub))
      simp only [Reps, Rep]
      exact ⟨_, _, rfl, ⟨p, vs, rfl, .inl ⟨o, ho, upd_same⟩, Reps.ext r1 (Ext.frozen (H := H1) hp S1.sub)⟩, rfl⟩
    · rw [if_neg hz] at q1
      exact q1.elim
  · have hr := B.room.mono hk
    obtain ⟨oc, od, kV, doc, pm, an, cdv, ct, osl, rfl, lk, hcd⟩ := Fn.ex
    have I2 := fin_tup (t' := s1.toks) (Q := fun v H2 => spD X.K 1 spec [v] H2 Q fun cls dd H' => W cls dd σ H') I1 r z qq
    obtain ⟨v2, H2, I2, rv2, sp2⟩ := I2
    have hzu : us.length ≤ sizeLine := by rw [← r.length]; exact z
    refine wpAny_call (codeAny_call_function hr.depth (I1.kIn _ _ lk) rfl hco hgen rfl (PySem.W.codeRec_of I1.kIn hcd) ?_)
    rw [show ([] ++ us : List Value) = us from rfl, hb us]
    refine wpAny_bind (wpAny_newTuple ?_ hzu)
    refine wpAny_pure ?_
    refine wpAny_mono (F X.A X.stack _ H2 [_] [v2] Q (fun cls dd H' => W cls dd σ H') hr (fun h => B.gd (by omega)) I2.env0 (.cons rv2 .nil) sp2) (fun env s2 ⟨h1, h2⟩ => ⟨h1, codeAny_mono h2 fun r s' hq => ?_⟩) fun e s' hq => passK (B.tk.mono hk) σ pins H2 _ e s' I2 hq
    cases r with
    | error y => exact passK (B.tk.mono hk) σ pins H2 _ y s' I2 hq
    | ok fl =>
      cases fl with
      | ret u => exact I2.after hq
      | next => exact False.elim hq
      | brk => exact False.elim hq
      | cont => exact False.elim hq
end
end Dn
namespace Dn
open PySem PySem.Spec PyProof.Rows L2
variable [HzC]
def sFz (i : Nat) (m : Rho → Sto → Fl) : Rho → Sto → Fl := fun ρ st => match ρ[i]? with
  | some (some (.ref l)) => match st[l]? with
    | some (.lst xs) => m (ρ.set i (some (.lst xs))) (st.set l .gone)
    | _ => .bad
  | _ => .bad
theorem REnv.set1 {K : PySem.W.Frag} {F : Hp} {ι : List Addr} {ρ : Rho} {σ : L2.St} (h : REnv K F ι ρ σ) {i : Nat} {d : D} {v : V} (hv : σ[i]? = some (some v)) (r : Rep K F ι d v) : REnv K F ι (ρ.set i (some d)) σ := by
  refine ⟨by simp [h.len], fun j e q => ?_⟩
  by_cases hj : i = j
  · subst hj
    have hl : i < ρ.length := by have := (List.getElem?_eq_some_iff.mp q).1; simpa using this
    rw [List.getElem?_set_self hl] at q
    cases q
    exact ⟨v, hv, r⟩
  · rw [List.getElem?_set_ne hj] at q
    exact h.at_ j e q
theorem fz_of {K : PySem.W.Frag} {W : WX} {i : Nat} {m : Rho → Sto → Fl} {E : Ends} {σ : L2.St} {H : Hp} (h : tS K W (sFz i m) E σ H) : tS K W m E σ H := by
  obtain ⟨F, ι, ρ, st, S, R, q⟩ := h
  unfold sFz at q
  split at q
  · rename_i l e
    split at q
    · rename_i xs e2
      obtain ⟨v, q0, r⟩ := R.at_ i _ e
      obtain ⟨a, vs, rfl, q1, q2, q3⟩ := S.mut r e2
      have x := Ext.retire S q1 q2
      refine ⟨_, ι, _, _, S.retire q1 q2, (R.ext x).set1 (d := .lst xs) q0 ?_, sPost_ext q x⟩
      simp only [Rep]
      exact ⟨a, vs, rfl, upd_same, Reps.ext q3 x⟩
    · exact q.elim
  · exact q.elim
theorem dss_fz {X : Cx} {W : WX} {ss : List Stmt} {i : Nat} {m : Rho → Sto → Fl} (h : DSs X W ss m) : DSs X W ss (sFz i m) := PSs.weak h fun _ _ _ q => fz_of q
end Dn
namespace Dn
open PySem PySem.Spec PyProof.Rows L2
section
variable {S α β γ : Type}
theorem rbind_assoc (r : Rs S α) (k : α → Mt S β) (l : β → Mt S γ) : rbind (rbind r k) l = rbind r fun a => mbind (k a) l := by
  induction r with
  | ok a s => rfl
  | exc x s => rfl
  | bad => rfl
  | amb P f ih => exact congrArg (Rs.amb P) (funext ih)
theorem rbind_ret (r : Rs S α) : rbind r mpure = r := by
  induction r with
  | ok a s => rfl
  | exc x s => rfl
  | bad => rfl
  | amb P f ih => exact congrArg (Rs.amb P) (funext ih)
theorem mbind_assoc (m : Mt S α) (k : α → Mt S β) (l : β → Mt S γ) : mbind (mbind m k) l = mbind m fun a => mbind (k a) l := by
  funext s
  exact rbind_assoc (m s) k l
theorem mbind_ret (m : Mt S α) : mbind m mpure = m := by
  funext s
  exact rbind_ret (m s)
end
def Sl.rd : Sl → Option MO
  | .mut m => some m
  | .bor m => some m
  | _ => none
section
variable {S : Type} {W : Wd S} {fr : Sto} {s s' : S} {Γ Γ' : List Sl} {ρ ρ' : Rho} {st st' st2 : Sto}
theorem Has.rd (h : Has W fr s Γ ρ st) (i : Nat) (m : MO) (e : (Γ[i]?).bind Sl.rd = some m) : ∃ l, ρ[i]? = some (some (.ref l)) ∧ ¬ W.own st l ∧ st[l]? = some m := by
  cases e1 : Γ[i]? with
  | none => rw [e1] at e; cases e
  | some a =>
    rw [e1, Option.bind_some] at e
    cases a with
    | any => cases e
    | val d => cases e
    | «mut» m' =>
      cases e
      obtain ⟨l, q1, q2, q3⟩ := h.mt i m e1
      exact ⟨l, q1, q2.2, q3⟩
    | bor m' =>
      cases e
      obtain ⟨l, q1, q2, q3⟩ := h.bo i m e1
      obtain ⟨a, b⟩ := h.pre.keep l (List.getElem?_eq_some_iff.mp q3).1 q2
      exact ⟨l, q1, a, b.trans q3⟩
theorem bor_set {Γ : List Sl} {ρ : Rho} {fr : Sto} {P : Nat → Prop} (h : ∀ (i : Nat) m, Γ[i]? = some (.bor m) → ∃ l, ρ[i]? = some (some (.ref l)) ∧ P l ∧ fr[l]? = some m) (i : Nat) (a : Sl) (o : Option D) (ha : ∀ m, a ≠ .bor m) : ∀ (j : Nat) m, (Γ.set i a)[j]? = some (.bor m) → ∃ l, (ρ.set i o)[j]? = some (some (.ref l)) ∧ P l ∧ fr[l]? = some m := fun j m e => by
  by_cases hj : i = j
  · subst hj
    have hl : i < Γ.length := by have := (List.getElem?_eq_some_iff.mp e).1; simpa using this
    rw [List.getElem?_set_self hl] at e
    exact absurd (Option.some.inj e) (ha m)
  · rw [List.getElem?_set_ne hj] at e ⊢
    exact h j m e
theorem Has.bound (h : Has W fr s Γ ρ st) : fr.length ≤ st.length := h.pre.long
theorem Has.setVal (h : Has W fr s Γ ρ st) (i : Nat) (d : D) : Has W fr s (Γ.set i (.val d)) (ρ.set i (some d)) st := by
  refine ⟨by simp [h.len], h.pre, fun j d' e => ?_, fun j m e => ?_, fun j k m1 m2 e1 e2 e3 => ?_, bor_set h.bo i _ _ (fun _ h => nomatch h)⟩
  · by_cases hj : i = j
    · subst hj
      have hl : i < Γ.length := by have := (List.getElem?_eq_some_iff.mp e).1; simpa using this
      rw [List.getElem?_set_self hl] at e
      cases e
      rw [List.getElem?_set_self (by rw [h.len]; exact hl)]
    · rw [List.getElem?_set_ne hj] at e ⊢
      exact h.val j d' e
  · have hj : i ≠ j := fun q => by
      subst q
      have hl : i < Γ.length := by have := (List.getElem?_eq_some_iff.mp e).1; simpa using this
      rw [List.getElem?_set_self hl] at e
      cases e
    rw [List.getElem?_set_ne hj] at e ⊢
    exact h.mt j m e
  · have key : ∀ (j : Nat) m, (Γ.set i (.val d))[j]? = some (.mut m) → i ≠ j := fun j m e q => by
      subst q
      have hl : i < Γ.length := by have := (List.getElem?_eq_some_iff.mp e).1; simpa using this
      rw [List.getElem?_set_self hl] at e
      cases e
    have h1 := key j m1 e1
    have h2 := key k m2 e2
    rw [List.getElem?_set_ne h1] at e1 e3
    rw [List.getElem?_set_ne h2] at e2 e3
    exact h.nal j k m1 m2 e1 e2 e3
theorem Has.setNew (h : Has W fr s Γ ρ st) (i : Nat) (m : MO) (hm : m.isIns = false := by rfl) : Has W fr s (Γ.set i (.mut m)) (ρ.set i (some (.ref st.length))) (st ++ [m]) := by
  have hb := h.bound
  have old : ∀ (j : Nat) m', Γ[j]? = some (.mut m') → ∃ l, ρ[j]? = some (some (.ref l)) ∧ l < st.length ∧ (fr.length ≤ l ∧ ¬ W.own st l) ∧ st[l]? = some m' := fun j m' e => by
    obtain ⟨l, q1, q2, q3⟩ := h.mt j m' e
    exact ⟨l, q1, (List.getElem?_eq_some_iff.mp q3).1, q2, q3⟩
  refine ⟨by simp [h.len], h.pre.grow _ (noIns1 hm), fun j d' e => ?_, fun j m' e => ?_, fun j k m1 m2 e1 e2 e3 => ?_, bor_set h.bo i _ _ (fun _ h => nomatch h)⟩
  · have hj : i ≠ j := fun q => by
      subst q
      have hl : i < Γ.length := by have := (List.getElem?_eq_some_iff.mp e).1; simpa using this
      rw [List.getElem?_set_self hl] at e
      cases e
    rw [List.getElem?_set_ne hj] at e ⊢
    exact h.val j d' e
  · by_cases hj : i = j
    · subst hj
      have hl : i < Γ.length := by have := (List.getElem?_eq_some_iff.mp e).1; simpa using this
      rw [List.getElem?_set_self hl] at e
      cases e
      exact ⟨st.length, by rw [List.getElem?_set_self (by rw [h.len]; exact hl)], ⟨hb, h.pre.fresh m hm⟩, by simp⟩
    · rw [List.getElem?_set_ne hj] at e ⊢
      obtain ⟨l, q1, q2, q3, q4⟩ := old j m' e
      exact ⟨l, q1, ⟨q3.1, fun q => q3.2 (W.ownG _ (noIns1 hm) h.pre.has q)⟩, by rw [List.getElem?_append_left q2]; exact q4⟩
  · by_cases hj : i = j
    · by_cases hk : i = k
      · rw [← hj, ← hk]
      · subst hj
        have hl : i < Γ.length := by have := (List.getElem?_eq_some_iff.mp e1).1; simpa using this
        rw [List.getElem?_set_self (by rw [h.len]; exact hl), List.getElem?_set_ne hk] at e3
        rw [List.getElem?_set_ne hk] at e2
        obtain ⟨l, q1, q2, _⟩ := old k m2 e2
        rw [q1] at e3
        injection e3 with e3
        injection e3 with e3
        injection e3 with e3
        omega
    · by_cases hk : i = k
      · subst hk
        have hl : i < Γ.length := by have := (List.getElem?_eq_some_iff.mp e2).1; simpa using this
        rw [List.getElem?_set_self (by rw [h.len]; exact hl), List.getElem?_set_ne hj] at e3
        rw [List.getElem?_set_ne hj] at e1
        obtain ⟨l, q1, q2, _⟩ := old j m1 e1
        rw [q1] at e3
        injection e3 with e3
        injection e3 with e3
        injection e3 with e3
        omega
      · rw [List.getElem?_set_ne hj] at e1 e3
        rw [List.getElem?_set_ne hk] at e2 e3
        exact h.nal j k m1 m2 e1 e2 e3
theorem Has.write (h : Has W fr s Γ ρ st) {i l : Nat} {m : MO} (m' : MO) (hi : Γ[i]? = some (.mut m)) (hl : ρ[i]? = some (some (.ref l))) (hm' : m'.isIns = false := by rfl) : Has W fr s (Γ.set i (.mut m')) ρ (st.set l m') := by
  obtain ⟨l', q1, q2, q3⟩ := h.mt i m hi
  rw [hl] at q1
  injection q1 with q1
  injection q1 with q1
  injection q1 with q1
  subst q1
  have hlt := (List.getElem?_eq_some_iff.mp q3).1
  have hil := (List.getElem?_eq_some_iff.mp hi).1
  refine ⟨by simp [h.len], h.pre.set m' hm' q2.1 q2.2, fun j d' e => ?_, fun j m2 e => ?_, fun j k m1 m2 e1 e2 e3 => ?_, fun j m2 e => by
    by_cases hj : i = j
    · subst hj
      rw [List.getElem?_set_self hil] at e
      cases e
    · rw [List.getElem?_set_ne hj] at e
      exact h.bo j m2 e⟩
  · by_cases hj : i = j
    · subst hj
      rw [List.getElem?_set_self hil] at e
      cases e
    · rw [List.getElem?_set_ne hj] at e
      exact h.val j d' e
  · have nown : ∀ k : Nat, ¬ W.own st k → ¬ W.own (st.set l m') k := fun k n q => n (W.ownS m' hm' h.pre.has q2.2 q)
    by_cases hj : i = j
    · subst hj
      rw [List.getElem?_set_self hil] at e
      cases e
      exact ⟨l, hl, ⟨q2.1, nown l q2.2⟩, by rw [List.getElem?_set_self hlt]⟩
    · rw [List.getElem?_set_ne hj] at e
      obtain ⟨k, p1, p2, p3⟩ := h.mt j m2 e
      refine ⟨k, p1, ⟨p2.1, nown k p2.2⟩, ?_⟩
      have hk : l ≠ k := fun q => by
        subst q
        exact hj (h.nal i j m m2 hi e (hl.trans p1.symm))
      rw [List.getElem?_set_ne hk]
      exact p3
  · have key : ∀ (j : Nat) m2, (Γ.set i (.mut m'))[j]? = some (.mut m2) → ∃ m3, Γ[j]? = some (.mut m3) := fun j m2 e => by
      by_cases hj : i = j
      · subst hj; exact ⟨m, hi⟩
      · rw [List.getElem?_set_ne hj] at e; exact ⟨m2, e⟩
    obtain ⟨n1, f1⟩ := key j m1 e1
    obtain ⟨n2, f2⟩ := key k m2 e2
    exact h.nal j k n1 n2 f1 f2 e3
theorem Has.wk (h : Has W fr s Γ ρ st) (w : Wk Γ Γ') : Has W fr s Γ' ρ st := by
  have g : ∀ (i : Nat) (a : Sl), Γ'[i]? = some a → a ≠ .any → Γ[i]? = some a := fun i a e n => (w.get i a e).resolve_left n
  exact ⟨h.len.trans w.len, h.pre, fun i d e => h.val i d (g i _ e (by simp)), fun i m e => h.mt i m (g i _ e (by simp)), fun i j m1 m2 e1 e2 => h.nal i j m1 m2 (g i _ e1 (by simp)) (g j _ e2 (by simp)), fun i m e => h.bo i m (g i _ e (by simp))⟩
end
section
variable {S : Type} (W : Wd S) (fr : Sto)
def HV {A : Type} (Γ : List Sl) (m : Rho → M A) (d : A) : Prop := ∀ s ρ st, Has W fr s Γ ρ st → m ρ st = .ok d st
def AC {A β : Type} (Γ : List Sl) (a : Rho → M (List D)) (F : List D → M A) (q : Mt S β) (enc : β → A) (Γ' : β → List Sl) : Prop := ∀ s ρ st, Has W fr s Γ ρ st → OR W fr Γ' ρ enc ((a ρ st).bind F) (q s)
def FO {β : Type} (st : Sto) (enc : β → D) (r : Out D) (q : Rs S β) : Prop := match q with
  | .ok b s' => ∃ st', r = .ok (enc b) st' ∧ Pre W st s' st'
  | .exc x s' => ∃ st', r = .exc x st' ∧ Pre W st s' st' ∧ x.pl
  | .bad => True
  | .amb P f => ∃ n, P n ∧ FO st enc r (f n)
def FN {β : Type} (d : List D → M D) (args : List D) (q : Mt S β) (enc : β → D) : Prop := ∀ (st : Sto) (s : S), W.has s st → FO W st enc (d args st) (q s)
end
section
variable {S : Type} {W : Wd S} {fr : Sto} {Γ Γ1 Γ2 : List Sl} {ρ : Rho}
theorem Out.bind_assoc {α β γ : Type} (r : Out α) (f : α → Sto → Out β) (g : β → Sto → Out γ) : (r.bind f).bind g = r.bind fun a st => (f a st).bind g := by cases r <;> rfl
theorem ht_ofV {A β : Type} {m : Rho → M A} {x : β} {enc : β → A} (h : HV W fr Γ m (enc x)) : HT W fr Γ m (mpure x) enc fun _ => Γ := fun s ρ st H => ⟨st, h s ρ st H, H⟩
theorem ac_nil {A β : Type} {F : List D → M A} {q : Mt S β} {enc : β → A} {Γ' : β → List Sl} (h : ∀ s ρ st, Has W fr s Γ ρ st → OR W fr Γ' ρ enc (F [] st) (q s)) : AC W fr Γ mNil F q enc Γ' := fun s ρ st H => h s ρ st H
theorem ac_ret {A β : Type} {F : List D → M A} {b : β} {enc : β → A} (h : ∀ st, F [] st = .ok (enc b) st) : AC W fr Γ mNil F (mpure b) enc fun _ => Γ := ac_nil fun s ρ st H => ⟨st, h st, H⟩
theorem ac_opt {A β : Type} {F : List D → M A} {o : Option β} {enc : β → A} (h : ∀ b, o = some b → ∀ st, F [] st = .ok (enc b) st) : AC W fr Γ mNil F (mopt o) enc fun _ => Γ := ac_nil fun s ρ st H => by
  cases o with
  | none => trivial
  | some b => exact ⟨st, h b rfl st, H⟩
theorem ac_if {A β : Type} {F : List D → M A} {c : Prop} [Decidable c] {b : β} {enc : β → A} (h : c → ∀ st, F [] st = .ok (enc b) st) : AC W fr Γ mNil F (if c then mpure b else mbad) enc fun _ => Γ := ac_nil fun s ρ st H => by
  by_cases hc : c
  · rw [if_pos hc]; exact ⟨st, h hc st, H⟩
  · rw [if_neg hc]; trivial
theorem ac_fn {β : Type} {F : List D → M D} {d : List D → M D} {args : List D} {q : Mt S β} {enc : β → D} (h : FN W d args q enc) (hF : F [] = d args := by rfl) : AC W fr Γ mNil F q enc fun _ => Γ := ac_nil fun s ρ st H => by
  have h := h st s H.pre.has
  rw [hF]
  revert h
  show FO W _ enc (d args st) (q s) → OR W fr _ ρ enc (d args st) (q s)
  generalize q s = r
  induction r with
  | ok b s' => rintro ⟨st', e, p⟩; exact ⟨st', e, H.call p⟩
  | exc x s' => rintro ⟨st', e, p, hx⟩; exact ⟨st', e, H.pre.trans p, hx⟩
  | bad => intro _; trivial
  | amb P_ f_ ih_ => rintro ⟨n_, p_, h_⟩; exact ⟨n_, p_, ih_ n_ h_⟩
theorem ac_V {A β : Type} {m : Rho → M D} {r : Rho → M (List D)} {F : List D → M A} {d : D} {q : Mt S β} {enc : β → A} {Γ' : β → List Sl} (h : HV W fr Γ m d) (hr : AC W fr Γ r (fun ds => F (d :: ds)) q enc Γ') : AC W fr Γ (mCons m r) F q enc Γ' := fun s ρ st H => by
  have := hr s ρ st H
  unfold mCons
  rw [h s ρ st H, Out.bind_ok, Out.bind_assoc]
  exact this
theorem ac_T {A β γ : Type} {m : Rho → M D} {r : Rho → M (List D)} {F : List D → M A} {q1 : Mt S γ} {e1 : γ → D} {Γ1 : γ → List Sl} {k : γ → Mt S β} {enc : β → A} {Γ' : β → List Sl} (h : HT W fr Γ m q1 e1 Γ1) (hr : ∀ x, AC W fr (Γ1 x) r (fun ds => F (e1 x :: ds)) (k x) enc Γ') : AC W fr Γ (mCons m r) F (mbind q1 k) enc Γ' := fun s ρ st H => by
  unfold mCons
  rw [Out.bind_assoc]
  refine OR.bind (h s ρ st H) fun b s1 st1 H1 => ?_
  rw [Out.bind_assoc]
  exact hr b s1 ρ st1 H1
theorem ac_star {A β γ : Type} {m : Rho → M D} {r : Rho → M (List D)} {F : List D → M A} {q1 : Mt S γ} {e1 : γ → D} {xs : γ → List D} {Γ1 : γ → List Sl} {k : γ → Mt S β} {enc : β → A} {Γ' : β → List Sl} (h : HT W fr Γ m q1 e1 Γ1) (hs : ∀ x st, seqOf st (e1 x) = some (xs x))
    (hr : ∀ x, AC W fr (Γ1 x) r (fun ds => F (xs x ++ ds)) (k x) enc Γ') : AC W fr Γ (mStar m r) F (mbind q1 k) enc Γ' := fun s ρ st H => by
  unfold mStar
  rw [Out.bind_assoc]
  refine OR.bind (h s ρ st H) fun b s1 st1 H1 => ?_
  rw [hs b st1]
  dsimp only
  rw [Out.bind_assoc]
  exact hr b s1 ρ st1 H1
theorem ac_starV {A β : Type} {m : Rho → M D} {r : Rho → M (List D)} {F : List D → M A} {d : D} {xs : List D} {q : Mt S β} {enc : β → A} {Γ' : β → List Sl} (h : HV W fr Γ m d) (hs : ∀ st, seqOf st d = some xs)
    (hr : AC W fr Γ r (fun ds => F (xs ++ ds)) q enc Γ') : AC W fr Γ (mStar m r) F q enc Γ' := fun s ρ st H => by
  have := hr s ρ st H
  unfold mStar
  rw [h s ρ st H, Out.bind_ok, hs st]
  dsimp only
  rw [Out.bind_assoc]
  exact this
theorem hv_nil : HV W fr Γ mNil [] := fun _ _ _ _ => rfl
theorem hv_cons {m : Rho → M D} {r : Rho → M (List D)} {d : D} {ds : List D} (h : HV W fr Γ m d) (hr : HV W fr Γ r ds) : HV W fr Γ (mCons m r) (d :: ds) := fun s ρ st H => by
  unfold mCons
  rw [h s ρ st H, Out.bind_ok, hr s ρ st H, Out.bind_ok]
def F2L (p : Sto → D → D → Option (List D)) : List D → M (List D) := fun ds st => match ds with
  | [a, b] => lift (p st a b) st
  | _ => .bad
def FB {A : Type} (p : Sto → List D → Option A) : List D → M A := fun ds st => lift (p st ds) st
def FTup : List D → M D := fun xs st => if xs.length ≤ 100000 then .ok (.tup xs) st else .bad
def FDisp : List D → M (List D) := fun xs st => if xs.length ≤ 100000 then .ok xs st else .bad
section
variable {β : Type} {m1 m2 : Rho → M D} {a : Rho → M (List D)} {q : Mt S β} {Γ' : β → List Sl}
theorem ht_op {p : Sto → D → D → Option D} {enc : β → D} (h : AC W fr Γ (mCons m1 (mCons m2 mNil)) (F2 p) q enc Γ') : HT W fr Γ (mOp p m1 m2) q enc Γ' := fun s ρ st H => by
  have := h s ρ st H
  unfold mCons mNil at this
  simp only [Out.bind_assoc, Out.bind_ok] at this
  exact this
theorem ht_opL {p : Sto → D → D → Option (List D)} {enc : β → List D} (h : AC W fr Γ (mCons m1 (mCons m2 mNil)) (F2L p) q enc Γ') : HT W fr Γ (lOp p m1 m2) q enc Γ' := fun s ρ st H => by
  have := h s ρ st H
  unfold mCons mNil at this
  simp only [Out.bind_assoc, Out.bind_ok] at this
  exact this
theorem ht_b {p : Sto → List D → Option D} {enc : β → D} (h : AC W fr Γ a (FB p) q enc Γ') : HT W fr Γ (mB p a) q enc Γ' := h
theorem ht_bL {p : Sto → List D → Option (List D)} {enc : β → List D} (h : AC W fr Γ a (FB p) q enc Γ') : HT W fr Γ (lB p a) q enc Γ' := h
theorem ht_call {d : List D → M D} {enc : β → D} (h : AC W fr Γ a d q enc Γ') : HT W fr Γ (mCall d a) q enc Γ' := h
theorem ht_tup {enc : β → D} (h : AC W fr Γ a FTup q enc Γ') : HT W fr Γ (mTup a) q enc Γ' := h
theorem ht_disp {enc : β → List D} (h : AC W fr Γ a FDisp q enc Γ') : HT W fr Γ (lDisp a) q enc Γ' := h
theorem ht_frz {l : Rho → M (List D)} {enc : β → List D} (h : HT W fr Γ l q enc Γ') : HT W fr Γ (mFrz l) q (fun x => .lst (enc x)) Γ' := fun s ρ st H => by
  have := h s ρ st H
  unfold mFrz
  revert this
  induction (q s) with
  | ok b s' => rintro ⟨st', e, h2⟩; exact ⟨st', by rw [e]; rfl, h2⟩
  | exc x s' => rintro ⟨st', e, h2⟩; exact ⟨st', by rw [e]; rfl, h2⟩
  | bad => intro _; trivial
  | amb P_ f_ ih_ => rintro ⟨n_, p_, h_⟩; exact ⟨n_, p_, ih_ n_ h_⟩
theorem ht_isB {m : Rho → M D} {q : Mt S Bool} {Γ' : Bool → List Sl} (h : HT W fr Γ m q .bl Γ') : HT W fr Γ (isB m) q id Γ' := fun s ρ st H => by
  have := h s ρ st H
  unfold isB
  revert this
  induction (q s) with
  | ok b s' => rintro ⟨st', e, h2⟩; exact ⟨st', by rw [e]; rfl, h2⟩
  | exc x s' => rintro ⟨st', e, h2⟩; exact ⟨st', by rw [e]; rfl, h2⟩
  | bad => intro _; trivial
  | amb P_ f_ ih_ => rintro ⟨n_, p_, h_⟩; exact ⟨n_, p_, ih_ n_ h_⟩
theorem ht_tru {m : Rho → M D} {enc : β → D} {f : β → Bool} (h : HT W fr Γ m q enc fun _ => Γ) (hf : ∀ x st, (enc x).truth st = some (f x)) : HT W fr Γ (mTru m) (mbind q fun x => mpure (f x)) id fun _ => Γ := fun s ρ st H => by
  unfold mTru
  refine OR.bind (h s ρ st H) fun b s1 st1 H1 => ?_
  rw [hf b st1]
  exact ⟨st1, rfl, H1⟩
theorem ht_and {t1 t2 : Rho → M Bool} {q1 q2 : Mt S Bool} (h1 : HT W fr Γ t1 q1 id fun _ => Γ) (h2 : HT W fr Γ t2 q2 id fun _ => Γ) : HT W fr Γ (bAnd t1 t2) (mbind q1 fun b => if b = true then q2 else mpure false) id fun _ => Γ := fun s ρ st H => by
  unfold bAnd
  refine OR.bind (h1 s ρ st H) fun b s1 st1 H1 => ?_
  cases b
  · exact ⟨st1, rfl, H1⟩
  · exact h2 s1 ρ st1 H1
theorem ht_or {t1 t2 : Rho → M Bool} {q1 q2 : Mt S Bool} (h1 : HT W fr Γ t1 q1 id fun _ => Γ) (h2 : HT W fr Γ t2 q2 id fun _ => Γ) : HT W fr Γ (bOr t1 t2) (mbind q1 fun b => if b = true then mpure true else q2) id fun _ => Γ := fun s ρ st H => by
  unfold bOr
  refine OR.bind (h1 s ρ st H) fun b s1 st1 H1 => ?_
  cases b
  · exact h2 s1 ρ st1 H1
  · exact ⟨st1, rfl, H1⟩
theorem ht_not {t1 : Rho → M Bool} {q1 : Mt S Bool} (h1 : HT W fr Γ t1 q1 id fun _ => Γ) : HT W fr Γ (bNot t1) (mbind q1 fun b => mpure (!b)) id fun _ => Γ := fun s ρ st H => by
  unfold bNot
  refine OR.bind (h1 s ρ st H) fun b s1 st1 H1 => ⟨st1, rfl, H1⟩
theorem ht_if {t : Rho → M Bool} {qt : Mt S Bool} {qa qb : Mt S β} {enc : β → D} (ht : HT W fr Γ t qt id fun _ => Γ) (h1 : HT W fr Γ m1 qa enc fun _ => Γ) (h2 : HT W fr Γ m2 qb enc fun _ => Γ) : HT W fr Γ (mIf t m1 m2) (mbind qt fun c => if c = true then qa else qb) enc fun _ => Γ := fun s ρ st H => by
  unfold mIf
  refine OR.bind (ht s ρ st H) fun b s1 st1 H1 => ?_
  cases b
  · exact h2 s1 ρ st1 H1
  · exact h1 s1 ρ st1 H1
theorem ht_andV {q1 q2 : Mt S Bool} (h1 : HT W fr Γ m1 q1 .bl fun _ => Γ) (h2 : HT W fr Γ m2 q2 .bl fun _ => Γ) : HT W fr Γ (mAndV m1 m2) (mbind q1 fun b => if b = true then q2 else mpure false) .bl fun _ => Γ := fun s ρ st H => by
  unfold mAndV
  refine OR.bind (h1 s ρ st H) fun b s1 st1 H1 => ?_
  cases b
  · exact ⟨st1, rfl, H1⟩
  · exact h2 s1 ρ st1 H1
end
theorem hv_lit {d : D} : HV W fr Γ (mLit d) d := fun _ _ _ _ => rfl
theorem hv_var {i : Nat} {d : D} (h : Γ[i]? = some (.val d)) : HV W fr Γ (mVar i) d := fun s ρ st H => by
  unfold mVar
  rw [H.val i d h]
theorem hv_op {p : Sto → D → D → Option D} {m1 m2 : Rho → M D} {d1 d2 d : D} (h1 : HV W fr Γ m1 d1) (h2 : HV W fr Γ m2 d2) (h : ∀ st, p st d1 d2 = some d) : HV W fr Γ (mOp p m1 m2) d := fun s ρ st H => by
  unfold mOp
  rw [h1 s ρ st H, Out.bind_ok, h2 s ρ st H, Out.bind_ok, h st, lift_some]
theorem hv_opM1 {p : Sto → D → D → Option D} {i : Nat} {xs : List D} {m2 : Rho → M D} {d2 d : D} (h1 : (Γ[i]?).bind Sl.rd = some (.lst xs)) (h2 : HV W fr Γ m2 d2) (hd : ∀ st l, st[l]? = some (.lst xs) → p st (.ref l) d2 = p st (.lst xs) d2) (h : ∀ st, p st (.lst xs) d2 = some d) : HV W fr Γ (mOp p (mVar i) m2) d := fun s ρ st H => by
  obtain ⟨l, q1, q2, q3⟩ := H.rd i _ h1
  have e : mVar i ρ st = .ok (.ref l) st := by unfold mVar; rw [q1]
  unfold mOp
  rw [e, Out.bind_ok, h2 s ρ st H, Out.bind_ok, hd st l q3, h st, lift_some]
theorem hv_b {A : Type} {p : Sto → List D → Option D} {a : Rho → M (List D)} {ds : List D} {d : D} (h1 : HV W fr Γ a ds) (h : ∀ st, p st ds = some d) : HV W fr Γ (mB p a) d := fun s ρ st H => by
  unfold mB
  rw [h1 s ρ st H, Out.bind_ok, h st, lift_some]
theorem hv_bM {p : Sto → List D → Option D} {i : Nat} {xs : List D} {d : D} (h1 : (Γ[i]?).bind Sl.rd = some (.lst xs)) (hd : ∀ st l, st[l]? = some (.lst xs) → p st [.ref l] = p st [.lst xs]) (h : ∀ st, p st [.lst xs] = some d) : HV W fr Γ (mB p (mCons (mVar i) mNil)) d := fun s ρ st H => by
  obtain ⟨l, q1, q2, q3⟩ := H.rd i _ h1
  have e : mVar i ρ st = .ok (.ref l) st := by unfold mVar; rw [q1]
  unfold mB mCons mNil
  simp only [e, Out.bind_ok, hd st l q3, h st, lift_some]
theorem hv_frz {l : Rho → M (List D)} {ds : List D} (h : HV W fr Γ l ds) : HV W fr Γ (mFrz l) (.lst ds) := fun s ρ st H => by
  unfold mFrz
  rw [h s ρ st H, Out.bind_ok]
theorem hv_tup {a : Rho → M (List D)} {ds : List D} (h : HV W fr Γ a ds) (hl : ds.length ≤ 100000) : HV W fr Γ (mTup a) (.tup ds) := fun s ρ st H => by
  unfold mTup
  rw [h s ρ st H, Out.bind_ok, if_pos hl]
theorem hv_disp {a : Rho → M (List D)} {ds : List D} (h : HV W fr Γ a ds) (hl : ds.length ≤ 100000) : HV W fr Γ (lDisp a) ds := fun s ρ st H => by
  unfold lDisp
  rw [h s ρ st H, Out.bind_ok, if_pos hl]
theorem hv_isB {m : Rho → M D} {b : Bool} (h : HV W fr Γ m (.bl b)) : HV W fr Γ (isB m) b := fun s ρ st H => by
  unfold isB
  rw [h s ρ st H, Out.bind_ok]
theorem hv_and {t1 t2 : Rho → M Bool} {b1 b2 : Bool} (h1 : HV W fr Γ t1 b1) (h2 : HV W fr Γ t2 b2) : HV W fr Γ (bAnd t1 t2) (b1 && b2) := fun s ρ st H => by
  unfold bAnd
  rw [h1 s ρ st H, Out.bind_ok]
  cases b1
  · rfl
  · exact h2 s ρ st H
theorem hv_oNone : HV W fr Γ oNone none := fun _ _ _ _ => rfl
theorem hv_oSome {m : Rho → M D} {i : Int} (h : HV W fr Γ m (.int i)) : HV W fr Γ (oSome m) (some i) := fun s ρ st H => by
  unfold oSome
  rw [h s ρ st H, Out.bind_ok]
end
end Dn
namespace Dn
open PySem PySem.Spec PyProof.Rows L2
section
variable {S α β σ τ : Type}
def forU (body : α → σ → Mt S σ) : List α → σ → Mt S σ
  | [], z => mpure z
  | x :: xs, z => mbind (body x z) fun z' => forU body xs z'
def forX (body : α → σ → Mt S (Lp σ β)) : List α → σ → Mt S (σ ⊕ β)
  | [], z => mpure (.inl z)
  | x :: xs, z => mbind (body x z) fun r => match r with
    | .nx z' => forX body xs z'
    | .bk z' => mpure (.inl z')
    | .rt b => mpure (.inr b)
def whileU (c : σ → Mt S Bool) (body : σ → Mt S σ) : Nat → σ → Mt S σ
  | 0, _ => mbad
  | n + 1, z => mbind (c z) fun b => if b = true then mbind (body z) fun z' => whileU c body n z' else mpure z
end
section
variable {S : Type} (W : Wd S) (fr : Sto)
def LR {σ β : Type} (J : σ → List Sl) (enc : β → D) (r : Fl) (q : Rs S (Lp σ β)) : Prop := match q with
  | .ok (.nx z) s' => ∃ ρ' st', (r = .next ρ' st' ∨ r = .cnt ρ' st') ∧ Has W fr s' (J z) ρ' st'
  | .ok (.bk z) s' => ∃ ρ' st', r = .brk ρ' st' ∧ Has W fr s' (J z) ρ' st'
  | .ok (.rt b) s' => ∃ st', r = .ret (enc b) st' ∧ Pre W fr s' st'
  | .exc x s' => ∃ ρ' st', r = .exc x ρ' st' ∧ Pre W fr s' st' ∧ x.pl
  | .bad => True
  | .amb P f => ∃ n, P n ∧ LR J enc r (f n)
def TL {σ β : Type} (Γ : List Sl) (m : Rho → Sto → Fl) (q : Mt S (Lp σ β)) (J : σ → List Sl) (enc : β → D) : Prop := ∀ s ρ st, Has W fr s Γ ρ st → LR W fr J enc (m ρ st) (q s)
def XR {σ β : Type} (J : σ → List Sl) (enc : β → D) (r : Fl) (q : Rs S (Lp σ β)) : Prop := match q with
  | .ok (.nx z) s' => ∃ ρ' st', r = .cnt ρ' st' ∧ Has W fr s' (J z) ρ' st'
  | .ok (.bk z) s' => ∃ ρ' st', r = .brk ρ' st' ∧ Has W fr s' (J z) ρ' st'
  | .ok (.rt b) s' => ∃ st', r = .ret (enc b) st' ∧ Pre W fr s' st'
  | .exc x s' => ∃ ρ' st', r = .exc x ρ' st' ∧ Pre W fr s' st' ∧ x.pl
  | .bad => True
  | .amb P f => ∃ n, P n ∧ XR J enc r (f n)
def TX {σ β : Type} (Γ : List Sl) (m : Rho → Sto → Fl) (q : Mt S (Lp σ β)) (J : σ → List Sl) (enc : β → D) : Prop := ∀ s ρ st, Has W fr s Γ ρ st → XR W fr J enc (m ρ st) (q s)
def GT1 (Γ : List Sl) (gf : D → Rho → M Rho) (d : D) (Γ' : List Sl) (js : List Nat) : Prop := ∀ s ρ st, Has W fr s Γ ρ st → ∃ ρ', gf d ρ st = .ok ρ' st ∧ Has W fr s Γ' ρ' st ∧ ∀ j, j ∉ js → ρ'[j]? = ρ[j]?
def GTs (Γ : List Sl) (gs : List D → Rho → M Rho) (ds : List D) (Γ' : List Sl) (js : List Nat) : Prop := ∀ s ρ st, Has W fr s Γ ρ st → ∃ ρ', gs ds ρ st = .ok ρ' st ∧ Has W fr s Γ' ρ' st ∧ ∀ j, j ∉ js → ρ'[j]? = ρ[j]?
end
section
variable {S : Type} {W : Wd S} {fr : Sto} {Γ Γ1 Γ2 : List Sl}
theorem gt1_N (i : Nat) (d : D) : GT1 W fr Γ (gN i) d (Γ.set i (.val d)) [i] := fun s ρ st H => ⟨_, rfl, H.setVal i d, fun j hj => by
  rw [List.getElem?_set_ne (fun q => hj (by simp [q]))]⟩
theorem gts_nil : GTs W fr Γ gsNil [] Γ [] := fun s ρ st H => ⟨ρ, rfl, H, fun _ _ => rfl⟩
theorem gts_cons {g : D → Rho → M Rho} {gs : List D → Rho → M Rho} {d : D} {ds : List D} {j1 j2 : List Nat} (h1 : GT1 W fr Γ g d Γ1 j1) (h2 : GTs W fr Γ1 gs ds Γ2 j2) : GTs W fr Γ (gsCons g gs) (d :: ds) Γ2 (j1 ++ j2) := fun s ρ st H => by
  obtain ⟨ρ1, e1, H1, k1⟩ := h1 s ρ st H
  obtain ⟨ρ2, e2, H2, k2⟩ := h2 s ρ1 st H1
  refine ⟨ρ2, ?_, H2, fun j hj => ?_⟩
  · show (g d ρ st).bind (fun r s1 => gs ds r s1) = _
    rw [e1]
    exact e2
  · rw [k2 j fun q => hj (List.mem_append_right _ q), k1 j fun q => hj (List.mem_append_left _ q)]
theorem gt1_T {n : Nat} {gs : List D → Rho → M Rho} {ds : List D} {js : List Nat} (h : GTs W fr Γ gs ds Γ1 js) (hn : ds.length = n) : GT1 W fr Γ (gT n gs) (.tup ds) Γ1 js := fun s ρ st H => by
  have e : gT n gs (.tup ds) ρ st = gs ds ρ st := by
    show (if ds.length = n then gs ds ρ st else .bad) = _
    rw [if_pos hn]
  rw [e]
  exact h s ρ st H
theorem tn_map {σ τ : Type} {m : Rho → Sto → Fl} {q : Mt S σ} {J : σ → List Sl} {J' : τ → List Sl} {f : σ → τ} (h : TN W fr Γ m q J) (w : ∀ z, Wk (J z) (J' (f z))) : TN W fr Γ m (mbind q fun z => mpure (f z)) J' := fun s ρ st H => by
  have := h s ρ st H
  revert this
  show NR W fr J _ _ → NR W fr J' _ (rbind (q s) _)
  induction (q s) with
  | ok z s' => rintro ⟨ρ', st', e, h2⟩; exact ⟨ρ', st', e, h2.wk (w z)⟩
  | exc x s' => exact id
  | bad => exact id
  | amb P_ f_ ih_ => rintro ⟨n_, p_, h_⟩; exact ⟨n_, p_, ih_ n_ h_⟩
theorem tn_seq {σ τ : Type} {m1 m2 : Rho → Sto → Fl} {q : Mt S σ} {J : σ → List Sl} {k : σ → Mt S τ} {J' : τ → List Sl} (h1 : TN W fr Γ m1 q J) (h2 : ∀ z, TN W fr (J z) m2 (k z) J') : TN W fr Γ (sSeq m1 m2) (mbind q k) J' := fun s ρ st H => by
  have := h1 s ρ st H
  unfold sSeq
  revert this
  show NR W fr J _ _ → NR W fr J' _ (rbind (q s) _)
  induction (q s) with
  | ok z s' => rintro ⟨ρ', st', e, h3⟩; rw [e]; exact h2 z s' ρ' st' h3
  | exc x s' => rintro ⟨ρ', st', e, h3⟩; rw [e]; exact ⟨ρ', st', rfl, h3⟩
  | bad => intro _; trivial
  | amb P_ f_ ih_ => rintro ⟨n_, p_, h_⟩; exact ⟨n_, p_, ih_ n_ h_⟩
theorem tn_asg {β : Type} {i : Nat} {m : Rho → M D} {q : Mt S β} {enc : β → D} {Γ' : β → List Sl} (h : HT W fr Γ m q enc Γ') : TN W fr Γ (sAsg (gN i) m) q fun x => (Γ' x).set i (.val (enc x)) := fun s ρ st H => by
  have := OR.fl (J := fun x => (Γ' x).set i (.val (enc x))) (f := fun d st1 => (nox (gN i d ρ st1)).fl ρ fun ρ2 st2 => .next ρ2 st2) (k := mpure) (h s ρ st H) fun b s1 st1 H1 => ⟨_, st1, rfl, H1.setVal i (enc b)⟩
  have e : rbind (q s) mpure = q s := congrFun (mbind_ret q) s
  rw [e] at this
  exact this
theorem tn_new {β : Type} {i : Nat} {l : Rho → M (List D)} {q : Mt S β} {enc : β → List D} {Γ' : β → List Sl} (h : HT W fr Γ l q enc Γ') : TN W fr Γ (sAsg (gN i) (mNew l)) q fun x => (Γ' x).set i (.mut (.lst (enc x))) := fun s ρ st H => by
  have := OR.fl (J := fun x => (Γ' x).set i (.mut (.lst (enc x)))) (f := fun xs st1 => .next (ρ.set i (some (.ref st1.length))) (st1 ++ [.lst xs])) (k := mpure) (h s ρ st H) fun b s1 st1 H1 => ⟨_, _, rfl, H1.setNew i _⟩
  have e : rbind (q s) mpure = q s := congrFun (mbind_ret q) s
  rw [e] at this
  have e2 : sAsg (gN i) (mNew l) ρ st = (l ρ st).fl ρ fun xs st1 => .next (ρ.set i (some (.ref st1.length))) (st1 ++ [.lst xs]) := by
    unfold sAsg mNew
    cases l ρ st <;> rfl
  rw [e2]
  exact this
theorem tn_drop {β : Type} {m : Rho → M D} {q : Mt S β} {enc : β → D} {Γ' : β → List Sl} (h : HT W fr Γ m q enc Γ') : TN W fr Γ (sDrop m) q Γ' := fun s ρ st H => by
  have := OR.fl (J := Γ') (f := fun _ st1 => .next ρ st1) (k := mpure) (h s ρ st H) fun b s1 st1 H1 => ⟨_, st1, rfl, H1⟩
  have e : rbind (q s) mpure = q s := congrFun (mbind_ret q) s
  rw [e] at this
  exact this
theorem tn_if {σ : Type} {t : Rho → M Bool} {a b : Rho → Sto → Fl} {qt : Mt S Bool} {qa qb : Mt S σ} {J : σ → List Sl} {Γ' : Bool → List Sl} (ht : HT W fr Γ t qt id Γ') (ha : TN W fr (Γ' true) a qa J) (hb : TN W fr (Γ' false) b qb J) : TN W fr Γ (sIf t a b) (mbind qt fun c => if c = true then qa else qb) J := fun s ρ st H => by
  refine OR.fl (f := fun c st1 => if c = true then a ρ st1 else b ρ st1) (ht s ρ st H) fun c s1 st1 H1 => ?_
  cases c
  · exact hb s1 ρ st1 H1
  · exact ha s1 ρ st1 H1
def AP {σ : Type} (W : Wd S) (fr : Sto) (Γ : List Sl) (pd : List (D × Sl)) (a : Rho → M (List D)) (F : Rho → List D → Sto → Fl) (q : Mt S σ) (J : σ → List Sl) : Prop := ∀ s ρ st, Has W fr s (Γ ++ pd.map (·.2)) (ρ ++ pd.map fun p => some p.1) st → ρ.length = Γ.length → NR W fr J ((a ρ st).fl ρ (F ρ)) (q s)
theorem Has.front {s : S} {Γ Γ' : List Sl} {ρ ρ' : Rho} {st : Sto} (h : Has W fr s (Γ ++ Γ') (ρ ++ ρ') st) (hl : ρ.length = Γ.length) : Has W fr s Γ ρ st := by
  have g : ∀ (i : Nat) a, Γ[i]? = some a → (Γ ++ Γ')[i]? = some a ∧ (ρ ++ ρ')[i]? = ρ[i]? := fun i a e => by
    have hi := (List.getElem?_eq_some_iff.mp e).1
    exact ⟨by rw [List.getElem?_append_left hi]; exact e, by rw [List.getElem?_append_left (by omega)]⟩
  refine ⟨hl, h.pre, fun i d e => ?_, fun i m e => ?_, fun i j m1 m2 e1 e2 e3 => ?_, fun i m e => ?_⟩
  · rw [← (g i _ e).2]; exact h.val i d (g i _ e).1
  · rw [← (g i _ e).2]; exact h.mt i m (g i _ e).1
  · exact h.nal i j m1 m2 (g i _ e1).1 (g j _ e2).1 (by rw [(g i _ e1).2, (g j _ e2).2]; exact e3)
  · rw [← (g i _ e).2]; exact h.bo i m (g i _ e).1
theorem Has.snocVal {s : S} {Γ : List Sl} {ρ : Rho} {st : Sto} (h : Has W fr s Γ ρ st) (d : D) : Has W fr s (Γ ++ [.val d]) (ρ ++ [some d]) st := by
  have h2 : Has W fr s (Γ ++ [Sl.any]) (ρ ++ [some d]) st := by
    have g : ∀ (i : Nat) a, (Γ ++ [Sl.any])[i]? = some a → a ≠ .any → Γ[i]? = some a ∧ (ρ ++ [some d])[i]? = ρ[i]? := fun i a e n => by
      by_cases hi : i < Γ.length
      · rw [List.getElem?_append_left hi] at e
        exact ⟨e, by rw [List.getElem?_append_left (by rw [h.len]; exact hi)]⟩
      · rw [List.getElem?_append_right (by omega)] at e
        have := List.mem_of_getElem? e
        exact absurd (by simpa using this) n
    refine ⟨by simp [h.len], h.pre, fun i d e => ?_, fun i m e => ?_, fun i j m1 m2 e1 e2 e3 => ?_, fun i m e => ?_⟩
    · rw [(g i _ e (by simp)).2]; exact h.val i d (g i _ e (by simp)).1
    · rw [(g i _ e (by simp)).2]; exact h.mt i m (g i _ e (by simp)).1
    · exact h.nal i j m1 m2 (g i _ e1 (by simp)).1 (g j _ e2 (by simp)).1 (by rw [← (g i _ e1 (by simp)).2, ← (g j _ e2 (by simp)).2]; exact e3)
    · rw [(g i _ e (by simp)).2]; exact h.bo i m (g i _ e (by simp)).1
  have := h2.setVal Γ.length d
  rw [List.set_append_right _ _ (Nat.le_refl _), List.set_append_right _ _ (by rw [h.len]; exact Nat.le_refl _), h.len, Nat.sub_self] at this
  exact this
theorem Has.snocNew {s : S} {Γ : List Sl} {ρ : Rho} {st : Sto} (h : Has W fr s Γ ρ st) (m : MO) (hm : m.isIns = false := by rfl) : Has W fr s (Γ ++ [.mut m]) (ρ ++ [some (.ref st.length)]) (st ++ [m]) := by
  have := (h.snocVal .non).setNew Γ.length m hm
  rw [List.set_append_right _ _ (Nat.le_refl _), List.set_append_right _ _ (by rw [h.len]; exact Nat.le_refl _), h.len, Nat.sub_self] at this
  exact this
theorem ap_T {σ γ : Type} {m : Rho → M D} {r : Rho → M (List D)} {F : Rho → List D → Sto → Fl} {q1 : Mt S γ} {e1 : γ → D} {Γ1 : γ → List Sl} {k : γ → Mt S σ} {J : σ → List Sl} (h : HT W fr Γ m q1 e1 Γ1)
    (hl : ∀ x, (Γ1 x).length = Γ.length) (hr : ∀ x, AP W fr (Γ1 x) [(e1 x, .val (e1 x))] r (fun ρ ds => F ρ (e1 x :: ds)) (k x) J) : AP W fr Γ [] (mCons m r) F (mbind q1 k) J := fun s ρ st H hρ => by
  rw [List.map_nil, List.map_nil, List.append_nil, List.append_nil] at H
  have e : (mCons m r ρ st).fl ρ (F ρ) = (m ρ st).fl ρ fun d st1 => (r ρ st1).fl ρ fun ds st2 => F ρ (d :: ds) st2 := by
    unfold mCons
    cases m ρ st with
    | ok d st1 => simp only [Out.bind_ok, Out.fl_ok]; cases r ρ st1 <;> rfl
    | exc _ _ => rfl
    | bad => rfl
  rw [e]
  exact OR.fl (h s ρ st H) fun b s1 st1 H1 => hr b s1 ρ st1 (H1.snocVal _) (by rw [hl]; exact hρ)
theorem ap_V {σ : Type} {pd : List (D × Sl)} {m : Rho → M D} {r : Rho → M (List D)} {F : Rho → List D → Sto → Fl} {d : D} {q : Mt S σ} {J : σ → List Sl} (h : HV W fr Γ m d)
    (hr : AP W fr Γ (pd ++ [(d, .val d)]) r (fun ρ ds => F ρ (d :: ds)) q J) : AP W fr Γ pd (mCons m r) F q J := fun s ρ st H hρ => by
  have e : (mCons m r ρ st).fl ρ (F ρ) = (r ρ st).fl ρ fun ds st2 => F ρ (d :: ds) st2 := by
    unfold mCons
    rw [h s ρ st (H.front hρ), Out.bind_ok]
    cases r ρ st <;> rfl
  rw [e]
  refine hr s ρ st ?_ hρ
  have := H.snocVal d
  rw [List.append_assoc, List.append_assoc] at this
  rw [List.map_append, List.map_append]
  exact this
theorem ap_New {σ : Type} {pd : List (D × Sl)} {l : Rho → M (List D)} {r : Rho → M (List D)} {F : Rho → List D → Sto → Fl} {xs : List D} {q : Mt S σ} {J : σ → List Sl} (h : HV W fr Γ l xs)
    (hr : ∀ a, AP W fr Γ (pd ++ [(.ref a, .mut (.lst xs))]) r (fun ρ ds => F ρ (.ref a :: ds)) q J) : AP W fr Γ pd (mCons (mNew l) r) F q J := fun s ρ st H hρ => by
  have e : (mCons (mNew l) r ρ st).fl ρ (F ρ) = (r ρ (st ++ [.lst xs])).fl ρ fun ds st2 => F ρ (.ref st.length :: ds) st2 := by
    unfold mCons mNew
    rw [h s ρ st (H.front hρ), Out.bind_ok, Out.bind_ok]
    cases r ρ (st ++ [.lst xs]) <;> rfl
  rw [e]
  refine hr st.length s ρ _ ?_ hρ
  have := H.snocNew (.lst xs)
  rw [List.append_assoc, List.append_assoc] at this
  rw [List.map_append, List.map_append]
  exact this
theorem ap_fin {σ : Type} {pd : List (D × Sl)} {F : Rho → List D → Sto → Fl} {z : σ} {J : σ → List Sl} (h : ∀ s ρ st, Has W fr s (Γ ++ pd.map (·.2)) (ρ ++ pd.map fun p => some p.1) st → ρ.length = Γ.length → ∃ ρ', F ρ [] st = .next ρ' st ∧ Has W fr s (J z) ρ' st) : AP W fr Γ pd mNil F (mpure z) J := fun s ρ st H hρ => by
  obtain ⟨ρ', e, h2⟩ := h s ρ st H hρ
  exact ⟨ρ', st, e, h2⟩
def FPar (i j : Nat) : Rho → List D → Sto → Fl := fun ρ ds st1 => match ds with
  | [x, y] => .next ((ρ.set i (some x)).set j (some y)) st1
  | _ => .bad
def FPar3 (i j l : Nat) : Rho → List D → Sto → Fl := fun ρ ds st1 => match ds with
  | [x, y, z] => .next (((ρ.set i (some x)).set j (some y)).set l (some z)) st1
  | _ => .bad
theorem tn_par {σ : Type} {i j : Nat} {a : Rho → M (List D)} {q : Mt S σ} {J : σ → List Sl} (h : AP W fr Γ [] a (FPar i j) q J) : TN W fr Γ (sPar i j a) q J := fun s ρ st H => h s ρ st (by simpa using H) H.len
theorem tn_tup2 {σ : Type} {i j : Nat} {a : Rho → M (List D)} {q : Mt S σ} {J : σ → List Sl} (h : AP W fr Γ [] a (FPar i j) q J) : TN W fr Γ (sAsg (gT 2 (gsCons (gN i) (gsCons (gN j) gsNil))) (mTup a)) q J := fun s ρ st H => by
  have e : sAsg (gT 2 (gsCons (gN i) (gsCons (gN j) gsNil))) (mTup a) ρ st = (a ρ st).fl ρ (FPar i j ρ) := by
    unfold sAsg mTup
    cases a ρ st with
    | exc _ _ => rfl
    | bad => rfl
    | ok ds st1 =>
      match ds with
      | [] => rfl
      | [_] => rfl
      | [_, _] => rfl
      | _ :: _ :: _ :: r =>
        simp only [Out.bind_ok, Out.fl_ok]
        split
        · rfl
        · rfl
  rw [e]
  exact h s ρ st (by simpa using H) H.len
theorem tn_tup3 {σ : Type} {i j l : Nat} {a : Rho → M (List D)} {q : Mt S σ} {J : σ → List Sl} (h : AP W fr Γ [] a (FPar3 i j l) q J) : TN W fr Γ (sAsg (gT 3 (gsCons (gN i) (gsCons (gN j) (gsCons (gN l) gsNil)))) (mTup a)) q J := fun s ρ st H => by
  have e : sAsg (gT 3 (gsCons (gN i) (gsCons (gN j) (gsCons (gN l) gsNil)))) (mTup a) ρ st = (a ρ st).fl ρ (FPar3 i j l ρ) := by
    unfold sAsg mTup
    cases a ρ st with
    | exc _ _ => rfl
    | bad => rfl
    | ok ds st1 =>
      match ds with
      | [] => rfl
      | [_] => rfl
      | [_, _] => rfl
      | [_, _, _] => rfl
      | _ :: _ :: _ :: _ :: r =>
        simp only [Out.bind_ok, Out.fl_ok]
        split
        · rfl
        · rfl
  rw [e]
  exact h s ρ st (by simpa using H) H.len
theorem ap_two {i j : Nat} {d1 d2 : D} {a1 a2 : Sl} (hi : i < Γ.length) (hj : j < Γ.length) {σ : Type} {z : σ} {J : σ → List Sl} (hJ : J z = (Γ.set i a1).set j a2 := by rfl) : AP W fr Γ [(d1, a1), (d2, a2)] mNil (fun ρ ds => FPar i j ρ (d1 :: d2 :: ds)) (mpure z) J := ap_fin fun s ρ st H hρ => by
  have h1 : Has W fr s (Γ.set i a1 ++ [a2]) (ρ.set i (some d1) ++ [some d2]) st := Has.put (Γ' := [a2]) (ρ' := [some d2]) H hρ i hi
  have h2 := Has.put (Γ' := []) (ρ' := []) h1 (by simp [hρ]) j (by simpa using hj)
  rw [List.append_nil, List.append_nil] at h2
  exact ⟨_, rfl, by rw [hJ]; exact h2⟩
theorem ap_three {i j l : Nat} {d1 d2 d3 : D} {a1 a2 a3 : Sl} (hi : i < Γ.length) (hj : j < Γ.length) (hk : l < Γ.length) {σ : Type} {z : σ} {J : σ → List Sl} (hJ : J z = ((Γ.set i a1).set j a2).set l a3 := by rfl) : AP W fr Γ [(d1, a1), (d2, a2), (d3, a3)] mNil (fun ρ ds => FPar3 i j l ρ (d1 :: d2 :: d3 :: ds)) (mpure z) J := ap_fin fun s ρ st H hρ => by
  have h1 : Has W fr s (Γ.set i a1 ++ [a2, a3]) (ρ.set i (some d1) ++ [some d2, some d3]) st := Has.put (Γ' := [a2, a3]) (ρ' := [some d2, some d3]) H hρ i hi
  have h2 : Has W fr s ((Γ.set i a1).set j a2 ++ [a3]) ((ρ.set i (some d1)).set j (some d2) ++ [some d3]) st := Has.put (Γ' := [a3]) (ρ' := [some d3]) h1 (by simp [hρ]) j (by simpa using hj)
  have h3 := Has.put (Γ' := []) (ρ' := []) h2 (by simp [hρ]) l (by simpa using hk)
  rw [List.append_nil, List.append_nil] at h3
  exact ⟨_, rfl, by rw [hJ]; exact h3⟩
end
end Dn
namespace Dn
open PySem PySem.Spec PyProof.Rows L2
section
variable {S : Type} {W : Wd S} {fr : Sto} {Γ Γ1 Γ2 : List Sl}
section
variable {β : Type} {enc : β → D}
theorem tr_ret {m : Rho → M D} {q : Mt S β} {Γ' : β → List Sl} (h : HT W fr Γ m q enc Γ') : TR W fr Γ (sRet m) q enc := fun s ρ st H => by
  have := h s ρ st H
  unfold sRet
  revert this
  show OR W fr Γ' ρ enc _ _ → RR W fr enc _ _
  induction (q s) with
  | ok b s' => rintro ⟨st', e, h2⟩; exact ⟨st', by rw [e]; rfl, h2.pre⟩
  | exc x s' => rintro ⟨st', e, h2⟩; exact ⟨ρ, st', by rw [e]; rfl, h2⟩
  | bad => intro _; trivial
  | amb P_ f_ ih_ => rintro ⟨n_, p_, h_⟩; exact ⟨n_, p_, ih_ n_ h_⟩
theorem tr_seqN {σ : Type} {m1 m2 : Rho → Sto → Fl} {q : Mt S σ} {J : σ → List Sl} {k : σ → Mt S β} (h1 : TN W fr Γ m1 q J) (h2 : ∀ z, TR W fr (J z) m2 (k z) enc) : TR W fr Γ (sSeq m1 m2) (mbind q k) enc := fun s ρ st H => by
  have := h1 s ρ st H
  unfold sSeq
  revert this
  show NR W fr J _ _ → RR W fr enc _ (rbind (q s) _)
  induction (q s) with
  | ok z s' => rintro ⟨ρ', st', e, h3⟩; rw [e]; exact h2 z s' ρ' st' h3
  | exc x s' => rintro ⟨ρ', st', e, h3⟩; rw [e]; exact ⟨ρ', st', rfl, h3⟩
  | bad => intro _; trivial
  | amb P_ f_ ih_ => rintro ⟨n_, p_, h_⟩; exact ⟨n_, p_, ih_ n_ h_⟩
theorem OR.flR {A γ : Type} {Γ' : γ → List Sl} {ρ : Rho} {e : γ → A} {r : Out A} {q : Rs S γ} {f : A → Sto → Fl} {k : γ → Mt S β} (h : OR W fr Γ' ρ e r q)
    (hk : ∀ b s st, Has W fr s (Γ' b) ρ st → RR W fr enc (f (e b) st) (k b s)) : RR W fr enc (r.fl ρ f) (rbind q k) := by
  induction q with
  | ok b s =>
    obtain ⟨st', rfl, h2⟩ := h
    exact hk b s st' h2
  | exc x s =>
    obtain ⟨st', rfl, h2, h3⟩ := h
    exact ⟨ρ, st', rfl, h2, h3⟩
  | bad => trivial
  | amb P_ f_ ih_ => obtain ⟨n_, p_, h⟩ := h; exact ⟨n_, p_, ih_ n_ h⟩
theorem tr_if {t : Rho → M Bool} {a b : Rho → Sto → Fl} {qt : Mt S Bool} {qa qb : Mt S β} {Γ' : Bool → List Sl} (ht : HT W fr Γ t qt id Γ') (ha : TR W fr (Γ' true) a qa enc) (hb : TR W fr (Γ' false) b qb enc) : TR W fr Γ (sIf t a b) (mbind qt fun c => if c = true then qa else qb) enc := fun s ρ st H => by
  refine OR.flR (f := fun c st1 => if c = true then a ρ st1 else b ρ st1) (ht s ρ st H) fun c s1 st1 H1 => ?_
  cases c
  · exact hb s1 ρ st1 H1
  · exact ha s1 ρ st1 H1
theorem seq_if (t : Rho → M Bool) (a b c : Rho → Sto → Fl) : sSeq (sIf t a b) c = sIf t (sSeq a c) (sSeq b c) := by
  funext ρ st
  unfold sSeq sIf
  cases t ρ st with
  | ok k st1 => cases k <;> rfl
  | exc _ _ => rfl
  | bad => rfl
theorem tr_ifseq {t : Rho → M Bool} {a b c : Rho → Sto → Fl} {qt : Mt S Bool} {qa qb : Mt S β} {Γ' : Bool → List Sl} (ht : HT W fr Γ t qt id Γ') (ha : TR W fr (Γ' true) (sSeq a c) qa enc) (hb : TR W fr (Γ' false) (sSeq b c) qb enc) : TR W fr Γ (sSeq (sIf t a b) c) (mbind qt fun c => if c = true then qa else qb) enc := by
  rw [seq_if]
  exact tr_if ht ha hb
theorem tr_seqR {a c : Rho → Sto → Fl} {q : Mt S β} (h : TR W fr Γ a q enc) : TR W fr Γ (sSeq a c) q enc := fun s ρ st H => by
  have := h s ρ st H
  unfold sSeq
  revert this
  induction (q s) with
  | ok b s' => rintro ⟨st', e, h2⟩; exact ⟨st', by rw [e]; rfl, h2⟩
  | exc x s' => rintro ⟨ρ', st', e, h2⟩; exact ⟨ρ', st', by rw [e]; rfl, h2⟩
  | bad => intro _; trivial
  | amb P_ f_ ih_ => rintro ⟨n_, p_, h_⟩; exact ⟨n_, p_, ih_ n_ h_⟩
theorem tr_seqF {σ : Type} {m1 m2 : Rho → Sto → Fl} {q : Mt S (σ ⊕ β)} {J : σ → List Sl} {k : σ → Mt S β} (h1 : TF W fr Γ m1 q J enc) (h2 : ∀ z, TR W fr (J z) m2 (k z) enc) : TR W fr Γ (sSeq m1 m2) (mfin q k) enc := fun s ρ st H => by
  have := h1 s ρ st H
  unfold sSeq mfin
  revert this
  show FR W fr J enc _ _ → RR W fr enc _ (rbind (q s) _)
  induction (q s) with
  | ok z s' =>
    cases z with
    | inl z => rintro ⟨ρ', st', e, h3⟩; rw [e]; exact h2 z s' ρ' st' h3
    | inr b => rintro ⟨st', e, h3⟩; rw [e]; exact ⟨st', rfl, h3⟩
  | exc x s' => rintro ⟨ρ', st', e, h3⟩; rw [e]; exact ⟨ρ', st', rfl, h3⟩
  | bad => intro _; trivial
  | amb P_ f_ ih_ => rintro ⟨n_, p_, h_⟩; exact ⟨n_, p_, ih_ n_ h_⟩
end
section
variable {σ β : Type} {enc : β → D} {J : σ → List Sl}
theorem tl_ofX {m : Rho → Sto → Fl} {q : Mt S (Lp σ β)} (h : TX W fr Γ m q J enc) : TL W fr Γ m q J enc := fun s ρ st H => by
  have := h s ρ st H
  revert this
  induction (q s) with
  | ok r s' =>
    cases r with
    | nx z => rintro ⟨ρ', st', e, h2⟩; exact ⟨ρ', st', .inr e, h2⟩
    | bk z => exact id
    | rt b => exact id
  | exc x s' => exact id
  | bad => exact id
  | amb P_ f_ ih_ => rintro ⟨n_, p_, h_⟩; exact ⟨n_, p_, ih_ n_ h_⟩
theorem tl_next {z : σ} (w : Wk Γ (J z)) : TL W fr Γ sNext (mpure (.nx z)) J enc := fun s ρ st H => ⟨ρ, st, .inl rfl, H.wk w⟩
theorem tx_ofR {m : Rho → Sto → Fl} {q : Mt S β} (h : TR W fr Γ m q enc) : TX W fr Γ m (mbind q fun b => mpure (.rt b)) J enc := fun s ρ st H => by
  have := h s ρ st H
  revert this
  show RR W fr enc _ _ → XR W fr J enc _ (rbind (q s) _)
  induction (q s) with
  | ok z s' => exact id
  | exc x s' => exact id
  | bad => exact id
  | amb P_ f_ ih_ => rintro ⟨n_, p_, h_⟩; exact ⟨n_, p_, ih_ n_ h_⟩
theorem OR.flG {A γ : Type} {Γ' : γ → List Sl} {ρ : Rho} {e : γ → A} {r : Out A} {q : Rs S γ} {f : A → Sto → Fl} {δ : Type} {k : γ → Mt S δ} {P : Fl → Rs S δ → Prop} (h : OR W fr Γ' ρ e r q)
    (he : ∀ x s st, Pre W fr s st → x.pl → P (.exc x ρ st) (.exc x s)) (hb : ∀ r, P r .bad) (hk : ∀ b s st, Has W fr s (Γ' b) ρ st → P (f (e b) st) (k b s)) (ha : ∀ r (Pn : Nat → Prop) g n, Pn n → P r (g n) → P r (.amb Pn g) := by exact fun _ _ _ n p h => ⟨n, p, h⟩) : P (r.fl ρ f) (rbind q k) := by
  induction q with
  | ok b s =>
    obtain ⟨st', rfl, h2⟩ := h
    exact hk b s st' h2
  | exc x s =>
    obtain ⟨st', rfl, h2, h3⟩ := h
    exact he x s st' h2 h3
  | bad => exact hb _
  | amb P_ f_ ih_ => obtain ⟨n_, p_, h⟩ := h; exact ha _ _ _ n_ p_ (ih_ n_ h)
theorem tx_seqX {a c : Rho → Sto → Fl} {q : Mt S (Lp σ β)} (h : TX W fr Γ a q J enc) : TX W fr Γ (sSeq a c) q J enc := fun s ρ st H => by
  have := h s ρ st H
  unfold sSeq
  revert this
  induction (q s) with
  | ok r s' =>
    cases r with
    | nx z => rintro ⟨ρ', st', e, h2⟩; exact ⟨ρ', st', by rw [e]; rfl, h2⟩
    | bk z => rintro ⟨ρ', st', e, h2⟩; exact ⟨ρ', st', by rw [e]; rfl, h2⟩
    | rt b => rintro ⟨st', e, h2⟩; exact ⟨st', by rw [e]; rfl, h2⟩
  | exc x s' => rintro ⟨ρ', st', e, h2⟩; exact ⟨ρ', st', by rw [e]; rfl, h2⟩
  | bad => intro _; trivial
  | amb P_ f_ ih_ => rintro ⟨n_, p_, h_⟩; exact ⟨n_, p_, ih_ n_ h_⟩
theorem tl_seqN {τ : Type} {m1 m2 : Rho → Sto → Fl} {q : Mt S τ} {J1 : τ → List Sl} {k : τ → Mt S (Lp σ β)} (h1 : TN W fr Γ m1 q J1) (h2 : ∀ z, TL W fr (J1 z) m2 (k z) J enc) : TL W fr Γ (sSeq m1 m2) (mbind q k) J enc := fun s ρ st H => by
  have := h1 s ρ st H
  unfold sSeq
  revert this
  show NR W fr J1 _ _ → LR W fr J enc _ (rbind (q s) _)
  induction (q s) with
  | ok z s' => rintro ⟨ρ', st', e, h3⟩; rw [e]; exact h2 z s' ρ' st' h3
  | exc x s' => rintro ⟨ρ', st', e, h3⟩; rw [e]; exact ⟨ρ', st', rfl, h3⟩
  | bad => intro _; trivial
  | amb P_ f_ ih_ => rintro ⟨n_, p_, h_⟩; exact ⟨n_, p_, ih_ n_ h_⟩
theorem tl_if {t : Rho → M Bool} {a b : Rho → Sto → Fl} {qt : Mt S Bool} {qa qb : Mt S (Lp σ β)} {Γ' : Bool → List Sl} (ht : HT W fr Γ t qt id Γ') (ha : TL W fr (Γ' true) a qa J enc) (hb : TL W fr (Γ' false) b qb J enc) : TL W fr Γ (sIf t a b) (mbind qt fun c => if c = true then qa else qb) J enc := fun s ρ st H => by
  refine OR.flG (P := LR W fr J enc) (f := fun c st1 => if c = true then a ρ st1 else b ρ st1) (ht s ρ st H) (fun x s st h1 h2 => ⟨ρ, st, rfl, h1, h2⟩) (fun _ => trivial) fun c s1 st1 H1 => ?_
  cases c
  · exact hb s1 ρ st1 H1
  · exact ha s1 ρ st1 H1
theorem tl_ifseq {t : Rho → M Bool} {a b c : Rho → Sto → Fl} {qt : Mt S Bool} {qa qb : Mt S (Lp σ β)} {Γ' : Bool → List Sl} (ht : HT W fr Γ t qt id Γ') (ha : TL W fr (Γ' true) (sSeq a c) qa J enc) (hb : TL W fr (Γ' false) (sSeq b c) qb J enc) : TL W fr Γ (sSeq (sIf t a b) c) (mbind qt fun c => if c = true then qa else qb) J enc := by
  rw [seq_if]
  exact tl_if ht ha hb
theorem tl_seqX {a c : Rho → Sto → Fl} {q : Mt S (Lp σ β)} (h : TX W fr Γ a q J enc) : TL W fr Γ (sSeq a c) q J enc := tl_ofX (tx_seqX h)
theorem tl_seqF {τ : Type} {m1 m2 : Rho → Sto → Fl} {q : Mt S (τ ⊕ β)} {J1 : τ → List Sl} {k : τ → Mt S (Lp σ β)} (h1 : TF W fr Γ m1 q J1 enc) (h2 : ∀ z, TL W fr (J1 z) m2 (k z) J enc) : TL W fr Γ (sSeq m1 m2) (mfinL q k) J enc := fun s ρ st H => by
  have := h1 s ρ st H
  unfold sSeq mfinL
  revert this
  show FR W fr J1 enc _ _ → LR W fr J enc _ (rbind (q s) _)
  induction (q s) with
  | ok z s' =>
    cases z with
    | inl z => rintro ⟨ρ', st', e, h3⟩; rw [e]; exact h2 z s' ρ' st' h3
    | inr b => rintro ⟨st', e, h3⟩; rw [e]; exact ⟨st', rfl, h3⟩
  | exc x s' => rintro ⟨ρ', st', e, h3⟩; rw [e]; exact ⟨ρ', st', rfl, h3⟩
  | bad => intro _; trivial
  | amb P_ f_ ih_ => rintro ⟨n_, p_, h_⟩; exact ⟨n_, p_, ih_ n_ h_⟩
end
def eSrc {α : Type} (e : α → D) (xs : List α) : Src := ⟨xs.map e, []⟩
section
variable {α σ β : Type} {enc : β → D} {e : α → D} {J : σ → List Sl} {gf : D → Rho → M Rho} {mb : Rho → Sto → Fl} {G : α → σ → List Sl} {js : List Nat}
theorem forL_U {held : List (Nat × List D)} {body : α → σ → Mt S σ} (hh : ∀ z s ρ st, Has W fr s (J z) ρ st → heldOk held st) (hg : ∀ x z, GT1 W fr (J z) gf (e x) (G x z) js) (hb : ∀ x z, TN W fr (G x z) mb (body x z) J) :
    ∀ (xs : List α) (z : σ) s ρ st, Has W fr s (J z) ρ st → NR W fr J (forL held (forB gf mb) (xs.map e) ρ st) (forU body xs z s)
  | [], z, s, ρ, st, H => by
    rw [List.map_nil]
    unfold forL
    rw [if_pos (hh z s ρ st H)]
    exact ⟨ρ, st, rfl, H⟩
  | x :: xs, z, s, ρ, st, H => by
    rw [List.map_cons]
    unfold forL
    rw [if_pos (hh z s ρ st H)]
    obtain ⟨ρ1, e1, H1, _⟩ := hg x z s ρ st H
    have h1 := hb x z s ρ1 st H1
    have eb : forB gf mb (e x) ρ st = mb ρ1 st := by unfold forB; rw [e1]; rfl
    rw [eb]
    show NR W fr J _ (rbind (body x z s) _)
    revert h1
    induction (body x z s) with
    | ok z' s' => rintro ⟨ρ', st', e2, h2⟩; rw [e2]; exact forL_U hh hg hb xs z' s' ρ' st' h2
    | exc y s' => rintro ⟨ρ', st', e2, h2⟩; rw [e2]; exact ⟨ρ', st', rfl, h2⟩
    | bad => intro _; trivial
    | amb P_ f_ ih_ => rintro ⟨n_, p_, h_⟩; exact ⟨n_, p_, ih_ n_ h_⟩
theorem forL_X {held : List (Nat × List D)} {body : α → σ → Mt S (Lp σ β)} (hh : ∀ z s ρ st, Has W fr s (J z) ρ st → heldOk held st) (hg : ∀ x z, GT1 W fr (J z) gf (e x) (G x z) js) (hb : ∀ x z, TL W fr (G x z) mb (body x z) J enc) :
    ∀ (xs : List α) (z : σ) s ρ st, Has W fr s (J z) ρ st → FR W fr J enc (forL held (forB gf mb) (xs.map e) ρ st) (forX body xs z s)
  | [], z, s, ρ, st, H => by
    rw [List.map_nil]
    unfold forL
    rw [if_pos (hh z s ρ st H)]
    exact ⟨ρ, st, rfl, H⟩
  | x :: xs, z, s, ρ, st, H => by
    rw [List.map_cons]
    unfold forL
    rw [if_pos (hh z s ρ st H)]
    obtain ⟨ρ1, e1, H1, _⟩ := hg x z s ρ st H
    have h1 := hb x z s ρ1 st H1
    have eb : forB gf mb (e x) ρ st = mb ρ1 st := by unfold forB; rw [e1]; rfl
    rw [eb]
    show FR W fr J enc _ (rbind (body x z s) _)
    revert h1
    induction (body x z s) with
    | ok r s' =>
      cases r with
      | nx z' =>
        rintro ⟨ρ', st', e2, h2⟩
        rcases e2 with e2 | e2
        · rw [e2]; exact forL_X hh hg hb xs z' s' ρ' st' h2
        · rw [e2]; exact forL_X hh hg hb xs z' s' ρ' st' h2
      | bk z' => rintro ⟨ρ', st', e2, h2⟩; rw [e2]; exact ⟨ρ', st', rfl, h2⟩
      | rt b => rintro ⟨st', e2, h2⟩; rw [e2]; exact ⟨st', rfl, h2⟩
    | exc y s' => rintro ⟨ρ', st', e2, h2⟩; rw [e2]; exact ⟨ρ', st', rfl, h2⟩
    | bad => intro _; trivial
    | amb P_ f_ ih_ => rintro ⟨n_, p_, h_⟩; exact ⟨n_, p_, ih_ n_ h_⟩
theorem tn_for {ms : Rho → M Src} {q : Mt S (List α)} {body : α → σ → Mt S σ} {Γ' : List α → List Sl} {z0 : σ} (hs : HT W fr Γ ms q (eSrc e) Γ') (w : ∀ xs, Wk (Γ' xs) (J z0)) (hg : ∀ x z, GT1 W fr (J z) gf (e x) (G x z) js) (hb : ∀ x z, TN W fr (G x z) mb (body x z) J) :
    TN W fr Γ (sFor ms gf mb) (mbind q fun xs => forU body xs z0) J := fun s ρ st H => by
  refine OR.fl (f := fun src st1 => forL src.held (forB gf mb) src.items ρ st1) (hs s ρ st H) fun xs s1 st1 H1 => ?_
  exact forL_U (fun _ _ _ _ _ => (heldOk_nil _).mpr trivial) hg hb xs z0 s1 ρ st1 (H1.wk (w xs))
theorem tf_for {ms : Rho → M Src} {q : Mt S (List α)} {body : α → σ → Mt S (Lp σ β)} {Γ' : List α → List Sl} {z0 : σ} (hs : HT W fr Γ ms q (eSrc e) Γ') (w : ∀ xs, Wk (Γ' xs) (J z0)) (hg : ∀ x z, GT1 W fr (J z) gf (e x) (G x z) js) (hb : ∀ x z, TL W fr (G x z) mb (body x z) J enc) :
    TF W fr Γ (sFor ms gf mb) (mbind q fun xs => forX body xs z0) J enc := fun s ρ st H => by
  refine OR.flG (P := FR W fr J enc) (f := fun src st1 => forL src.held (forB gf mb) src.items ρ st1) (hs s ρ st H) (fun x s st h1 h2 => ⟨ρ, st, rfl, h1, h2⟩) (fun _ => trivial) fun xs s1 st1 H1 => ?_
  exact forL_X (fun _ _ _ _ _ => (heldOk_nil _).mpr trivial) hg hb xs z0 s1 ρ st1 (H1.wk (w xs))
theorem whileL_U {n : Nat} {t : Rho → M Bool} {c : σ → Mt S Bool} {body : σ → Mt S σ} (hc : ∀ z, HT W fr (J z) t (c z) id fun _ => J z) (hb : ∀ z, TN W fr (J z) mb (body z) J) :
    ∀ (n : Nat) (z : σ) s ρ st, Has W fr s (J z) ρ st → NR W fr J (whileL t mb n ρ st) (whileU c body n z s)
  | 0, z, s, ρ, st, H => trivial
  | n + 1, z, s, ρ, st, H => by
    refine OR.fl (f := fun b st1 => if b = true then (match mb ρ st1 with
      | .next ρ' st' => whileL t mb n ρ' st'
      | .cnt ρ' st' => whileL t mb n ρ' st'
      | .brk ρ' st' => .next ρ' st'
      | r => r) else .next ρ st1) (hc z s ρ st H) fun b s1 st1 H1 => ?_
    cases b
    · exact ⟨ρ, st1, rfl, H1⟩
    · have h1 := hb z s1 ρ st1 H1
      show NR W fr J (match mb ρ st1 with
        | .next ρ' st' => whileL t mb n ρ' st'
        | .cnt ρ' st' => whileL t mb n ρ' st'
        | .brk ρ' st' => .next ρ' st'
        | r => r) (rbind (body z s1) _)
      revert h1
      induction (body z s1) with
      | ok z' s' => rintro ⟨ρ', st', e2, h2⟩; rw [e2]; exact whileL_U (n := n) hc hb n z' s' ρ' st' h2
      | exc y s' => rintro ⟨ρ', st', e2, h2⟩; rw [e2]; exact ⟨ρ', st', rfl, h2⟩
      | bad => intro _; trivial
      | amb P_ f_ ih_ => rintro ⟨n_, p_, h_⟩; exact ⟨n_, p_, ih_ n_ h_⟩
theorem tn_while {n : Nat} {t : Rho → M Bool} {c : σ → Mt S Bool} {body : σ → Mt S σ} {z0 : σ} (w : Wk Γ (J z0)) (hc : ∀ z, HT W fr (J z) t (c z) id fun _ => J z) (hb : ∀ z, TN W fr (J z) mb (body z) J) :
    TN W fr Γ (sWhile n t mb) (whileU c body n z0) J := fun s ρ st H => whileL_U (n := n) hc hb n z0 s ρ st (H.wk w)
end
theorem Has.fz {s : S} {ρ : Rho} {st : Sto} {i : Nat} {xs : List D} (H : Has W fr s Γ ρ st) (h : Γ[i]? = some (.mut (.lst xs))) : ∃ l, ρ[i]? = some (some (.ref l)) ∧ st[l]? = some (.lst xs) ∧ Has W fr s (Γ.set i (.val (.lst xs))) (ρ.set i (some (.lst xs))) (st.set l .gone) := by
  obtain ⟨l, q1, q2, q3⟩ := H.mt i _ h
  refine ⟨l, q1, q3, ?_⟩
  have := (H.write .gone h q1).setVal i (.lst xs)
  rwa [List.set_set] at this
theorem sFz_eq {ρ : Rho} {st : Sto} {i l : Nat} {xs : List D} {m : Rho → Sto → Fl} (q1 : ρ[i]? = some (some (.ref l))) (q3 : st[l]? = some (.lst xs)) : sFz i m ρ st = m (ρ.set i (some (.lst xs))) (st.set l .gone) := by
  unfold sFz
  rw [q1]
  dsimp only
  rw [q3]
section
variable {σ β : Type} {enc : β → D} {J : σ → List Sl} {i : Nat} {xs : List D} {m : Rho → Sto → Fl}
theorem tr_fz {q : Mt S β} (h : Γ[i]? = some (.mut (.lst xs))) (hm : TR W fr (Γ.set i (.val (.lst xs))) m q enc) : TR W fr Γ (sFz i m) q enc := fun s ρ st H => by
  obtain ⟨l, q1, q2, H1⟩ := H.fz h
  rw [sFz_eq q1 q2]
  exact hm s _ _ H1
end
theorem wipeD_get (ρ : Rho) : ∀ (vs : List Nat) (j : Nat), j ∉ vs → (wipeD ρ vs)[j]? = ρ[j]?
  | [], _, _ => rfl
  | v :: vs, j, h => by
    show ((wipeD ρ vs).set v none)[j]? = _
    rw [List.getElem?_set_ne (fun q => h (by simp [q])), wipeD_get ρ vs j fun q => h (List.mem_cons_of_mem _ q)]
def Kp (js : List Nat) (Γ Γ' : List Sl) : Prop := ∀ (i : Nat) m, Γ[i]? = some (.mut m) → i ∉ js ∧ Γ'[i]? = some (.mut m)
def kpB : List Sl → List Sl → Nat → List Nat → Prop
  | [], _, _, _ => True
  | .mut m :: Γ, Γ', n, js => n ∉ js ∧ Γ'[n]? = some (.mut m) ∧ kpB Γ Γ' (n + 1) js
  | _ :: Γ, Γ', n, js => kpB Γ Γ' (n + 1) js
theorem kpB_get {js : List Nat} {Γ' : List Sl} : ∀ {Γ : List Sl} {n : Nat}, kpB Γ Γ' n js → ∀ (i : Nat) m, Γ[i]? = some (.mut m) → i + n ∉ js ∧ Γ'[i + n]? = some (.mut m)
  | [], _, _, i, m, e => by simp at e
  | .mut m' :: Γ, n, h, 0, m, e => by
    have : m' = m := by simpa using e
    subst this
    rw [Nat.zero_add]
    exact ⟨h.1, h.2.1⟩
  | .any :: Γ, n, h, 0, m, e => by simp at e
  | .val _ :: Γ, n, h, 0, m, e => by simp at e
  | .bor _ :: Γ, n, h, 0, m, e => by simp at e
  | .mut m' :: Γ, n, h, i + 1, m, e => by
    have := kpB_get (Γ := Γ) h.2.2 i m (by simpa using e)
    rwa [show i + (n + 1) = i + 1 + n by omega] at this
  | .any :: Γ, n, h, i + 1, m, e => by
    have := kpB_get (Γ := Γ) h i m (by simpa using e)
    rwa [show i + (n + 1) = i + 1 + n by omega] at this
  | .val _ :: Γ, n, h, i + 1, m, e => by
    have := kpB_get (Γ := Γ) h i m (by simpa using e)
    rwa [show i + (n + 1) = i + 1 + n by omega] at this
  | .bor _ :: Γ, n, h, i + 1, m, e => by
    have := kpB_get (Γ := Γ) h i m (by simpa using e)
    rwa [show i + (n + 1) = i + 1 + n by omega] at this
theorem kp_of {js : List Nat} {Γ Γ' : List Sl} (h : kpB Γ Γ' 0 js) : Kp js Γ Γ' := fun i m e => kpB_get h i m e
theorem Has.back {s s' : S} {Γ Γ' : List Sl} {ρ ρ' : Rho} {st st' : Sto} {js : List Nat} (h : Has W fr s Γ ρ st) (h' : Has W fr s' Γ' ρ' st') (k : Kp js Γ Γ') (hr : ∀ j, j ∉ js → ρ'[j]? = ρ[j]?) : Has W fr s' Γ ρ st' := by
  refine ⟨h.len, h'.pre, h.val, fun i m e => ?_, h.nal, h.bo⟩
  obtain ⟨q1, q2⟩ := k i m e
  obtain ⟨l, p1, p2, p3⟩ := h'.mt i m q2
  exact ⟨l, by rw [← hr i q1]; exact p1, p2, p3⟩
section
variable {α β : Type}
def compT (f : α → Mt S (Option β)) : List α → Mt S (List β)
  | [] => mpure []
  | x :: xs => mbind (f x) fun o => mbind (compT f xs) fun ys => mpure (o.toList ++ ys)
def compG (c : α → Mt S Bool) (f : α → Mt S β) (xs : List α) : Mt S (List β) := if xs.length ≤ 100000 then compT (fun x => mbind (c x) fun b => if b = true then mbind (f x) fun y => mpure (some y) else mpure none) xs else mbad
def compV (c : α → Bool) (f : α → β) (xs : List α) : Mt S (List β) := if xs.length ≤ 100000 then mpure ((xs.filter c).map f) else mbad
def mapT (f : α → Mt S β) : List α → Mt S (List β)
  | [] => mpure []
  | x :: xs => mbind (f x) fun y => mbind (mapT f xs) fun ys => mpure (y :: ys)
def compM (c : α → Bool) (f : α → Mt S β) (xs : List α) : Mt S (List β) := if xs.length ≤ 100000 then mapT f (xs.filter c) else mbad
variable {e : α → D} {enc : β → D} {gf : D → Rho → M Rho} {mt : Rho → M Bool} {me : Rho → M D} {vs js : List Nat} {G : α → List Sl}
theorem lcL_T {f : α → Mt S (Option β)} {ρ : Rho} (hf : ∀ x s st, Has W fr s Γ ρ st → OR W fr (fun _ => Γ) ρ (fun o : Option β => o.map enc) (lcF gf mt me (wipeD ρ vs) (e x) st) (f x s)) :
    ∀ (xs : List α) s st, Has W fr s Γ ρ st → OR W fr (fun _ => Γ) ρ (fun ys : List β => ys.map enc) (lcL [] (lcF gf mt me (wipeD ρ vs)) (xs.map e) st) (compT f xs s)
  | [], s, st, H => by
    rw [List.map_nil]
    unfold lcL
    rw [if_pos ((heldOk_nil _).mpr trivial)]
    exact ⟨st, rfl, H⟩
  | x :: xs, s, st, H => by
    rw [List.map_cons]
    unfold lcL
    rw [if_pos ((heldOk_nil _).mpr trivial)]
    refine OR.bind (hf x s st H) fun o s1 st1 H1 => ?_
    refine OR.bind (lcL_T hf xs s1 st1 H1) fun ys s2 st2 H2 => ?_
    refine ⟨st2, ?_, H2⟩
    cases o <;> simp
theorem calm_OR {A : Type} {r : Out A} {γ : Type} {Γ' : γ → List Sl} {ρ : Rho} {en : γ → A} {q : Rs S γ} (h : OR W fr Γ' ρ en r q) : OR W fr Γ' ρ en (nox r) (rcalm q) := by
  induction q with
  | ok b s => obtain ⟨st', rfl, h2⟩ := h; exact ⟨st', rfl, h2⟩
  | exc x s => trivial
  | bad => trivial
  | amb P_ f_ ih_ => obtain ⟨n_, p_, h⟩ := h; exact ⟨n_, p_, ih_ n_ h⟩
theorem lcF_T {c : Mt S Bool} {f : Mt S β} {x : α} {Γw : List Sl} {Γx : List Sl} (hw : wipeG Γ vs = Γw) (hg : GT1 W fr Γw gf (e x) Γx js) (hjs : ∀ j, j ∈ js → j ∈ vs) (hk : Kp vs Γ Γx) (hc : HT W fr Γx mt c id fun _ => Γx) (hf : HT W fr Γx me f enc fun _ => Γx) (s : S) (ρ : Rho) (st : Sto) (H : Has W fr s Γ ρ st) :
    OR W fr (fun _ => Γ) ρ (fun o : Option β => o.map enc) (lcF gf mt me (wipeD ρ vs) (e x) st) (mbind c (fun b => if b = true then mbind f fun y => mpure (some y) else mpure none) s) := by
  have H0 := H.wipe vs
  rw [hw] at H0
  obtain ⟨ρ1, e1, H1, k1⟩ := hg s (wipeD ρ vs) st H0
  have kr : ∀ j, j ∉ vs → ρ1[j]? = ρ[j]? := fun j hj => by rw [k1 j fun q => hj (hjs j q), wipeD_get ρ vs j hj]
  unfold lcF
  rw [e1, Out.bind_ok]
  show OR W fr _ ρ _ _ (rbind (c s) _)
  have h1 := hc s ρ1 st H1
  revert h1
  induction (c s) with
  | ok b s1 =>
    rintro ⟨st1, e2, H2⟩
    rw [e2, Out.bind_ok]
    cases b
    · exact ⟨st1, rfl, H.back H2 hk kr⟩
    · have h2 := hf s1 ρ1 st1 H2
      show OR W fr _ ρ _ _ (rbind (f s1) _)
      revert h2
      induction (f s1) with
      | ok y s2 =>
        rintro ⟨st2, e3, H3⟩
        refine ⟨st2, ?_, H.back H3 hk kr⟩
        simp only [id, if_true, e3]
        rfl
      | exc y s2 =>
        rintro ⟨st2, e3, H3⟩
        refine ⟨st2, ?_, H3⟩
        simp only [id, if_true, e3]
        rfl
      | bad => intro _; trivial
      | amb P_ f_ ih_ => rintro ⟨n_, p_, h_⟩; exact ⟨n_, p_, ih_ n_ h_⟩
  | exc y s1 =>
    rintro ⟨st1, e2, H2⟩
    exact ⟨st1, by rw [e2]; rfl, H2⟩
  | bad => intro _; trivial
  | amb P_ f_ ih_ => rintro ⟨n_, p_, h_⟩; exact ⟨n_, p_, ih_ n_ h_⟩
theorem ht_compG {ms : Rho → M Src} {q : Mt S (List α)} {c : α → Mt S Bool} {f : α → Mt S β} {Γw : List Sl} (hs : HT W fr Γ ms q (eSrc e) fun _ => Γ) (hw : wipeG Γ vs = Γw) (hg : ∀ x, GT1 W fr Γw gf (e x) (G x) js) (hjs : ∀ j, j ∈ js → j ∈ vs) (hk : ∀ x, Kp vs Γ (G x))
    (hc : ∀ x, HT W fr (G x) mt (c x) id fun _ => G x) (hf : ∀ x, HT W fr (G x) me (f x) enc fun _ => G x) : HT W fr Γ (lLc ms gf mt me vs) (mbind q fun xs => calmly (compG c f xs)) (fun ys : List β => ys.map enc) fun _ => Γ := fun s ρ st H => by
  unfold lLc
  refine OR.bind (hs s ρ st H) fun xs s1 st1 H1 => ?_
  show OR W fr _ ρ _ (if (xs.map e).length ≤ SZ then nox (lcL [] (lcF gf mt me (wipeD ρ vs)) (xs.map e) st1) else .bad) (rcalm (compG c f xs s1))
  unfold compG
  rw [List.length_map]
  by_cases hl : xs.length ≤ 100000
  · rw [if_pos hl, if_pos (show xs.length ≤ SZ from hl)]
    exact calm_OR (lcL_T (fun x s st H => lcF_T hw (hg x) hjs (hk x) (hc x) (hf x) s ρ st H) xs s1 st1 H1)
  · rw [if_neg hl, if_neg (show ¬ xs.length ≤ SZ from hl)]
    trivial
theorem compT_V (c : α → Bool) (f : α → β) : ∀ xs : List α, compT (S := S) (fun x => mbind (mpure (c x)) fun b => if b = true then mbind (mpure (f x)) fun y => mpure (some y) else mpure none) xs = mpure ((xs.filter c).map f)
  | [] => rfl
  | x :: xs => by
    unfold compT
    rw [compT_V c f xs]
    simp only [mbind_pure]
    cases h : c x <;> simp [h]
theorem compT_M (c : α → Bool) (f : α → Mt S β) : ∀ xs : List α, compT (fun x => mbind (mpure (c x)) fun b => if b = true then mbind (f x) fun y => mpure (some y) else mpure none) xs = mapT f (xs.filter c)
  | [] => rfl
  | x :: xs => by
    unfold compT
    rw [compT_M c f xs]
    simp only [mbind_pure]
    cases h : c x
    · simp [h, mbind_ret]
    · simp only [h, if_true, List.filter_cons_of_pos]
      rw [mapT, mbind_assoc]
      rfl
theorem ht_compV {ms : Rho → M Src} {q : Mt S (List α)} {c : α → Bool} {f : α → β} {Γw : List Sl} (hs : HT W fr Γ ms q (eSrc e) fun _ => Γ) (hw : wipeG Γ vs = Γw) (hg : ∀ x, GT1 W fr Γw gf (e x) (G x) js) (hjs : ∀ j, j ∈ js → j ∈ vs) (hk : ∀ x, Kp vs Γ (G x))
    (hc : ∀ x, HV W fr (G x) mt (c x)) (hf : ∀ x, HV W fr (G x) me (enc (f x))) : HT W fr Γ (lLc ms gf mt me vs) (mbind q fun xs => compV c f xs) (fun ys : List β => ys.map enc) fun _ => Γ := by
  have h := ht_compG (c := fun x => mpure (c x)) (f := fun x => mpure (f x)) hs hw hg hjs hk (fun x => ht_ofV (enc := id) (hc x)) fun x => ht_ofV (hf x)
  have e : (fun xs : List α => calmly (compG (S := S) (fun x => mpure (c x)) (fun x => mpure (f x)) xs)) = fun xs => compV c f xs := by
    funext xs
    unfold compG compV
    rw [compT_V]
    split <;> rfl
  rw [e] at h
  exact h
theorem ht_compM {ms : Rho → M Src} {q : Mt S (List α)} {c : α → Bool} {f : α → Mt S β} {Γw : List Sl} (hs : HT W fr Γ ms q (eSrc e) fun _ => Γ) (hw : wipeG Γ vs = Γw) (hg : ∀ x, GT1 W fr Γw gf (e x) (G x) js) (hjs : ∀ j, j ∈ js → j ∈ vs) (hk : ∀ x, Kp vs Γ (G x))
    (hc : ∀ x, HV W fr (G x) mt (c x)) (hf : ∀ x, HT W fr (G x) me (f x) enc fun _ => G x) : HT W fr Γ (lLc ms gf mt me vs) (mbind q fun xs => calmly (compM c f xs)) (fun ys : List β => ys.map enc) fun _ => Γ := by
  have h := ht_compG (c := fun x => mpure (c x)) (f := f) hs hw hg hjs hk (fun x => ht_ofV (enc := id) (hc x)) hf
  have e : (fun xs : List α => calmly (compG (S := S) (fun x => mpure (c x)) f xs)) = fun xs => calmly (compM c f xs) := by
    funext xs
    unfold compG compM
    rw [compT_M]
  rw [e] at h
  exact h
end
theorem has_start {s : S} {np nN : Nat} {ds : List D} {fr : Sto} (hs : W.has s fr) (hl : ds.length ≤ nN) : Has W fr s (ds.map .val ++ List.replicate (nN - ds.length) .any) (rho0 nN ds) fr := by
  unfold rho0
  have g : ∀ (i : Nat) a, (ds.map Sl.val ++ List.replicate (nN - ds.length) Sl.any)[i]? = some a → a = .any ∨ ∃ d, a = .val d ∧ ds[i]? = some d := fun i a e => by
    by_cases hi : i < ds.length
    · rw [List.getElem?_append_left (by simpa using hi), List.getElem?_map] at e
      cases e1 : ds[i]? with
      | none => rw [e1] at e; cases e
      | some d => rw [e1] at e; cases e; exact .inr ⟨d, rfl, rfl⟩
    · rw [List.getElem?_append_right (by simpa using hi), List.getElem?_replicate] at e
      split at e
      · cases e; exact .inl rfl
      · cases e
  refine ⟨by simp, Pre.refl hs, fun i d e => ?_, fun i m e => ?_, fun i j m1 m2 e1 e2 e3 => ?_, fun i m e => ?_⟩
  · rcases g i _ e with q | ⟨d', q, h⟩
    · cases q
    · cases q
      have hi := (List.getElem?_eq_some_iff.mp h).1
      rw [List.getElem?_append_left (by simpa using hi), List.getElem?_map, h]
      rfl
  · rcases g i _ e with q | ⟨d', q, h⟩
    · cases q
    · cases q
  · rcases g i _ e1 with q | ⟨d', q, h⟩
    · cases q
    · cases q
  · rcases g i _ e with q | ⟨d', q, h⟩
    · cases q
    · cases q
theorem clean_pre {s s' : S} {b st' : Sto} {d : D} (h0 : W.has s b) (h : Pre W b s' st') : ∃ st2, clean b (.ok d st') = .ok d st2 ∧ Pre W b s' st2 := by
  unfold clean
  dsimp only
  split
  · rename_i t
    exact ⟨_, rfl, h.take h0 t.2⟩
  · exact ⟨_, rfl, h⟩
theorem clean_preX {s s' : S} {b st' : Sto} {x : Xc} (h0 : W.has s b) (h : Pre W b s' st') : ∃ st2, clean b (.exc x st') = .exc x st2 ∧ Pre W b s' st2 := by
  unfold clean
  dsimp only
  split
  · rename_i t
    exact ⟨_, rfl, h.take h0 t.2⟩
  · exact ⟨_, rfl, h⟩
theorem fo_of {β : Type} {enc : β → D} {np nN : Nat} {m : Rho → Sto → Fl} {ds : List D} {q : Mt S β} (hn : ds.length = np) (hl : ds.length ≤ nN) (h : ∀ fr, TR W fr (ds.map .val ++ List.replicate (nN - ds.length) .any) m q enc) : FN W (fnD np nN m) ds q enc := fun fr s hs => by
  have := h fr s _ _ (has_start (W := W) (np := np) (s := s) (fr := fr) hs hl)
  unfold fnD
  rw [if_pos hn]
  revert this
  show RR W fr enc _ (q s) → FO W fr enc _ (q s)
  generalize q s = r
  induction r with
  | ok b s' =>
    rintro ⟨st', e, h2⟩
    rw [e]
    exact clean_pre hs h2
  | exc x s' =>
    rintro ⟨ρ', st', e, h2, h3⟩
    rw [e]
    obtain ⟨st2, e2, h4⟩ := clean_preX (x := x) hs h2
    exact ⟨st2, e2, h4, h3⟩
  | bad => intro _; trivial
  | amb P_ f_ ih_ => rintro ⟨n_, p_, h_⟩; exact ⟨n_, p_, ih_ n_ h_⟩
theorem fnT_of {β : Type} {enc : β → D} {np nN : Nat} {m : Rho → Sto → Fl} {ds : List D} {q : Mt S β} (hp : ∀ b, isP (enc b) = true) (hn : ds.length = np) (hl : ds.length ≤ nN) (h : ∀ fr, TR W fr (ds.map .val ++ List.replicate (nN - ds.length) .any) m q enc) : FN W (fnD np nN m) ds q enc := fo_of hn hl h
end
end Dn
namespace Dn
open PySem PySem.Spec PyProof.Rows L2
section
variable {α : Type} [DecidableEq α] {e : α → D} {n : Nat}
theorem pEq_dat {st : Sto} {a b : D} {p q : PyData} (ha : dat st a = some p) (hb : dat st b = some q) (hd : min p.depth q.depth ≤ 64) : pEq st a b = some (.bl (PyData.eqv p q)) := by
  have gen : (match dat st a, dat st b with
    | some p, some q => if min p.depth q.depth ≤ 64 then some (D.bl (PyData.eqv p q)) else none
    | _, _ => none) = some (D.bl (PyData.eqv p q)) := by
    rw [ha, hb]
    exact if_pos hd
  unfold pEq
  split
  · rename_i x y
    cases ha
    cases hb
    rfl
  · exact gen
theorem pNe_dat {st : Sto} {a b : D} {p q : PyData} (ha : dat st a = some p) (hb : dat st b = some q) (hd : min p.depth q.depth ≤ 64) : pNe st a b = some (.bl (!PyData.eqv p q)) := by
  have gen : (match dat st a, dat st b with
    | some p, some q => if min p.depth q.depth ≤ 64 then some (D.bl (!PyData.eqv p q)) else none
    | _, _ => none) = some (D.bl (!PyData.eqv p q)) := by
    rw [ha, hb]
    exact if_pos hd
  unfold pNe
  split
  · rename_i x y
    cases ha
    cases hb
    rfl
  · exact gen
theorem t_eq [Ev e n] (x y : α) (h : n ≤ 64) (st : Sto) : pEq st (e x) (e y) = some (.bl (decide (x = y))) := by
  have hd := Ev.dep (e := e) x
  rw [pEq_dat (dat_P (Ev.p x)) (dat_P (Ev.p y)) (by omega), Ev.eq]
theorem t_ne [Ev e n] (x y : α) (h : n ≤ 64) (st : Sto) : pNe st (e x) (e y) = some (.bl (!decide (x = y))) := by
  have hd := Ev.dep (e := e) x
  rw [pNe_dat (dat_P (Ev.p x)) (dat_P (Ev.p y)) (by omega), Ev.eq]
theorem any_of [Ev e n] (x : α) : ∀ xs : List α, ((toPs (xs.map e)).any fun z => PyData.eqv z (toP (e x))) = decide (x ∈ xs)
  | [] => by simp [toPs]
  | y :: ys => by
    rw [List.map_cons, toPs, List.any_cons, any_of x ys, Ev.eq]
    by_cases h : y = x
    · subst h; simp
    · have h' : ¬ x = y := fun q => h q.symm
      simp [h, h']
theorem inD_seq {st : Sto} {a b : D} {p : PyData} {ds : List PyData} (ha : dat st a = some p) (hb : dat st b = some (.list ds) ∨ dat st b = some (.tuple ds)) (hd : p.depth ≤ 64) : inD st a b = some (ds.any fun z => PyData.eqv z p) := by
  unfold inD
  split
  · rcases hb with hb | hb <;> cases hb
  · rw [ha]
    rcases hb with hb | hb
    · rw [hb]
      exact if_pos hd
    · rw [hb]
      exact if_pos hd
theorem dat_eT [Ev e n] (xs : List α) (st : Sto) : dat st (eT e xs) = some (.tuple (toPs (xs.map e))) := by
  rw [dat_P (Ev.p xs)]
  unfold eT
  rw [toP]
theorem dat_eL [Ev e n] (xs : List α) (st : Sto) : dat st (eL e xs) = some (.list (toPs (xs.map e))) := by
  rw [dat_P (Ev.p xs)]
  unfold eL
  rw [toP]
theorem t_inT [Ev e n] (x : α) (xs : List α) (h : n ≤ 64) (st : Sto) : pIn st (e x) (eT e xs) = some (.bl (decide (x ∈ xs))) := by
  unfold pIn
  rw [inD_seq (dat_P (Ev.p x)) (.inr (dat_eT xs st)) (Nat.le_trans (Ev.dep (e := e) x) h), any_of] <;> rfl
theorem t_inL [Ev e n] (x : α) (xs : List α) (h : n ≤ 64) (st : Sto) : pIn st (e x) (eL e xs) = some (.bl (decide (x ∈ xs))) := by
  unfold pIn
  rw [inD_seq (dat_P (Ev.p x)) (.inl (dat_eL xs st)) (Nat.le_trans (Ev.dep (e := e) x) h), any_of] <;> rfl
theorem t_ninT [Ev e n] (x : α) (xs : List α) (h : n ≤ 64) (st : Sto) : pNotIn st (e x) (eT e xs) = some (.bl (!decide (x ∈ xs))) := by
  unfold pNotIn
  rw [inD_seq (dat_P (Ev.p x)) (.inr (dat_eT xs st)) (Nat.le_trans (Ev.dep (e := e) x) h), any_of] <;> rfl
theorem t_ninL [Ev e n] (x : α) (xs : List α) (h : n ≤ 64) (st : Sto) : pNotIn st (e x) (eL e xs) = some (.bl (!decide (x ∈ xs))) := by
  unfold pNotIn
  rw [inD_seq (dat_P (Ev.p x)) (.inl (dat_eL xs st)) (Nat.le_trans (Ev.dep (e := e) x) h), any_of] <;> rfl
end
theorem dr_dat {st : Sto} {l : Nat} {xs : List D} (h : st[l]? = some (.lst xs)) : dat st (.ref l) = dat st (.lst xs) := by
  unfold dat
  dsimp only
  rw [h]
  simp only [isP, toP]
  rfl
theorem dr_ne1 {st : Sto} {l : Nat} {xs : List D} {b : D} (h : st[l]? = some (.lst xs)) : pNe st (.ref l) b = pNe st (.lst xs) b := by
  unfold pNe
  simp only [dr_dat h]
theorem dr_seq {st : Sto} {l : Nat} {xs : List D} (h : st[l]? = some (.lst xs)) : seqOf st (.ref l) = seqOf st (.lst xs) := by rw [seqOf_ref h, seqOf_lst]
theorem dr_len {st : Sto} {l : Nat} {xs : List D} (h : st[l]? = some (.lst xs)) : pLen st [.ref l] = pLen st [.lst xs] := by
  show (seqOf st (.ref l)).map (fun xs => D.int xs.length) = (seqOf st (.lst xs)).map (fun xs => D.int xs.length)
  rw [dr_seq h]
theorem t_add (a b : Int) (st : Sto) : pAdd st (eI a) (eI b) = some (eI (a + b)) := rfl
theorem t_sub (a b : Int) (st : Sto) : pSub st (eI a) (eI b) = some (eI (a - b)) := rfl
theorem t_le (a b : Int) (st : Sto) : pLe st (eI a) (eI b) = some (.bl (decide (a ≤ b))) := rfl
theorem t_gt (a b : Int) (st : Sto) : pGt st (eI a) (eI b) = some (.bl (decide (b < a))) := rfl
def b2z (b : Bool) : Int := if b = true then 1 else 0
theorem t_intB (b : Bool) (st : Sto) : pInt st [eB b] = some (eI (b2z b)) := by cases b <;> rfl
theorem t_max (a b : Int) (st : Sto) : pMax2 st [eI a, eI b] = some (eI (max a b)) := by
  show some (D.int (if b > a then b else a)) = some (D.int (max a b))
  congr 2
  by_cases h : b > a
  · rw [if_pos h]; omega
  · rw [if_neg h]; omega
section
variable {α : Type} {e : α → D}
theorem t_lenT (xs : List α) (st : Sto) : pLen st [eT e xs] = some (eI (xs.length : Int)) := by
  show some (D.int ((xs.map e).length : Int)) = _
  rw [List.length_map] <;> rfl
theorem t_lenL (xs : List α) (st : Sto) : pLen st [eL e xs] = some (eI (xs.length : Int)) := by
  show some (D.int ((xs.map e).length : Int)) = _
  rw [List.length_map] <;> rfl
theorem atI_map (xs : List α) (i : Int) : atI (xs.map e) i = (atI xs i).map e := by
  unfold atI
  rw [List.length_map]
  cases ixN xs.length i with
  | none => rfl
  | some j => simp
theorem t_idxT (xs : List α) (i : Int) (x : α) (h : atI xs i = some x) (st : Sto) : pIdx st (eT e xs) (eI i) = some (e x) := by
  show (seqOf st (eT e xs)).bind (fun xs => atI xs i) = _
  show atI (xs.map e) i = _
  rw [atI_map, h] <;> rfl
theorem t_idxL (xs : List α) (i : Int) (x : α) (h : atI xs i = some x) (st : Sto) : pIdx st (eL e xs) (eI i) = some (e x) := by
  show (seqOf st (eL e xs)).bind (fun xs => atI xs i) = _
  show atI (xs.map e) i = _
  rw [atI_map, h] <;> rfl
theorem t_catT (xs ys : List α) (h : xs.length + ys.length ≤ 100000) (st : Sto) : pAdd st (eT e xs) (eT e ys) = some (eT e (xs ++ ys)) := by
  show (if (xs.map e).length + (ys.map e).length ≤ 100000 then some (D.tup (xs.map e ++ ys.map e)) else none) = _
  rw [List.length_map, List.length_map, if_pos h, ← List.map_append] <;> rfl
theorem t_catL (xs ys : List α) (h : xs.length + ys.length ≤ 100000) (st : Sto) : pCat st (eL e xs) (eL e ys) = some ((xs ++ ys).map e) := by
  show (if (xs.map e).length + (ys.map e).length ≤ 100000 then some (xs.map e ++ ys.map e) else none) = _
  rw [List.length_map, List.length_map, if_pos h, ← List.map_append]
theorem map_rep (xs : List α) (k : Nat) : (List.replicate k (xs.map e)).flatten = ((List.replicate k xs).flatten).map e := by
  induction k with
  | zero => rfl
  | succ k ih => rw [List.replicate_succ, List.flatten_cons, ih, List.replicate_succ, List.flatten_cons, List.map_append]
theorem t_repT (xs : List α) (k : Int) (h : xs.length ≤ 1000 ∧ -1000 ≤ k ∧ k ≤ 1000) (st : Sto) : pMul st (eT e xs) (eI k) = some (eT e (List.replicate k.toNat xs).flatten) := by
  show (if (xs.map e).length ≤ 1000 ∧ -1000 ≤ k ∧ k ≤ 1000 then some (D.tup (List.replicate k.toNat (xs.map e)).flatten) else none) = _
  rw [List.length_map, if_pos h, map_rep] <;> rfl
theorem t_repL (xs : List α) (k : Int) (h : xs.length * k.toNat ≤ 100000 ∧ -1000000 ≤ k ∧ k ≤ 1000000) (st : Sto) : pRepL st (eL e xs) (eI k) = some ((List.replicate k.toNat xs).flatten.map e) := by
  show (if (xs.map e).length * k.toNat ≤ 100000 ∧ -1000000 ≤ k ∧ k ≤ 1000000 then some (List.replicate k.toNat (xs.map e)).flatten else none) = _
  rw [List.length_map, if_pos h, map_rep]
theorem t_tupL (xs : List α) (st : Sto) : pTuple st [eL e xs] = some (eT e xs) := rfl
theorem t_listT (xs : List α) (st : Sto) : pList st [eT e xs] = some (xs.map e) := rfl
theorem t_sum (ns : List Int) (st : Sto) : pSum st [eL eI ns] = some (eI ns.sum) := by
  show ((some (ns.map eI)).bind intOf).map _ = _
  show (intOf (ns.map D.int)).map _ = _
  rw [intOf_map] <;> rfl
theorem cutD_map (xs : List α) (lo hi : Option Int) : cutD (xs.map e) lo hi = (cutD xs lo hi).map e := by
  unfold cutD
  rw [List.length_map, ← List.map_drop, ← List.map_take]
theorem tr_B (b : Bool) (st : Sto) : (eB b).truth st = some b := rfl
end
section
variable {S : Type}
def mmod (a b : Int) : Mt S Int := if 0 < b then mpure (a % b) else mbad
def midx {α : Type} (xs : List α) (i : Int) : Mt S α := mopt (atI xs i)
def mcat {α : Type} (xs ys : List α) : Mt S (List α) := if xs.length + ys.length ≤ 100000 then mpure (xs ++ ys) else mbad
def mrepT {α : Type} (xs : List α) (k : Int) : Mt S (List α) := if xs.length ≤ 1000 ∧ -1000 ≤ k ∧ k ≤ 1000 then mpure (List.replicate k.toNat xs).flatten else mbad
def mrepL {α : Type} (xs : List α) (k : Int) : Mt S (List α) := if xs.length * k.toNat ≤ 100000 ∧ -1000000 ≤ k ∧ k ≤ 1000000 then mpure (List.replicate k.toNat xs).flatten else mbad
def mdisp {α : Type} (xs : List α) : Mt S (List α) := if xs.length ≤ 100000 then mpure xs else mbad
def mapp {α : Type} (xs : List α) (x : α) : Mt S (List α) := if xs.length < 100000 then mpure (xs ++ [x]) else mbad
def rngI (lo hi : Int) : List Int := (List.range (hi - lo).toNat).map fun i : Nat => lo + (i : Int)
noncomputable def mrng (lo hi : Int) : Mt S (List Int) := @ite _ (-(2 ^ 62) ≤ lo ∧ lo < 2 ^ 62 ∧ -(2 ^ 62) ≤ hi ∧ hi < 2 ^ 62) (Classical.propDecidable _) (mpure (rngI lo hi)) mbad
noncomputable def mrngL (lo hi : Int) : Mt S (List Int) := @ite _ (rgOk lo hi) (Classical.propDecidable _) (mpure (rngI lo hi)) mbad
end
theorem rngD_rngI (lo hi : Int) : rngD lo (hi - lo).toNat = (rngI lo hi).map eI := by
  unfold rngD rngI
  rw [List.map_map] <;> rfl
section
variable {S : Type} {W : Wd S} {fr : Sto} {Γ : List Sl}
theorem af_op {p : Sto → D → D → Option D} {d1 d2 : D} {β : Type} {enc : β → D} {b : β} (h : ∀ st, p st d1 d2 = some (enc b)) : AC W fr Γ mNil (fun ds => F2 p (d1 :: d2 :: ds)) (mpure b) enc fun _ => Γ := ac_ret fun st => by
  show lift (p st d1 d2) st = _
  rw [h st] <;> rfl
theorem af_b1 {A β : Type} {p : Sto → List D → Option A} {d1 : D} {enc : β → A} {b : β} (h : ∀ st, p st [d1] = some (enc b)) : AC W fr Γ mNil (fun ds => FB p (d1 :: ds)) (mpure b) enc fun _ => Γ := ac_ret fun st => by
  show lift (p st [d1]) st = _
  rw [h st] <;> rfl
theorem af_mod (a b : Int) : AC W fr Γ mNil (fun ds => F2 pMod (eI a :: eI b :: ds)) (mmod a b) eI fun _ => Γ := ac_if fun h st => by
  show lift (pMod st (.int a) (.int b)) st = _
  rw [pMod_int _ _ _ h] <;> rfl
section
variable {α : Type} {e : α → D}
theorem af_idxT (xs : List α) (i : Int) : AC W fr Γ mNil (fun ds => F2 pIdx (eT e xs :: eI i :: ds)) (midx xs i) e fun _ => Γ := ac_opt fun b h st => by
  show lift (pIdx st (eT e xs) (eI i)) st = _
  rw [t_idxT xs i b h] <;> rfl
theorem af_idxL (xs : List α) (i : Int) : AC W fr Γ mNil (fun ds => F2 pIdx (eL e xs :: eI i :: ds)) (midx xs i) e fun _ => Γ := ac_opt fun b h st => by
  show lift (pIdx st (eL e xs) (eI i)) st = _
  rw [t_idxL xs i b h] <;> rfl
theorem af_catT (xs ys : List α) : AC W fr Γ mNil (fun ds => F2 pAdd (eT e xs :: eT e ys :: ds)) (mcat xs ys) (eT e) fun _ => Γ := ac_if fun h st => by
  show lift (pAdd st (eT e xs) (eT e ys)) st = _
  rw [t_catT xs ys h] <;> rfl
theorem af_catL (xs ys : List α) : AC W fr Γ mNil (fun ds => F2L pCat (eL e xs :: eL e ys :: ds)) (mcat xs ys) (fun zs => zs.map e) fun _ => Γ := ac_if fun h st => by
  show lift (pCat st (eL e xs) (eL e ys)) st = _
  rw [t_catL xs ys h] <;> rfl
theorem af_repT (xs : List α) (k : Int) : AC W fr Γ mNil (fun ds => F2 pMul (eT e xs :: eI k :: ds)) (mrepT xs k) (eT e) fun _ => Γ := ac_if fun h st => by
  show lift (pMul st (eT e xs) (eI k)) st = _
  rw [t_repT xs k h] <;> rfl
theorem af_repL (xs : List α) (k : Int) : AC W fr Γ mNil (fun ds => F2L pRepL (eL e xs :: eI k :: ds)) (mrepL xs k) (fun zs => zs.map e) fun _ => Γ := ac_if fun h st => by
  show lift (pRepL st (eL e xs) (eI k)) st = _
  rw [t_repL xs k h] <;> rfl
end
section
variable {α : Type} {e : α → D} {m : Rho → M D} {l h : Rho → M (Option Int)}
theorem hv_slT {xs : List α} {lo hi : Option Int} (hm : HV W fr Γ m (eT e xs)) (hl : HV W fr Γ l lo) (hh : HV W fr Γ h hi) : HV W fr Γ (mSlT m l h) (eT e (cutD xs lo hi)) := fun s ρ st H => by
  unfold mSlT
  rw [hm s ρ st H, Out.bind_ok, hl s ρ st H, Out.bind_ok, hh s ρ st H, Out.bind_ok]
  show Out.ok (D.tup (cutD (xs.map e) lo hi)) st = _
  rw [cutD_map] <;> rfl
theorem ht_slT {q : Mt S (List α)} {ql qh : Mt S (Option Int)} (hm : HT W fr Γ m q (eT e) fun _ => Γ) (hl : HT W fr Γ l ql id fun _ => Γ) (hh : HT W fr Γ h qh id fun _ => Γ) : HT W fr Γ (mSlT m l h) (mbind q fun xs => mbind ql fun lo => mbind qh fun hi => mpure (cutD xs lo hi)) (eT e) fun _ => Γ := fun s ρ st H => by
  unfold mSlT
  refine OR.bind (hm s ρ st H) fun xs s1 st1 H1 => ?_
  refine OR.bind (hl s1 ρ st1 H1) fun lo s2 st2 H2 => ?_
  refine OR.bind (hh s2 ρ st2 H2) fun hi s3 st3 H3 => ⟨st3, ?_, H3⟩
  show Out.ok (D.tup (cutD (xs.map e) lo hi)) st3 = _
  rw [cutD_map] <;> rfl
end
end
end Dn
namespace Dn
open PySem PySem.Spec PyProof.Rows L2
section
variable {S : Type}
def leOf {α : Type} (lt : α → α → Bool) (a b : α) : Bool := !lt b a
def msort {α : Type} (lt : α → α → Bool) (xs : List α) : Mt S (List α) := if xs.length ≤ 100000 then mpure (xs.mergeSort (leOf lt)) else mbad
theorem t_sorted {α : Type} [DecidableEq α] {e : α → D} {n : Nat} {lt : α → α → Bool} [Ev e n] [Or e lt] [Sb e] (hn : n ≤ 50) (xs : List α) (h : xs.length ≤ 100000) {d : D} {st : Sto} (hd : seqOf st d = some (xs.map e)) : pSorted st [d] = some ((xs.mergeSort (leOf lt)).map e) := by
  unfold pSorted
  simp only [hd]
  rw [if_pos]
  · congr 1
    unfold sortD
    rw [← List.map_mergeSort (r := leOf lt)]
    intro a _ b _
    show (!lt b a) = !PySem.W.dataLt (toP (e b)) (toP (e a))
    rw [Or.lt]
  · refine ⟨by rw [List.length_map]; exact h, fun x hx => ?_, fun x hx y hy => ?_, ?_⟩
    · obtain ⟨a, _, rfl⟩ := List.mem_map.mp hx
      exact ⟨Ev.p a, Nat.le_trans (Ev.dep (e := e) a) hn⟩
    · rw [List.map_map] at hx hy
      obtain ⟨a, _, rfl⟩ := List.mem_map.mp hx
      obtain ⟨b, _, rfl⟩ := List.mem_map.mp hy
      exact Or.al a b
    · rcases Sb.sb (e := e) with q | q
      · refine .inl fun d hd => ?_
        rw [List.map_map] at hd
        obtain ⟨a, _, rfl⟩ := List.mem_map.mp hd
        exact q a
      · refine .inr fun d hd => ?_
        rw [List.map_map] at hd
        obtain ⟨a, _, rfl⟩ := List.mem_map.mp hd
        exact q a
end
def enumZ {α : Type} (n : Nat) : List α → List (Int × α)
  | [] => []
  | x :: r => ((n : Int), x) :: enumZ (n + 1) r
theorem enumD_map {α : Type} (e : α → D) : ∀ (xs : List α) (n : Nat), enumD n (xs.map e) = (enumZ n xs).map (eP eI e)
  | [], _ => rfl
  | x :: r, n => by rw [List.map_cons, enumD, enumZ, List.map_cons, enumD_map e r] <;> rfl
section
variable {S : Type} {W : Wd S} {fr : Sto} {Γ : List Sl}
section
variable {α β : Type} {e : α → D} {f : β → D} {m m2 : Rho → M D} {q : Mt S (List α)} {q2 : Mt S (List β)} {Γ' : List α → List Sl}
theorem sT (xs : List α) (st : Sto) : srcOf st (eT e xs) = some (eSrc e xs) := rfl
theorem sL (xs : List α) (st : Sto) : srcOf st (eL e xs) = some (eSrc e xs) := rfl
theorem src_seq {en : List α → D} (hs : ∀ xs st, srcOf st (en xs) = some (eSrc e xs)) (h : HT W fr Γ m q en Γ') : HT W fr Γ (iSeq m) q (eSrc e) Γ' := fun s ρ st H => by
  unfold iSeq
  have := OR.bind (f := fun d st1 => lift (srcOf st1 d) st1) (k := mpure) (e' := eSrc e) (Γ'' := Γ') (h s ρ st H) fun xs s1 st1 H1 => by
    refine ⟨st1, ?_, H1⟩
    rw [hs xs st1] <;> rfl
  have e1 : rbind (q s) mpure = q s := congrFun (mbind_ret q) s
  rw [e1] at this
  exact this
theorem src_enum {en : List α → D} (hs : ∀ xs st, srcOf st (en xs) = some (eSrc e xs)) (h : HT W fr Γ m q en fun _ => Γ) : HT W fr Γ (iEnumD m) (mbind q fun xs => mpure (enumZ 0 xs)) (eSrc (eP eI e)) fun _ => Γ := fun s ρ st H => by
  unfold iEnumD
  refine OR.bind (h s ρ st H) fun xs s1 st1 H1 => ?_
  refine ⟨st1, ?_, H1⟩
  rw [hs xs st1, lift_some, Out.bind_ok]
  show Out.ok (⟨enumD 0 (xs.map e), []⟩ : Src) st1 = _
  rw [enumD_map] <;> rfl
end
theorem src_rng1 {m : Rho → M D} {q : Mt S Int} (h : HT W fr Γ m q eI fun _ => Γ) : HT W fr Γ (iRng1D m) (mbind q fun n => mrng 0 n) (eSrc eI) fun _ => Γ := fun s ρ st H => by
  unfold iRng1D
  refine OR.bind (h s ρ st H) fun n s1 st1 H1 => ?_
  unfold mrng
  by_cases hc : -(2 ^ 62) ≤ (0 : Int) ∧ (0 : Int) < 2 ^ 62 ∧ -(2 ^ 62) ≤ n ∧ n < 2 ^ 62
  · rw [if_pos hc]
    refine ⟨st1, ?_, H1⟩
    show lift (rng1 (.int n)) st1 = _
    unfold rng1
    dsimp only
    rw [if_pos hc.2.2, lift_some]
    have := rngD_rngI 0 n
    rw [Int.sub_zero] at this
    rw [this] <;> rfl
  · rw [if_neg hc]; trivial
theorem src_rng2 {m m2 : Rho → M D} {q q2 : Mt S Int} (h : HT W fr Γ m q eI fun _ => Γ) (h2 : HT W fr Γ m2 q2 eI fun _ => Γ) : HT W fr Γ (iRng2D m m2) (mbind q fun a => mbind q2 fun b => mrng a b) (eSrc eI) fun _ => Γ := fun s ρ st H => by
  unfold iRng2D
  refine OR.bind (h s ρ st H) fun a s1 st1 H1 => ?_
  refine OR.bind (h2 s1 ρ st1 H1) fun b s2 st2 H2 => ?_
  unfold mrng
  by_cases hc : -(2 ^ 62) ≤ a ∧ a < 2 ^ 62 ∧ -(2 ^ 62) ≤ b ∧ b < 2 ^ 62
  · rw [if_pos hc]
    refine ⟨st2, ?_, H2⟩
    show lift (rng2 (.int a) (.int b)) st2 = _
    unfold rng2
    dsimp only
    rw [if_pos hc, lift_some, rngD_rngI] <;> rfl
  · rw [if_neg hc]; trivial
theorem ht_tupRg {m : Rho → M D} {q : Mt S Int} (h : HT W fr Γ m q eI fun _ => Γ) : HT W fr Γ (mTupRg m) (mbind q fun n => mrngL 0 n) (eT eI) fun _ => Γ := fun s ρ st H => by
  unfold mTupRg
  refine OR.bind (h s ρ st H) fun b s2 st2 H2 => ?_
  unfold mrngL
  by_cases hc : rgOk 0 b
  · rw [if_pos hc]
    refine ⟨st2, ?_, H2⟩
    show lift ((lRange (.int 0) (.int b)).map D.tup) st2 = _
    unfold lRange
    dsimp only
    rw [if_pos hc, rngD_rngI] <;> rfl
  · rw [if_neg hc]; trivial
theorem ht_lstRg {m : Rho → M D} {q : Mt S Int} (h : HT W fr Γ m q eI fun _ => Γ) : HT W fr Γ (lLstRg m) (mbind q fun n => mrngL 0 n) (fun zs => zs.map eI) fun _ => Γ := fun s ρ st H => by
  unfold lLstRg
  refine OR.bind (h s ρ st H) fun b s2 st2 H2 => ?_
  unfold mrngL
  by_cases hc : rgOk 0 b
  · rw [if_pos hc]
    refine ⟨st2, ?_, H2⟩
    show lift (lRange (.int 0) (.int b)) st2 = _
    unfold lRange
    dsimp only
    rw [if_pos hc, rngD_rngI] <;> rfl
  · rw [if_neg hc]; trivial
theorem af_sortL {α : Type} [DecidableEq α] {e : α → D} {n : Nat} {lt : α → α → Bool} [Ev e n] [Or e lt] [Sb e] (hn : n ≤ 50) (xs : List α) : AC W fr Γ mNil (fun ds => FB pSorted (eL e xs :: ds)) (msort lt xs) (fun zs => zs.map e) fun _ => Γ := ac_if fun h st => by
  show lift (pSorted st [eL e xs]) st = _
  rw [t_sorted hn xs h rfl] <;> rfl
def msetS {S : Type} (xs : List Int) : Mt S (List Int) := if xs.length ≤ 1000 ∧ (setI xs).length < 64 then mpure (sortI xs) else mbad
theorem intsOf_eI : ∀ xs : List Int, intsOf (xs.map eI) = some xs
  | [] => rfl
  | x :: xs => by
    show (intsOf (xs.map eI)).map (x :: ·) = _
    rw [intsOf_eI xs] <;> rfl
theorem iL (xs : List Int) (st : Sto) : intsAt st (eL eI xs) = some xs := intsOf_eI xs
theorem ht_sortSet {m : Rho → M D} {q : Mt S (List Int)} {en : List Int → D} (hs : ∀ xs st, intsAt st (en xs) = some xs) (h : HT W fr Γ m q en fun _ => Γ) : HT W fr Γ (lSortSet m) (mbind q fun xs => msetS xs) (fun zs => zs.map eI) fun _ => Γ := fun s ρ st H => by
  unfold lSortSet
  refine OR.bind (h s ρ st H) fun xs s1 st1 H1 => ?_
  rw [hs xs st1]
  dsimp only
  unfold msetS
  split
  · exact ⟨st1, rfl, H1⟩
  · trivial
section
variable {α : Type} {e : α → D} {i : Nat} {xs : List α}
theorem onL_ref {st : Sto} {l : Nat} {ys : List D} {f : Nat → List D → Out D} (h : st[l]? = some (.lst ys)) : onL st (.ref l) f = f l ys := by
  unfold onL
  dsimp only
  rw [h]
theorem eraseIdx_map : ∀ (ys : List α) (k : Nat), (ys.eraseIdx k).map e = (ys.map e).eraseIdx k
  | [], _ => rfl
  | y :: ys, 0 => rfl
  | y :: ys, k + 1 => by simp [eraseIdx_map ys k]
theorem isTy_ref {st : Sto} {l : Nat} {ys : List D} (h : st[l]? = some (.lst ys)) : (D.ref l).isTy st "list" := ⟨rfl, ys, h⟩
theorem mMeth_one {p : D → List D → M D} {m : Rho → M D} {ρ : Rho} {st st1 : Sto} {l : Nat} {d : D} {ys : List D} (h1 : ρ[i]? = some (some (.ref l))) (h2 : st[l]? = some (.lst ys)) (h3 : m ρ st = .ok d st1) : mMeth "list" p (mVar i) (mCons m mNil) ρ st = nox (p (.ref l) [d] st1) := by
  have e1 : mVar i ρ st = .ok (.ref l) st := by unfold mVar; rw [h1]
  unfold mMeth
  rw [e1, Out.bind_ok, if_pos (isTy_ref h2)]
  unfold mCons mNil
  rw [h3] <;> rfl
theorem ht_append {m : Rho → M D} {q : Mt S α} (hi : Γ[i]? = some (.mut (.lst (xs.map e)))) (h : HT W fr Γ m q e fun _ => Γ) :
    HT W fr Γ (mMeth "list" pAppend (mVar i) (mCons m mNil)) (mbind q fun x => mapp xs x) (fun _ => .non) fun ys => Γ.set i (.mut (.lst (ys.map e))) := fun s ρ st H => by
  obtain ⟨l, q1, q2, q3⟩ := H.mt i _ hi
  have h1 := h s ρ st H
  show OR W fr _ ρ _ _ (rbind (q s) _)
  revert h1
  induction (q s) with
  | ok x s1 =>
    rintro ⟨st1, e1, H1⟩
    rw [mMeth_one q1 q3 e1]
    obtain ⟨l', p1, p2, p3⟩ := H1.mt i _ hi
    rw [q1] at p1
    injection p1 with p1
    injection p1 with p1
    injection p1 with p1
    subst p1
    show OR W fr _ ρ _ _ (mapp xs x s1)
    unfold mapp
    by_cases hl : xs.length < 100000
    · rw [if_pos hl]
      refine ⟨st1.set l (.lst ((xs ++ [x]).map e)), ?_, H1.write _ hi q1⟩
      unfold pAppend
      rw [onL_ref p3]
      dsimp only
      rw [List.length_map, if_pos (show xs.length < SZ from hl)]
      simp
    · rw [if_neg hl]; trivial
  | exc x s1 =>
    rintro ⟨st1, e1, H1⟩
    refine ⟨st1, ?_, H1⟩
    have e1' : mVar i ρ st = .ok (.ref l) st := by unfold mVar; rw [q1]
    unfold mMeth
    rw [e1', Out.bind_ok, if_pos (isTy_ref q3)]
    unfold mCons
    rw [e1] <;> rfl
  | bad => intro _; trivial
  | amb P_ f_ ih_ => rintro ⟨n_, p_, h_⟩; exact ⟨n_, p_, ih_ n_ h_⟩
theorem ht_extend {m : Rho → M D} {q : Mt S (List α)} (hi : Γ[i]? = some (.mut (.lst (xs.map e)))) (h : HT W fr Γ m q (eL e) fun _ => Γ) :
    HT W fr Γ (mMeth "list" pExtend (mVar i) (mCons m mNil)) (mbind q fun ys => mcat xs ys) (fun _ => .non) fun ys => Γ.set i (.mut (.lst (ys.map e))) := fun s ρ st H => by
  obtain ⟨l, q1, q2, q3⟩ := H.mt i _ hi
  have h1 := h s ρ st H
  show OR W fr _ ρ _ _ (rbind (q s) _)
  revert h1
  induction (q s) with
  | ok ys s1 =>
    rintro ⟨st1, e1, H1⟩
    rw [mMeth_one q1 q3 e1]
    obtain ⟨l', p1, p2, p3⟩ := H1.mt i _ hi
    rw [q1] at p1
    injection p1 with p1
    injection p1 with p1
    injection p1 with p1
    subst p1
    show OR W fr _ ρ _ _ (mcat xs ys s1)
    unfold mcat
    by_cases hl : xs.length + ys.length ≤ 100000
    · rw [if_pos hl]
      refine ⟨st1.set l (.lst ((xs ++ ys).map e)), ?_, H1.write _ hi q1⟩
      unfold pExtend
      rw [onL_ref p3]
      show nox (if (xs.map e).length + (ys.map e).length ≤ SZ then _ else _) = _
      rw [List.length_map, List.length_map, if_pos (show xs.length + ys.length ≤ SZ from hl), ← List.map_append] <;> rfl
    · rw [if_neg hl]; trivial
  | exc x s1 =>
    rintro ⟨st1, e1, H1⟩
    refine ⟨st1, ?_, H1⟩
    have e1' : mVar i ρ st = .ok (.ref l) st := by unfold mVar; rw [q1]
    unfold mMeth
    rw [e1', Out.bind_ok, if_pos (isTy_ref q3)]
    unfold mCons
    rw [e1] <;> rfl
  | bad => intro _; trivial
  | amb P_ f_ ih_ => rintro ⟨n_, p_, h_⟩; exact ⟨n_, p_, ih_ n_ h_⟩
def mpopIx (xs : List α) (k : Int) : Mt S (α × List α) := if 0 ≤ k ∧ k < 1000000 then (match xs[k.toNat]? with
  | some y => mpure (y, xs.eraseIdx k.toNat)
  | none => mbad) else mbad
theorem ht_popIx {m : Rho → M D} {q : Mt S Int} (hi : Γ[i]? = some (.mut (.lst (xs.map e)))) (h : HT W fr Γ m q eI fun _ => Γ) :
    HT W fr Γ (mMeth "list" pPopAt (mVar i) (mCons m mNil)) (mbind q fun k => mpopIx xs k) (fun z => e z.1) fun z => Γ.set i (.mut (.lst (z.2.map e))) := fun s ρ st H => by
  obtain ⟨l, q1, q2, q3⟩ := H.mt i _ hi
  have h1 := h s ρ st H
  show OR W fr _ ρ _ _ (rbind (q s) _)
  revert h1
  induction (q s) with
  | ok k s1 =>
    rintro ⟨st1, e1, H1⟩
    rw [mMeth_one q1 q3 e1]
    obtain ⟨l', p1, p2, p3⟩ := H1.mt i _ hi
    rw [q1] at p1
    injection p1 with p1
    injection p1 with p1
    injection p1 with p1
    subst p1
    show OR W fr _ ρ _ _ (mpopIx xs k s1)
    unfold mpopIx
    by_cases hl : 0 ≤ k ∧ k < 1000000
    · rw [if_pos hl]
      cases hx : xs[k.toNat]? with
      | none => trivial
      | some y =>
        refine ⟨st1.set l (.lst ((xs.eraseIdx k.toNat).map e)), ?_, H1.write _ hi q1⟩
        have hlt := (List.getElem?_eq_some_iff.mp hx).1
        unfold pPopAt
        rw [onL_ref p3]
        show nox (@ite _ _ (Classical.propDecidable _) (match seqIndex? k (xs.map e).length with
          | some k => match (xs.map e)[k]? with
            | some y => Out.ok y (st1.set l (.lst ((xs.map e).eraseIdx k)))
            | none => .bad
          | none => .bad) _) = _
        rw [if_pos ⟨by have : (-(2:Int) ^ 63) ≤ 0 := by decide
                       omega, by have : (1000000 : Int) < 2 ^ 63 := by decide
                                 omega⟩]
        have hs : seqIndex? k (xs.map e).length = some k.toNat := by
          unfold seqIndex?
          simp only [List.length_map]
          rw [if_neg (show ¬ k < 0 by omega)]
          have h1 : (decide (0 ≤ k) && decide (k < (xs.length : Int))) = true := by
            rw [Bool.and_eq_true, decide_eq_true_eq, decide_eq_true_eq]
            omega
          rw [if_pos h1]
        rw [hs]
        dsimp only
        rw [List.getElem?_map, hx]
        dsimp only [Option.map]
        rw [← eraseIdx_map] <;> rfl
    · rw [if_neg hl]; trivial
  | exc x s1 =>
    rintro ⟨st1, e1, H1⟩
    refine ⟨st1, ?_, H1⟩
    have e1' : mVar i ρ st = .ok (.ref l) st := by unfold mVar; rw [q1]
    unfold mMeth
    rw [e1', Out.bind_ok, if_pos (isTy_ref q3)]
    unfold mCons
    rw [e1] <;> rfl
  | bad => intro _; trivial
  | amb P_ f_ ih_ => rintro ⟨n_, p_, h_⟩; exact ⟨n_, p_, ih_ n_ h_⟩
def msetI (xs : List α) (j : Int) (x : α) : Mt S (List α) := match ixN xs.length j with
  | some k => mpure (xs.set k x)
  | none => mbad
theorem tn_setitem {m mi : Rho → M D} {q : Mt S α} {qi : Mt S Int} (hi : Γ[i]? = some (.mut (.lst (xs.map e)))) (h : HT W fr Γ m q e fun _ => Γ) (hj : HT W fr Γ mi qi eI fun _ => Γ) :
    TN W fr Γ (sAsg (gSubD (mVar i) mi) m) (mbind q fun x => calmly (mbind qi fun j => msetI xs j x)) fun ys => Γ.set i (.mut (.lst (ys.map e))) := fun s ρ st H => by
  refine OR.fl (f := fun d st1 => (nox (gSubD (mVar i) mi d ρ st1)).fl ρ fun ρ2 st2 => .next ρ2 st2) (h s ρ st H) fun x s1 st1 H1 => ?_
  obtain ⟨l, q1, q2, q3⟩ := H1.mt i _ hi
  have e1 : mVar i ρ st1 = .ok (.ref l) st1 := by unfold mVar; rw [q1]
  have h2 := hj s1 ρ st1 H1
  show NR W fr _ _ (rcalm (rbind (qi s1) _))
  unfold gSubD
  rw [e1, Out.bind_ok]
  revert h2
  induction (qi s1) with
  | ok j s2 =>
    rintro ⟨st2, e2, H2⟩
    obtain ⟨l', p1, p2, p3⟩ := H2.mt i _ hi
    rw [q1] at p1
    injection p1 with p1
    injection p1 with p1
    injection p1 with p1
    subst p1
    rw [e2, Out.bind_ok]
    show NR W fr _ _ (rcalm (msetI xs j x s2))
    unfold msetI
    cases hx : ixN xs.length j with
    | none => trivial
    | some k =>
      refine ⟨ρ, st2.set l (.lst ((xs.set k x).map e)), ?_, H2.write _ hi q1⟩
      unfold eI
      dsimp only
      rw [p3]
      dsimp only
      rw [List.length_map, hx]
      dsimp only
      rw [List.map_set] <;> rfl
  | exc y s2 => intro _; trivial
  | bad => intro _; trivial
  | amb P_ f_ ih_ => rintro ⟨n_, p_, h_⟩; exact ⟨n_, p_, ih_ n_ h_⟩
end
end
end Dn
namespace Dn
open PySem PySem.Spec PyProof.Rows L2
section
variable {S : Type} {W : Wd S} {fr : Sto} {Γ Γ1 Γ2 : List Sl}
theorem af_tupE {α : Type} {e : α → D} {F : List D → M D} (xs : List α) (h : F [] = FTup (xs.map e)) : AC W fr Γ mNil F (mdisp xs) (eT e) fun _ => Γ := ac_if fun hl st => by
  rw [h]
  unfold FTup
  rw [List.length_map, if_pos hl] <;> rfl
theorem af_dispE {α : Type} {e : α → D} {F : List D → M (List D)} (xs : List α) (h : F [] = FDisp (xs.map e)) : AC W fr Γ mNil F (mdisp xs) (fun zs => zs.map e) fun _ => Γ := ac_if fun hl st => by
  rw [h]
  unfold FDisp
  rw [List.length_map, if_pos hl]
theorem le_c {a b : Nat} (h : Nat.ble a b = true) : a ≤ b := Nat.le_of_ble_eq_true h
theorem lt_c {a b : Nat} (h : Nat.ble (a + 1) b = true) : a < b := Nat.le_of_ble_eq_true h
theorem hv_yes : HV W fr Γ bYes true := fun _ _ _ _ => rfl
theorem tn_skip {σ : Type} {z : σ} {J : σ → List Sl} (w : Wk Γ (J z)) : TN W fr Γ sNext (mpure z) J := fun s ρ st H => ⟨ρ, st, rfl, H.wk w⟩
theorem tl_endF {σ τ β : Type} {m : Rho → Sto → Fl} {q : Mt S (τ ⊕ β)} {J1 : τ → List Sl} {J : σ → List Sl} {enc : β → D} {f : τ → σ} (h : TF W fr Γ m q J1 enc) (w : ∀ z, Wk (J1 z) (J (f z))) : TL W fr Γ m (mfinL q fun z => mpure (.nx (f z))) J enc := fun s ρ st H => by
  have := h s ρ st H
  revert this
  show FR W fr J1 enc _ _ → LR W fr J enc _ (rbind (q s) _)
  induction (q s) with
  | ok z s' =>
    cases z with
    | inl z => rintro ⟨ρ', st', e, h2⟩; exact ⟨ρ', st', .inl e, h2.wk (w z)⟩
    | inr b => exact id
  | exc x s' => exact id
  | bad => exact id
  | amb P_ f_ ih_ => rintro ⟨n_, p_, h_⟩; exact ⟨n_, p_, ih_ n_ h_⟩
theorem mCons_fl {m : Rho → M D} {r : Rho → M (List D)} {F : Rho → List D → Sto → Fl} (ρ : Rho) (st : Sto) : (mCons m r ρ st).fl ρ (F ρ) = (m ρ st).fl ρ fun d st1 => (r ρ st1).fl ρ fun ds st2 => F ρ (d :: ds) st2 := by
  unfold mCons
  cases m ρ st with
  | ok d st1 => simp only [Out.bind_ok, Out.fl_ok]; cases r ρ st1 <;> rfl
  | exc _ _ => rfl
  | bad => rfl
theorem ap_T1 {σ γ : Type} {m : Rho → M D} {r : Rho → M (List D)} {F : Rho → List D → Sto → Fl} {d : D} {q1 : Mt S γ} {e1 : γ → D} {k : γ → Mt S σ} {J : σ → List Sl} (h : HT W fr Γ m q1 e1 fun _ => Γ)
    (hr : ∀ x, AP W fr Γ [(d, .val d), (e1 x, .val (e1 x))] r (fun ρ ds => F ρ (e1 x :: ds)) (k x) J) : AP W fr Γ [(d, .val d)] (mCons m r) F (mbind q1 k) J := fun s ρ st H hρ => by
  rw [mCons_fl]
  refine OR.fl (h s ρ st (H.front hρ)) fun b s1 st1 H1 => hr b s1 ρ st1 ?_ hρ
  have := (H1.snocVal d).snocVal (e1 b)
  simpa using this
theorem mNew_fl {l : Rho → M (List D)} {r : Rho → M (List D)} {F : Rho → List D → Sto → Fl} (ρ : Rho) (st : Sto) : (mCons (mNew l) r ρ st).fl ρ (F ρ) = (l ρ st).fl ρ fun xs st1 => (r ρ (st1 ++ [.lst xs])).fl ρ fun ds st2 => F ρ (.ref st1.length :: ds) st2 := by
  unfold mCons mNew
  cases l ρ st with
  | ok xs st1 => simp only [Out.bind_ok, Out.fl_ok]; cases r ρ (st1 ++ [.lst xs]) <;> rfl
  | exc _ _ => rfl
  | bad => rfl
theorem ap_NewT0 {σ γ : Type} {l : Rho → M (List D)} {r : Rho → M (List D)} {F : Rho → List D → Sto → Fl} {q1 : Mt S γ} {e1 : γ → List D} {k : γ → Mt S σ} {J : σ → List Sl} (h : HT W fr Γ l q1 e1 fun _ => Γ)
    (hr : ∀ x a, AP W fr Γ [(.ref a, .mut (.lst (e1 x)))] r (fun ρ ds => F ρ (.ref a :: ds)) (k x) J) : AP W fr Γ [] (mCons (mNew l) r) F (mbind q1 k) J := fun s ρ st H hρ => by
  rw [mNew_fl]
  refine OR.fl (h s ρ st (H.front hρ)) fun b s1 st1 H1 => hr b st1.length s1 ρ _ ?_ hρ
  have := H1.snocNew (.lst (e1 b))
  simpa using this
end
end Dn
namespace Dn
open PySem PySem.Spec PyProof.Rows L2
variable [HzC]
section
variable {S α β γ σ : Type}
theorem forU_inv {body : α → σ → Mt S σ} (xs : List α) (z0 : σ) (f : List α → σ) (h0 : f [] = z0) (hb : ∀ pre x post, xs = pre ++ x :: post → body x (f pre) = mpure (f (pre ++ [x]))) : forU body xs z0 = mpure (f xs) := by
  suffices h : ∀ (post pre : List α), xs = pre ++ post → forU body post (f pre) = mpure (f xs) by
    rw [← h0]
    exact h xs [] rfl
  intro post
  induction post with
  | nil =>
    intro pre e
    rw [List.append_nil] at e
    rw [e] <;> rfl
  | cons x post ih =>
    intro pre e
    unfold forU
    rw [hb pre x post e, mbind_pure]
    exact ih (pre ++ [x]) (by rw [e]; simp)
theorem forX_find {body : α → Unit → Mt S (Lp Unit β)} (p : α → Bool) (b : α → β) : ∀ (xs : List α), (∀ x ∈ xs, body x () = mpure (if p x = true then .rt (b x) else .nx ())) → forX body xs () = mpure (match xs.find? p with
    | some x => .inr (b x)
    | none => .inl ())
  | [], _ => rfl
  | x :: xs, hb => by
    unfold forX
    rw [hb x (by simp), mbind_pure]
    cases h : p x
    · simp only [Bool.false_eq_true, if_false, List.find?_cons, h]
      exact forX_find p b xs fun y hy => hb y (by simp [hy])
    · simp only [if_true, List.find?_cons, h]
theorem compV_ok {c : α → Bool} {f : α → β} {xs : List α} (h : xs.length ≤ 100000) : compV (S := S) c f xs = mpure ((xs.filter c).map f) := if_pos h
theorem mapT_pure {f : α → Mt S β} (g : α → β) : ∀ xs : List α, (∀ x ∈ xs, f x = mpure (g x)) → mapT f xs = mpure (xs.map g)
  | [], _ => rfl
  | x :: xs, h => by
    unfold mapT
    rw [h x (by simp), mbind_pure, mapT_pure g xs fun y hy => h y (by simp [hy]), mbind_pure] <;> rfl
theorem compM_pure {c : α → Bool} {f : α → Mt S β} (g : α → β) {xs : List α} (hl : xs.length ≤ 100000) (h : ∀ x ∈ xs, c x = true → f x = mpure (g x)) : compM c f xs = mpure ((xs.filter c).map g) := by
  unfold compM
  rw [if_pos hl]
  exact mapT_pure g _ fun x hx => h x (List.mem_filter.mp hx).1 (List.mem_filter.mp hx).2
theorem filter_true {α : Type} (xs : List α) : xs.filter (fun _ => true) = xs := by simp
theorem midx_ok {xs : List α} {i : Int} {x : α} (h0 : 0 ≤ i) (h : xs[i.toNat]? = some x) : midx (S := S) xs i = mpure x := by
  have hl := (List.getElem?_eq_some_iff.mp h).1
  have e : ixN xs.length i = some i.toNat := by
    unfold ixN
    rw [if_pos h0, if_pos (by omega)]
  unfold midx atI
  rw [e]
  show mopt xs[i.toNat]? = _
  rw [h] <;> rfl
theorem mmod_ok {a b : Int} (h : 0 < b) : mmod (S := S) a b = mpure (a % b) := if_pos h
theorem mcat_ok {xs ys : List α} (h : xs.length + ys.length ≤ 100000) : mcat (S := S) xs ys = mpure (xs ++ ys) := if_pos h
theorem mapp_ok {xs : List α} {x : α} (h : xs.length < 100000) : mapp (S := S) xs x = mpure (xs ++ [x]) := if_pos h
theorem mdisp_ok {xs : List α} (h : xs.length ≤ 100000) : mdisp (S := S) xs = mpure xs := if_pos h
theorem msort_ok {lt : α → α → Bool} {xs : List α} (h : xs.length ≤ 100000) : msort (S := S) lt xs = mpure (xs.mergeSort (leOf lt)) := if_pos h
theorem mrepT_ok {x : α} {k : Int} (h0 : 0 ≤ k) (h : k ≤ 1000) : mrepT (S := S) [x] k = mpure (List.replicate k.toNat x) := by
  unfold mrepT
  rw [if_pos ⟨by simp, by omega, h⟩]
  congr 1
  generalize k.toNat = n
  induction n with
  | zero => rfl
  | succ n ih => rw [List.replicate_succ, List.flatten_cons, ih] <;> rfl
theorem mrepL_ok {x : α} {k : Int} (h0 : 0 ≤ k) (h : k ≤ 1000) : mrepL (S := S) [x] k = mpure (List.replicate k.toNat x) := by
  unfold mrepL
  rw [if_pos ⟨by simp; omega, by omega, by omega⟩]
  congr 1
  generalize k.toNat = n
  induction n with
  | zero => rfl
  | succ n ih => rw [List.replicate_succ, List.flatten_cons, ih] <;> rfl
def upto (n : Nat) : List Int := (List.range n).map fun i : Nat => (i : Int)
theorem upto_length (n : Nat) : (upto n).length = n := by simp [upto]
theorem mem_upto {n : Nat} {a : Int} : a ∈ upto n ↔ 0 ≤ a ∧ a < n := by
  unfold upto
  simp only [List.mem_map, List.mem_range]
  constructor
  · rintro ⟨i, h, rfl⟩; omega
  · intro ⟨h1, h2⟩; exact ⟨a.toNat, by omega, by omega⟩
theorem rngI_upto (n : Int) : rngI 0 n = upto n.toNat := by
  unfold rngI upto
  rw [Int.sub_zero]
  congr 1
  funext i
  exact Int.zero_add _
theorem mrng_ok {n : Int} (h : n ≤ 1000000000) (h0 : -1000000000 ≤ n) : mrng (S := S) 0 n = mpure (upto n.toNat) := by
  unfold mrng
  have e1 : (2 : Int) ^ 62 = 4611686018427387904 := by decide
  rw [if_pos (by rw [e1]; omega), rngI_upto]
theorem mrng_nat (n : Nat) (h : n ≤ 1000000000) : mrng (S := S) 0 (n : Int) = mpure (upto n) := by rw [mrng_ok (by omega) (by omega), Int.toNat_natCast]
theorem mrngL_ok {n : Int} (h0 : 0 ≤ n) (h : n ≤ 100000) : mrngL (S := S) 0 n = mpure (upto n.toNat) := by
  unfold mrngL
  have e1 : (2 : Int) ^ 62 = 4611686018427387904 := by decide
  have hs : (SZ : Nat) = 100000 := rfl
  rw [if_pos (by unfold rgOk; rw [e1, hs]; omega), rngI_upto]
theorem mrngL_nat (n : Nat) (h : n ≤ 100000) : mrngL (S := S) 0 (n : Int) = mpure (upto n) := by rw [mrngL_ok (by omega) (by omega), Int.toNat_natCast]
theorem mrng2_ok {lo hi : Int} (h1 : -1000000000 ≤ lo) (h2 : lo ≤ 1000000000) (h3 : -1000000000 ≤ hi) (h4 : hi ≤ 1000000000) : mrng (S := S) lo hi = mpure (rngI lo hi) := by
  unfold mrng
  have e1 : (2 : Int) ^ 62 = 4611686018427387904 := by decide
  rw [if_pos (by rw [e1]; omega)]
theorem enumZ_get : ∀ (xs : List α) (n i : Nat), (enumZ n xs)[i]? = xs[i]?.map fun x => (((n + i : Nat) : Int), x)
  | [], _, _ => by simp [enumZ]
  | x :: xs, n, 0 => by simp [enumZ]
  | x :: xs, n, i + 1 => by
    rw [enumZ, List.getElem?_cons_succ, enumZ_get xs (n + 1) i, List.getElem?_cons_succ]
    rw [show n + 1 + i = n + (i + 1) by omega]
theorem enumZ_length : ∀ (xs : List α) (n : Nat), (enumZ n xs).length = xs.length
  | [], _ => rfl
  | x :: xs, n => by rw [enumZ, List.length_cons, enumZ_length xs, List.length_cons]
theorem upto_get (n i : Nat) : (upto n)[i]? = if i < n then some (i : Int) else none := by
  unfold upto
  rw [List.getElem?_map]
  by_cases h : i < n
  · rw [List.getElem?_range h, if_pos h] <;> rfl
  · rw [List.getElem?_eq_none (by simpa using h), if_neg h] <;> rfl
theorem enumZ_upto (n : Nat) (w : Int → α) : enumZ 0 ((upto n).map w) = (upto n).map fun i => (i, w i) := by
  apply List.ext_getElem?
  intro i
  rw [enumZ_get, List.getElem?_map, List.getElem?_map, upto_get, Nat.zero_add]
  by_cases h : i < n
  · simp [h]
  · simp [h]
theorem sort_ints (xs : List Int) : xs.mergeSort (leOf ltI) = xs.mergeSort (fun a b => decide (a ≤ b)) := by
  congr 1
  funext a b
  unfold leOf ltI
  by_cases h : b < a
  · have : ¬ a ≤ b := by omega
    simp [h, this]
  · have : a ≤ b := by omega
    simp [h, this]
theorem sort_eq {xs ys : List Int} (hp : xs.Perm ys) (hs : ys.Pairwise (· < ·)) : xs.mergeSort (leOf ltI) = ys := by
  rw [sort_ints]
  have h1 : (xs.mergeSort (fun a b => decide (a ≤ b))).Pairwise (fun a b => decide (a ≤ b) = true) := List.pairwise_mergeSort (by intro a b c; simp; omega) (by intro a b; simp; omega) xs
  have h2 : ys.Pairwise (fun a b => decide (a ≤ b) = true) := hs.imp fun {a b} h => by
    have : a ≤ b := Int.le_of_lt h
    simpa using this
  exact List.Perm.eq_of_pairwise (fun a b _ _ h1 h2 => by simp at h1 h2; omega) h1 h2 ((List.mergeSort_perm _ _).trans hp)
end
end Dn
namespace Dn
open PySem PySem.Spec PyProof.Rows L2
theorem nodup_len_sub {l m : List Int} (hn : l.Nodup) : (∀ a ∈ l, a ∈ m) → l.length ≤ m.length := by
  induction l generalizing m with
  | nil => intro _; exact Nat.zero_le _
  | cons a l ih =>
    intro h
    have h1 := ih (m := m.erase a) (List.nodup_cons.mp hn).2 fun b hb => (List.mem_erase_of_ne (fun q => (List.nodup_cons.mp hn).1 (by rw [← q]; exact hb))).mpr (h b (by simp [hb]))
    have h2 : a ∈ m := h a (by simp)
    rw [List.length_erase_of_mem h2] at h1
    have := List.length_pos_of_mem h2
    rw [List.length_cons]
    omega
theorem nodup_upto (n : Nat) : (upto n).Nodup := by
  unfold upto
  exact List.Pairwise.map _ (fun _ _ h q => h (by omega)) List.nodup_range
theorem sorted_upto (n : Nat) : (upto n).Pairwise (· < ·) := by
  unfold upto
  exact List.Pairwise.map _ (fun _ _ h => by omega) List.pairwise_lt_range
theorem sortI_perm (xs : List Int) : (sortI xs).Perm (setI xs) := List.mergeSort_perm _ _
theorem sortI_len (xs : List Int) : (sortI xs).length = (setI xs).length := (sortI_perm xs).length_eq
theorem mem_sortI {a : Int} {xs : List Int} : a ∈ sortI xs ↔ a ∈ xs := by rw [(sortI_perm xs).mem_iff, mem_setI]
theorem setI_small {xs : List Int} {n : Nat} (h : ∀ a ∈ xs, 0 ≤ a ∧ a < (n : Int)) : (setI xs).length ≤ n := by
  have := nodup_len_sub (m := upto n) (nodup_setI xs) fun a ha => mem_upto.mpr (h a (mem_setI.mp ha))
  rwa [upto_length] at this
theorem setI_full {xs : List Int} {n : Nat} (h : ∀ a ∈ xs, 0 ≤ a ∧ a < (n : Int)) : (setI xs).length = n ↔ ∀ a, 0 ≤ a → a < (n : Int) → a ∈ xs := by
  constructor
  · intro e a h0 h1
    apply Classical.byContradiction
    intro hn
    have h2 := nodup_len_sub (m := (upto n).erase a) (nodup_setI xs) fun b hb => (List.mem_erase_of_ne fun q => hn (by rw [← q]; exact mem_setI.mp hb)).mpr (mem_upto.mpr (h b (mem_setI.mp hb)))
    have h3 : a ∈ upto n := mem_upto.mpr ⟨h0, h1⟩
    rw [List.length_erase_of_mem h3, upto_length] at h2
    omega
  · intro hall
    have h1 := setI_small h
    have h2 := nodup_len_sub (m := setI xs) (nodup_upto n) fun a ha => mem_setI.mpr (hall a (mem_upto.mp ha).1 (mem_upto.mp ha).2)
    rw [upto_length] at h2
    omega
theorem msetS_ok {S : Type} {xs : List Int} {n : Nat} (hn : n < 64) (h : ∀ a ∈ xs, 0 ≤ a ∧ a < (n : Int)) (hl : xs.length ≤ 1000) : msetS (S := S) xs = mpure (sortI xs) := by
  unfold msetS
  have := setI_small h
  rw [if_pos ⟨hl, by omega⟩]
theorem sortI_sorted (xs : List Int) : (sortI xs).Pairwise (· < ·) := by
  have hn : (sortI xs).Nodup := (sortI_perm xs).nodup_iff.mpr (nodup_setI xs)
  have h2 := List.pairwise_mergeSort (le := fun a b : Int => decide (a ≤ b)) (by intro a b c; simp; omega) (by intro a b; simp; omega) (setI xs)
  exact (List.Pairwise.and h2 hn).imp fun {a b} h => by
    have h1 : a ≤ b := by simpa using h.1
    have h2 : a ≠ b := h.2
    omega
theorem midx_row {S : Type} {pan : List (List Int)} {b : Int} (h0 : 0 ≤ b) (h : b < pan.length) : midx (S := S) pan b = mpure (rowAt pan b) := by
  have hl : b.toNat < pan.length := by omega
  refine midx_ok h0 ?_
  unfold rowAt
  rw [List.getElem?_eq_getElem hl, List.getD_eq_getElem?_getD, List.getElem?_eq_getElem hl] <;> rfl
theorem midx_getD {S α : Type} {xs : List α} {b : Int} (d : α) (h0 : 0 ≤ b) (h : b < xs.length) : midx (S := S) xs b = mpure (xs.getD b.toNat d) := by
  have hl : b.toNat < xs.length := by omega
  refine midx_ok h0 ?_
  rw [List.getElem?_eq_getElem hl, List.getD_eq_getElem?_getD, List.getElem?_eq_getElem hl] <;> rfl
def relabelS (scope sc : Scope) : Scope :=
  { scope with names := scope.names.map fun (n, k) => if (k == .free && sc.kind == .function && sc.names.lookup n == some .cell) then (n, .cell) else (n, k) }
theorem blk_in {X : Cx} {s : Shared} {H : Hp} {scope1 scope2 : Scope} {cl : List (Str × Addr)} {C : Addr} {fp : List Addr} {N : List Str} {sc : Scope} {own : List (Str × Nat)} (hN : X.N = N) (hs : X.env.scope = sc) (h : blkC N (relabelS scope1 sc) scope2 own = true) :
    BlkOk (X.blk s H scope1 (compEnvC scope1 cl C X.env) fp).N (X.blk s H scope1 (compEnvC scope1 cl C X.env) fp).env.scope scope2 own := by
  subst hN
  subst hs
  exact blkOk_by h
def Bel (n : Nat) (r : List Int) : Prop := ∀ a ∈ r, 0 ≤ a ∧ a < (n : Int)
end Dn
namespace Dn
open PySem PySem.Spec PyProof.Rows L2
section
variable {S : Type} {W : Wd S} {fr : Sto} {Γ : List Sl} {α : Type} [DecidableEq α] {e : α → D} {n : Nat}
theorem toPs_map' {α : Type} (e : α → D) : ∀ xs : List α, toPs (xs.map e) = xs.map fun x => toP (e x)
  | [] => rfl
  | x :: xs => by rw [List.map_cons, toPs, toPs_map' e xs] <;> rfl
theorem dep_all [Ev e n] : ∀ xs : List α, PyData.depthAll (toPs (xs.map e)) ≤ n
  | [] => Nat.zero_le _
  | x :: xs => by
    rw [List.map_cons, toPs, PyData.depthAll]
    exact Nat.max_le.mpr ⟨Ev.dep x, dep_all xs⟩
end
section
variable {S : Type} {W : Wd S} {fr : Sto} {Γ : List Sl} {σ β : Type} {J : σ → List Sl} {enc : β → D} {c : Rho → Sto → Fl}
theorem tl_nextR {q : Mt S (Lp σ β)} (h : TL W fr Γ c q J enc) : TL W fr Γ (sSeq sNext c) q J enc := fun s ρ st H => h s ρ st H
theorem tr_nextR {q : Mt S β} (h : TR W fr Γ c q enc) : TR W fr Γ (sSeq sNext c) q enc := fun s ρ st H => h s ρ st H
end
end Dn
namespace Dn
open PySem PySem.Spec PyProof.Rows L2
end Dn
namespace Dn
open PySem PySem.Spec PyProof.Rows L2
end Dn
namespace Dn
open PySem PySem.Spec PyProof.Rows L2
variable [HzC]
section
variable {S : Type} {W : Wd S} {fr : Sto} {Γ : List Sl} {β : Type} {enc : β → D}
theorem tr_never : TR W fr Γ sNever (mbad : Mt S β) enc := fun s ρ st H => trivial
end
end Dn
namespace Dn
open PySem PySem.Spec PyProof.Rows L2
section
variable {S : Type} {W : Wd S} {fr : Sto} {Γ : List Sl} {α β : Type}
theorem t_isB (a b : Bool) (st : Sto) : pIsB st (eB a) (eB b) = some (.bl (a == b)) := rfl
theorem t_isNotB (a b : Bool) (st : Sto) : pIsNotB st (eB a) (eB b) = some (.bl (!(a == b))) := rfl
end
section
variable {S : Type} {W : Wd S} {fr : Sto} {Γ : List Sl} {β γ : Type} {enc : β → D} {enc' : γ → D}
theorem fnV {d : List D → M D} {args : List D} {q : Mt S β} (h : FN W d [.tup args] q enc) (hz : args.length ≤ SZ) : FN W (varD d) args q enc := fun fr s => by
  unfold varD
  rw [if_pos hz]
  exact h fr s
end
end Dn
namespace Dn
open PySem PySem.Spec PyProof.Rows L2
end Dn
namespace Dn
open PySem PySem.Spec PyProof.Rows L2
variable [HzC]
def inB {α : Type} [DecidableEq α] (x : α) (xs : List α) : Bool := decide (x ∈ xs)
section
variable {S : Type} {W : Wd S} {fr : Sto} {Γ : List Sl}
theorem lay_eI : ∀ xs : List Int, PyData.canLayAll0 (toPs (xs.map eI)) = true
  | [] => rfl
  | x :: xs => by
    rw [List.map_cons, toPs, PyData.canLayAll0, lay_eI xs] <;> rfl
theorem indexD_eI {xs : List Int} {y : Int} (h : y ∈ xs) : indexD (xs.map eI) (eI y) = some (.int (xs.idxOf y : Nat)) := by
  unfold indexD
  have hd := dep_all (e := eI) xs
  rw [if_pos ⟨isPs_of Ev.p xs, rfl, shaped_of (by rw [PyData.canLay0]; exact lay_eI xs) (by rw [PyData.depth]; omega), rfl⟩, toPs_map']
  have key : SeqAt.dataPlace (xs.map fun x => toP (eI x)) (toP (eI y)) = some (xs.idxOf y) := by
    unfold SeqAt.dataPlace
    induction xs with
    | nil => cases h
    | cons b r ih =>
      have eb : PyData.eqv (toP (eI b)) (toP (eI y)) = decide (b = y) := Ev.eq b y
      rw [List.map_cons, List.findIdx?_cons, eb, List.idxOf_cons]
      by_cases e : b = y
      · subst e
        simp
      · have hb : (b == y) = false := by simpa using e
        rw [decide_eq_false e, hb]
        have hm : y ∈ r := by
          rcases List.mem_cons.mp h with q | q
          · exact absurd q.symm e
          · exact q
        rw [ih hm (dep_all (e := eI) r)]
        rfl
  rw [key] <;> rfl
def mindexI (xs : List Int) (y : Int) : Mt S Int := if y ∈ xs then mpure ((xs.idxOf y : Nat) : Int) else mbad
theorem ht_indexL {mo m : Rho → M D} {q : Mt S Int} {xs : List Int} (h1 : HV W fr Γ mo (eL eI xs)) (h2 : HT W fr Γ m q eI fun _ => Γ) : HT W fr Γ (mMeth "list" pIndexL mo (mCons m mNil)) (mbind q fun y => mindexI xs y) eI fun _ => Γ := fun s ρ st H => by
  unfold mMeth
  rw [h1 s ρ st H, Out.bind_ok]
  rw [if_pos (by trivial)]
  have : (mCons m mNil ρ st).bind (fun ds st2 => nox (pIndexL (eL eI xs) ds st2)) = (m ρ st).bind fun d st2 => nox (pIndexL (eL eI xs) [d] st2) := by
    unfold mCons mNil
    cases m ρ st <;> rfl
  rw [this]
  refine OR.bind (h2 s ρ st H) fun y s1 st1 H1 => ?_
  unfold mindexI
  split
  · rename_i hy
    refine ⟨st1, ?_, H1⟩
    show nox (lift (indexD (xs.map eI) (eI y)) st1) = _
    rw [indexD_eI hy] <;> rfl
  · trivial
end
def gS (i : Nat) (gs : List D → Rho → M Rho) : D → Rho → M Rho := fun d ρ st => match d with
  | .tup xs => if i ≤ xs.length then gs (xs.take i ++ [.lst (xs.drop i)]) ρ st else .bad
  | _ => .bad
end Dn
namespace Dn
open PySem PySem.Spec PyProof.Rows L2
variable [HzC]
end Dn
namespace Dn
open PySem PySem.Spec PyProof.Rows L2
variable [HzC]
end Dn
namespace Dn
open PySem PySem.Spec PyProof.Rows L2
variable [HzC]
end Dn
namespace Dn
open PySem PySem.Spec PyProof.Rows L2
variable [HzC]
end Dn
namespace Dn
open PySem PySem.Spec PyProof.Rows L2
variable [HzC]
end Dn
namespace Dn
open PySem PySem.Spec PyProof.Rows L2
def OS.del {A : Type} (s : OS A) (l : Nat) : OS A := ⟨s.dk, fun k => if k = l then none else s.m k⟩
end Dn
namespace Dn
open PySem PySem.Spec PyProof.Rows L2
section
variable {A : Type} {R : DkR A} {fr : Sto} {Γ : List Sl} {ρ : Rho} {s s' : OS A} {st : Sto}
def hcl (n : Str) (l : Nat) : Mt (OS A) Unit := fun s => match s.m l with
  | some (.ins n' fs) => if n' = n then .ok () s else .bad
  | _ => .bad
end
end Dn
namespace Dn
open PySem PySem.Spec PyProof.Rows L2
end Dn
namespace Dn
open PySem PySem.Spec PyProof.Rows L2
variable [HzC]
end Dn
namespace Dn
open PySem PySem.Spec PyProof.Rows L2
variable [HzC]
end Dn
namespace Dn
open PySem PySem.Spec PyProof.Rows L2
variable [HzC]
def KX (mb : Rho → Sto → Fl) : Prop := ∀ ρ st x ρ' st', mb ρ st = .exc x ρ' st' → ρ' = ρ
end Dn
namespace Dn
open PySem PySem.Spec PyProof.Rows L2
variable [HzC]
end Dn
namespace Dn
open PySem PySem.Spec PyProof.Rows L2
variable [HzC]
end Dn
namespace Dn
open PySem PySem.Spec PyProof.Rows L2
variable [HzC]
end Dn
namespace Dn
open PySem PySem.Spec PyProof.Rows L2
end Dn
namespace Dn
open PySem PySem.Spec PyProof.Rows L2
end Dn
namespace Dn
open PySem PySem.Spec PyProof.Rows L2
variable [HzC]
def gdGet : List (Str × Int) → Str → Option Int
  | [], _ => none
  | (x, i) :: r, s => if x = s then some i else gdGet r s
theorem GEn.find {P : Params} {es : List DictEntry} {kvs : List (Str × Int)} (h : GEn P es kvs) (s : Str) : match gdGet kvs s with | some i => ∃ u, (es.find? fun e => Value.isStrOf s e.key).map (·.val) = some (.int i u) | none => (es.find? fun e => Value.isStrOf s e.key).map (·.val) = none := by
  induction h with
  | nil => rfl
  | @cons h x i t u es kvs e r ih =>
    unfold gdGet
    have hk : Value.isStrOf s (.str x t) = decide (x = s) := by
      show (x == s) = decide (x = s)
      by_cases q : x = s
      · subst q; simp
      · rw [decide_eq_false q]; exact beq_eq_false_iff_ne.mpr q
    by_cases q : x = s
    · rw [if_pos q]
      refine ⟨u, ?_⟩
      rw [List.find?_cons_of_pos (by rw [hk]; exact decide_eq_true q)]
      rfl
    · rw [if_neg q]
      rw [List.find?_cons_of_neg (by rw [hk, decide_eq_false q]; exact Bool.false_ne_true)]
      exact ih
end Dn
namespace Dn
open PySem PySem.Spec PyProof.Rows L2
variable [HzC]
end Dn
namespace Dn
open PySem PySem.Spec PyProof.Rows L2
variable [HzC]
end Dn
namespace PySem
open Sem (wp)
section
variable {M : Model} {A : Around} {R : GenEnd} {Y : Protocol} {n : Nat} {s₀ : Shared} {c : Code} {fs : List Frame} {s : Shared} {env : Env}
  {K : Flow → Sem Fin} {H : Value → Sem Fin} {gd : Bool → Bool} {lv : List Value → List Value}
end
section
variable {prog : Program} {w : World} {A : Around} {R : GenEnd} {Y : Protocol} {n : Nat} {s₀ : Shared} {fs : List Frame} {s : Shared} {env : Env}
abbrev loopExc (env : Env) (e : Value) : Sem Fin := (do noteFrame e env; theTreesLotGoes e : Sem Unit).wrap (fun _ => .raise e) .raise id id
end
end PySem
namespace L2
open PySem PySem.Spec PyProof.Rows GenW
end L2
namespace Dn
open PySem PySem.Spec PyProof.Rows L2
variable [HzC]
end Dn
namespace Dn
open PySem PySem.Spec PyProof.Rows L2
section
variable {S : Type} {W : Wd S} {fr : Sto} {s : S} {Γ Γ' : List Sl} {ρ : Rho} {st : Sto} {y : D}
theorem Has.pop (h : Has W fr s (Γ ++ [.val y]) ρ st) : ∃ ρ0, ρ = ρ0 ++ [some y] ∧ Has W fr s Γ ρ0 st := by
  have hl := h.len
  rw [List.length_append] at hl
  have hlast := h.val Γ.length y (by simp)
  have hne : ρ ≠ [] := fun e => by rw [e] at hl; simp at hl
  have e0 : ρ.dropLast ++ [ρ.getLast hne] = ρ := List.dropLast_concat_getLast hne
  have hdl : ρ.dropLast.length = Γ.length := by rw [List.length_dropLast]; simp at hl; omega
  have ey : ρ.getLast hne = some y := by
    have : (ρ.dropLast ++ [ρ.getLast hne])[Γ.length]? = some (some y) := by rw [e0]; exact hlast
    rw [List.getElem?_append_right (by omega), hdl, Nat.sub_self] at this
    exact Option.some.inj this
  rw [ey] at e0
  refine ⟨ρ.dropLast, e0.symm, ?_⟩
  have low : ∀ (i : Nat) (a : Sl), Γ[i]? = some a → (Γ ++ [.val y])[i]? = some a ∧ ρ[i]? = ρ.dropLast[i]? := fun i a e => by
    have hi := (List.getElem?_eq_some_iff.mp e).1
    refine ⟨by rw [List.getElem?_append_left hi]; exact e, ?_⟩
    have : (ρ.dropLast ++ [some y])[i]? = ρ.dropLast[i]? := List.getElem?_append_left (by omega)
    rw [e0] at this
    exact this
  refine ⟨hdl, h.pre, fun i d e => ?_, fun i m e => ?_, fun i j m1 m2 e1 e2 e3 => ?_, fun i m e => ?_⟩
  · obtain ⟨a, b⟩ := low i _ e; rw [← b]; exact h.val i d a
  · obtain ⟨a, b⟩ := low i _ e; rw [← b]; exact h.mt i m a
  · obtain ⟨a, b⟩ := low i _ e1
    obtain ⟨a2, b2⟩ := low j _ e2
    exact h.nal i j m1 m2 a a2 (by rw [b, b2]; exact e3)
  · obtain ⟨a, b⟩ := low i _ e; rw [← b]; exact h.bo i m a
end
end Dn
namespace Dn
open PySem PySem.Spec PyProof.Rows L2
variable [HzC]
end Dn
namespace Dn
open PySem PySem.Spec PyProof.Rows L2
variable [HzC]
end Dn
namespace Dn
open PySem PySem.Spec PyProof.Rows L2
end Dn
namespace Dn
open PySem PySem.Spec PyProof.Rows L2
variable [HzC]
end Dn
namespace Dn
open PySem PySem.Spec PyProof.Rows L2
end Dn
namespace Dn
open PySem PySem.Spec PyProof.Rows L2
variable [HzC]
theorem fnq_of {K : KF} {a : Addr} {name qual : Str} {params : Arguments} {body : List Stmt} {scope : Scope} (e : fvQ K a = some (name, qual, params, .stmts body, scope, mainGlobals, [], .none, builtinsNs)) (c : fnB K a qual = true) :
    ∃ oc od sl kV dc pm an cd ct, K.lookup a = some ⟨oc, od, .func (PySem.W.fnOf name qual params body scope .none kV dc pm an cd ct), sl⟩ ∧ PySem.W.codeIn K cd qual = true ∧ PySem.W.keepIn K (.ref a) = true ∧ PySem.W.isFn K (.ref a) = true := by
  obtain ⟨c1, c0⟩ := Bool.and_eq_true_iff.mp c
  obtain ⟨c2, c3⟩ := Bool.and_eq_true_iff.mp c0
  unfold fvQ at e
  cases q : K.lookup a with
  | none =>
    rw [q] at e
    cases e
  | some o =>
    obtain ⟨oc, od, dt, sl⟩ := o
    rw [q] at e c3
    cases dt with
    | func fd =>
      obtain ⟨n1, n2, n3, n4, n5, n6, n7, n8, n9, n10, n11, n12, n13, n14, n15⟩ := fd
      have e2 : (some (n1, n2, n3, n4, n5, n6, n7.map (·.1), n8, n15) : FvQ) = some (name, qual, params, .stmts body, scope, mainGlobals, [], .none, builtinsNs) := e
      simp only [Option.some.injEq, Prod.mk.injEq] at e2
      obtain ⟨h1, h2, h3, h4, h5, h6, h7, h8, h9⟩ := e2
      have h7 : n7 = [] := List.map_eq_nil_iff.mp h7
      subst h1 h2 h3 h4 h5 h6 h7 h8 h9
      exact ⟨oc, od, sl, n9, n10, n11, n12, n13, n14, rfl, c3, c1, c2⟩
    | _ => cases e
theorem int_of {K : KF} {x : Str} {i : Int} (c : intB K x i = true) : ∃ t, PySem.W.nsIn K mainGlobals x = some (some (.int i t)) := by
  unfold intB at c
  cases q : PySem.W.nsIn K mainGlobals x with
  | none => rw [q] at c; cases c
  | some o =>
    rw [q] at c
    cases o with
    | none => cases c
    | some v =>
      cases v with
      | int j t => exact ⟨t, by rw [show j = i from of_decide_eq_true c]⟩
      | _ => cases c
theorem str_of {K : KF} {x z : Str} (c : strB K x z = true) : ∃ t, PySem.W.nsIn K mainGlobals x = some (some (.str z t)) := by
  unfold strB at c
  cases q : PySem.W.nsIn K mainGlobals x with
  | none => rw [q] at c; cases c
  | some o =>
    rw [q] at c
    cases o with
    | none => cases c
    | some v =>
      cases v with
      | str j t => exact ⟨t, by rw [show j = z from of_decide_eq_true c]⟩
      | _ => cases c
theorem obQ_eq {fa : List (KF → Bool)} {fn : List FnQ} {hd : HdQ} (s : PySem.W.SharedT) : obQ fa fn hd s = (hookQ fa fn hd).obs s.abs := by
  have e : HandSHeadRun.getT s = s.abs.heap.get? := funext (HandSHeadRun.getT_eq s)
  have n : s.n = s.abs.heap.objs.size := (PySem.W.absHeap_size s.tree s.n s.life).symm
  unfold obQ
  rw [e, n] <;> rfl
section
variable {fa : List (KF → Bool)} {fn : List FnQ} {hd : HdQ} {P : Params} {K : KF}
theorem SaysQ.fact (c : SaysQ fa fn hd P K) (i : Nat) {f : KF → Bool} (h : fa[i]? = some f := by rfl) : f K = true := by
  have c1 : (fa.all fun f => f K) = true := congrArg (fun z : AlQ => z.1) c
  exact List.all_eq_true.mp c1 f (List.mem_of_getElem? h)
theorem SaysQ.def_ (c : SaysQ fa fn hd P K) (i : Nat) {d : FnQ} (h : fn[i]? = some d := by rfl) : fvQ K (d.at_ K) = d.val := by
  have e : (fn.map fun d => fvQ K (d.at_ K)) = fn.map FnQ.val := congrArg (fun z : AlQ => z.2.1) c
  have e2 : (fn.map fun d => fvQ K (d.at_ K))[i]? = (fn.map FnQ.val)[i]? := by rw [e]
  rw [List.getElem?_map, List.getElem?_map, h] at e2
  exact Option.some.inj e2
end
omit [HzC] in
theorem walkQ {l : PySem.W.OpenLaw} {k : Nat} {q : Program} {loose : List Str} {XP : (Str → Option Value) → Heap → Prop} {YP : World → Heap → Prop} {d : DefRec} {spec : List D → M D} {x : Str}
    (hn : l.most = some 63) (hdf : d.params.defaults = []) (hr : Room k callerA)
    (hspec : ∀ ns : List Int, ns.length ≤ 63 → (∀ z ∈ ns, Builtin.Int.intBits z ≤ 1048576) → ∃ st', spec [.scr (ns.map D.int)] [] = .ok (.bl true) st')
    (G : ∀ (w : World) (mg : Str → Option Value) (fa : Addr) (h : Heap), YP w h → h.Ns mainGlobals mg → mg d.name = some (.ref fa) →
      ∃ i : HzC, letI := i; ∃ (K : PySem.W.Frag) (fd : FuncData), HzC.tb = [] ∧ K.In h ∧ (∀ (s : Shared) (u : Value), BindsTo s fd ⟨[u], []⟩ [(x, u)]) ∧ ∀ base : Heap, K.In base → base.Ns mainGlobals mg → FnG l.prog w K mg base k fa fd [x] (spD K 1 spec)) :
    PySem.W.WalkO q loose XP YP l.row.toRowW d [] (fun f vs => PySem.call f vs) := by
  refine Att.attach_callB hn hdf fun w s0 t mg mb fa o pm cd doc a vs ns Gr Y ho hd hcd hmg hobj hints hlen hbits hg => ?_
  obtain ⟨i, K, fd, ht0, KX, hb, hF⟩ := G w mg fa _ Y Gr.T.g hmg
  letI := i
  obtain ⟨st', e⟩ := hspec ns hlen hbits
  exact end_law KX Gr.T.g Gr.T.b Gr.T.builtins Gr.T.nolimit hg hobj hints (Nat.le_trans hlen (by decide)) hr hF hb fun H hO hS => sp_start e hO hS (tabF_none ht0)
end Dn
namespace Dn
open PySem PySem.Spec PyProof.Rows L2
variable [HzC]
end Dn
namespace Dn
open PySem PySem.Spec PyProof.Rows L2
variable [HzC]
end Dn
namespace Dn
open PySem PySem.Spec PyProof.Rows L2
section
variable {S : Type} {W : Wd S} {fr : Sto} {Γ : List Sl} {β : Type}
def FOG (W : Wd S) (st : Sto) (enc : β → D) (r : Out (List D)) (q : Rs S (List β)) : Prop := match q with
  | .ok b s' => ∃ st', r = .ok (b.map enc) st' ∧ Pre W st s' st'
  | .exc x s' => ∃ st', r = .exc x st' ∧ Pre W st s' st' ∧ x.pl
  | .bad => True
  | .amb P f => ∃ n, P n ∧ FOG W st enc r (f n)
def FGn (W : Wd S) (d : List D → M (List D)) (args : List D) (q : Mt S (List β)) (enc : β → D) : Prop := ∀ (st : Sto) (s : S), W.has s st → FOG W st enc (d args st) (q s)
theorem ac_fg {F : List D → M (List D)} {d : List D → M (List D)} {args : List D} {q : Mt S (List β)} {enc : β → D} (h : FGn W d args q enc) (hF : F [] = d args := by rfl) : AC W fr Γ mNil F q (fun bs : List β => bs.map enc) fun _ => Γ := ac_nil fun s ρ st H => by
  have h := h st s H.pre.has
  rw [hF]
  revert h
  show FOG W _ enc (d args st) (q s) → OR W fr _ ρ (fun bs : List β => bs.map enc) (d args st) (q s)
  generalize q s = r
  induction r with
  | ok b s' => rintro ⟨st', e, p⟩; exact ⟨st', e, H.call p⟩
  | exc x s' => rintro ⟨st', e, p, hx⟩; exact ⟨st', e, H.pre.trans p, hx⟩
  | bad => intro _; trivial
  | amb P_ f_ ih_ => rintro ⟨n_, p_, h_⟩; exact ⟨n_, p_, ih_ n_ h_⟩
end
end Dn
namespace Dn
open PySem PySem.Spec PyProof.Rows L2
variable [HzC]
end Dn
namespace Dn
open PySem PySem.Spec PyProof.Rows L2
end Dn
namespace Dn
open PySem PySem.Spec PyProof.Rows L2
variable [HzC]
end Dn
namespace HotX
open PySem PySem.Spec PyProof.Rows
end HotX
namespace L2H
open PySem PySem.Spec PyProof.Rows L2 HotX
end L2H
namespace Dn
open PySem PySem.Spec PyProof.Rows L2
end Dn
namespace HotX
open PySem PySem.Spec PyProof.Rows
end HotX
namespace Dn
open PySem PySem.Spec PyProof.Rows L2 HotX L2H
variable [HzC]
end Dn
namespace Dn
open PySem PySem.Spec PyProof.Rows L2 HotX L2H
variable [HzC]
end Dn
namespace Dn
open PySem PySem.Spec PyProof.Rows L2 HotX L2H PySem.FldX
variable [HzC]
end Dn
namespace Dn
open PySem PySem.Spec PyProof.Rows L2
variable [HzC]
end Dn
namespace Dn
open PySem PySem.Spec PyProof.Rows L2
end Dn
namespace Dn
open PySem PySem.Spec PyProof.Rows L2 HotX L2H
variable [HzC]
end Dn
namespace Dn
open PySem PySem.Spec PyProof.Rows L2
variable [HzC]
end Dn
namespace Dn
open PySem PySem.Spec PyProof.Rows L2
end Dn
namespace Dn
open PySem PySem.Spec PyProof.Rows L2
variable [HzC]
end Dn
namespace Dn
open PySem PySem.Spec PyProof.Rows L2
end Dn
namespace Dn
open PySem PySem.Spec PyProof.Rows L2
variable [HzC]
end Dn
namespace Dn
open PySem PySem.Spec PyProof.Rows L2
variable [HzC]
end Dn
namespace Dn
open PySem PySem.Spec PyProof.Rows L2
end Dn
namespace Dn
open PySem PySem.Spec PyProof.Rows L2
variable [HzC]
end Dn
namespace Dn
open PySem PySem.Spec PyProof.Rows L2
variable [HzC]
end Dn
namespace Dn
open PySem PySem.Spec PyProof.Rows L2
variable [HzC]
open PySem.SeqAt PySem.MeetsSeq
end Dn
namespace Dn
open PySem PySem.Spec PyProof.Rows L2
variable [HzC]
end Dn
namespace Dn
open PySem PySem.Spec PyProof.Rows L2
variable [HzC]
end Dn
namespace Dn
open PySem PySem.Spec PyProof.Rows L2
end Dn
namespace Dn
open PySem PySem.Spec PyProof.Rows L2
variable [HzC]
end Dn
namespace Dn
open PySem PySem.Spec PyProof.Rows L2
variable [HzC]
end Dn
namespace Dn
open PySem PySem.Spec PyProof.Rows L2
end Dn
namespace DnY
open PySem PySem.Spec PyProof.Rows L2 Dn
end DnY
namespace DnY
open PySem PySem.Spec PyProof.Rows L2 Dn
variable [HzC]
end DnY
namespace Dn
open PySem PySem.Spec PyProof.Rows L2
variable [HzC]
end Dn
namespace Dn
open PySem PySem.Spec PyProof.Rows L2
variable [HzC]
end Dn
namespace Dn
open PySem PySem.Spec PyProof.Rows L2
variable [HzC]
end Dn
namespace Dn
open PySem PySem.Spec PyProof.Rows L2
variable [HzC]
end Dn
namespace Dn
open PySem PySem.Spec PyProof.Rows L2
end Dn
namespace Dn
open PySem PySem.Spec PyProof.Rows L2
variable [HzC]
end Dn
namespace Dn
open PySem PySem.Spec PyProof.Rows L2
end Dn
namespace Dn
open PySem PySem.Spec PyProof.Rows L2
end Dn
namespace Dn
open PySem PySem.Spec PyProof.Rows L2
end Dn
namespace Dn
open PySem PySem.Spec PyProof.Rows L2
end Dn
namespace Dn
open PySem PySem.Spec PyProof.Rows L2 HotX L2H PySem.FldX
variable [HzC]
end Dn
namespace Dn
open PySem PySem.Spec PyProof.Rows L2
section
variable {A : Type} {R : DkR A} {fr : Sto} {Γ : List Sl} {nm : Str} {ds : List D} {js : List Nat} {s s' : OS A} {ρ : Rho} {st st' : Sto} {k : Nat}
theorem own_less {l : Nat} (h : Own (R.more k).G st l) (hl : l ≠ k) : Own R.G st l := by
  rcases h with h | h
  · rcases h with h | h
    · exact .inl (.inl h)
    · rcases List.mem_cons.mp h with q | q
      · exact absurd q hl
      · exact .inl (.inr q)
  · exact .inr h
theorem HasO.back (h : HasO (R.more k) s st) {ys : List D} (e : s.m k = some (.lst ys)) (hG : k ∉ R.G) : HasO R (s.del k) st ∧ ¬ Own R.G st k ∧ st[k]? = some (.lst ys) := by
  obtain ⟨k2, y, _⟩ := h.at_ k _ e
  have no : ¬ Own R.G st k := fun o => by
    rcases o with o | ⟨n, fs, o⟩ | ⟨j, n, fs, f, o, i⟩
    · rcases o with o | o
      · omega
      · exact hG o
    · rw [y] at o; cases o
    · exact (h.gno k (List.mem_cons_self ..)).2 j n fs f o i
  refine ⟨⟨h.a0, h.a1, fun l u q => ?_, fun l n fs q => ?_, h.ref, fun l q => h.gin l (List.mem_cons_of_mem _ q), fun l q => h.gno l (List.mem_cons_of_mem _ q)⟩, no, y⟩
  · unfold OS.del at q
    dsimp only at q
    by_cases hl : l = k
    · rw [if_pos hl] at q; cases q
    · rw [if_neg hl] at q
      obtain ⟨a, b, c⟩ := h.at_ l u q
      exact ⟨a, b, own_less c hl⟩
  · unfold OS.del
    dsimp only
    by_cases hl : l = k
    · rw [hl, y] at q; cases q
    · rw [if_neg hl]; exact h.ins l n fs q
end
end Dn
namespace PySem
section
variable {M : Model}
theorem Poi.kept {o g : Array GenState} {s' : Shared} (h : Poi o g s'.gens) {s : Shared} (e : s.gens = o) : SlKept s s' := ⟨fun i y h1 h2 => (h.poi i y (e ▸ h1) h2).2, by rw [e, ← h.size]; exact h.le⟩
theorem wpAny_asleep {α : Type} {A : Around} {t : Sem α} {Q : α → Shared → Prop} {E : Value → Shared → Prop} {s : Shared} (h : wpAny M A t Q E s.still) :
    wpAny M A t (fun a s' => SlKept s s' ∧ ∃ g, Poi s.gens g s'.gens ∧ AllFlat g ∧ Q a { s' with gens := g }) (fun e s' => SlKept s s' ∧ ∃ g, Poi s.gens g s'.gens ∧ AllFlat g ∧ E e { s' with gens := g }) s := fun Γ p hΓ =>
  Sem.wp_mono M Γ t (fun a _ s' ⟨g, P, F, q⟩ => ⟨P.kept rfl, g, P, F, q⟩) (fun e _ s' ⟨g, P, F, q⟩ => ⟨P.kept rfl, g, P, F, q⟩) p s (wp_asleep (s := s.still) t (h Γ p hΓ) (poi_still s.gens) (flat_still s.gens))
end
end PySem
namespace PySem
end PySem
namespace L2
open PySem PySem.Spec PyProof.Rows GenW
theorem not_young {n b : Nat} {h : Heap} {o : Obj} (e : h.get? b = some o) (hb : b ∉ young n h.objs.size) : b < n := by
  have h1 : @LT.lt Nat _ b h.objs.size := Heap.lt_size e
  refine Nat.lt_of_not_le fun hn => hb ?_
  unfold young
  rw [List.mem_range'_1]
  have hn' : @LE.le Nat _ n b := hn
  exact ⟨hn', by show @LT.lt Nat _ b (n + (h.objs.size - n)); omega⟩
theorem Inv.outs {X : Cx} {ip : List (Addr × Obj)} {σ : St} {H0 H : Hp} {s0 s : Shared} (I : Inv (X.reb s0 H0) ip σ H s) (hex : X.ex = []) (hle : Le H0 H) : Outs X H0 H s0 s := by
  have nx : ∀ b, b ∉ (X.reb s0 H0).ex := fun b hb => by
    have : b ∈ X.ex := hb
    rw [hex] at this; cases this
  refine ⟨I.os, I.bare, ⟨fun b o e n hb hx => ?_, fun b o e n hb hx => ?_, fun b o e n hx => ?_, fun b o e hx => ?_, I.base.tups, I.base.frzs, I.base.tbls⟩, I.hok, hle⟩
  · exact I.base.keep b o (Heap.cut_of e (not_young e hx)) n hb (nx b)
  · exact I.base.slot b o (Heap.cut_of e (not_young e hx)) n hb (nx b)
  · exact I.base.free b o (Heap.cut_of e (not_young e hx)) n (nx b)
  · exact I.base.there b o (Heap.cut_of e (not_young e hx)) (nx b)
end L2
namespace L2
open PySem PySem.Spec PyProof.Rows GenW
open Sem (wp)
end L2
namespace PySem
open Sem (wp)
section
variable {M : Model} {A : Around} {R : Result → Shared → Prop} {Y : Value → Shared → GenState → Prop} {c : Code} {fs : List Frame} {s : Shared}
theorem dv_wrap {α : Type} {m : Sem α} {K : α → Sem Fin} {H : Value → Sem Fin} {gd : Bool → Bool} {lv : List Value → List Value}
    (h : wpAny M (A.over c fs) m (fun a s' => Dv M A R Y c (K a) fs s') (fun x s' => Dv M A R Y c (H x) fs s') s) : Dv M A R Y c (m.wrap K H gd lv) fs s := fun Γ p e w => by
  subst e
  exact runs_wrap_of_wp K H gd lv m (h (Γ.over fs) p (w.over fs)) (fun a p' s' q => q Γ p' rfl w) fun x p' s' q => q Γ p' rfl w
theorem dv_bind_wrap {α β : Type} {m : Sem α} {K : α → Sem β} {K' : β → Sem Fin} {H : Value → Sem Fin} {gd : Bool → Bool} {lv : List Value → List Value}
    (h : wpAny M (A.over c fs) m (fun a s' => Dv M A R Y c ((K a).wrap K' H gd lv) fs s') (fun x s' => Dv M A R Y c (H x) fs s') s) : Dv M A R Y c ((m >>= K).wrap K' H gd lv) fs s := by
  rw [Sem.bind_eq_wrap', Sem.wrap_wrap]
  exact dv_wrap h
theorem dv_at {p' : Pos} {k : Unit → Sem Fin} (h : Dv M A R Y c (k ()) fs s) : Dv M A R Y c (.at p' k) fs s :=
  dv_wrap (m := standAt p') (K := k) (H := .raise) (gd := id) (lv := id) (wpAny_standAt h)
theorem dv_point {l : List Value} {k : Unit → Sem Fin} (h : Dv M A R Y c (k ()) fs s) : Dv M A R Y c (.point l k) fs s :=
  dv_wrap (m := point) (K := k) (H := .raise) (gd := id) (lv := fun _ => l) (wpAny_point h)
theorem dv_call {c' : Code} {h : Option Value} {g : Bool} {l : List Value} {k : Result → Sem Fin} (hc : ∀ p, Dv M A R Y c' (M.den c') (.ret k h g l c p [] :: fs) s) : Dv M A R Y c (.call c' h g l k) fs s := fun Γ p e w => by
  subst e
  obtain ⟨e, s', hr, he⟩ := hc p (Γ.goto c') p rfl (w.goto c')
  exact ⟨e, s', runs_call_seg hr, he⟩
theorem dv_leaf {k : Result → Sem Fin} {h : Option Value} {g : Bool} {l : List Value} {c₁ : Code} {p₁ : Pos} {kp : List Value} (r : Result) (hk : Dv M A R Y c₁ (k r) fs s) : Dv M A R Y c (leafOf r) (.ret k h g l c₁ p₁ kp :: fs) s := fun Γ p e w => by
  obtain ⟨e, s', hr, he⟩ := hk (Γ.goto c₁) p₁ rfl (w.goto c₁)
  exact ⟨e, s', Runs.pop r hr, he⟩
theorem dv_again {c' : Code} (hq : c'.quiet = true) (hc : Dv M A R Y c' (M.den c') fs s) : Dv M A R Y c (.pure (.again c')) fs s := fun Γ p e w => by
  obtain ⟨e, s', hr, he⟩ := hc (Γ.goto c') p rfl (w.goto c')
  exact ⟨e, s', Runs.head (c₁ := c') (fun _ _ x => .again hq x) hr, he⟩
theorem dv_end (r : Result) (h : R r s) : Dv M A R Y c (leafOf r) [] s := fun Γ p _ _ => ⟨.ret r, s, Runs.leaf r, h⟩
theorem dv_yield {v : Value} {g : Bool} {l : List Value} {k : Resume → Sem Fin} (hfs : splitAtGen fs = none) (hg : g = false) (hfg : fs.any Frame.guarded = false) (h : ∀ p cl, Y v s (.suspended k l c p fs cl)) : Dv M A R Y c (.yield v g l k) fs s := fun Γ p e _ => by
  subst e
  exact ⟨_, s, Runs.yield' fs hfs, by simp [End.quiet, hg, hfg], h _ _⟩
variable {env : Env} {K : Flow → Sem Fin} {H : Value → Sem Fin} {gd : Bool → Bool} {lv : List Value → List Value}
theorem dv_execs_nil (h : Dv M A R Y c (K .next) fs s) : Dv M A R Y c ((execs [] env).wrap K H gd lv) fs s := h
theorem dv_execs_cons {st : Stmt} {rest : List Stmt} (h : Dv M A R Y c ((exec st env).wrap (fun f => match f with | .next => (execs rest env).wrap K H gd lv | f => K f) H gd lv) fs s) : Dv M A R Y c ((execs (st :: rest) env).wrap K H gd lv) fs s := by
  rw [execs_cons_wrap]
  exact h
theorem dv_Expr_Yield {e : Expr} {ypos pos : Pos} (hfs : splitAtGen fs = none) (hgd : gd false = false) (hfg : fs.any Frame.guarded = false)
    (h : wpAny M (A.over c fs) (eval e env) (fun v s' => ∀ gs' : GenState, gs'.susp = true → (∀ R' Y' s'', Dv M A R' Y' c (K .next) fs s'' → gs'.Dvs M A R' Y' s'') → Y v s' gs') (fun x s' => Dv M A R Y c (H x) fs s') s)
    (hco : env.scope.isCoroutine = false := by rfl) (hi : interactive env = false := by rfl) : Dv M A R Y c ((exec (.Expr (.Yield (some e) ypos) pos) env).wrap K H gd lv) fs s := by
  rw [exec_Expr env _ pos hi rfl]
  show Dv M A R Y c (.at pos fun _ => ((eval e env >>= fun v => (standAt ypos >>= fun _ => yieldOut env v)) >>= fun x => dropValue (.Yield (some e) ypos) pos x).wrap K H gd lv) fs s
  have hy : ∀ v, yieldOut env v = yieldValue v := fun v => by simp only [yieldOut, hco, Bool.false_eq_true, if_false]
  simp only [hy]
  refine dv_at ?_
  rw [Sem.bind_eq_wrap', Sem.bind_eq_wrap', Sem.wrap_wrap, Sem.wrap_wrap]
  refine dv_wrap (wpAny_mono h (fun v s' h' => ?_) fun _ _ x => x)
  refine dv_at (dv_yield hfs hgd hfg fun p cl => h' _ rfl fun R' Y' s'' hx => ?_)
  exact hx
theorem dv_If {test : Expr} {body orelse : List Stmt} {pos : Pos}
    (h : wpAny M (A.over c fs) (isTrue test env (eval test env)) (fun b s' => Dv M A R Y c ((execs (if b = true then body else orelse) env).wrap K H gd lv) fs s') (fun x s' => Dv M A R Y c (H x) fs s') s) :
    Dv M A R Y c ((exec (.If test body orelse pos) env).wrap K H gd lv) fs s := by
  rw [exec_If]
  refine dv_bind_wrap (wpAny_standAt ?_)
  refine dv_bind_wrap (wpAny_mono h (fun b s' hb => ?_) fun _ _ e => e)
  cases b <;> exact hb
theorem dv_For {target iter : Expr} {body orelse : List Stmt} {pos : Pos} (hs : ∀ x, foldedSetIterable iter env x = pure x)
    (h : wpAny M (A.over c fs) (eval iter env) (fun x s₁ => wpAny M (A.over c fs) (pyIter x) (fun it s₂ => ∀ p, Dv M A R Y (.forLoop target it body orelse env) (M.den (.forLoop target it body orelse env))
      (.ret (fun r => ((match r with | .ok f => (.pure f : Sem Flow) | .error e => .raise e).onRaise fun (x : Value) => do
        if (← field x 1) == Value.none then unsupported "frame.own-activation:exception-without-traceback"
        setFlight x env.frame).wrap K H gd lv) none (gd false) (lv []) c p [] :: fs) s₂) (fun x s' => Dv M A R Y c (H x) fs s') s₁) (fun x s' => Dv M A R Y c (H x) fs s') s) :
    Dv M A R Y c ((exec (.For target iter body orelse pos) env).wrap K H gd lv) fs s := by
  rw [exec_For]
  refine dv_bind_wrap (wpAny_standAt ?_)
  refine dv_bind_wrap (wpAny_mono h (fun x s₁ h₁ => ?_) fun _ _ e => e)
  refine dv_bind_wrap (wpAny_of_eq (hs x) ?_)
  refine dv_bind_wrap (wpAny_standAt ?_)
  refine dv_bind_wrap (wpAny_holding (wpAny_mono h₁ (fun it s₂ h₂ => ?_) fun _ _ e => e))
  exact dv_call h₂
end
section
variable {prog : Program} {w : World} {A : Around} {R : Result → Shared → Prop} {Y : Value → Shared → GenState → Prop} {fs : List Frame} {s : Shared} {env : Env}
theorem dv_forLoop {target : Expr} {it : Value} {body orelse : List Stmt}
    (h : wpAny (model prog w) (A.over (.forLoop target it body orelse env) fs) (pyNext it) (fun r s₁ => match r with
        | none => Dv (model prog w) A R Y (.forLoop target it body orelse env) (.pure (.again (.block orelse env))) fs s₁
        | some v => wpAny (model prog w) (A.over (.forLoop target it body orelse env) fs) (letOwnedTupleGo target it v) (fun _ s₁' =>
            wpAny (model prog w) (A.over (.forLoop target it body orelse env) fs) (assign target env v) (fun _ s₂ =>
              Dv (model prog w) A R Y (.forLoop target it body orelse env) ((execs body env).wrap (fun f => match f with
                | .next | .cont => .pure (.again (.forLoop target it body orelse env))
                | .brk => .pure (.done .next)
                | .ret v => .pure (.done (.ret v))) (loopExc env) id id) fs s₂)
              (fun x s' => Dv (model prog w) A R Y (.forLoop target it body orelse env) (loopExc env x) fs s') s₁')
            (fun x s' => Dv (model prog w) A R Y (.forLoop target it body orelse env) (loopExc env x) fs s') s₁)
      (fun x s' => Dv (model prog w) A R Y (.forLoop target it body orelse env) (loopExc env x) fs s') s) :
    Dv (model prog w) A R Y (.forLoop target it body orelse env) ((model prog w).den (.forLoop target it body orelse env)) fs s := by
  show Dv _ A R Y _ ((forTurn target it body orelse env).onRaise (fun x => do noteFrame x env; theTreesLotGoes x)) fs s
  have hx : ∀ x : Value, ((do noteFrame x env; theTreesLotGoes x : Sem Unit).bind fun _ => (Sem.raise x : Sem Fin)) = loopExc env x := fun x => Sem.bind_eq_wrap _ _
  unfold forTurn
  rw [Sem.onRaise_eq_wrap]
  refine dv_bind_wrap (wpAny_standAt ?_)
  refine dv_bind_wrap (wpAny_onRaise (wpAny_mono h (fun r s₁ h₁ => ?_) fun x s' h' => wpAny_standAt ?_))
  · cases r with
    | none => exact h₁
    | some v =>
      refine dv_bind_wrap (wpAny_mono h₁ (fun _ s₁' h₁' => ?_) fun x s' h' => ?_)
      · refine dv_bind_wrap (wpAny_mono h₁' (fun _ s₂ h₂ => ?_) fun x s' h' => ?_)
        · rw [Sem.bind_eq_wrap', Sem.wrap_wrap]
          refine Eq.mpr (congrArg (fun t => Dv (model prog w) A R Y (.forLoop target it body orelse env) t fs s₂) (Sem.wrap_congr (execs body env) _ _ (fun f => ?_) fun e => ?_)) h₂
          · cases f <;> rfl
          · exact hx e
        · exact hx x ▸ h'
      · exact hx x ▸ h'
  · exact hx x ▸ h'
theorem dv_func {body : List Stmt}
    (h : Dv (model prog w) A R Y (.func body env) ((execs body env).wrap (fun f => .pure (.done (.ret (match f with | .ret v => v | _ => .none)))) (fun e => (leaving env e).wrap (fun _ => .raise e) .raise id id) id id) fs s) :
    Dv (model prog w) A R Y (.func body env) ((model prog w).den (.func body env)) fs s := by
  show Dv _ A R Y _ (.point [] fun _ => ((execs body env).onRaise (leaving env)) >>= _) fs s
  refine dv_point ?_
  rw [Sem.onRaise_eq_wrap, Sem.bind_eq_wrap', Sem.wrap_wrap]
  rw [Sem.wrap_congr (execs body env) _ _ (K' := fun f => .pure (.done (.ret (match f with | .ret v => v | _ => .none)))) (H' := fun e => (leaving env e).wrap (fun _ => .raise e) .raise id id) (fun f => by cases f <;> rfl)
    (fun e => by rw [Sem.bind_eq_wrap, Sem.wrap_wrap] <;> rfl)]
  exact h
theorem dv_resume {α : Type} {M : Model} {g : Nat} {gs : GenState} {l : List Value} {k : GenResult → Sem α} {Q : α → Shared → Prop} {E : Value → Shared → Prop} (hg : s.gens[g]? = some gs) (hgo : gs.Dvs M A R Y (s.setGen g .running))
    (hR : ∀ x s₁, R x s₁ → wpAny M A (k (End.ret x).result) Q E (s₁.setGen g .finished)) (hY : ∀ v s₁ gs', gs'.bare = true → gs'.susp = true → Y v s₁ gs' → wpAny M A (k (.yielded v)) Q E (s₁.setGen g gs')) :
    wpAny M A (.resume g (.send .none) l k) Q E s := fun Γ p hΓ => by
  have quiet : ∀ {e : End} {s₁ : Shared}, DvEnd R Y e s₁ → e.quiet = true := fun {e s₁} h => by
    cases e with
    | ret x => rfl
    | susp v g₀ l₀ k₀ c₀ p₀ fs₀ => exact h.1
  have fin : ∀ {e : End} {s₁ : Shared}, DvEnd R Y e s₁ → Sem.wp M Γ (k e.result) (fun a _ s' => Q a s') (fun e _ s' => E e s') p (s₁.setGen g e.genState) := fun {e s₁} h => by
    cases e with
    | ret x => exact hR x s₁ h Γ p hΓ
    | susp v g₀ l₀ k₀ c₀ p₀ fs₀ => exact hY v s₁ _ (End.bare_of_quiet h.1) rfl h.2 Γ p hΓ
  rw [Sem.wp_resume]
  cases gs with
  | running => exact hgo.elim
  | finished => exact hgo.elim
  | fresh c =>
    obtain ⟨e, s₁, hr, he⟩ := hgo (Γ.wake c p) p rfl (hΓ.wake c p)
    refine ⟨_, _, ?_, fin he⟩
    unfold Wakes
    rw [hg]
    exact ⟨e, s₁, hr, quiet he, rfl, rfl⟩
  | suspended k₀ l₀ c₀ p₀ fs₀ cl =>
    obtain ⟨e, s₁, hr, he⟩ := hgo (Γ.wake c₀ p) p₀ rfl (hΓ.wake c₀ p)
    refine ⟨_, _, ?_, fin he⟩
    unfold Wakes
    rw [hg]
    exact ⟨e, s₁, hr, quiet he, rfl, rfl⟩
end
end PySem
namespace L2
open PySem PySem.Spec PyProof.Rows GenW
open Sem (wp)
section
variable {P : Program} {w : World} {A : Around} {E : Value → Shared → Prop} {s : Shared}
theorem next_dv {a : Addr} {g : Nat} {gs : GenState} {F : Shared → Prop} {Y : Value → Shared → GenState → Prop} {Q : Option Value → Shared → Prop} (hh : A.handled = none)
    (hl : s.heap.NoLimit) (hroom : A.depth < recursionLimit) (hg : s.heap.IsGen a g) (hgs : s.gens[g]? = some gs)
    (hgo : gs.Dvs (model P w) A.in1 (fun r s₁ => (r = .ok (.ret .none) ∨ r = .ok .next) ∧ F s₁) Y (s.setGen g .running))
    (hY : ∀ v s₁ gs', gs'.bare = true → gs'.susp = true → Y v s₁ gs' → Q (some v) (s₁.setGen g gs'))
    (hP : ∀ s₁, F s₁ → ∀ h', (∀ b o, s₁.heap.get? b = some o → h'.get? b = some o) → Q none { s₁.setGen g .finished with heap := h' }) :
    wpAny (model P w) A (pyNext (.ref a)) Q E s := by
  unfold pyNext
  refine wpAny_bind (wpAny_attempt (wpAny_callSpecial?_slot (name := Str.ofString "__next__") hg.typeIs slot_gen_next (wpAny_call_entry slot_gen_next hg.typeIs entry_gen_next ?_ (args_gen_next _))))
  show wpAny _ A.in1 (Builtin.Generator.genWake (.ref a) (.send .none)) _ _ s
  unfold Builtin.Generator.genWake
  refine wpAny_bind (wpAny_holding (wpAny_genNumber hg (wpAny_bind (wpAny_genState hgs ?_))))
  cases gs with
  | running => exact hgo.elim
  | finished => exact hgo.elim
  | _ =>
    refine wpAny_bind (wpAny_roomToWake hl hroom ?_)
    show wpAny _ A.in1 (.resume g (.send .none) [] _) _ _ s
    refine dv_resume hgs hgo (fun x s₁ hx => ?_) fun v s₁ gs' hb hsu hv => ?_
    · obtain ⟨hr, hp⟩ := hx
      have hres : End.result (.ret x) = .returned .none := by
        rcases hr with hr | hr <;> rw [hr] <;> rfl
      rw [hres]
      show wpAny _ A.in1 (newExc (.type "StopIteration") [] >>= _) _ _ _
      refine wpAny_bind ?_
      simp only [newExc, newTuple]
      refine wpAny_bind (wpAny_newObj_type ?_ (by size_fits))
      refine wpAny_bind (m := firstArgMember _ _) (wpAny_of_eq (a := Value.none) (by first | rfl | (simp only [firstArgMember]; rfl)) ?_)
      refine wpAny_newObj_type ?_ (by size_fits)
      simp only [raiseNew]
      refine wpAny_bind (wpAny_bind (wpAny_handled ?_))
      first | rw [show A.in1.handled = none from hh] | rw [hh]
      refine wpAny_throw ?_
      refine wpAny_bind (wpAny_isInstance (T := "StopIteration") (b := true) ⟨_, Heap.get?_push_size _ rfl, rfl⟩ isSubtype_stop ?_)
      exact wpAny_pure (hP s₁ hp _ fun b o hb => Heap.get?_push_of_some _ (Heap.get?_push_of_some _ hb))
    · exact wpAny_pure ⟨v, rfl, wpAny_pure (hY v s₁ gs' hb hsu hv)⟩
end
def SlK1 (g : Nat) (s s' : Shared) : Prop := ∀ i, i ≠ g → s.gens[i]? = s'.gens[i]?
section
variable {Xc X : Cx} {pins own : List (Addr × Obj)} {σ : St} {H H' : Hp} {s s' : Shared}
theorem Und.back (U : Und Xc pins X) (I : Inv Xc (pins ++ own) σ H s) : Back X own H s where
  bare := I.bare
  base := fun b o e => I.bs b o (U.base ▸ e)
  own := fun p hp => by
    obtain ⟨h1, h2, _⟩ := I.pin p (List.mem_append_right _ (List.mem_append_right _ hp))
    exact ⟨h1, h2⟩
  hok := by rw [U.prog, U.w]; exact I.hok
  funs := by rw [U.base, U.outer]; exact I.stack
  fr := fun b hb => by
    have : b ∈ frs Xc.stack := by rw [← U.outer]; exact hb
    exact I.stkFree b this
theorem Und.pinned (U : Und Xc pins X) (I : Inv Xc pins σ H s) (O : OwnOk X own H s) : Inv Xc (pins ++ own) σ H s :=
  I.pins_of fun p hp => by
    rcases List.mem_append.mp hp with q | q
    · exact I.pin p (List.mem_append_right _ q)
    · obtain ⟨h1, h2, h3, h4⟩ := O p q
      refine ⟨h2, h3, fun z => ?_, fun z => ?_, h4⟩
      · have := U.loc; rw [← z] at this; exact absurd (Nat.lt_of_lt_of_le this h1) (Nat.lt_irrefl _)
      · obtain ⟨_, o, ho, _⟩ := I.ok.funs.mem z
        exact absurd (Nat.lt_of_lt_of_le (Nat.lt_of_lt_of_le (Heap.lt_size ho) U.sz) h1) (Nat.lt_irrefl _)
theorem Und.owns (U : Und Xc pins X) (O : OwnOk X own H s) (I : Inv Xc (pins ++ own) σ H' s') : OwnOk X own H' s' := fun p hp => by
  obtain ⟨h1, h2, _⟩ := I.pin p (List.mem_append_right _ (List.mem_append_right _ hp))
  exact ⟨(O p hp).1, h1, h2, (O p hp).2.2.2⟩
variable {A : Around} {a : Addr} {g : Nat} {α : Type} {Rp : Hp → α → V → Prop} {xs : List α} {f : Hp} {pr : List (Nat × GenState)}
theorem kn_sb {H₁ : Hp} (k : Tsb f H) (l : Le H H₁) : Tsb (Kn f H H₁) H₁ := fun b ob xs e => by
  unfold Kn at e
  split at e
  · rename_i o' h
    cases e
    exact l.1 b _ (k b ob xs h) fun _ q => (nomatch q)
  · split at e
    · cases e
    · split at e
      · rename_i ob xs h
        cases e
        exact h
      · cases e
theorem Asl.later (L : Asl Rp X A a g xs f own pr H s) (U : Und Xc pins X) (hs : ∃ gs, s.gens[g]? = some gs ∧ gs.susp = true) (k : SlKept s s') (T : Tsb f H') (I : Inv Xc (pins ++ own) σ H' s') : Asl Rp X A a g xs f own pr H' s' := by
  obtain ⟨gs, h1, h2⟩ := L.gs
  obtain ⟨gs', h3, h4⟩ := hs
  rw [h1] at h3
  cases h3
  exact ⟨L.isg, U.owns L.ow I, fun p hp => ⟨(L.pk p hp).1, (L.pk p hp).2.1, k.gens p.1 p.2 (L.pk p hp).2.2 (L.pk p hp).2.1⟩, Nat.lt_of_lt_of_le L.lt k.size, ⟨gs, k.gens g gs h1 h4, h2⟩, T⟩
theorem asl_next {B : Around} {Q : Option Value → Shared → Prop} {E : Value → Shared → Prop} (U : Und Xc pins X) (I : Inv Xc pins σ H s) (L : Asl Rp X A a g xs f own pr H s) (hB : B.in1 = A) (hh : B.handled = none) (hd : B.depth < recursionLimit)
    (hN : xs = [] → ∀ H₁ s₁ s', Outs X H H₁ (s.setGen g .running) s₁ → Inv Xc pins σ H₁ s' → SlK1 g s₁ s' → Q none s')
    (hS : ∀ x ys u v H₁ s₁ s' own' pr', xs = x :: ys → RelV u v → Rp (Kn f H H₁) x u → Outs X H H₁ (s.setGen g .running) s₁ → Inv Xc pins σ H₁ s' → SlK1 g s₁ s' → Asl Rp X A a g ys (Kn f H H₁) own' pr' H₁ s' → (∃ gs, s'.gens[g]? = some gs ∧ gs.susp = true) → Q (some v) s') :
    wpAny (model Xc.prog Xc.w) B (pyNext (.ref a)) Q E s := by
  subst hB
  obtain ⟨gs, hgs, hgo⟩ := L.gs
  have Ip := U.pinned I L.ow
  have hbare : AllBare (s.setGen g .running).gens := allBare_setGen I.bare rfl
  have Ir : Inv Xc (pins ++ own) σ H (s.setGen g .running) := Ip.gens hbare
  have Iq : Inv Xc pins σ H (s.setGen g .running) := I.gens hbare
  have hsz : g < (s.setGen g .running).gens.size := by rw [setGen_size]; exact L.lt
  have hpr : PrK pr (s.setGen g .running) := fun p hp => by
    obtain ⟨h1, _, h3⟩ := L.pk p hp
    show (s.gens.setIfInBounds g .running)[p.1]? = some p.2
    rw [Array.getElem?_setIfInBounds_ne (Nat.ne_of_lt h1)]
    exact h3
  have hg := L.isg s.heap fun p hp => (L.ow p hp).2.1
  have keep : ∀ {s₁ : Shared} {y : GenState} {h' : Heap}, SlK1 g s₁ { s₁.setGen g y with heap := h' } := fun {s₁ y h'} i hi => by
    show s₁.gens[i]? = (s₁.gens.setIfInBounds g y)[i]?
    rw [Array.getElem?_setIfInBounds_ne (Ne.symm hi)]
  cases xs with
  | nil =>
    have hgo' := hgo (s.setGen g .running) H (U.back Ir) L.kn hpr hsz
    rw [U.prog, U.w] at hgo'
    refine next_dv hh I.nolimit hd hg hgs hgo' (fun v s₁ gs' _ _ q => q.elim) fun s₁ ⟨H₁, O⟩ h' hk => ?_
    have I2 := U.call Iq O
    exact hN rfl H₁ s₁ _ O (I2.call' (ch := []) rfl (Un.kept fun b o e => hk b o e) (I2.hok.kept fun b o e => hk b o e) (allBare_setGen I2.bare rfl) fun _ z => nomatch z) keep
  | cons x ys =>
    have hgo' := hgo (s.setGen g .running) H (U.back Ir) L.kn hpr hsz
    rw [U.prog, U.w] at hgo'
    refine wpAny_gsz (n := g + 1) L.lt (next_dv hh I.nolimit hd hg hgs hgo' (fun v s₁ gs' hb hsu q => ?_) fun s₁ q => q.elim)
    intro hsz2
    obtain ⟨u, H₁, own', pr', rv, rp, O, ow, pk, isg, D⟩ := q
    have hs1 : g < s₁.gens.size := by
      have q : (s₁.setGen g gs').gens.size = s₁.gens.size := setGen_size _ _ _
      omega
    refine hS x ys u v H₁ s₁ _ own' pr' rfl rv rp O ((U.call Iq O).gens (allBare_setGen O.bare hb)) keep ⟨isg, fun p hp => ow p hp, fun p hp => ⟨(pk p hp).1, (pk p hp).2.1, ?_⟩, by rw [setGen_size]; exact hs1, ⟨gs', setGen_at hs1, D⟩, kn_sb L.kn O.le⟩ ⟨gs', setGen_at hs1, hsu⟩
    show (s₁.gens.setIfInBounds g gs')[p.1]? = some p.2
    rw [Array.getElem?_setIfInBounds_ne (Nat.ne_of_lt (pk p hp).1)]
    exact (pk p hp).2.2
end
end L2
namespace L2
open PySem PySem.Spec PyProof.Rows GenW
section
variable {X : Cx} {pins : List (Addr × Obj)} {σ : St} {H : Hp} {s : Shared}
theorem asleep_run {α : Type} {A : Around} {t : Sem α} {Q : α → Shared → Prop} (hx : X.GenX) (I : Inv X pins σ H s) (h : Inv X pins σ H s.still → wpAny (model X.prog X.w) A t Q X.xe s.still) :
    wpAny (model X.prog X.w) A t (fun a s' => SlKept s s' ∧ ∃ G, (AllBare G → AllBare s'.gens) ∧ Q a { s' with gens := G }) X.xe s :=
  wpAny_mono (wpAny_asleep (h (I.gens (still_bare I.bare)))) (fun a s' ⟨k, G, P, _, q⟩ => ⟨k, G, fun hb => poi_bare P hb I.bare, q⟩)
    fun e s' ⟨_, G, P, F, q⟩ => hx e { s' with gens := G } s.gens s'.gens P F I.bare q
theorem Inv.woke {s' : Shared} {G : Array GenState} (I : Inv X pins σ H { s' with gens := G }) (hb : AllBare G → AllBare s'.gens) : Inv X pins σ H s' := I.gens (hb I.bare)
end
section
variable {X : Cx} {pins : List (Addr × Obj)} {σ : St} {H : Hp} {s : Shared} {o : Array GenState}
theorem Sl.back {G : Array GenState} (h : Sl o s G) (I : Inv X pins σ H s) (hG : AllBare G) : Inv X pins σ H { s with gens := G } := I.gens hG
end
section
variable {α : Type}
def tO0 : TOn α := fun D ys Hw σ H => D.nx ys Hw σ H
def tOThen (t u : TOn α) : TOn α := fun D ys Hw σ H => t { D with nx := fun ys' Hw' σ' H' => u D ys' Hw' σ' H' } ys Hw σ H
def tOIf (c : TT) (t u : TOn α) : TOn α := fun D ys Hw σ H => c σ H fun b H1 => if b = true then t D ys Hw σ H1 else u D ys Hw σ H1
theorem dlv_of {Rp : Hp → α → V → Prop} {f : Hp} {X : Cx} {A : Around} {a : Addr} {g : Nat} {xs : List α} {own : List (Addr × Obj)} {pr : List (Nat × GenState)} {gs : GenState} (h : ∀ s' H', Back X own H' s' → Tsb f H' → PrK pr s' → g < s'.gens.size → gs.Dvs (model X.prog X.w) A (RR X xs ⟨H', f⟩ s') (YY Rp X A a g xs ⟨H', f⟩ s') s') : Dlv Rp X A a g xs f own pr gs := by
  cases xs with
  | nil => exact h
  | cons x xs => exact h
section
variable {Rp : Hp → α → V → Prop} {X : Cx} {Z : Bool} {st : Stmt} {rest : List Stmt}
theorem RI.sl {g : Nat} {s₀ s s' : Shared} {H₀ : Wkn} {pr : List (Nat × GenState)} {ip : List (Addr × Obj)} {σ σ' : St} {H H' : Hp} {G : Array GenState} (r : RI X g s₀ H₀ pr ip σ H s) (hl : g < s'.gens.size) (S : Sl s.gens s' G) (I : Inv (X.reb s₀ H₀.h) ip σ' H' { s' with gens := G }) : RI X g s₀ H₀ pr ip σ' H' s' :=
  ⟨hl, r.n0, S.inv r.inv.bare I, fun p hp => by
    obtain ⟨h1, h2, h3⟩ := r.pk p hp
    exact ⟨h1, h2, (S.poi.poi p.1 p.2 h3 h2).2⟩⟩
theorem os_nil : OSs Rp X Z [] tO0 :=
  ⟨fun A a g pr ip ys s₀ H₀ c fs K J gd lv s σ H D hz oc k hI ht => dv_execs_nil (k.ok ys s₀ H₀ s .next ⟨σ, H, hI, ht⟩)⟩
theorem os_cons {t u : TOn α} (oa : OSt Rp X Z st t) (ob : OSs Rp X Z rest u) : OSs Rp X Z (st :: rest) (tOThen t u) := by
  refine ⟨fun A a g pr ip ys s₀ H₀ c fs K J gd lv s σ H D hz oc k hI ht => dv_execs_cons ?_⟩
  refine oa.run A a g pr ip ys s₀ H₀ c fs _ J gd lv s σ H { D with nx := fun ys' Hw' σ' H' => u D ys' Hw' σ' H' } hz oc ⟨fun ys' s₀' H₀' s' f hs => ?_, k.exc⟩ hI ht
  cases f with
  | next =>
    obtain ⟨σ', H', I', q⟩ := hs
    exact ob.run A a g pr ip ys' s₀' H₀' c fs K J gd lv s' σ' H' D hz oc k I' q
  | brk => exact k.ok ys' s₀' H₀' s' .brk hs
  | cont => exact k.ok ys' s₀' H₀' s' .cont hs
  | ret u => exact k.ok ys' s₀' H₀' s' (.ret u) hs
theorem os_if {c : Expr} {a b : List Stmt} {pos : Pos} {tc : TT} {t u : TOn α} (hx : X.GenX) (hc : ∀ s₀ H₀, PT (X.reb s₀ H₀) c tc) (ha : OSs Rp X Z a t) (hb : OSs Rp X Z b u) : OSt Rp X Z (.If c a b pos) (tOIf tc t u) := by
  refine ⟨fun A a g pr ip ys s₀ H₀ cd fs K J gd lv s σ H D hz oc k hI ht => ?_⟩
  refine dv_If ?_
  rw [oc.over]
  refine wpAny_mono (hI.step hx fun I => (hc s₀ H₀.h).run ip _ σ H _ I ht) (fun d s1 ⟨hl, G, S, q⟩ => ?_) fun x s' hx => k.exc ys s₀ H₀ x s' hx
  obtain ⟨H1, I1, q1⟩ := q
  cases d with
  | true => exact ha.run A a g pr ip ys s₀ H₀ cd fs K J gd lv s1 σ H1 D hz oc k (hI.sl hl S I1) q1
  | false => exact hb.run A a g pr ip ys s₀ H₀ cd fs K J gd lv s1 σ H1 D hz oc k (hI.sl hl S I1) q1
theorem reb_reb {s s' : Shared} {H H' : Hp} (h : (X.reb s H).n0 = X.n0) : (X.reb s H).reb s' H' = X.reb s' H' := by
  show Cx.reb (X.reb s H) s' H' = _
  unfold Cx.reb at h ⊢
  rw [h]
def tOYield (Rp : Hp → α → V → Prop) (te : TE) : TOn α := fun D ys Hw σ H => ∃ x ys', ys = x :: ys' ∧ te σ H fun u H1 => Rp (Kn Hw.f Hw.h H1) x u ∧ Le Hw.h H1 ∧ ∀ H', Tsb (Kn Hw.f Hw.h H1) H' → D.nx ys' ⟨H', Kn Hw.f Hw.h H1⟩ σ H'
theorem os_yield {e : Expr} {yp pos : Pos} {te : TE} (hx : X.GenX) (he : ∀ s₀ H₀, PE (X.reb s₀ H₀) e te) (hco : X.env.scope.isCoroutine = false := by rfl) (hi : interactive X.env = false := by rfl) : OSt Rp X Z (.Expr (.Yield (some e) yp) pos) (tOYield Rp te) := by
  refine ⟨fun A a g pr ip ys s₀ H₀ c fs K J gd lv s σ H D hz oc k hI ht => ?_⟩
  obtain ⟨x, ys', rfl, ht⟩ := ht
  have n0 := hI.n0
  refine dv_Expr_Yield oc.split oc.gd oc.guard ?_ hco hi
  rw [oc.over]
  refine wpAny_mono (hI.step hx fun I => (he s₀ H₀.h).run ip _ σ H _ I ht) (fun v s' ⟨hl, G, S, hv⟩ => ?_) fun x' s' hx => k.exc (x :: ys') s₀ H₀ x' s' hx
  obtain ⟨u, H1, I1g, rv, rp, le, q⟩ := hv
  have R1 := hI.sl hl S I1g
  have I1 := R1.inv
  intro gs' hsu hk
  have hL : ∃ oL, s'.heap.get? X.env.locals = some oL ∧ (∀ v, oL.data ≠ .cell v) := by
    obtain ⟨m, ⟨oL, es, ep, ho, hd, _⟩, _⟩ := I1.loc
    exact ⟨oL, ho, fun v e => by rw [hd] at e; cases e⟩
  obtain ⟨oL, hoL, hdL⟩ := hL
  refine ⟨u, H1, X.own ip s'.heap, pr, rv, rp, I1.outs oc.ex le, fun p hp => ?_, R1.pk, fun h hh => oc.isg h fun p hp => hh p (List.mem_append_right _ (List.mem_append_left _ hp)), dlv_of fun s'' H' b T sl l => ?_⟩
  · rcases List.mem_append.mp hp with z | z
    · obtain ⟨z1, z2⟩ := of_pinsAt z
      have e1 : p.1 = X.env.locals := List.mem_singleton.mp z1
      have e2 : p.2 = oL := by rw [e1, hoL] at z2; exact (Option.some.inj z2).symm
      exact ⟨by rw [e1]; exact oc.above, z2, by rw [e1]; exact I1.free, by rw [e2]; exact hdL⟩
    · obtain ⟨h1, h2, _, _, h5⟩ := I1.pin p z
      refine ⟨?_, h1, h2, h5⟩
      rcases List.mem_append.mp z with q | q
      · exact oc.pn p q
      · exact oc.ip p q
  · have I2 := I1.reb (s' := s'') (H' := H') oc.ex oc.cells ⟨b.bare, b.base, b.own, b.hok, b.funs, b.fr⟩
    rw [reb_reb n0] at I2
    have hr : RI X g s'' ⟨H', Kn H₀.f H₀.h H1⟩ pr ip σ H' s'' := ⟨l, I2.2.trans n0, I2.1, fun p hp => by
      obtain ⟨h1, h2, h3⟩ := R1.pk p hp
      exact ⟨h1, h2, sl p hp⟩⟩
    exact hk _ _ s'' (k.ok ys' s'' ⟨H', Kn H₀.f H₀.h H1⟩ s'' .next ⟨σ, H', hr, q H' T⟩)
end
end
end L2
namespace L2
open PySem PySem.Spec PyProof.Rows GenW
theorem gfo_of {α : Type} {Rp : Hp → α → V → Prop} {P : Program} {w : World} {K : PySem.W.Frag} {mg : Str → Option Value} {base : Heap} {k : Nat} {fa : Addr} {name qual : Str} {params : Arguments} {body : List Stmt} {scope : Scope} {dV kV doc pm cdv ct oc : Value} {an od : Option Addr}
    {osl : Array (Option Value)} {N ps : List Str} {sp : SpO α} (lk : K.lookup fa = some ⟨oc, od, .func (PySem.W.fnOf name qual params body scope dV kV doc pm an cdv ct), osl⟩) (hcd : PySem.W.codeIn K cdv qual = true) (S : GScope N ps scope)
    (hcl : ∀ n, cellsFrom n scope.names [] = [])
    (len : ∀ vs H f xs, sp vs H f xs → vs.length = ps.length) (kn : ∀ vs H f xs, sp vs H f xs → Tsb f H)
    (hbody : ∀ (A : Around) (outer : List Env) (s : Shared) (H : Hp) (vs : List V) (f : Hp) (xs : List α) (pn : List (Addr × Obj)), Room k (A.deeper (envOfC qual scope s.heap.objs.size fa cdv)) → sp vs H f xs →
      ∃ t, OSs Rp (gcxOf P w K mg base N qual scope fa cdv A outer s H noX pn) true body t ∧ ∀ H', Tsb f H' → t { nx := fun ys Hw _ H' => ys = [] ∧ Le Hw.h H', rt := fun ys Hw v H' => v = .non ∧ ys = [] ∧ Le Hw.h H' } xs ⟨H', f⟩ (start N vs) H') :
    GFo Rp P w K mg base (k + 1) fa (PySem.W.fnOf name qual params body scope dV kV doc pm an cdv ct) ps sp := by
  refine ⟨len, kn, fun A outer s H args us vs f xs hr e0 hb r hsp => ?_⟩
  have hl := len _ _ _ _ hsp
  have bk : ∀ b o, base.get? b = some o → s.heap.get? b = some o := fun b o e => (e0.bs b o e).1
  have KX : K.In s.heap := e0.mod.kin.keeps bk
  have lim : s.heap.NoLimit := e0.mod.nolimit.keeps bk
  have hkind : ∀ y ∈ ps.zip us, scope.names.lookup y.1 = some .local ∨ (scope.names.lookup y.1 = some .cell ∧ ((cellsFrom (s.heap.objs.size + 1) scope.names []).lookup y.1).isSome = true) := fun ⟨n, v⟩ hy => by
    rcases S.par n (List.of_mem_zip hy).1 with q | q
    · exact .inl q
    · exact .inr ⟨q, PySem.W.cellsFrom_some _ _ _ (.inl q)⟩
  refine codeAny_call_generator hr.depth (KX _ _ lk) rfl S.co S.gen rfl (PySem.W.codeRec_of KX hcd) (hb _ _ _ _ ?_)
  refine wpAny_newFunctionEnv_cells S.kind hkind fun env he s1 x => ?_
  subst he
  have kp1 : ∀ b o, s.heap.get? b = some o → s1.heap.get? b = some o := x.toInCall.keep
  refine ⟨lim.keeps kp1, ?_⟩
  obtain ⟨h1, tk, es1, _⟩ := x.done
  have os1 : s1.os = s.os := by rw [es1]
  have gen1 : s1.gens = s.gens := by rw [es1]
  have lt1 : s.heap.objs.size < s1.heap.objs.size := x.toInCall.ns.lt
  have main : ∀ (go : Obj) (nm qn : Value) (tk2 : Nat), go.cls = .type "generator" → go.data = .fields #[.int s1.gens.size 0, nm, qn] → go.slots = #[] → (∀ h : Heap, (h.push go).get? h.objs.size = some go) →
      OMade Rp P w base (k + 1) outer H s xs f (.ref s1.heap.objs.size) { s1 with gens := s1.gens.push (.fresh (.func body (envOfC qual scope s.heap.objs.size fa cdv))), toks := tk2, heap := s1.heap.push go } := by
    intro go nm qn tk2 hgc hgd0 hgs hgp
    have hgen : ∀ h : Heap, h.get? s1.heap.objs.size = some go → h.IsGen s1.heap.objs.size s1.gens.size := fun h e => ⟨go, nm, qn, e, hgc, hgd0, hgs⟩
    have hpushed : (s1.heap.push go).get? s1.heap.objs.size = some go := hgp _
    have kp2 : ∀ b o, s1.heap.get? b = some o → (s1.heap.push go).get? b = some o := fun b o e => Heap.get?_push_of_some _ e
    have bare2 : AllBare (s1.gens.push (.fresh (.func body (envOfC qual scope s.heap.objs.size fa cdv)))) := AllBare.push (by rw [gen1]; exact e0.bare) rfl
    refine ⟨s1.heap.objs.size, s1.gens.size, rfl, by rw [gen1]; exact Nat.le_refl _, Nat.le_of_lt lt1, hgen _ hpushed, os1, bare2, fun b o e => kp2 b o (kp1 b o e), fun Aw hrw hfr => ?_⟩
    have e0w : Env0 P w K mg base Aw outer s H := ⟨hfr, e0.mod, e0.bs, e0.bsz, e0.funs, e0.frf, e0.hok, e0.bare⟩
    obtain ⟨t, ht, hq⟩ := hbody Aw outer s H vs f xs [(s1.heap.objs.size, go)] (hrw.deeper _) hsp
    have I1 : Inv (gcxOf P w K mg base N qual scope fa cdv Aw outer s H noX []) [] (start N vs) H s1 := inv_startG S hrw.hd e0w hl r x
    have I2 : Inv (gcxOf P w K mg base N qual scope fa cdv Aw outer s H noX []) [] (start N vs) H { s1 with gens := s1.gens.push (.fresh (.func body (envOfC qual scope s.heap.objs.size fa cdv))), toks := tk2, heap := s1.heap.push go } :=
      I1.call' (ch := []) rfl (Un.kept kp2) (I1.hok.kept kp2) bare2 fun b z => by simp at z
    have hHn : H s1.heap.objs.size = none := I1.hok.fresh (Nat.le_refl _)
    have I3 : Inv (gcxOf P w K mg base N qual scope fa cdv Aw outer s H noX [(s1.heap.objs.size, go)]) [] (start N vs) H { s1 with gens := s1.gens.push (.fresh (.func body (envOfC qual scope s.heap.objs.size fa cdv))), toks := tk2, heap := s1.heap.push go } := by
      refine Inv.pinnedG I2 fun p hp => ?_
      rw [List.append_nil] at hp
      rw [List.mem_singleton.mp hp]
      exact ⟨hpushed, hHn, Nat.ne_of_gt lt1, I1.nofs (Nat.le_refl _), fun v q => by rw [hgd0] at q; cases q⟩
    have hcells : (gcxOf P w K mg base N qual scope fa cdv Aw outer s H noX [(s1.heap.objs.size, go)]).env.cells = [] := hcl _
    have hL : ∃ oL, (s1.heap.push go).get? (envOfC qual scope s.heap.objs.size fa cdv).locals = some oL ∧ (∀ v, oL.data ≠ .cell v) := by
      obtain ⟨m, ⟨oL, es, ep, ho, hd, _⟩, _⟩ := I3.loc
      exact ⟨oL, ho, fun v e => by rw [hd] at e; cases e⟩
    obtain ⟨oL, hoL, hdL⟩ := hL
    refine ⟨gcxOf P w K mg base N qual scope fa cdv Aw outer s H noX [(s1.heap.objs.size, go)], (gcxOf P w K mg base N qual scope fa cdv Aw outer s H noX [(s1.heap.objs.size, go)]).own [] (s1.heap.push go), rfl, rfl, rfl, rfl, rfl, rfl, ?_⟩
    have hin : (s1.heap.objs.size, go) ∈ (gcxOf P w K mg base N qual scope fa cdv Aw outer s H noX [(s1.heap.objs.size, go)]).own [] (s1.heap.push go) := List.mem_append_right _ (List.mem_append_left _ (List.mem_singleton.mpr rfl))
    refine ⟨fun h hh => hgen h (hh _ hin), fun p hp => ?_, (fun _ h => nomatch h), ?_, ⟨_, Array.getElem?_push_size .., dlv_of fun s2 H2 b T sl l => ?_⟩, kn _ _ _ _ hsp⟩
    · rcases List.mem_append.mp hp with z | z
      · obtain ⟨z1, z2⟩ := of_pinsAt z
        have e1 : p.1 = s.heap.objs.size := List.mem_singleton.mp z1
        have e2 : p.2 = oL := by rw [e1] at z2; exact (Option.some.inj (hoL.symm.trans z2)).symm
        exact ⟨Nat.le_of_eq e1.symm, z2, by rw [e1]; exact I3.free, by rw [e2]; exact hdL⟩
      · rw [List.append_nil] at z
        rw [List.mem_singleton.mp z]
        exact ⟨Nat.le_of_lt lt1, hpushed, hHn, fun v q => by rw [hgd0] at q; cases q⟩
    · show s1.gens.size < (s1.gens.push _).size
      rw [Array.size_push]; exact Nat.lt_succ_self _
    · have I4 := I3.reb (s' := s2) (H' := H2) rfl hcells b
      refine dv_func ?_
      refine ht.run Aw s1.heap.objs.size s1.gens.size [] [] xs s2 ⟨H2, f⟩ _ [] _ _ id id s2 (start N vs) H2 _ (fun _ => rfl) ⟨rfl, hcells, Nat.le_refl _, fun p hp => by rw [List.mem_singleton.mp hp]; exact Nat.le_of_lt lt1, (fun h hh => hgen h (hh _ (List.mem_singleton.mpr rfl))), (fun _ h => nomatch h), over_func, rfl, rfl, rfl⟩ ⟨fun ys s₀ H₀ s' fl hs => ?_, fun ys s₀ H₀ e s' hx => ?_⟩ ⟨l, I4.2, I4.1, fun _ h => nomatch h⟩ (hq H2 T)
      · have fin : ∀ {σ' : St} {H' : Hp}, RI (gcxOf P w K mg base N qual scope fa cdv Aw outer s H noX [(s1.heap.objs.size, go)]) s1.gens.size s₀ H₀ [] [] σ' H' s' → ys = [] → Le H₀.h H' → RR (gcxOf P w K mg base N qual scope fa cdv Aw outer s H noX [(s1.heap.objs.size, go)]) ys H₀ s₀ (.ok (.ret .none)) s' := fun {σ' H'} ri e le => by
          subst e
          exact ⟨.inl rfl, H', ri.inv.outs rfl le⟩
        cases fl with
        | next =>
          obtain ⟨σ', H', ri, q, le⟩ := hs
          exact dv_end (.ok (.ret .none)) (fin ri q le)
        | brk => obtain ⟨_, _, _, q⟩ := hs; exact False.elim q
        | cont => obtain ⟨_, _, _, q⟩ := hs; exact False.elim q
        | ret u =>
          obtain ⟨v, σ', H', ri, rv, ev, q, le⟩ := hs
          subst ev
          have eu : u = Value.none := rv
          subst eu
          exact dv_end (.ok (.ret .none)) (fin ri q le)
      · refine dv_wrap ?_
        rw [over_func]
        refine wpAny_mono (show wpAny (model P w) (Aw.deeper (envOfC qual scope s.heap.objs.size fa cdv)) (leaving (envOfC qual scope s.heap.objs.size fa cdv) e) (fun _ s'' => CX P w outer H s noX e s'' ∧ ∀ p ∈ [(s1.heap.objs.size, go)], s''.heap.get? p.1 = some p.2) (fun _ _ => False) s' from hx) (fun _ s'' q => ?_) fun _ s'' q => q.elim
        obtain ⟨⟨_, _, _, _, _, _, _, _, _, _, _, _, q⟩, _⟩ := q
        exact q.elim
  exact main _ _ _ _ rfl rfl rfl fun h => Heap.get?_push_size _ rfl
end L2
namespace L2
open PySem PySem.Spec PyProof.Rows GenW
section
variable {α : Type} {Rp : Hp → α → V → Prop} {X : Cx} {k : Nat} {fa : Addr} {fd : FuncData} {ps : List Str} {sp : SpO α} {dvs : List V} {ds : List Value} {x : Str} {p pos pos' : Pos}
def tCallO (sp : SpO α) (dvs : List V) (t : TA) : TGo α := fun σ H cont => t σ H fun vs H1 => ∃ xs f, sp (vs ++ dvs) H1 f xs ∧ cont xs f H1
theorem pgo_call {e : Expr} {es : List Expr} {t : TA} (F : GFo Rp X.prog X.w X.K X.mg X.base k fa fd ps sp) (hr : Room k X.A) (hg : Gl X x) (hm : X.mg x = some (.ref fa)) (hk : PySem.W.keepIn X.K (.ref fa) = true) (hb : Binds X.K fd ps ds) (hd : Vals dvs ds)
    (ha : PA X (e :: es) t) (hdb : (x == ("__debug__" : Str)) = false := by decide) (he : starEach (e :: es) X.env = (false, eval e X.env) :: starEach es X.env := by rfl) (hpl : (backTo pos' (starEach es X.env)).any (·.1) = false := by rfl) :
    PGo Rp X k (.Call (.Name x p) (e :: es) [] pos') (tCallO sp dvs t) := by
  refine ⟨fun pins s σ H cont I h => ?_⟩
  refine wpAny_Call_Name_kw (ld_glob I hg hm ?_ hdb)
  refine PySem.W.callWith_K (h₀ := X.base) I.ok.mod.kin hk (wpAny_gsz (n := s.gens.size) (Nat.le_refl _) (wpAny_mono (ha.run pos' pins s σ H _ I h) (fun us s1 ⟨vs, H1, I1, r, xs, f, hs, q⟩ hl => ⟨I1.kIn, ?_⟩) fun _ _ hx _ => hx)) he hpl
  have r2 : Vals (vs ++ dvs) (us ++ ds) := r.append hd
  have hl2 : (us ++ ds).length = ps.length := by rw [← r2.length]; exact F.len _ _ _ _ hs
  refine wpAny_call (codeAny_mono (F.run X.A X.stack s1 H1 ⟨us, []⟩ (us ++ ds) (vs ++ dvs) f xs hr I1.env0 (hb s1 us I1.kIn hl2) r2 hs) fun r s' hq => ?_)
  cases r with
  | error e => exact False.elim hq
  | ok fl =>
    cases fl with
    | ret u => exact ⟨H1, s1, xs, f, hl, I1, hq, q⟩
    | next => exact False.elim hq
    | brk => exact False.elim hq
    | cont => exact False.elim hq
end
theorem room_in1 {k : Nat} {A : Around} (r : Room (k + 1) A) : Room k A.in1 := ⟨r.hd, by have := r.dp; show A.depth + 3 * k + 5 < _; omega, by have := r.un; show A.units + 1 + 16 * k + 200 < _; omega⟩
section
variable {α : Type} {Rp : Hp → α → V → Prop} {X : Cx} {pins : List (Addr × Obj)} {σ : St} {H : Hp} {s : Shared}
def tForG (Rp : Hp → α → V → Prop) (tg : TGo α) (g : TG) (tb : TS) : TS := fun D σ H => tg σ H fun xs f H1 => ∃ W : List α → Hp → St → Hp → Prop, W xs f σ H1 ∧ ∀ ys f σ H, W ys f σ H → ∀ H2, Le H H2 →
  (ys = [] → D.nx σ H2) ∧ ∀ x ys', ys = x :: ys' → ∀ u, Rp (Kn f H H2) x u → g u σ H2 fun σ3 H3 => tb { D with nx := fun σ' H' => Tsb (Kn f H H2) H' ∧ W ys' (Kn f H H2) σ' H', ct := fun σ' H' => Tsb (Kn f H H2) H' ∧ W ys' (Kn f H H2) σ' H', bk := D.nx } σ3 H3
theorem ps_forgen {k : Nat} {tgt iter : Expr} {body : List Stmt} {tg : TGo α} {g : TG} {tb : TS} {pos : Pos} (hp : PassesOwn (model X.prog X.w) X.A X.env X.xe) (hx : X.GenX) (hr : Room (k + 1) X.A) (hi : PGo Rp X k iter tg) (hg : PG X tgt g) (hb : PSs X body tb)
    (hs : ∀ x, foldedSetIterable iter X.env x = pure x := by intro _; rfl) (hlo : ∀ it v, letOwnedTupleGo tgt it v = pure () := by intro _ _; rfl) : PS X (.For tgt iter body [] pos) (tForG Rp tg g tb) := by
  refine ⟨fun pins s σ H D I h => ?_⟩
  refine wpAny_For (thn (hi.run pins s σ H _ I h) fun u s1 h1 => ?_) hs
  obtain ⟨H1, sc, xs, f0, _, Ic, ⟨a, gn, rfl, _, ha, hig, hos, hbare, hkp, hmk⟩, W, w0, turn⟩ := h1
  refine wpAny_pyIter_gen hig ?_
  obtain ⟨Xg, own0, e1, e2, e3, e4, e5, e6, asl⟩ := hmk X.A.in1 (room_in1 hr) Ic.ok.frames
  have U : Und X pins Xg := ⟨e1, e2, e3, e4, e5, by rw [e6]; exact Ic.sz, by rw [e6]; exact Ic.lt, fun x c h => by
    obtain ⟨v, o, ho, _⟩ := Ic.cell x c h
    rw [e6]; exact Heap.lt_size ho, fun p hp => by rw [e6]; exact Heap.lt_size (Ic.pin p hp).1⟩
  have I1 : Inv X pins σ H1 s1 := Ic.call' (ch := []) hos (Un.kept hkp) (Ic.hok.kept hkp) hbare fun _ z => nomatch z
  refine codeAny_forLoop_any (fun n s' => ∃ ys f σ' H' own pr, n = List.length ys ∧ Inv X pins σ' H' s' ∧ W ys f σ' H' ∧ Asl Rp Xg X.A.in1 a gn ys f own pr H' s') ?_ xs.length ⟨xs, f0, σ, H1, own0, [], rfl, I1, w0, asl⟩
  rintro n s3 ⟨ys, f3, σ3, H3, own, pr, rfl, I3, w3, L3⟩
  refine wpAny_passesOwn hp (asl_next (A := X.A.in1) U I3 L3 rfl hr.hd (by have := hr.dp; omega) ?_ ?_)
  · rintro rfl Hb s4 s5 O I4 _
    exact wpAny_execs_nil ⟨σ3, Hb, I4, (turn [] f3 σ3 H3 w3 Hb O.le).1 rfl⟩
  · rintro x zs u4 v Hb s4 s5 own' pr' rfl rv rp O I4 _ L4 hsu
    have st := (turn _ f3 σ3 H3 w3 Hb O.le).2 x _ rfl u4 rp
    refine wpAny_of_eq (hlo _ _) ?_
    have Ip := U.pinned I4 L4.ow
    refine wpAny_passesOwn hp (thn (asleep_run hx Ip fun It => hg.run _ _ σ3 Hb u4 v _ It rv st) fun _ s6 ⟨k5, G5, b5, σ5, H5, I5, q5⟩ => ?_)
    have I5' := I5.woke b5
    refine wpAny_passesOwn hp (thn (asleep_run hx I5' fun It => hb.run _ _ σ5 H5 _ It q5) fun f s7 ⟨k6, G6, b6, q6⟩ => ?_)
    have again : ∀ {σ6 : St} {H6 : Hp}, Inv X (pins ++ own') σ6 H6 { s7 with gens := G6 } → Tsb (Kn f3 H3 Hb) H6 ∧ W zs (Kn f3 H3 Hb) σ6 H6 → ∃ m', m' < (x :: zs).length ∧ ∃ ys f σ' H' own pr, m' = List.length ys ∧ Inv X pins σ' H' s7 ∧ W ys f σ' H' ∧ Asl Rp Xg X.A.in1 a gn ys f own pr H' s7 := fun {σ6 H6} I6 ⟨T6, w6⟩ => by
      have I6' := I6.woke b6
      exact ⟨zs.length, Nat.lt_succ_self _, zs, _, σ6, H6, own', pr', rfl, I6'.unpinned, w6, L4.later U hsu (k5.trans k6) T6 I6'⟩
    cases f with
    | next => obtain ⟨σ6, H6, I6, q⟩ := q6; exact again I6 q
    | cont => obtain ⟨σ6, H6, I6, q⟩ := q6; exact again I6 q
    | brk => obtain ⟨σ6, H6, I6, q⟩ := q6; exact ⟨σ6, H6, (I6.woke b6).unpinned, q⟩
    | ret v => obtain ⟨x6, σ6, H6, I6, r6, q⟩ := q6; exact ⟨x6, σ6, H6, (I6.woke b6).unpinned, r6, q⟩
end
end L2
namespace L2
open PySem PySem.Spec PyProof.Rows GenW
section
variable {α : Type} {Rp : Hp → α → V → Prop} {X : Cx}
abbrev loopFr (env : Env) (K : Flow → Sem PySem.Fin) (J : Value → Sem PySem.Fin) (gd : Bool → Bool) (lv : List Value → List Value) (c : Code) (p : Pos) : Frame :=
  .ret (fun r => ((match r with | .ok f => (.pure f : Sem Flow) | .error e => .raise e).onRaise (cameBack env)).wrap K J gd lv) none (gd false) (lv []) c p []
theorem oc_loop {a : Addr} {g : Nat} {ip : List (Addr × Obj)} {A : Around} {c c' : Code} {fs : List Frame} {gd : Bool → Bool} {k : Result → Sem PySem.Fin} {l kp : List Value} {p : Pos} (o : OC X a g ip A c fs gd) (hw : c'.weight = 0) (hu : c'.cUnits = 0) :
    OC X a g ip A c' (.ret k none (gd false) l c p kp :: fs) id where
  ex := o.ex
  cells := o.cells
  above := o.above
  pn := o.pn
  isg := o.isg
  ip := o.ip
  over := (over_loop hw hu).trans o.over
  split := by
    show (splitAtGen fs).map _ = none
    rw [o.split] <;> rfl
  guard := by
    show (gd false || fs.any Frame.guarded) = false
    rw [o.gd, o.guard] <;> rfl
  gd := rfl
variable {A : Around} {a : Addr} {g : Nat} {ys : List α} {H₀ : Wkn} {pr : List (Nat × GenState)} {ip : List (Addr × Obj)} {s₀ s : Shared} {c : Code} {fs : List Frame} {K : Flow → Sem PySem.Fin} {J : Value → Sem PySem.Fin} {gd : Bool → Bool} {lv : List Value → List Value} {D : OEnds α} {e : Value}
theorem os_back (o : OC X a g ip A c fs gd) (k : OK' Rp X a g pr ip A c fs K J D) (h : cameBackBy (model X.prog X.w) X.A X.env X.xe e s) : OSeg Rp X A a g ys s₀ H₀ c (((Sem.raise e : Sem Flow).onRaise (cameBack X.env)).wrap K J gd lv) fs s := by
  show Dv _ _ _ _ _ (((cameBack X.env e).bind fun _ => (Sem.raise e : Sem Flow)).wrap K J gd lv) _ _
  rw [Sem.bind_eq_wrap, Sem.wrap_wrap]
  refine dv_wrap ?_
  rw [o.over]
  exact wpAny_mono h (fun _ s' hx => k.exc ys s₀ H₀ e s' hx) fun x s' hx => k.exc ys s₀ H₀ x s' hx
theorem os_exc {tg : Expr} {it : Value} {body : List Stmt} {p : Pos} (hp : PassesOwn (model X.prog X.w) X.A X.env X.xe) (o : OC X a g ip A c fs gd) (k : OK' Rp X a g pr ip A c fs K J D) (hx : X.xe e s) :
    OSeg Rp X A a g ys s₀ H₀ (.forLoop tg it body [] X.env) (loopExc X.env e) (loopFr X.env K J gd lv c p :: fs) s := by
  have ol := oc_loop (c' := .forLoop tg it body [] X.env) (k := fun r => ((match r with | .ok f => (.pure f : Sem Flow) | .error e => .raise e).onRaise (cameBack X.env)).wrap K J gd lv) (l := lv []) (kp := []) (p := p) o rfl rfl
  refine dv_wrap ?_
  rw [ol.over]
  refine wpAny_bind (wpAny_mono (hp e s hx) (fun _ s'' hcb => wpAny_theTreesLotGoes ?_) fun y s'' hcb => ?_)
  · exact dv_leaf (.error e) (os_back o k hcb)
  · exact dv_leaf (.error y) (os_back o k hcb)
def tOFor (wi : TI) (g : TG) (tb : TOn α) : TOn α := fun D ys Hw σ H => wi σ H fun J H1 => ∃ W : Nat → Nat → List α → Wkn → St → Hp → Prop, (∃ m, W 0 m ys Hw σ H1) ∧ ∀ i m ys Hw σ H, W i m ys Hw σ H →
  (J.stop i H ∧ D.nx ys Hw σ H) ∨ (J.go i H ∧ ∃ N : List α → Wkn → St → Hp → Prop, (∀ ys' Hw' σ' H', N ys' Hw' σ' H' → ∃ m', m' < m ∧ W (i + 1) m' ys' Hw' σ' H') ∧ ∀ x H', J.yld i H x H' → g x σ H' fun σ2 H2 => tb { D with nx := N, ct := N, bk := D.nx } ys Hw σ2 H2)
theorem os_for {Z : Bool} {iter : Expr} {body : List Stmt} {tg : Expr} {wi : TI} {gg : TG} {tb : TOn α} {pos : Pos} (hp : PassesOwn (model X.prog X.w) X.A X.env X.xe) (hgx : X.GenX) (hc : X.calm = true) (hi : ∀ s₀ H₀, PI (X.reb s₀ H₀) tg iter wi) (hg : ∀ s₀ H₀, PG (X.reb s₀ H₀) tg gg) (hb : OSs Rp X Z body tb)
    (hs : ∀ x, foldedSetIterable iter X.env x = pure x := by intro _; rfl) : OSt Rp X Z (.For tg iter body [] pos) (tOFor wi gg tb) := by
  refine ⟨fun A a g pr ip ys s₀ H₀ c fs K J gd lv s σ H D hz oc k hI ht => ?_⟩
  refine dv_For hs ?_
  rw [oc.over]
  refine wpAny_mono (hI.step hgx fun I => (hi s₀ H₀.h).run ip _ σ H _ I ht) (fun v s1 ⟨hl1, G1, S1, h1⟩ => wpAny_gsz (n := g + 1) hl1 (wpAny_mono (Sl.run (X := X) hgx hI.inv.bare S1 h1) (fun itv s2 ⟨G2, S2, h2⟩ hl2 => fun p => ?_) fun x s' hx _ => k.exc ys s₀ H₀ x s' hx)) fun x s' hx => k.exc ys s₀ H₀ x s' hx
  obtain ⟨it, fp, tn, JJ, H2, e, I2, T, st2, f2, W, ⟨m0, w0⟩, turn⟩ := h2
  subst e
  have n00 := hI.n0
  have stat : ∀ {s₀' : Shared} {H₀' H' : Hp}, (X.reb s₀' H₀').n0 = X.n0 → (∀ b ∈ fp, H' b = none) → ∀ b ∈ fp, FpOk (X.reb s₀' H₀') ip H' b := fun {s₀' H₀' H'} hn h b hb => by
    obtain ⟨z1, z2, z3, z4, z5⟩ := (f2 b hb).2
    refine ⟨h b hb, z1, z2, ?_, z4, z5⟩
    rcases z3 with z | z
    · exact .inl z
    · refine .inr ?_
      have z' : (X.reb s₀ H₀.h).n0 ≤ b := z
      rw [n00, ← hn] at z'
      exact z'
  have fpn : ∀ b ∈ fp, X.n0 ≤ b := fun b hb => by
    rcases (f2 b hb).2.2.2.1 with z | z
    · have : b ∈ X.ex := z
      rw [oc.ex] at this; cases this
    · have z' : (X.reb s₀ H₀.h).n0 ≤ b := z
      rw [n00] at z'
      exact z'
  have loop : ∀ (m i : Nat) (ys : List α) (s₀ : Shared) (H₀ : Wkn) (s : Shared) (σ : St) (H : Hp), W i m ys H₀ σ H → tn i s.heap → (∀ b ∈ fp, H b = none) → RI X g s₀ H₀ pr ip σ H s →
      OSeg Rp X A a g ys s₀ H₀ (.forLoop tg (.ref it) body [] X.env) ((model X.prog X.w).den (.forLoop tg (.ref it) body [] X.env)) (loopFr X.env K J gd lv c p :: fs) s := by
    intro m
    induction m using Nat.strongRecOn with
    | ind m ih =>
      intro i ys s₀ H₀ s σ H w st fr hI
      have ol := oc_loop (c' := .forLoop tg (.ref it) body [] X.env) (k := fun r => ((match r with | .ok f => (.pure f : Sem Flow) | .error e => .raise e).onRaise (cameBack X.env)).wrap K J gd lv) (l := lv []) (kp := []) (p := p) oc rfl rfl
      refine dv_forLoop ?_
      rw [ol.over]
      rcases turn i m ys H₀ σ H w with ⟨stop, qn⟩ | ⟨go, N, hN, step⟩
      · refine wpAny_mono (hI.step hgx fun I => T.done (X.reb s₀ H₀.h) rfl rfl rfl hc i ip _ σ H X.xe I (stat hI.n0 fr) st stop) (fun r' s4 ⟨hl, G4, S4, hr, I4⟩ => ?_) fun x s' hx => os_exc hp oc k hx
        subst hr
        refine dv_again rfl ?_
        show Dv _ _ _ _ _ (leafOf (.ok .next)) _ _
        exact dv_leaf (.ok .next) (k.ok ys s₀ H₀ s4 .next ⟨σ, H, hI.sl hl S4 I4, qn⟩)
      · refine wpAny_mono (hI.step hgx fun I => T.item (X.reb s₀ H₀.h) rfl rfl rfl hc i ip _ σ H X.xe I (stat hI.n0 fr) st go) (fun r' s4 ⟨hl, G4, S4, u, hr, h4⟩ => ?_) fun x s' hx => os_exc hp oc k hx
        subst hr
        refine wpAny_gsz (n := g + 1) hl (wpAny_mono (Sl.run (X := X) hgx hI.inv.bare S4 h4) (fun _ s5 ⟨G5, S5, x, H5, I5, r5, y5, st5, fr5⟩ hl5 => ?_) fun x s' hx _ => os_exc hp oc k hx)
        have R5 := hI.sl hl5 S5 I5
        have I5' := R5.inv.pinned (stat hI.n0 fr5) (T.obj _ _ st5)
        have R5' : RI X g s₀ H₀ pr (ip ++ pinsAt fp s5.heap) σ H5 s5 := ⟨R5.lt, R5.n0, I5', R5.pk⟩
        refine wpAny_mono (R5'.step hgx fun I => (hg s₀ H₀.h).run _ _ σ H5 x u _ I r5 (step x H5 y5)) (fun _ s6 ⟨hl6, G6, S6, σ6, H6, I6, q6⟩ => ?_) fun x s' hx => os_exc hp oc k hx
        have R6 := R5'.sl hl6 S6 I6
        have oc2 : OC X a g (ip ++ pinsAt fp s5.heap) A (.forLoop tg (.ref it) body [] X.env) (loopFr X.env K J gd lv c p :: fs) id :=
          { ol with ip := fun q hq => (List.mem_append.mp hq).elim (fun z => oc.ip q z) fun z => fpn q.1 (of_pinsAt z).1 }
        have down : ∀ {s₀' : Shared} {H₀' : Wkn} {σ7 : St} {H7 : Hp} {s7 : Shared}, RI X g s₀' H₀' pr (ip ++ pinsAt fp s5.heap) σ7 H7 s7 → RI X g s₀' H₀' pr ip σ7 H7 s7 := fun r => ⟨r.lt, r.n0, r.inv.unpinned, r.pk⟩
        have again : ∀ {s₀' : Shared} {H₀' : Wkn} {s7 : Shared} {ys7 : List α} {σ7 : St} {H7 : Hp}, RI X g s₀' H₀' pr (ip ++ pinsAt fp s5.heap) σ7 H7 s7 → N ys7 H₀' σ7 H7 →
            OSeg Rp X A a g ys7 s₀' H₀' (.forLoop tg (.ref it) body [] X.env) (.pure (.again (.forLoop tg (.ref it) body [] X.env))) (loopFr X.env K J gd lv c p :: fs) s7 := fun {s₀' H₀' s7 ys7 σ7 H7} R7 n7 => by
          obtain ⟨m', hm, w7⟩ := hN ys7 H₀' σ7 H7 n7
          have pin : ∀ b ∈ fp, ∀ ob, s5.heap.get? b = some ob → s7.heap.get? b = some ob ∧ H7 b = none := fun b hb ob e => by
            have z := R7.inv.pin (b, ob) (List.mem_append_right _ (List.mem_append_right _ (mem_pinsAt hb e)))
            exact ⟨z.1, z.2.1⟩
          refine dv_again rfl (ih m' hm (i + 1) ys7 s₀' H₀' s7 σ7 H7 w7 (T.keep _ _ _ st5 fun b hb ob e => (pin b hb ob e).1) (fun b hb => ?_) (down R7))
          obtain ⟨ob, e, _⟩ := T.obj _ _ st5 b hb
          exact (pin b hb ob e).2
        refine hb.run A a g pr (ip ++ pinsAt fp s5.heap) ys s₀ H₀ _ _ _ _ id id s6 σ6 H6 { D with nx := N, ct := N, bk := D.nx } hz oc2 ⟨fun ys' s₀' H₀' s3 f hs => ?_, fun ys' s₀' H₀' x s3 hx => os_exc hp oc k hx⟩ R6 q6
        cases f with
        | next => obtain ⟨σ3, H3, I3, n3⟩ := hs; exact again I3 n3
        | cont => obtain ⟨σ3, H3, I3, n3⟩ := hs; exact again I3 n3
        | brk => obtain ⟨σ3, H3, I3, n3⟩ := hs; exact dv_leaf (.ok .next) (k.ok ys' s₀' H₀' s3 .next ⟨σ3, H3, down I3, n3⟩)
        | ret v => obtain ⟨x3, σ3, H3, I3, r3, n3⟩ := hs; exact dv_leaf (.ok (.ret v)) (k.ok ys' s₀' H₀' s3 (.ret v) ⟨x3, σ3, H3, down I3, r3, n3⟩)
  exact loop m0 0 ys s₀ H₀ s2 σ H2 w0 st2 (fun b hb => (f2 b hb).1) (hI.sl hl2 S2 I2)
end
end L2
namespace L2
open PySem PySem.Spec PyProof.Rows GenW
section
variable {α : Type} {Rp : Hp → α → V → Prop} {X : Cx}
theorem und_reb {pins : List (Addr × Obj)} {Xi : Cx} {s₀ s₀' : Shared} {H₀ H₀' : Hp} (U : Und (X.reb s₀ H₀) pins Xi) (h : (X.reb s₀ H₀).n0 = X.n0) (h' : (X.reb s₀' H₀').n0 = X.n0) : Und (X.reb s₀' H₀') pins Xi :=
  ⟨U.prog, U.w, U.base, U.outer, U.ex, by
    have := U.sz
    show (X.reb s₀' H₀').n0 ≤ _
    rw [h', ← h]
    exact this, U.loc, U.cell, U.pin⟩
def tOForG (Rp : Hp → α → V → Prop) (tg : TGo α) (g : TG) (tb : TOn α) : TOn α := fun D ys Hw σ H => tg σ H fun zs f H1 => ∃ W : List α → Hp → List α → Wkn → St → Hp → Prop, W zs f ys Hw σ H1 ∧ ∀ zs f ys Hw σ H, W zs f ys Hw σ H → ∀ H2, Le H H2 →
  (zs = [] → D.nx ys Hw σ H2) ∧ ∀ x zs', zs = x :: zs' → ∀ u, Rp (Kn f H H2) x u → g u σ H2 fun σ3 H3 => tb { D with nx := fun ys' Hw' σ' H' => Tsb (Kn f H H2) H' ∧ W zs' (Kn f H H2) ys' Hw' σ' H', ct := fun ys' Hw' σ' H' => Tsb (Kn f H H2) H' ∧ W zs' (Kn f H H2) ys' Hw' σ' H', bk := D.nx } ys Hw σ3 H3
theorem os_forgen {k0 : Nat} {tgt iter : Expr} {body : List Stmt} {tg : TGo α} {gg : TG} {tb : TOn α} {pos : Pos} (hp : PassesOwn (model X.prog X.w) X.A X.env X.xe) (hgx : X.GenX) (hr : Room (k0 + 1) X.A) (hi : ∀ s₀ H₀, PGo Rp (X.reb s₀ H₀) k0 iter tg) (hg : ∀ s₀ H₀, PG (X.reb s₀ H₀) tgt gg) (hb : OSs Rp X false body tb)
    (hs : ∀ x, foldedSetIterable iter X.env x = pure x := by intro _; rfl) (hlo : ∀ it v, letOwnedTupleGo tgt it v = pure () := by intro _ _; rfl) : OSt Rp X true (.For tgt iter body [] pos) (tOForG Rp tg gg tb) := by
  refine ⟨fun A a g pr ip ys s₀ H₀ c fs K J gd lv s σ H D hz oc k hI ht => ?_⟩
  obtain rfl := hz rfl
  refine dv_For hs ?_
  rw [oc.over]
  refine wpAny_mono (hI.step hgx fun I => (hi s₀ H₀.h).run ip _ σ H _ I ht) (fun u s1 ⟨hl1, G1, S1, h1⟩ => ?_) fun x s' hx => k.exc ys s₀ H₀ x s' hx
  obtain ⟨H1, sc, zs, f0, hsz, Ic, ⟨ai, gi, rfl, hgi, ha, hig, hos, hbare, hkp, hmk⟩, W, w0, turn⟩ := h1
  refine wpAny_pyIter_gen hig fun p => ?_
  obtain ⟨Xi, own0, e1, e2, e3, e4, e5, e6, asl⟩ := hmk X.A.in1 (room_in1 hr) Ic.ok.frames
  have U : Und (X.reb s₀ H₀.h) ip Xi := ⟨e1, e2, e3, e4, e5, by rw [e6]; exact Ic.sz, by rw [e6]; exact Ic.lt, fun x c h => by
    obtain ⟨v, o, ho, _⟩ := Ic.cell x c h
    rw [e6]; exact Heap.lt_size ho, fun p hp => by rw [e6]; exact Heap.lt_size (Ic.pin p hp).1⟩
  have I1 : Inv (X.reb s₀ H₀.h) ip σ H1 { s1 with gens := G1 } := Ic.call' (ch := []) hos (Un.kept hkp) (Ic.hok.kept hkp) hbare fun _ z => nomatch z
  have R1 := hI.sl hl1 S1 I1
  have n00 := hI.n0
  have hsl : s.gens.size ≤ gi := by
    have h2 : s.still.gens.size ≤ sc.gens.size := hsz
    have h3 : s.still.gens.size = s.gens.size := Array.size_map
    omega
  have hne : g < gi := Nat.lt_of_lt_of_le hI.lt hsl
  have nXi : X.n0 ≤ Xi.n0 := by
    have h := U.sz
    have h' : (X.reb s₀ H₀.h).n0 ≤ Xi.n0 := h
    rw [n00] at h'
    exact h'
  have L1 : Asl Rp Xi X.A.in1 ai gi zs f0 own0 [] H1 s1 := by
    obtain ⟨gs, hgs, hw⟩ := asl.gs
    have nsl : ¬ Slp s.gens gi := fun ⟨y, hy, _⟩ => by
      have := (Array.getElem?_eq_some_iff.mp hy).1
      omega
    exact ⟨asl.isg, asl.ow, (fun _ h => nomatch h), by rw [← S1.poi.size]; exact asl.lt, ⟨gs, (S1.poi.same gi nsl).symm.trans hgs, hw⟩, asl.kn⟩
  have loop : ∀ (zs : List α) (f : Hp) (ys : List α) (s₀ : Shared) (H₀ : Wkn) (s : Shared) (σ : St) (H : Hp) (own : List (Addr × Obj)) (prI : List (Nat × GenState)), RI X g s₀ H₀ [] ip σ H s → W zs f ys H₀ σ H → Asl Rp Xi X.A.in1 ai gi zs f own prI H s →
      OSeg Rp X A a g ys s₀ H₀ (.forLoop tgt (.ref ai) body [] X.env) ((model X.prog X.w).den (.forLoop tgt (.ref ai) body [] X.env)) (loopFr X.env K J gd lv c p :: fs) s := by
    intro zs
    induction zs with
    | nil =>
      intro f ys s₀' H₀' s σ H own prI hI w L
      have U' := und_reb U n00 hI.n0
      have ol := oc_loop (c' := .forLoop tgt (.ref ai) body [] X.env) (k := fun r => ((match r with | .ok f => (.pure f : Sem Flow) | .error e => .raise e).onRaise (cameBack X.env)).wrap K J gd lv) (l := lv []) (kp := []) (p := p) oc rfl rfl
      have hov : A.over (.forLoop tgt (.ref ai) body [] X.env) (loopFr X.env K J gd lv c p :: fs) = X.A := ol.over
      refine dv_forLoop ?_
      rw [hov]
      refine wpAny_mono (wpAny_gsz (n := g + 1) (Q := fun r s1 => g + 1 ≤ s1.gens.size ∧ r = none ∧ ∃ H₁, Le H H₁ ∧ Inv (X.reb s₀' H₀'.h) ip σ H₁ s1) hI.lt (asl_next (Xc := X.reb s₀' H₀'.h) (B := X.A) U' hI.inv L rfl hr.hd (by have := hr.dp; omega) (fun _ H₁ s4 s5 O I4 _ hl => ⟨hl, rfl, H₁, O.le, I4⟩) (by intro x ys u v H₁ s₁ s' own' pr' e; cases e))) (fun r s1 ⟨hl, hr', H₁, le, I4⟩ => ?_) (fun x s' hx => (hx : False).elim)
      subst hr'
      refine dv_again rfl ?_
      show Dv _ _ _ _ _ (leafOf (.ok .next)) _ _
      exact dv_leaf (.ok .next) (k.ok ys s₀' H₀' s1 .next ⟨σ, H₁, ⟨hl, hI.n0, I4, fun _ h => nomatch h⟩, (turn [] f ys H₀' σ H w H₁ le).1 rfl⟩)
    | cons x zs ih =>
      intro f ys s₀' H₀' s σ H own prI hI w L
      have U' := und_reb U n00 hI.n0
      have ol := oc_loop (c' := .forLoop tgt (.ref ai) body [] X.env) (k := fun r => ((match r with | .ok f => (.pure f : Sem Flow) | .error e => .raise e).onRaise (cameBack X.env)).wrap K J gd lv) (l := lv []) (kp := []) (p := p) oc rfl rfl
      have hov : A.over (.forLoop tgt (.ref ai) body [] X.env) (loopFr X.env K J gd lv c p :: fs) = X.A := ol.over
      refine dv_forLoop ?_
      rw [hov]
      refine wpAny_mono (wpAny_gsz (n := g + 1) (Q := fun r s1 => g + 1 ≤ s1.gens.size ∧ ∃ u v H₁ own' pr' gs, r = some v ∧ RelV u v ∧ Rp (Kn f H H₁) x u ∧ Le H H₁ ∧ Inv (X.reb s₀' H₀'.h) ip σ H₁ s1 ∧ Asl Rp Xi X.A.in1 ai gi zs (Kn f H H₁) own' pr' H₁ s1 ∧ s1.gens[gi]? = some gs ∧ gs.susp = true) hI.lt (asl_next (Xc := X.reb s₀' H₀'.h) (B := X.A) U' hI.inv L rfl hr.hd (by have := hr.dp; omega) (by intro e; cases e) (fun x' ys' u v H₁ s4 s5 own' pr' e rv rp O I4 _ L4 ⟨gs, hgs, hsu⟩ hl => by
        obtain ⟨rfl, rfl⟩ := List.cons.inj e
        exact ⟨hl, u, v, H₁, own', pr', gs, rfl, rv, rp, O.le, I4, L4, hgs, hsu⟩))) (fun r s1 ⟨hl, u, v, H₁, own', pr', gs, hr', rv, rp, le, I4, L4, hgs, hsu⟩ => ?_) (fun x s' hx => (hx : False).elim)
      subst hr'
      refine wpAny_of_eq (hlo _ _) ?_
      have st := (turn _ f ys H₀' σ H w H₁ le).2 x zs rfl u rp
      have R4 : RI X g s₀' H₀' ((gi, gs) :: pr') (ip ++ own') σ H₁ s1 := ⟨hl, hI.n0, U'.pinned I4 L4.ow, fun q hq => by
        rcases List.mem_cons.mp hq with z | z
        · subst z; exact ⟨hne, hsu, hgs⟩
        · obtain ⟨h1, h2, h3⟩ := L4.pk q z
          exact ⟨Nat.lt_trans hne h1, h2, h3⟩⟩
      refine wpAny_mono (R4.step hgx fun I => (hg s₀' H₀'.h).run _ _ σ H₁ u v _ I rv st) (fun _ s6 ⟨hl6, G6, S6, σ6, H6, I6, q6⟩ => ?_) fun x s' hx => os_exc hp oc k hx
      have R6 := R4.sl hl6 S6 I6
      have oc2 : OC X a g (ip ++ own') A (.forLoop tgt (.ref ai) body [] X.env) (loopFr X.env K J gd lv c p :: fs) id :=
        { ol with ip := fun q hq => (List.mem_append.mp hq).elim (fun z => oc.ip q z) fun z => Nat.le_trans nXi (L4.ow q z).1 }
      have down : ∀ {s₀'' : Shared} {H₀'' : Wkn} {σ7 : St} {H7 : Hp} {s7 : Shared}, RI X g s₀'' H₀'' ((gi, gs) :: pr') (ip ++ own') σ7 H7 s7 → RI X g s₀'' H₀'' [] ip σ7 H7 s7 := fun r => ⟨r.lt, r.n0, r.inv.unpinned, fun _ h => nomatch h⟩
      have again : ∀ {s₀'' : Shared} {H₀'' : Wkn} {s7 : Shared} {ys7 : List α} {σ7 : St} {H7 : Hp}, RI X g s₀'' H₀'' ((gi, gs) :: pr') (ip ++ own') σ7 H7 s7 → Tsb (Kn f H H₁) H7 ∧ W zs (Kn f H H₁) ys7 H₀'' σ7 H7 →
          OSeg Rp X A a g ys7 s₀'' H₀'' (.forLoop tgt (.ref ai) body [] X.env) (.pure (.again (.forLoop tgt (.ref ai) body [] X.env))) (loopFr X.env K J gd lv c p :: fs) s7 := fun {s₀'' H₀'' s7 ys7 σ7 H7} R7 ⟨T7, w7⟩ => by
        refine dv_again rfl (ih _ ys7 s₀'' H₀'' s7 σ7 H7 own' pr' (down R7) w7 ?_)
        obtain ⟨gs', h1, h2⟩ := L4.gs
        rw [hgs] at h1
        cases h1
        have hgs7 := (R7.pk (gi, gs) List.mem_cons_self).2.2
        exact ⟨L4.isg, (und_reb U n00 R7.n0).owns L4.ow R7.inv, fun q hq => ⟨(L4.pk q hq).1, (R7.pk q (List.mem_cons_of_mem _ hq)).2⟩, (Array.getElem?_eq_some_iff.mp hgs7).1, ⟨gs, hgs7, h2⟩, T7⟩
      refine hb.run A a g ((gi, gs) :: pr') (ip ++ own') ys s₀' H₀' _ _ _ _ id id s6 σ6 H6 _ (fun h => nomatch h) oc2 ⟨fun ys' s₀'' H₀'' s3 fl hs => ?_, fun ys' s₀'' H₀'' x s3 hx => os_exc hp oc k hx⟩ R6 q6
      cases fl with
      | next => obtain ⟨σ3, H3, I3, n3⟩ := hs; exact again I3 n3
      | cont => obtain ⟨σ3, H3, I3, n3⟩ := hs; exact again I3 n3
      | brk => obtain ⟨σ3, H3, I3, n3⟩ := hs; exact dv_leaf (.ok .next) (k.ok ys' s₀'' H₀'' s3 .next ⟨σ3, H3, down I3, n3⟩)
      | ret v => obtain ⟨x3, σ3, H3, I3, r3, n3⟩ := hs; exact dv_leaf (.ok (.ret v)) (k.ok ys' s₀'' H₀'' s3 (.ret v) ⟨x3, σ3, H3, down I3, r3, n3⟩)
  exact loop zs f0 ys s₀ H₀ s1 σ H1 own0 [] R1 w0 L1
end
end L2
namespace L2
open PySem PySem.Spec PyProof.Rows GenW
theorem genX_of {X : Cx} {A : Around} {env : Env} {Q E : Value → Shared → Prop} (hx : X.xe = fun e s => wpAny (model X.prog X.w) A (leaving env e) (fun _ s' => Q e s') (fun e' s' => E e' s') s)
    (hQ : ∀ e s o G, Poi o s.gens G → AllBare o → Q e s → Q e { s with gens := G }) (hE : ∀ e s o G, Poi o s.gens G → AllBare o → E e s → E e { s with gens := G }) : X.GenX := by
  intro e s o G P F ho h
  rw [hx] at h ⊢
  intro Γ p hΓ
  exact Sem.wp_mono _ Γ _ (fun a _ s' ⟨g, P', _, q⟩ => hQ e { s' with gens := g } o s'.gens P' ho q) (fun e' _ s' ⟨g, P', _, q⟩ => hE e' { s' with gens := g } o s'.gens P' ho q) p _ (wp_asleep (s := s) _ (h Γ p hΓ) P F)
theorem genX_gcx {P : Program} {w : World} {K : PySem.W.Frag} {mg : Str → Option Value} {base : Heap} {N : List Str} {qual : Str} {scope : Scope} {f : Addr} {cd : Value} {A : Around} {outer : List Env} {s : Shared} {H : Hp} {E : XK} {pn : List (Addr × Obj)} : (gcxOf P w K mg base N qual scope f cd A outer s H E pn).GenX := by
  refine genX_of (Q := fun e s'' => L2.CX P w outer H s E e s'' ∧ ∀ p ∈ pn, s''.heap.get? p.1 = some p.2) (E := fun _ _ => False) rfl (fun e s o G Po ho q => ?_) fun _ _ _ _ _ _ q => q
  obtain ⟨⟨a, B, H', cls, d, ea, fl, hok, ub, na, os, ag, he⟩, hp⟩ := q
  exact ⟨⟨a, B, H', cls, d, ea, fl, hok, ub, na, os, poi_bare Po ag ho, he⟩, hp⟩
end L2
namespace Dn
open PySem PySem.Spec PyProof.Rows L2
variable [HzC]
theorem cxk_gen {k : Nat} {P : Program} {w : World} {fr : List Env} {H : Hp} {s s' : Shared} {E : XK} {e : Value} {o G : Array GenState} (Po : Poi o s'.gens G) (ho : AllBare o) (h : CXk k P w fr H s E e s') : CXk k P w fr H s E e { s' with gens := G } := by
  by_cases hk : 40 ≤ k
  · rw [cxk_ge hk] at h ⊢
    obtain ⟨a, B, H', cls, d, ea, fl, hok, ub, na, os, ag, he⟩ := h
    exact ⟨a, B, H', cls, d, ea, fl, hok, ub, na, os, poi_bare Po ag ho, he⟩
  · rw [cxk_lt hk] at h ⊢
    obtain ⟨a, B, H', cls, d, ea, fl, hok, ub, na, os, ag, he⟩ := h
    exact ⟨a, B, H', cls, d, ea, fl, hok, ub, na, os, poi_bare Po ag ho, he⟩
theorem genX_cx {k : Nat} {P : Program} {w : World} {K : PySem.W.Frag} {mg : Str → Option Value} {base : Heap} {N : List Str} {qual : Str} {scope : Scope} {f : Addr} {cd : Value} {A : Around} {outer : List Env} {s : Shared} {H : Hp} {E : XK} : (cxOf (CXk k P w) P w K mg base N qual scope f cd A outer s H E).GenX :=
  genX_of (Q := fun e s'' => CXk k P w outer H s E e s'') (E := fun e s'' => CXk k P w outer H s E e s'') rfl (fun _ _ _ _ Po ho q => cxk_gen Po ho q) fun _ _ _ _ Po ho q => cxk_gen Po ho q
mutual
def D.tpl : D → Bool
  | .non => true
  | .bl _ => true
  | .int _ => true
  | .str _ => true
  | .adr _ => true
  | .fnv _ => true
  | .tup xs => D.tpls xs
  | .lst _ => false
  | .scr _ => false
  | .ref _ => false
  | .fd _ _ => false
  | .exo _ _ _ _ => false
  | .obj _ _ _ => false
  | .sd _ => false
def D.tpls : List D → Bool
  | [] => true
  | d :: ds => D.tpl d && D.tpls ds
end
section
variable {K : PySem.W.Frag} {F F' : Hp} {ι ι' : List Addr}
mutual
theorem Rep.tpl (t : Tsb F F') : ∀ (d : D) (v : V), Rep K F ι d v → d.tpl = true → Rep K F' ι' d v
  | .non, _, h, _ => by simpa only [Rep] using h
  | .bl _, _, h, _ => by simpa only [Rep] using h
  | .int _, _, h, _ => by simpa only [Rep] using h
  | .str _, _, h, _ => by simpa only [Rep] using h
  | .adr _, _, h, _ => by simpa only [Rep] using h
  | .fnv _, _, h, _ => by simpa only [Rep] using h
  | .tup xs, v, h, l => by
    simp only [Rep] at h ⊢
    simp only [D.tpl] at l
    obtain ⟨a, vs, e, q, r⟩ := h
    refine ⟨a, vs, e, ?_, Reps.tpl t xs vs r l⟩
    rcases q with ⟨o, h1, h2⟩ | q
    · exact .inl ⟨o, h1, t _ _ _ h2⟩
    · exact .inr q
  | .lst _, _, _, l => by simp only [D.tpl] at l; cases l
  | .scr _, _, _, l => by simp only [D.tpl] at l; cases l
  | .ref _, _, _, l => by simp only [D.tpl] at l; cases l
  | .fd _ _, _, _, l => by simp only [D.tpl] at l; cases l
  | .exo _ _ _ _, _, _, l => by simp only [D.tpl] at l; cases l
  | .obj _ _ _, _, _, l => by simp only [D.tpl] at l; cases l
  | .sd _, _, _, l => by simp only [D.tpl] at l; cases l
theorem Reps.tpl (t : Tsb F F') : ∀ (ds : List D) (vs : List V), Reps K F ι ds vs → D.tpls ds = true → Reps K F' ι' ds vs
  | [], _, h, _ => by simpa only [Reps] using h
  | d :: ds, vs, h, l => by
    simp only [Reps] at h ⊢
    simp only [D.tpls, Bool.and_eq_true] at l
    obtain ⟨v, r, e, h1, h2⟩ := h
    exact ⟨v, r, e, Rep.tpl t d v h1 l.1, Reps.tpl t ds r h2 l.2⟩
end
theorem tpls_all {ds : List D} : D.tpls ds = true ↔ ∀ d ∈ ds, d.tpl = true := by
  induction ds with
  | nil => simp [D.tpls]
  | cons d ds ih => simp [D.tpls, ih]
def jn (F f : Hp) : Hp := fun a => match F a with
  | some o => some o
  | none => f a
theorem jn_up {f : Hp} : Sub F (jn F f) := fun a o e => by
  unfold jn
  rw [e]
theorem jn_cases {f : Hp} {a : Addr} {o : HO} (e : jn F f a = some o) : F a = some o ∨ (F a = none ∧ f a = some o) := by
  unfold jn at e
  split at e
  · rename_i o' h
    cases e
    exact .inl h
  · rename_i h
    exact .inr ⟨h, e⟩
theorem jn_kn {f H H' : Hp} (s : Sub F H) (k : Sub f F) : Sub (Kn f H H') (jn F (Kn f H H')) := fun a o e => by
  unfold jn
  rcases kn_cases e with h | ⟨_, h1, _⟩
  · rw [k a o h]
  · cases hF : F a with
    | none => exact e
    | some o' =>
      rw [s a o' hF] at h1
      cases h1
theorem sim_turn {st : Sto} {f H H' : Hp} (htb : HzC.tb = []) (S : Sim K F ι st H) (hf : IsFT f) (k : Sub f F) (le : Le H H') : Sim K (jn F (Kn f H H')) ι st H' ∧ Ext F ι H (jn F (Kn f H H')) ι H' := by
  have new : ∀ a o, jn F (Kn f H H') a = some o → F a = some o ∨ (H a = none ∧ H' a = some o) := fun a o e => by
    rcases jn_cases e with h | ⟨h, h2⟩
    · exact .inl h
    · rcases kn_cases h2 with h3 | ⟨_, h4, h5⟩
      · exact .inl (k a o h3)
      · exact .inr ⟨h4, h5⟩
  have isf : ∀ a o, jn F (Kn f H H') a = some o → F a = some o ∨ Fz o := fun a o e => by
    rcases jn_cases e with h | ⟨_, h2⟩
    · exact .inl h
    · obtain ⟨ob, xs, rfl⟩ := kn_is hf a o h2
      exact .inr trivial
  refine ⟨⟨fun a o e => ?_, fun a o e => ?_, S.len, S.nd, fun l a h hg => ?_, fun a h q => ?_, fun l m a h1 h2 => ?_, fun p hp => by rw [htb] at hp; cases hp⟩, ⟨jn_up, fun _ _ h => h, fun a o h _ n => le.1 a o h n, le.2, fun a o e => ?_, fun _ h => .inl h, Nat.le_refl _⟩⟩
  · rcases new a o e with h | h
    · refine le.1 a o (S.sub a o h) fun ps q => ?_
      subst q
      rcases S.kind a _ h with z | ⟨ob, x, z, _⟩
      · exact z
      · cases z
    · exact h.2
  · rcases isf a o e with h | h
    · exact S.kind a o h
    · exact .inl h
  · cases e : jn F (Kn f H H') a with
    | none => rfl
    | some o =>
      rcases new a o e with q | q
      · rw [S.free l a h hg] at q; cases q
      · exact absurd q.1 (S.there a (List.mem_of_getElem? h))
  · exact S.there a h (le.2 a q)
  · have O := S.obj l m a h1 h2
    by_cases hm : m = .gone
    · subst hm; exact trivial
    refine O.mono jn_up (fun _ _ h => h) ?_
    cases e : H a with
    | none => exact absurd e (S.there a (List.mem_of_getElem? h2))
    | some o =>
      refine le.1 a o e fun ps q => ?_
      subst q
      cases m with
      | lst xs => obtain ⟨vs, z, _⟩ := O; rw [e] at z; cases z
      | dct ks ds => obtain ⟨xs, ws, _, z, _⟩ := O; rw [e] at z; cases z
      | dcs ks ds => obtain ⟨xs, ws, _, z, _⟩ := O; rw [e] at z; cases z
      | ins nm fs => obtain ⟨C, dx, gs, _, z, _⟩ := O; rw [e] at z; cases z
      | gone => exact hm rfl
      | clo nm ds => obtain ⟨L, cl, pm, c', ctv, ws, _, z, _⟩ := O; rw [e] at z; cases z
  · rcases new a o e with q | q
    · exact .inl q
    · exact .inr (.inl q.1)
end
def goM (spec : List D → Option (List D)) : List D → M (List D) := fun ds st => match spec ds with
  | some xs => if D.tpls ds = true then .ok xs st else .bad
  | none => .bad
def lGo (spec : List D → Option (List D)) (am : Rho → M (List D)) : Rho → M Src := fun ρ st => (am ρ st).bind fun ds st1 => (goM spec ds st1).bind fun xs st2 => .ok ⟨xs, []⟩ st2
theorem bind_fl {α β : Type} {r : Out α} {g : α → Sto → Out β} {ρ : Rho} {f : β → Sto → Fl} : (r.bind g).fl ρ f = r.fl ρ fun a st => (g a st).fl ρ f := by cases r <;> rfl
section
variable {X : Cx} {W : WX} {k j np : Nat} {x : Str} {spec : List D → Option (List D)} {p2 pos pos2 : Pos} {e : Expr} {es : List Expr} {am : Rho → M (List D)} {tg : Expr} {body : List Stmt} {js : List Nat} {gf : D → Rho → M Rho} {mb : Rho → Sto → Fl}
theorem ds_forgen (htb : HzC.tb = []) (hp : PassesOwn (model X.prog X.w) X.A X.env X.xe) (hgx : X.GenX) (B : Bd X W j) (C : GoC X.prog X.w X.K X.mg X.base k x np spec) (hk : k + 1 ≤ j) (hg : Gl X x) (ha : DA X W (e :: es) am) (ht : DG X js tg gf) (hb : DSs X W body mb)
    (hdb : (x == ("__debug__" : Str)) = false := by decide) (he : starEach (e :: es) X.env = (false, eval e X.env) :: starEach es X.env := by rfl) (hpl2 : (backTo pos2 (starEach es X.env)).any (·.1) = false := by rfl)
    (hs' : ∀ y, foldedSetIterable (.Call (.Name x p2) (e :: es) [] pos2) X.env y = pure y := by intro _; rfl) (hlo : ∀ it v, letOwnedTupleGo tg it v = pure () := by intro _ _; rfl) :
    DS X W (.For tg (.Call (.Name x p2) (e :: es) [] pos2) body [] pos) (sFor (lGo spec am) gf mb) := by
  obtain ⟨fa, fd, ps, F, hm, kp, hbn⟩ := C.ex
  refine PS.weak (ps_forgen hp hgx (B.room.mono hk) (pgo_call (dvs := []) (ds := []) F (B.room.mono (by omega)) hg hm kp hbn .nil ha hdb he hpl2) ht hb hs' hlo) fun E σ H ⟨F0, ι, ρ, st, S, R, q⟩ => ?_
  show tG X.K W (pA X.K) am σ H _
  unfold sFor lGo at q
  rw [bind_fl] at q
  refine fl_seq S R q fun ds st1 F1 ι1 H1 vs x1 S1 R1 r1 q1 => ?_
  have r1 : Reps X.K F1 ι1 ds vs := r1
  unfold goM at q1
  cases es' : spec ds with
  | none => rw [es'] at q1; exact q1.elim
  | some xs =>
    rw [es'] at q1
    dsimp only at q1
    split at q1
    rotate_left
    · exact q1.elim
    rename_i htp
    have hl := C.np ds xs es'
    refine ⟨xs, FT F1, ⟨by rw [List.append_nil, ← r1.length]; exact hl, fun a ob zs h => S1.sub a _ (ft_sub a _ h), ft_is, ds, by rw [List.append_nil]; exact Reps.tpl ft_tps _ _ r1 htp, es'⟩,
      fun ys f σ' H' => ∃ F' ι' ρ' st', Sim X.K F' ι' st' H' ∧ REnv X.K F' ι' ρ' σ' ∧ IsFT f ∧ Sub f F' ∧ sPost X.K W E F' ι' H' (forL [] (forB gf mb) ys ρ' st'), ⟨F1, ι1, ρ, st1, S1, R1, ft_is, ft_sub, q1⟩, ?_⟩
    rintro ys f σ' H' ⟨F', ι', ρ', st', S', R', hf, hsb, q'⟩ H2 le
    obtain ⟨S2, X2⟩ := sim_turn htb S' hf hsb le
    have k2 := jn_kn (H' := H2) S'.sub hsb
    constructor
    · rintro rfl
      unfold forL at q'
      rw [if_pos ((heldOk_nil st').mpr trivial)] at q'
      exact q' _ ι' H2 σ' X2 S2 (R'.ext X2)
    · rintro x ys' rfl u ru
      unfold forL at q'
      rw [if_pos ((heldOk_nil st').mpr trivial)] at q'
      have r2 : Rep X.K (jn F' (Kn f H' H2)) ι' x u := Rep.mono k2 (fun l a h => by rw [List.getElem?_nil] at h; cases h) x u ru
      refine ⟨jn F' (Kn f H' H2), ι', ρ', st', x, S2, R'.ext X2, r2, ?_⟩
      unfold forB at q'
      cases e1 : gf x ρ' st' with
      | exc _ _ => rw [e1] at q'; exact (q' : False).elim
      | bad => rw [e1] at q'; exact (q' : False).elim
      | ok ρ2 st2 =>
        rw [e1] at q'
        intro F3 ι3 H3 σ3 x3 S3 R3
        refine ⟨F3, ι3, ρ2, st2, S3, R3.1, ?_⟩
        have xx := X2.trans x3
        have q'' := sPost_ext q' xx
        simp only [nox_ok, Out.fl_ok] at q''
        have fin : ∀ {F4 : Hp} {ι4 : List Addr} {H4 : Hp} {ρ4 : Rho} {st4 : Sto} {σ4 : L2.St}, Ext F3 ι3 H3 F4 ι4 H4 → Sim X.K F4 ι4 st4 H4 → REnv X.K F4 ι4 ρ4 σ4 → sPost X.K W E F4 ι4 H4 (forL [] (forB gf mb) ys' ρ4 st4) →
            Tsb (Kn f H' H2) H4 ∧ ∃ F' ι' ρ' st', Sim X.K F' ι' st' H4 ∧ REnv X.K F' ι' ρ' σ4 ∧ IsFT (Kn f H' H2) ∧ Sub (Kn f H' H2) F' ∧ sPost X.K W E F' ι' H4 (forL [] (forB gf mb) ys' ρ' st') := fun {F4 ι4 H4 ρ4 st4 σ4} x4 S4 R4 qq =>
          have up : Sub (Kn f H' H2) F4 := fun a o h => x4.f _ _ (x3.f _ _ (k2 a o h))
          ⟨fun a ob zs h => S4.sub _ _ (up a _ h), F4, ι4, ρ4, st4, S4, R4, kn_is hf, up, qq⟩
        cases e2 : mb ρ2 st2 with
        | next ρ4 st4 => rw [e2] at q''; exact fun F4 ι4 H4 σ4 x4 S4 R4 => fin x4 S4 R4 (sPost_ext q'' x4)
        | cnt ρ4 st4 => rw [e2] at q''; exact fun F4 ι4 H4 σ4 x4 S4 R4 => fin x4 S4 R4 (sPost_ext q'' x4)
        | brk ρ4 st4 => rw [e2] at q''; exact q''
        | ret d st4 => rw [e2] at q''; exact q''
        | exc x ρ4 st4 => rw [e2] at q''; exact q''
        | bad => rw [e2] at q''; exact q''
end
end Dn
namespace Dn
open PySem PySem.Spec PyProof.Rows L2
variable [HzC]
section
variable {K : PySem.W.Frag} {W : WX} {F : Hp} {Hw : Wkn} {H : Hp} {ρ : Rho} {σ : L2.St}
theorem OSim.sim (htb : HzC.tb = []) (O : OSim F Hw H) : Sim K F [] [] H where
  sub := O.sb
  kind := fun a o e => by
    obtain ⟨ob, xs, rfl⟩ := O.ft a o e
    exact .inl trivial
  len := rfl
  nd := .nil
  free := fun l a e => by rw [List.getElem?_nil] at e; cases e
  there := fun a e => nomatch e
  obj := fun l m a e => by rw [List.getElem?_nil] at e; cases e
  tabs := fun p hp => by rw [htb] at hp; cases hp
theorem REnv.tpl {F' : Hp} {ι ι' : List Addr} (R : REnv K F ι ρ σ) (t : Tsb F F') (h : ∀ (i : Nat) (d : D), ρ[i]? = some (some d) → d.tpl = true) : REnv K F' ι' ρ σ := ⟨R.len, fun i d e => by
  obtain ⟨v, h1, h2⟩ := R.at_ i d e
  exact ⟨v, h1, Rep.tpl t d v h2 (h i d e)⟩⟩
theorem o_V (htb : HzC.tb = []) (O : OSim F Hw H) (R : REnv K F [] ρ σ) {m : Rho → M D} {d : D} {st1 : Sto} {Q : V → Hp → Prop} (hm : m ρ [] = .ok d st1) (hd : d.tpl = true) (h : ∀ F1 H1 v, OSim F1 Hw H1 → Sub F F1 → Rep K F1 [] d v → Q v H1) : tV K W m σ H Q :=
  ⟨F, [], ρ, [], O.sim htb, R, by
    rw [hm]
    exact fun F' ι' H' v x S p => h (FT F') H' v (O.next x S).1 (O.next x S).2 (Rep.tpl ft_tps d v p hd)⟩
theorem o_A (htb : HzC.tb = []) (O : OSim F Hw H) (R : REnv K F [] ρ σ) {m : Rho → M (List D)} {ds : List D} {st1 : Sto} {Q : List V → Hp → Prop} (hm : m ρ [] = .ok ds st1) (hd : D.tpls ds = true) (h : ∀ F1 H1 vs, OSim F1 Hw H1 → Sub F F1 → Reps K F1 [] ds vs → Q vs H1) : tA K W m σ H Q :=
  ⟨F, [], ρ, [], O.sim htb, R, by
    rw [hm]
    exact fun F' ι' H' v x S p => h (FT F') H' v (O.next x S).1 (O.next x S).2 (Reps.tpl ft_tps ds v p hd)⟩
theorem o_T (htb : HzC.tb = []) (O : OSim F Hw H) (R : REnv K F [] ρ σ) {m : Rho → M Bool} {b : Bool} {st1 : Sto} {Q : Bool → Hp → Prop} (hm : m ρ [] = .ok b st1) (h : ∀ F1 H1, OSim F1 Hw H1 → Sub F F1 → Q b H1) : tT K W m σ H Q :=
  ⟨F, [], ρ, [], O.sim htb, R, by
    rw [hm]
    intro F' ι' H' v x S p
    have p : b = v := p
    subst p
    exact h (FT F') H' (O.next x S).1 (O.next x S).2⟩
theorem o_G (htb : HzC.tb = []) {js : List Nat} (O : OSim F Hw H) (R : REnv K F [] ρ σ) {gf : D → Rho → M Rho} {d : D} {ρ1 : Rho} {st1 : Sto} {v : V} {Q : L2.St → Hp → Prop} (r : Rep K F [] d v) (hm : gf d ρ [] = .ok ρ1 st1) (hd : ∀ (i : Nat) (d : D), ρ1[i]? = some (some d) → d.tpl = true) (h : ∀ F1 H1 σ1, OSim F1 Hw H1 → Sub F F1 → REnv K F1 [] ρ1 σ1 → Q σ1 H1) : tGt K js gf v σ H Q :=
  ⟨F, [], ρ, [], d, O.sim htb, R, r, by
    rw [hm]
    exact fun F' ι' H' σ1 x S p => h (FT F') H' σ1 (O.next x S).1 (O.next x S).2 (REnv.tpl p.1 ft_tps hd)⟩
theorem OSim.wake (O : OSim F Hw H) {H' : Hp} (h : Tsb (Kn Hw.f Hw.h H) H') : OSim F ⟨H', Kn Hw.f Hw.h H⟩ H' := by
  have i : IsFT (Kn Hw.f Hw.h H) := kn_is O.wf
  exact ⟨fun a o e => i.sub h a o (O.kn a o e), O.ft, fun a o e => kn_up a o (O.kn a o e), Le.refl, i.sub h, i⟩
theorem OSim.turn (O : OSim F Hw H) {f H2 : Hp} (hf : IsFT f) (k : Sub f F) (le : Le H H2) : OSim (jn F (Kn f H H2)) Hw H2 := by
  have keep : ∀ a o, F a = some o → H2 a = some o := fun a o e => by
    obtain ⟨ob, xs, rfl⟩ := O.ft a o e
    exact le.1 a _ (O.sb a _ e) fun ps q => nomatch q
  refine ⟨fun a o e => ?_, fun a o e => ?_, fun a o e => ?_, O.le.trans le, O.fh, O.wf⟩
  · rcases jn_cases e with q | ⟨_, q⟩
    · exact keep a o q
    · rcases kn_cases q with z | ⟨_, _, z⟩
      · exact keep a o (k a o z)
      · exact z
  · rcases jn_cases e with q | ⟨_, q⟩
    · exact O.ft a o q
    · exact kn_is hf a o q
  · rcases jn_cases e with q | ⟨_, q⟩
    · exact kn_more (kn_is O.wf) (O.kn a o q) (keep a o q)
    · rcases kn_cases q with z | ⟨_, z1, z2⟩
      · exact kn_more (kn_is O.wf) (O.kn a o (k a o z)) (keep a o (k a o z))
      · obtain ⟨ob, xs, rfl⟩ := kn_is hf a o q
        have h1 := O.le.2 a z1
        exact kn_new (none_of O.fh h1) h1 z2
end
def rowsL {α : Type} : List α → Nat → List (List α)
  | _, 0 => [[]]
  | [], _ + 1 => []
  | b :: bs, n + 1 => (rowsL bs n).map (b :: ·) ++ rowsL bs (n + 1)
theorem rowsL_zero {α : Type} (bs : List α) : rowsL bs 0 = [[]] := by cases bs <;> rfl
theorem rowsL_len {α : Type} : ∀ (bs : List α) (n : Nat) (r : List α), r ∈ rowsL bs n → r.length = n
  | bs, 0, r, h => by
    rw [rowsL_zero, List.mem_singleton] at h
    rw [h] <;> rfl
  | [], n + 1, r, h => by simp [rowsL] at h
  | b :: bs, n + 1, r, h => by
    unfold rowsL at h
    rcases List.mem_append.mp h with q | q
    · obtain ⟨r', h1, rfl⟩ := List.mem_map.mp q
      rw [List.length_cons, rowsL_len bs n r' h1]
    · exact rowsL_len bs (n + 1) r q
theorem rowsL_mem {α : Type} : ∀ (bs : List α) (n : Nat) (r : List α), r ∈ rowsL bs n → ∀ x ∈ r, x ∈ bs
  | bs, 0, r, h, x, hx => by
    rw [rowsL_zero, List.mem_singleton] at h
    rw [h] at hx; cases hx
  | [], n + 1, r, h, x, hx => by simp [rowsL] at h
  | b :: bs, n + 1, r, h, x, hx => by
    unfold rowsL at h
    rcases List.mem_append.mp h with q | q
    · obtain ⟨r', h1, rfl⟩ := List.mem_map.mp q
      rcases List.mem_cons.mp hx with z | z
      · rw [z]; exact List.mem_cons_self
      · exact List.mem_cons_of_mem _ (rowsL_mem bs n r' h1 x z)
    · exact List.mem_cons_of_mem _ (rowsL_mem bs (n + 1) r q x hx)
def rowsS (M : Nat) : List D → Option (List D)
  | [.tup bs, .int n] => if 0 ≤ n ∧ n < (M : Nat) ∧ bs.length ≤ 1000 ∧ D.tpls bs = true then some ((rowsL bs n.toNat).map .tup) else none
  | _ => none
theorem rowsS_np {M : Nat} {ds xs : List D} (h : rowsS M ds = some xs) : ds.length = 2 := by
  unfold rowsS at h
  split at h
  · rfl
  · cases h
theorem rowsS_at {M : Nat} {bs : List D} {n : Nat} (h1 : n < M) (h2 : bs.length ≤ 1000) (h3 : D.tpls bs = true) : rowsS M [.tup bs, .int (n : Nat)] = some ((rowsL bs n).map .tup) := by
  unfold rowsS
  exact if_pos ⟨by omega, by omega, h2, h3⟩
theorem rowsS_of {M : Nat} {ds xs : List D} (h : rowsS M ds = some xs) : ∃ (bs : List D) (n : Nat), ds = [.tup bs, .int (n : Nat)] ∧ n < M ∧ bs.length ≤ 1000 ∧ D.tpls bs = true ∧ xs = (rowsL bs n).map .tup := by
  unfold rowsS at h
  split at h
  · rename_i bs n
    split at h
    · rename_i q
      obtain ⟨m, rfl⟩ := Int.eq_ofNat_of_zero_le q.1
      cases h
      exact ⟨bs, m, rfl, by omega, q.2.2.1, q.2.2.2, rfl⟩
    · cases h
  · cases h
section
variable {K : PySem.W.Frag} {W : WX}
def tRowsB (K : PySem.W.Frag) (W : WX) (M : Nat) (js2 : List Nat) : TOn D := tOIf (tT K W (isB (mOp pGt (mVar 1) (mLit (.int 0)))))
  (tOThen (tOForG (RpD K) (tCallO (spO K 2 (rowsS M)) [] (tA K W mEnA)) (tGt K js2 (gN 4)) (tOThen (tOYield (RpD K) (tV K W (mTup (mCons (mVar 3) (mStar (mVar 4) mNil))))) tO0)) tO0) tO0
def tRows (K : PySem.W.Frag) (W : WX) (M : Nat) (js js2 : List Nat) : TOn D :=
  tOThen (tOIf (tT K W (isB (mOp pEq (mVar 1) (mLit (.int 0))))) (tOThen (tOYield (RpD K) (tV K W (mTup mNil))) tO0) tO0)
    (tOThen (tOFor (iEnumX K (tCons (tV K W (mVar 0)) tNil)) (tGt K js (gT 2 (gsCons (gN 2) (gsCons (gN 3) gsNil)))) (tOThen (tRowsB K W M js2) tO0)) tO0)
theorem sl_from {α : Type} (xs : List α) (i : Nat) : cutD xs (some ((i : Int) + 1)) none = xs.drop (i + 1) := by
  unfold cutD HT.sIx
  dsimp only
  rw [if_neg (by omega)]
  have e : ((i : Int) + 1).toNat = i + 1 := by omega
  rw [e]
  by_cases h : i + 1 ≤ xs.length
  · rw [Nat.min_eq_left h]
    exact List.take_of_length_le (by rw [List.length_drop]; exact Nat.le_refl _)
  · rw [Nat.min_eq_right (by omega), List.drop_length, List.drop_eq_nil_of_le (by omega), List.take_nil]
theorem tpls_drop {bs : List D} (h : D.tpls bs = true) (i : Nat) : D.tpls (bs.drop i) = true := tpls_all.mpr fun d hd => tpls_all.mp h d (List.mem_of_mem_drop hd)
theorem rows_tpl {bs : List D} {n : Nat} {row : List D} (h : D.tpls bs = true) (hr : row ∈ rowsL bs n) : D.tpls row = true := tpls_all.mpr fun d hd => tpls_all.mp h d (rowsL_mem bs n row hr d hd)
def RhoOk (bs : List D) (n : Nat) (ρ : Rho) : Prop := ∃ a b c, ρ = [some (.tup bs), some (.int (n : Nat)), a, b, c] ∧ ∀ (i : Nat) (d : D), ρ[i]? = some (some d) → d.tpl = true
theorem tRows_ok (htb : HzC.tb = []) {M : Nat} {js js2 : List Nat} {vs : List V} {H f : Hp} {xs : List D} {N : List Str} (hN : N.length = 5) (sp : spO K 2 (rowsS (M + 1)) vs H f xs) {H' : Hp} (hf : Tsb f H') {D' : OEnds D} (hD : ∀ Hw σ H2, Le Hw.h H2 → D'.nx [] Hw σ H2) :
    tRows K W M js js2 D' xs ⟨H', f⟩ (start N vs) H' := by
  obtain ⟨hl, _, hif, ds, rs, hsp⟩ := sp
  obtain ⟨bs, n, rfl, hn, hb, htp, rfl⟩ := rowsS_of hsp
  have O0 : OSim f ⟨H', f⟩ H' := ⟨hif.sub hf, hif, kn_up, Le.refl, hif.sub hf, hif⟩
  have R0 : REnv K f [] (rho0 5 [.tup bs, .int (n : Nat)]) (start N vs) := by
    have := REnv.start (N := N) rs (by rw [hN]; show 2 ≤ 5; omega)
    rw [hN] at this
    exact this
  have tp0 : ∀ (i : Nat) (d : D), (rho0 5 [D.tup bs, .int (n : Nat)])[i]? = some (some d) → d.tpl = true := fun i d e => by
    match i, e with
    | 0, e => cases e; exact htp
    | 1, e => cases e; rfl
    | 2, e => cases e
    | 3, e => cases e
    | 4, e => cases e
    | i + 5, e => cases e
  -- the loop over the items
  have loop : ∀ (Hw : Wkn) (σ : L2.St) (H : Hp) (F : Hp) (ρ : Rho), OSim F Hw H → REnv K F [] ρ σ → RhoOk bs n ρ →
      tOThen (tOFor (iEnumX K (tCons (tV K W (mVar 0)) tNil)) (tGt K js (gT 2 (gsCons (gN 2) (gsCons (gN 3) gsNil)))) (tOThen (tRowsB K W M js2) tO0)) tO0 D' (if n = 0 then [] else (rowsL bs n).map .tup) Hw σ H := by
    rintro Hw σ H F ρ O R ⟨r2, r3, r4, rfl, tp⟩
    refine o_V htb O R (d := .tup bs) (st1 := []) rfl htp fun F1 H1 v O1 x1 rv => ?_
    simp only [Rep] at rv
    obtain ⟨a, ws, rfl, hq, rws⟩ := rv
    have sq : ∀ {F2 H2 : Hp} {Hw2 : Wkn}, OSim F2 Hw2 H2 → Sub F1 F2 → SqX K H2 .t a ws := fun {F2 H2 Hw2} O2 x2 => ((hq.mono x2).mono O2.sb).sqT
    refine ⟨a, .t, ws, rfl, sq O1 (fun _ _ h => h), fun i m ys Hw2 σ2 H2 => m = bs.length - i ∧ i ≤ bs.length ∧ ys = (if n = 0 then [] else (rowsL (bs.drop i) n).map D.tup) ∧ ∃ F2 ρ2, OSim F2 Hw2 H2 ∧ Sub F1 F2 ∧ REnv K F2 [] ρ2 σ2 ∧ RhoOk bs n ρ2,
      ⟨bs.length, by omega, Nat.zero_le _, rfl, F1, _, O1, (fun _ _ h => h), R.sub x1, r2, r3, r4, rfl, tp⟩, ?_⟩
    rintro i m ys Hw2 σ2 H2 ⟨rfl, hi, rfl, F2, ρ2, O2, x2, R2, q2, q3, q4, rfl, tp2⟩
    by_cases hlt : i < bs.length
    · right
      have hib : bs[i]? = some bs[i] := by simp [hlt]
      obtain ⟨w, hw, rw_⟩ := rws.get hib
      have tpb : bs[i].tpl = true := tpls_all.mp htp _ (List.getElem_mem hlt)
      refine ⟨⟨ws, w, sq O2 x2, hw⟩, fun ys' Hw' σ' H' => ys' = (if n = 0 then [] else (rowsL (bs.drop (i + 1)) n).map D.tup) ∧ ∃ F' ρ', OSim F' Hw' H' ∧ Sub F1 F' ∧ REnv K F' [] ρ' σ' ∧ RhoOk bs n ρ', fun ys' Hw' σ' H' ⟨e1, F', ρ', h1, h2, h3, h4⟩ => ⟨bs.length - (i + 1), by omega, rfl, by omega, e1, F', ρ', h1, h2, h3, h4⟩, fun x H3 y => ?_⟩
      obtain ⟨T, u, o, rfl, hT, ho, rfl, hu⟩ := y
      have e0 : w = u := Option.some.inj (hw.symm.trans (hu ws (sq O2 x2)))
      subst e0
      -- the new pair
      have S2 := O2.sim (K := K) htb
      obtain ⟨F3, x3, S3, r3'⟩ := new_pair (d1 := .int (i : Nat)) (v1 := .int (i : Nat)) S2 hT ho (by simp only [Rep]) (Rep.mono x2 (fun _ _ h => h) _ _ rw_)
      obtain ⟨O3, y3⟩ := O2.next x3 S3
      have r3 : Rep K (FT F3) [] (.tup [.int (i : Nat), bs[i]]) (.ref T) := Rep.tpl ft_tps _ _ r3' (by simp only [D.tpl, D.tpls, tpb, Bool.and_self])
      refine o_G htb (ρ1 := [some (.tup bs), some (.int (n : Nat)), some (.int (i : Nat)), some bs[i], q4]) (st1 := []) O3 (R2.sub y3) r3 rfl (fun j d e => ?_) fun F4 H4 σ4 O4 x4 R4 => ?_
      · match j, e with
        | 0, e => cases e; exact htp
        | 1, e => cases e; rfl
        | 2, e => cases e; rfl
        | 3, e => cases e; exact tpb
        | 4, e => exact tp2 4 d e
        | j + 5, e => cases e
      have tp4 : ∀ (j : Nat) (d : D), ([some (.tup bs), some (.int (n : Nat)), some (.int (i : Nat)), some bs[i], q4] : Rho)[j]? = some (some d) → d.tpl = true := fun j d e => by
        match j, e with
        | 0, e => cases e; exact htp
        | 1, e => cases e; rfl
        | 2, e => cases e; rfl
        | 3, e => cases e; exact tpb
        | 4, e => exact tp2 4 d e
        | j + 5, e => cases e
      have x14 : Sub F1 F4 := fun a o h => x4 _ _ (y3 _ _ (x2 _ _ h))
      refine o_T htb (b := decide (0 < (n : Int))) (st1 := []) O4 R4 rfl fun F5 H5 O5 x5 => ?_
      by_cases hn0 : n = 0
      · subst hn0
        rw [if_neg (by decide)]
        rw [if_pos rfl]
        exact ⟨rfl, F5, _, O5, fun a o h => x5 _ _ (x14 _ _ h), R4.sub x5, _, _, _, rfl, tp4⟩
      obtain ⟨k, rfl⟩ : ∃ k, n = k + 1 := ⟨n - 1, by omega⟩
      rw [if_pos (by simp)]
      have ek : (((k + 1 : Nat) : Int) - 1) = ((k : Nat) : Int) := by omega
      refine o_A htb (ds := [.tup (bs.drop (i + 1)), .int (k : Nat)]) (st1 := []) O5 (R4.sub x5) ?_ ?_ fun F6 H6 vs6 O6 x6 r6 => ?_
      · show ((Out.ok (D.tup (cutD bs (some ((i : Int) + 1)) none)) [] : Out D).bind fun d st1 => (Out.ok [D.int (((k + 1 : Nat) : Int) - 1)] st1 : Out (List D)).bind fun ds st2 => .ok (d :: ds) st2) = _
        rw [sl_from, ek] <;> rfl
      · simp only [D.tpls, D.tpl, tpls_drop htp (i + 1), Bool.and_self]
      refine ⟨(rowsL (bs.drop (i + 1)) k).map .tup, F6, ⟨by rw [List.append_nil, ← r6.length] <;> rfl, O6.sb.sb, O6.ft, _, by rw [List.append_nil]; exact r6, rowsS_at (by omega) (by rw [List.length_drop]; omega) (tpls_drop htp _)⟩, ?_⟩
      have x16 : Sub F1 F6 := fun a o h => x6 _ _ (x5 _ _ (x14 _ _ h))
      have eys : (rowsL (bs.drop i) (k + 1)).map D.tup = ((rowsL (bs.drop (i + 1)) k).map (fun r => D.tup (bs[i] :: r))) ++ (rowsL (bs.drop (i + 1)) (k + 1)).map D.tup := by
        rw [List.drop_eq_getElem_cons hlt]
        show ((rowsL _ _).map _ ++ _).map _ = _
        rw [List.map_append, List.map_map] <;> rfl
      rw [if_neg hn0, if_neg hn0, eys]
      refine ⟨fun zs fi ys Hw' σ' H' => ∃ rows, zs = rows.map D.tup ∧ (∀ r ∈ rows, r ∈ rowsL (bs.drop (i + 1)) k) ∧ ys = rows.map (fun r => D.tup (bs[i] :: r)) ++ (rowsL (bs.drop (i + 1)) (k + 1)).map D.tup ∧ ∃ F' c, OSim F' Hw' H' ∧ Sub F1 F' ∧ IsFT fi ∧ Sub fi F' ∧
          REnv K F' [] [some (.tup bs), some (.int ((k + 1 : Nat) : Int)), some (.int (i : Nat)), some bs[i], c] σ' ∧ ∀ d, c = some d → d.tpl = true,
        ⟨_, rfl, fun _ h => h, rfl, F6, q4, O6, x16, O6.ft, (fun _ _ h => h), (R4.sub x5).sub x6, fun d e => tp2 4 d (by rw [e] <;> rfl)⟩, ?_⟩
      rintro zs fi ys Hw7 σ7 H7 ⟨rows, rfl, hrows, rfl, F7, c, O7, x17, hfi, xfi, R7, tc⟩ H8 le
      have O8 := O7.turn hfi xfi le
      have tp7 : ∀ (c : Option D), (∀ d, c = some d → d.tpl = true) → ∀ (j : Nat) (d : D), ([some (.tup bs), some (.int ((k + 1 : Nat) : Int)), some (.int (i : Nat)), some bs[i], c] : Rho)[j]? = some (some d) → d.tpl = true := fun c hc j d e => by
        match j, e with
        | 0, e => cases e; exact htp
        | 1, e => cases e; rfl
        | 2, e => cases e; rfl
        | 3, e => cases e; exact tpb
        | 4, e => exact hc d (Option.some.inj e)
        | j + 5, e => cases e
      constructor
      · intro e
        have e1 : rows = [] := List.map_eq_nil_iff.mp e
        subst e1
        exact ⟨rfl, _, _, O8, fun a o h => jn_up _ _ (x17 _ _ h), R7.sub jn_up, _, _, _, rfl, tp7 c tc⟩
      · intro x zs' e u ru
        cases rows with
        | nil => cases e
        | cons row rows =>
          obtain ⟨rfl, rfl⟩ := List.cons.inj e
          have k2 := jn_kn (H' := H8) O7.sb xfi
          have hrow := hrows row List.mem_cons_self
          have tr := rows_tpl (tpls_drop htp _) hrow
          refine o_G htb (ρ1 := [some (.tup bs), some (.int ((k + 1 : Nat) : Int)), some (.int (i : Nat)), some bs[i], some (.tup row)]) (st1 := []) O8 (R7.sub jn_up) (Rep.mono k2 (fun _ _ h => h) _ _ ru) rfl (tp7 _ fun d e => by cases e; exact tr) fun F9 H9 σ9 O9 x9 R9 => ?_
          refine ⟨.tup (bs[i] :: row), _, rfl, o_V htb (d := .tup (bs[i] :: row)) (st1 := []) O9 R9 ?_ (by simp only [D.tpl, D.tpls, tpb, tr, Bool.and_self]) fun Fa Ha v Oa xa ra => ⟨Rep.mono Oa.kn (fun _ _ h => h) _ _ ra, Oa.le, fun H' hs => ?_⟩⟩
          · show (if (bs[i] :: (row ++ [])).length ≤ SZ then (Out.ok (D.tup (bs[i] :: (row ++ []))) [] : Out D) else .bad) = _
            rw [List.append_nil, if_pos]
            have := rowsL_len _ _ _ hrow
            rw [List.length_cons, this]
            show k + 1 ≤ 100000
            have hm : ∀ (m : Nat) (cs : List D) (r : List D), r ∈ rowsL cs m → m ≤ cs.length := by
              intro m cs
              induction cs generalizing m with
              | nil =>
                intro r h
                cases m with
                | zero => exact Nat.zero_le _
                | succ m => simp [rowsL] at h
              | cons c cs ih =>
                intro r h
                cases m with
                | zero => exact Nat.zero_le _
                | succ m =>
                  unfold rowsL at h
                  rcases List.mem_append.mp h with q | q
                  · obtain ⟨r', h1, _⟩ := List.mem_map.mp q
                    have := ih m r' h1
                    rw [List.length_cons]; omega
                  · have := ih (m + 1) r q
                    rw [List.length_cons]; omega
            have := hm _ _ _ hrow
            rw [List.length_drop] at this
            omega
          · have Ow := Oa.wake hs
            have xx : Sub F7 Fa := fun a o h => xa _ _ (x9 _ _ (jn_up _ _ h))
            have xk : Sub (Kn fi H7 H8) Fa := fun a o h => xa _ _ (x9 _ _ (k2 _ _ h))
            refine ⟨fun a ob xs h => ?_, rows, rfl, fun r hr => hrows r (List.mem_cons_of_mem _ hr), rfl, Fa, some (.tup row), Ow, fun a o h => xx _ _ (x17 _ _ h), kn_is hfi, xk, R9.sub xa, fun d e => by cases e; exact tr⟩
            exact Ow.sb _ _ (xk _ _ h)
    · left
      have e0 : i = bs.length := by omega
      subst e0
      refine ⟨⟨ws, sq O2 x2, by rw [← rws.length]⟩, ?_⟩
      rw [List.drop_length]
      have e1 : (if n = 0 then [] else (rowsL ([] : List D) n).map D.tup) = [] := by
        cases n with
        | zero => rfl
        | succ n => rfl
      rw [e1]
      exact hD Hw2 σ2 H2 O2.le
  -- the first statement
  refine o_T htb (b := decide ((n : Int) = 0)) (st1 := []) O0 R0 rfl fun F1 H1 O1 x1 => ?_
  by_cases hn0 : n = 0
  · subst hn0
    rw [if_pos (by decide), rowsL_zero]
    refine ⟨.tup [], [], rfl, o_V htb (d := .tup []) (st1 := []) O1 (R0.sub x1) rfl rfl fun F2 H2 v O2 x2 r2 => ⟨Rep.mono O2.kn (fun _ _ h => h) _ _ r2, O2.le, fun H' hs => ?_⟩⟩
    have := loop _ (start N vs) H' F2 _ (O2.wake hs) ((R0.sub x1).sub x2) ⟨none, none, none, rfl, tp0⟩
    rw [if_pos rfl] at this
    exact this
  · rw [if_neg (by simp; omega)]
    have := loop ⟨H', f⟩ (start N vs) H1 F1 _ O1 (R0.sub x1) ⟨none, none, none, rfl, tp0⟩
    rw [if_neg hn0] at this
    exact this
end
theorem bd_reb {P : Program} {w : World} {K : PySem.W.Frag} {mg : Str → Option Value} {base : Heap} {N ps : List Str} {qual : Str} {scope : Scope} {f : Addr} {cdv : Value} {A : Around} {outer : List Env} {s : Shared} {H : Hp} {pn : List (Addr × Obj)} {s0 : Shared} {H0 : Hp}
    (S : GScope N ps scope) (r : Room 5 (A.deeper (envOfC qual scope s.heap.objs.size f cdv))) : Bd ((gcxOf P w K mg base N qual scope f cdv A outer s H noX pn).reb s0 H0) (wE noX) 5 :=
  ⟨r, fun h => absurd h (by omega), rfl, S.nd, ⟨fun u s' ⟨a, B, sI, pins, σ, H, cls, d, e, I, nb, up, sky, _, _, _, r⟩ => False.elim r, fun h => absurd h (by omega)⟩⟩
theorem rows_go {P : Program} {w : World} {K : PySem.W.Frag} {mg : Str → Option Value} {base : Heap} (htb : HzC.tb = []) {stm : Stmt} {f : Addr} {fd : FuncData} {N : List Str} {x qual : Str}
    {c0 e0 tg1 c1 tg2 it1 a2 e1 : Expr} {as2 : List Expr} {yp0 p0 q0 pn2 pc yp1 p1 q2 q1 q3 : Pos} {js js2 : List Nat}
    (Fn : Fun K x qual stm f fd) (SC : GScope N ["buttons", "size"] (defScope stm)) (hN : N.length = 5)
    (hm : mg x = some (.ref f)) (hk : PySem.W.keepIn K (.ref f) = true) (hb : Binds K fd ["buttons", "size"] [])
    (hbody : defBody stm = [.If c0 [.Expr (.Yield (some e0) yp0) p0] [] q0, .For tg1 it1 [.If c1 [.For tg2 (.Call (.Name x pn2) (a2 :: as2) [] pc) [.Expr (.Yield (some e1) yp1) p1] [] q2] [] q1] [] q3])
    (hcl : ∀ n, cellsFrom n (defScope stm).names [] = []) (hco : (defScope stm).isCoroutine = false) (hdb : (x == ("__debug__" : Str)) = false)
    (hlo : ∀ it v, letOwnedTupleGo tg2 it v = pure ())
    (hx : ∀ (cdv : Value) (n : Nat), interactive (envOfC qual (defScope stm) n f cdv) = false ∧ (envOfC qual (defScope stm) n f cdv).kindOf x = some NameKind.globalImplicit ∧
      (∀ x, foldedSetIterable it1 (envOfC qual (defScope stm) n f cdv) x = pure x) ∧ (∀ y, foldedSetIterable (.Call (.Name x pn2) (a2 :: as2) [] pc) (envOfC qual (defScope stm) n f cdv) y = pure y) ∧
      starEach (a2 :: as2) (envOfC qual (defScope stm) n f cdv) = (false, eval a2 (envOfC qual (defScope stm) n f cdv)) :: starEach as2 (envOfC qual (defScope stm) n f cdv) ∧ (backTo pc (starEach as2 (envOfC qual (defScope stm) n f cdv))).any (·.1) = false)
    (hp : ∀ (cdv : Value) (A : Around) (outer : List Env) (s : Shared) (H : Hp) (pn : List (Addr × Obj)) (s0 : Shared) (H0 : Hp), Bd ((gcxOf P w K mg base N qual (defScope stm) f cdv A outer s H noX pn).reb s0 H0) (wE noX) 5 →
      RowsP ((gcxOf P w K mg base N qual (defScope stm) f cdv A outer s H noX pn).reb s0 H0) c0 e0 tg1 it1 c1 tg2 (a2 :: as2) e1 js js2) :
    ∀ M, GFo (RpD K) P w K mg base (5 + 2 * M) f fd ["buttons", "size"] (spO K 2 (rowsS M))
  | 0 => by
    have no : ∀ {vs : List V} {H f : Hp} {xs : List D}, spO K 2 (rowsS 0) vs H f xs → False := fun {vs H f xs} ⟨_, _, _, ds, _, h⟩ => by
      obtain ⟨bs, n, _, hn, _⟩ := rowsS_of h
      exact absurd hn (Nat.not_lt_zero n)
    exact ⟨fun _ _ _ _ h => (no h).elim, fun _ _ _ _ h => (no h).elim, fun A outer s H args us vs f xs _ _ _ _ h => (no h).elim⟩
  | M + 1 => by
    have ih := rows_go (P := P) (w := w) (base := base) htb Fn SC hN hm hk hb hbody hcl hco hdb hlo hx hp M
    obtain ⟨oc, od, kV, doc, pm, an, cdv, ct, osl, rfl, lk, hcd⟩ := Fn.ex
    refine gfo_of (k := 5 + 2 * M + 1) lk hcd SC hcl (fun vs H f xs h => h.1) (fun vs H f xs h => h.2.1) fun A outer s H vs f' xs pn hr hsp => ?_
    have r5 : Room 5 (A.deeper (envOfC qual (defScope stm) s.heap.objs.size f cdv)) := hr.mono (by omega)
    have pc' := fun s0 H0 => hp cdv A outer s H pn s0 H0 (bd_reb SC r5)
    obtain ⟨hx1, hx2, hx3, hx4, hx5, hx6⟩ := hx cdv s.heap.objs.size
    refine ⟨tRows K (wE noX) M js js2, ?_, fun H' hs => tRows_ok htb hN hsp hs fun Hw σ H2 le => ⟨rfl, le⟩⟩
    rw [hbody]
    refine os_cons (os_if genX_gcx (fun s0 H0 => (pc' s0 H0).c0) (os_cons (os_yield genX_gcx (fun s0 H0 => (pc' s0 H0).e0) hco hx1) os_nil) os_nil)
      (os_cons (os_for owns_gcx genX_gcx rfl (fun s0 H0 => (pc' s0 H0).it1) (fun s0 H0 => (pc' s0 H0).tg1)
        (os_cons (os_if genX_gcx (fun s0 H0 => (pc' s0 H0).c1) (os_cons (os_forgen (k0 := 5 + 2 * M) owns_gcx genX_gcx hr
          (fun s0 H0 => pgo_call (dvs := []) (ds := []) ih (hr.mono (by omega)) hx2 hm hk hb .nil (pc' s0 H0).ca hdb hx5 hx6) (fun s0 H0 => (pc' s0 H0).tg2)
          (os_cons (os_yield genX_gcx (fun s0 H0 => (pc' s0 H0).e1) hco hx1) os_nil) hx4 hlo) os_nil) os_nil) os_nil) hx3) os_nil)
def d_rows_of : List D → Option (List D) := rowsS 12
end Dn
namespace Dn
open PySem PySem.Spec PyProof.Rows L2
section
variable {S : Type} {W : Wd S} {fr : Sto} {Γ : List Sl} {β : Type}
theorem src_go {spec : List D → Option (List D)} {am : Rho → M (List D)} {q : Mt S (List β)} {enc : β → D} {Γ' : List β → List Sl} (h : AC W fr Γ am (goM spec) q (fun bs : List β => bs.map enc) Γ') : HT W fr Γ (lGo spec am) (calmly q) (eSrc enc) Γ' := fun s ρ st H => by
  have h := h s ρ st H
  unfold lGo
  revert h
  show OR W fr Γ' ρ (fun bs : List β => bs.map enc) ((am ρ st).bind (goM spec)) (q s) → OR W fr Γ' ρ (eSrc enc) ((am ρ st).bind fun ds st1 => (goM spec ds st1).bind fun xs st2 => .ok (⟨xs, []⟩ : Src) st2) (rcalm (q s))
  generalize q s = r
  intro h
  induction r with
  | ok b s' =>
    obtain ⟨st', e, H2⟩ := h
    refine ⟨st', ?_, H2⟩
    cases e1 : am ρ st with
    | ok ds st1 =>
      rw [e1] at e
      have e : goM spec ds st1 = .ok (b.map enc) st' := e
      show (goM spec ds st1).bind _ = _
      rw [e] <;> rfl
    | exc x st1 => rw [e1] at e; cases e
    | bad => rw [e1] at e; cases e
  | exc x s' => trivial
  | bad => trivial
  | amb P_ f_ ih_ =>
    obtain ⟨n_, p_, h_⟩ := h
    exact ⟨n_, p_, ih_ n_ h_⟩
theorem rowsL_map {α γ : Type} (f : α → γ) : ∀ (bs : List α) (n : Nat), rowsL (bs.map f) n = (rowsL bs n).map (List.map f)
  | bs, 0 => by rw [rowsL_zero, rowsL_zero] <;> rfl
  | [], n + 1 => rfl
  | b :: bs, n + 1 => by
    show (rowsL (bs.map f) n).map _ ++ rowsL (bs.map f) (n + 1) = ((rowsL bs n).map _ ++ rowsL bs (n + 1)).map _
    rw [rowsL_map f bs n, rowsL_map f bs (n + 1), List.map_append, List.map_map, List.map_map] <;> rfl
theorem tpls_ints (bs : List Int) : D.tpls (bs.map D.int) = true := tpls_all.mpr fun d hd => by
  obtain ⟨i, _, rfl⟩ := List.mem_map.mp hd
  rfl
def p_rows_of {S : Type} (bs : List Int) (n : Int) : Mt S (List (List Int)) := if 0 ≤ n ∧ n < 12 ∧ bs.length ≤ 1000 then mpure (rowsL bs n.toNat) else mbad
theorem fn_rows_of {S : Type} {W : Wd S} (bs : List Int) (n : Int) : FGn W (goM d_rows_of) [eT eI bs, eI n] (p_rows_of bs n) (eT eI) := fun st s hs => by
  unfold p_rows_of
  split
  · rename_i h
    obtain ⟨k, rfl⟩ := Int.eq_ofNat_of_zero_le h.1
    refine ⟨st, ?_, Pre.refl hs⟩
    unfold goM d_rows_of
    have e : rowsS 12 [eT eI bs, eI (k : Int)] = some ((rowsL (bs.map eI) k).map .tup) := rowsS_at (by omega) (by rw [List.length_map]; exact h.2.2) (tpls_ints bs)
    rw [e]
    dsimp only
    rw [if_pos (by show (D.tpls (bs.map D.int) && (D.tpl (D.int (k : Int)) && true)) = true; rw [tpls_ints] <;> rfl), rowsL_map, List.map_map] <;> rfl
  · trivial
end
end Dn
namespace L2
open PySem PySem.Spec PyProof.Rows GenW
section
variable {X : Cx} {op : CmpOp} {r : R2} {a b : Expr} {ta tb : TE} {ops : List CmpOp} {es : List Expr} {t : TCh} {pos : Pos}
def tChOne (r : R2) (tb : TE) : TCh := fun x σ H Q => tb σ H fun y H1 => r x y H1 Q
def tChCons (r : R2) (tb : TE) (t : TCh) : TCh := fun x σ H Q => tb σ H fun y H1 => r x y H1 fun z H2 => ∃ k, z = V.bl k ∧ if k = true then t y σ H2 Q else Q (V.bl false) H2
theorem pch_one (ho : OpR X (compareOp op) r) (hb : PE X b tb) : PCh X [op] [b] (tChOne r tb) := by
  refine ⟨fun pos pins s σ H x v Q I rx h => ?_⟩
  show wpAny _ _ (compareChain pos v [op] [eval b X.env]) _ _ _
  rw [compareChain.eq_1]
  refine wpAny_bind (wpAny_holding (wpAny_mono (hb.run pins s σ H _ I h) (fun u s1 ⟨y, H1, I1, ry, q⟩ => ?_) fun _ _ e => e))
  refine wpAny_bind (wpAny_standAt ?_)
  unfold operate
  refine wpAny_bind (wpAny_holding (wpAny_mono (ho pins s1 σ H1 x y v u Q I1 rx ry q) (fun c s2 q2 => ?_) fun _ _ e => e))
  exact wpAny_bind (wpAny_release (wpAny_pure q2))
theorem pch_cons {op' : CmpOp} {b' : Expr} (ho : OpR X (compareOp op) r) (hb : PE X b tb) (hc : PCh X (op' :: ops) (b' :: es) t) : PCh X (op :: op' :: ops) (b :: b' :: es) (tChCons r tb t) := by
  refine ⟨fun pos pins s σ H x v Q I rx h => ?_⟩
  show wpAny _ _ (compareChain pos v (op :: op' :: ops) (eval b X.env :: eval b' X.env :: evalEach es X.env)) _ _ _
  rw [compareChain.eq_2 pos v op (op' :: ops) (eval b X.env) (eval b' X.env :: evalEach es X.env) (fun h _ => by cases h)]
  refine wpAny_bind (wpAny_holding (wpAny_mono (hb.run pins s σ H _ I h) (fun u s1 ⟨y, H1, I1, ry, q⟩ => ?_) fun _ _ e => e))
  refine wpAny_bind (wpAny_standAt ?_)
  refine wpAny_bind (wpAny_holding (wpAny_mono (ho pins s1 σ H1 x y v u _ I1 rx ry q) (fun c s2 ⟨z, H2, I2, rz, k, ez, q2⟩ => ?_) fun _ _ e => e))
  subst ez
  cases rz
  refine wpAny_bind (wpAny_release ?_)
  refine wpAny_bind (wpAny_holding (wpAny_truthy_bool ?_))
  cases k with
  | true =>
    exact hc.run pos pins s2 σ H2 y u Q I2 ry q2
  | false => exact wpAny_pure ⟨.bl false, H2, I2, rfl, q2⟩
def tChn (ta : TE) (t : TCh) : TE := fun σ H Q => ta σ H fun x H1 => t x σ H1 Q
theorem pe_chn {op1 op2 : CmpOp} {b1 b2 : Expr} (ha : PE X a ta) (hc : PCh X (op1 :: op2 :: ops) (b1 :: b2 :: es) t) (hm : lastMarks (op1 :: op2 :: ops) (b1 :: b2 :: es) = false) : PE X (.Compare a (op1 :: op2 :: ops) (b1 :: b2 :: es) pos) (tChn ta t) := by
  refine ⟨fun pins s σ H Q I h => ?_⟩
  refine Compare_chain (wpAny_mono (ha.run pins s σ H _ I h) (fun v s1 ⟨x, H1, I1, rx, q⟩ => ?_) fun _ _ e => e) hm
  exact hc.run pos pins s1 σ H1 x v Q I1 rx q
end
end L2
namespace Dn
open PySem PySem.Spec PyProof.Rows L2
variable [HzC]
def chOne (p : Sto → D → D → Option D) (m : Rho → M D) : D → Rho → M D := fun a ρ st => (m ρ st).bind fun b st1 => lift (p st1 a b) st1
def chCons (p : Sto → D → D → Option D) (m : Rho → M D) (k : D → Rho → M D) : D → Rho → M D := fun a ρ st => (m ρ st).bind fun b st1 => match p st1 a b with
  | some (.bl true) => k b ρ st1
  | some (.bl false) => .ok (.bl false) st1
  | _ => .bad
def mChn (m : Rho → M D) (k : D → Rho → M D) : Rho → M D := fun ρ st => (m ρ st).bind fun a st1 => k a ρ st1
def tCh (K : PySem.W.Frag) (W : WX) (k : D → Rho → M D) : TCh := fun x σ H Q => ∃ F ι ρ st d, Sim K F ι st H ∧ REnv K F ι ρ σ ∧ Rep K F ι d x ∧ post K W σ F ι H (pV K) (k d ρ st) Q
def DCh (X : Cx) (W : WX) (ops : List CmpOp) (es : List Expr) (k : D → Rho → M D) : Prop := PCh X ops es (tCh X.K W k)
section
variable {X : Cx} {W : WX} {op : CmpOp} {a b : Expr} {ops : List CmpOp} {es : List Expr} {p : Sto → D → D → Option D} {m : Rho → M D} {k : D → Rho → M D} {pos : Pos}
theorem dch_one (ho : OpR X (compareOp op) (rP X.K p)) (hb : DE X W b m) : DCh X W [op] [b] (chOne p m) := by
  refine PCh.weak (pch_one ho hb) fun x σ H Q ⟨F, ι, ρ, st, d, S, R, r, q⟩ => ?_
  refine tG_seq back_V S R q fun d2 st2 F2 ι2 H2 v2 x2 S2 R2 r2 q2 => ?_
  cases e' : p st2 d d2 with
  | none => rw [e'] at q2; exact q2.elim
  | some d3 =>
    rw [e'] at q2
    exact ⟨F2, ι2, st2, d, d2, d3, S2, Rep.ext r x2, r2, e', fun F' H' v x S' r => q2 F' ι2 H' v x S' r⟩
theorem dch_cons {op' : CmpOp} {b' : Expr} (ho : OpR X (compareOp op) (rP X.K p)) (hb : DE X W b m) (hc : DCh X W (op' :: ops) (b' :: es) k) : DCh X W (op :: op' :: ops) (b :: b' :: es) (chCons p m k) := by
  refine PCh.weak (pch_cons ho hb hc) fun x σ H Q ⟨F, ι, ρ, st, d, S, R, r, q⟩ => ?_
  refine tG_seq back_V S R q fun d2 st2 F2 ι2 H2 v2 x2 S2 R2 r2 q2 => ?_
  split at q2
  · rename_i e
    refine ⟨F2, ι2, st2, d, d2, .bl true, S2, Rep.ext r x2, r2, e, fun F3 H3 v x3 S3 r3 => ?_⟩
    simp only [Rep] at r3
    refine ⟨true, r3, ?_⟩
    rw [if_pos rfl]
    exact ⟨F3, ι2, ρ, st2, d2, S3, R2.ext x3, Rep.ext r2 x3, post_ext back_V q2 x3⟩
  · rename_i e
    refine ⟨F2, ι2, st2, d, d2, .bl false, S2, Rep.ext r x2, r2, e, fun F3 H3 v x3 S3 r3 => ?_⟩
    simp only [Rep] at r3
    refine ⟨false, r3, ?_⟩
    rw [if_neg (by decide)]
    exact q2 F3 ι2 H3 _ x3 S3 (by show Rep _ _ _ _ _; simp only [Rep])
  · exact q2.elim
theorem de_chn {op1 op2 : CmpOp} {b1 b2 : Expr} (ha : DE X W a m) (hc : DCh X W (op1 :: op2 :: ops) (b1 :: b2 :: es) k) (hm : lastMarks (op1 :: op2 :: ops) (b1 :: b2 :: es) = false := by with_unfolding_all rfl) : DE X W (.Compare a (op1 :: op2 :: ops) (b1 :: b2 :: es) pos) (mChn m k) := by
  refine PE.weak (pe_chn ha hc hm) fun σ H Q ⟨F, ι, ρ, st, S, R, q⟩ => ?_
  refine tG_seq back_V S R q fun d1 st1 F1 ι1 H1 v1 x1 S1 R1 r1 q1 => ?_
  exact ⟨F1, ι1, ρ, st1, d1, S1, R1, r1, q1⟩
end
section
variable {S : Type} {W : Wd S} {fr : Sto} {Γ : List Sl}
def HVC (W : Wd S) (fr : Sto) (Γ : List Sl) (k : D → Rho → M D) (d : D) (b : Bool) : Prop := ∀ s ρ st, Has W fr s Γ ρ st → k d ρ st = .ok (.bl b) st
theorem hvc_one {p : Sto → D → D → Option D} {m : Rho → M D} {d1 d2 : D} {b : Bool} (h : HV W fr Γ m d2) (hp : ∀ st, p st d1 d2 = some (.bl b)) : HVC W fr Γ (chOne p m) d1 b := fun s ρ st H => by
  unfold chOne
  rw [h s ρ st H, Out.bind_ok, hp st] <;> rfl
theorem hvc_cons {p : Sto → D → D → Option D} {m : Rho → M D} {k : D → Rho → M D} {d1 d2 : D} {b b' : Bool} (h : HV W fr Γ m d2) (hp : ∀ st, p st d1 d2 = some (.bl b)) (hk : HVC W fr Γ k d2 b') : HVC W fr Γ (chCons p m k) d1 (b && b') := fun s ρ st H => by
  unfold chCons
  rw [h s ρ st H, Out.bind_ok, hp st]
  cases b
  · rfl
  · exact hk s ρ st H
theorem hv_chn {m : Rho → M D} {k : D → Rho → M D} {d : D} {b : Bool} (h : HV W fr Γ m d) (hk : HVC W fr Γ k d b) : HV W fr Γ (mChn m k) (.bl b) := fun s ρ st H => by
  unfold mChn
  rw [h s ρ st H, Out.bind_ok]
  exact hk s ρ st H
end
section
variable {S : Type} {W : Wd S} {fr : Sto} {Γ : List Sl} {α γ : Type} {e : α → D} {xs : List α} {i : Nat}
theorem ht_appendZ {m : Rho → M D} {q : Mt S γ} {f : γ → α} {Γ' : γ → List Sl} (hi : Γ[i]? = some (.mut (.lst (xs.map e)))) (h : HT W fr Γ m q (fun z => e (f z)) Γ') (hj : ∀ z, (Γ' z)[i]? = some (.mut (.lst (xs.map e)))) :
    HT W fr Γ (mMeth "list" pAppend (mVar i) (mCons m mNil)) (mbind q fun z => mbind (mapp xs (f z)) fun w => mpure (w, z)) (fun _ => .non) fun w => (Γ' w.2).set i (.mut (.lst (w.1.map e))) := fun s ρ st H => by
  obtain ⟨l, q1, q2, q3⟩ := H.mt i _ hi
  have h1 := h s ρ st H
  show OR W fr _ ρ _ _ (rbind (q s) _)
  revert h1
  induction (q s) with
  | ok x s1 =>
    rintro ⟨st1, e1, H1⟩
    rw [mMeth_one q1 q3 e1]
    obtain ⟨l', p1, p2, p3⟩ := H1.mt i _ (hj x)
    rw [q1] at p1
    injection p1 with p1
    injection p1 with p1
    injection p1 with p1
    subst p1
    show OR W fr _ ρ _ _ (mbind (mapp xs (f x)) (fun w => mpure (w, x)) s1)
    unfold mapp
    by_cases hl : xs.length < 100000
    · rw [if_pos hl]
      refine ⟨st1.set l (.lst ((xs ++ [f x]).map e)), ?_, H1.write _ (hj x) q1⟩
      unfold pAppend
      rw [onL_ref p3]
      dsimp only
      rw [List.length_map, if_pos (show xs.length < SZ from hl)]
      simp
    · rw [if_neg hl]; trivial
  | exc x s1 =>
    rintro ⟨st1, e1, H1⟩
    refine ⟨st1, ?_, H1⟩
    have e1' : mVar i ρ st = .ok (.ref l) st := by unfold mVar; rw [q1]
    unfold mMeth
    rw [e1', Out.bind_ok, if_pos (isTy_ref q3)]
    unfold mCons
    rw [e1] <;> rfl
  | bad => intro _; trivial
  | amb P_ f_ ih_ =>
    rintro ⟨n_, p_, h_⟩
    exact ⟨n_, p_, ih_ n_ h_⟩
end
end Dn

namespace Lw
open PySem PySem.Spec PyProof.Rows L2 Dn
abbrev N_changed_word : List Str := ["panel", "pressed", "button", "word"]
abbrev N_effect_after : List Str := ["panel", "effect", "pressed", "button", "word"]
abbrev N_effect_of : List Str := ["panel", "row", "effect", "button"]
abbrev N_is_reset : List Str := ["panel", "row"]
abbrev N_rows_of : List Str := ["buttons", "size", "index", "button", "row"]
abbrev N_shortest_reset : List Str := ["panel", "buttons", "size", "row"]
abbrev N_beside : List Str := ["panels", "panel", "found", "before", "button", "released"]
abbrev N__law_deck : List Str := ["_law_script", "_law_cell"]
abbrev N__law_draw : List Str := ["_law_deck_here", "_law_bound", "_law_at", "_law_cell", "_law_mixed"]
abbrev N__law_panel : List Str := ["_law_deck_here", "_law_most", "_law_n", "_law_way", "_law_found", "_law_button", "_law_own", "_law_other"]
abbrev N__law_row : List Str := ["_law_deck_here", "_law_n", "_law_most", "_law_few", "_law_way", "_law_k"]
abbrev N_releasers_of : List Str := ["panel", "button", "other", "released"]
abbrev N__law_apart : List Str := ["_law_panel_here", "_law_used", "_law_found", "_law_many", "_law_button", "_law_one", "_law_own"]
abbrev N_with_list : List Str := ["panel", "button", "released"]
abbrev N_linked : List Str := ["panel", "one", "other", "button"]
abbrev N_unlinked : List Str := ["panel", "one", "other", "button"]
abbrev N__law_links_right : List Str := ["_law_deck_here", "_law_panel_here", "_law_many", "_law_one", "_law_other", "_law_more", "_law_fewer"]
abbrev N_renamed : List Str := ["panel", "names", "found", "button", "released", "other"]
abbrev N__law_names_right : List Str := ["_law_deck_here", "_law_panel_here", "_law_many", "_law_left", "_law_names", "_law_found", "_law_back", "_law_button"]
abbrev N_law : List Str := ["_law_script", "_law_deck_here", "_law_turn", "_law_panel_here", "_law_found", "_law_k", "_law_one", "_law_other"]
noncomputable def m_changed_word : Rho → Sto → Fl := (sSeq (sIf (isB (mOp pEq (mVar 2) (mVar 1))) (sRet (mLit (.str ("on" : Str)))) sNext)
  (sRet (mIf (isB (mOp pIn (mVar 2) (mOp pIdx (mVar 0) (mVar 1)))) (mLit (.str ("off" : Str))) (mVar 3))))
noncomputable def d_changed_word : List D → M D := fnD 4 4 m_changed_word
theorem nn_changed_word : NeedN 4 d_changed_word := needN_fnD
noncomputable def c_effect_after_1 : Rho → M (List D) := lLc (iEnumD (mVar 1)) (gT 2 (gsCons (gN 3) (gsCons (gN 4) gsNil))) bYes (mCall d_changed_word (mCons (mVar 0) (mCons (mVar 2) (mCons (mVar 3) (mCons (mVar 4) mNil))))) [3, 4]
noncomputable def m_effect_after : Rho → Sto → Fl := (sRet (mB pTuple (mCons (mFrz c_effect_after_1) mNil)))
noncomputable def d_effect_after : List D → M D := fnD 3 5 m_effect_after
theorem nn_effect_after : NeedN 3 d_effect_after := needN_fnD
noncomputable def l_effect_of_1 : Rho → Sto → Fl := (sAsg (gN 2) (mCall d_effect_after (mCons (mVar 0) (mCons (mVar 2) (mCons (mVar 3) mNil)))))
noncomputable def m_effect_of : Rho → Sto → Fl := (sSeq (sAsg (gN 2) (mOp pMul (mTup (mCons (mLit (.str ("same" : Str))) mNil)) (mB pLen (mCons (mVar 0) mNil))))
  (sSeq (sFor (iSeq (mVar 1)) (gN 3) l_effect_of_1)
  (sRet (mVar 2))))
noncomputable def d_effect_of : List D → M D := fnD 2 4 m_effect_of
theorem nn_effect_of : NeedN 2 d_effect_of := needN_fnD
noncomputable def m_is_reset : Rho → Sto → Fl := (sRet (mOp pNotIn (mLit (.str ("same" : Str))) (mCall d_effect_of (mCons (mVar 0) (mCons (mVar 1) mNil)))))
noncomputable def d_is_reset : List D → M D := fnD 2 2 m_is_reset
theorem nn_is_reset : NeedN 2 d_is_reset := needN_fnD
noncomputable def l_shortest_reset_1 : Rho → Sto → Fl := (sIf (mTru (mCall d_is_reset (mCons (mVar 0) (mCons (mVar 3) mNil)))) (sRet (mVar 3)) sNext)
noncomputable def l_shortest_reset_2 : Rho → Sto → Fl := (sFor (lGo d_rows_of (mCons (mVar 1) (mCons (mVar 2) mNil))) (gN 3) l_shortest_reset_1)
noncomputable def m_shortest_reset : Rho → Sto → Fl := (sSeq (sAsg (gN 1) (mTupRg (mB pLen (mCons (mVar 0) mNil))))
  (sSeq (sFor (iRng2D (mLit (.int 1)) (mOp pAdd (mB pLen (mCons (mVar 0) mNil)) (mLit (.int 1)))) (gN 2) l_shortest_reset_2)
  (sRet (mVar 1))))
noncomputable def d_shortest_reset : List D → M D := fnD 1 4 m_shortest_reset
theorem nn_shortest_reset : NeedN 1 d_shortest_reset := needN_fnD
noncomputable def c_beside_1 : Rho → M (List D) := lLc (iSeq (mVar 0)) (gN 1) bYes (mB pLen (mCons (mVar 1) mNil)) [1]
noncomputable def c_beside_2 : Rho → M (List D) := lLc (iSeq (mVar 5)) (gN 4) bYes (mOp pAdd (mVar 3) (mVar 4)) [4]
noncomputable def c_beside_3 : Rho → M (List D) := lLc (iSeq (mVar 1)) (gN 5) bYes (mB pTuple (mCons (mFrz c_beside_2) mNil)) [5]
noncomputable def l_beside_1 : Rho → Sto → Fl := (sSeq (sAsg (gN 3) (mB pLen (mCons (mVar 2) mNil)))
    (sDrop (mMeth "list" pExtend (mVar 2) (mCons (mFrz c_beside_3) mNil))))
noncomputable def m_beside : Rho → Sto → Fl := (sSeq (sIf (isB (mOp pGt (mB pSum (mCons (mFrz c_beside_1) mNil)) (mLit (.int 10)))) sNever sNext)
  (sSeq (sAsg (gN 2) (mNew (lDisp mNil)))
  (sSeq (sFor (iSeq (mVar 0)) (gN 1) l_beside_1)
  (sFz 2 (sRet (mB pTuple (mCons (mVar 2) mNil)))))))
noncomputable def d_beside : List D → M D := fnD 1 6 m_beside
theorem nn_beside : NeedN 1 d_beside := needN_fnD
noncomputable def c__law_deck_1 : Rho → M (List D) := lLc (iSeq (mFrz (lSlL (mVar 0) oNone (oSome (mLit (.int 60)))))) (gN 1) bYes (mB pAbs (mCons (mVar 1) mNil)) [1]
noncomputable def m__law_deck : Rho → Sto → Fl := (sRet (mNew (lDisp (mCons (mNew c__law_deck_1) (mCons (mLit (.int 0)) mNil)))))
noncomputable def d__law_deck : List D → M D := fnD 1 2 m__law_deck
theorem nn__law_deck : NeedN 1 d__law_deck := needN_fnD
noncomputable def m__law_draw : Rho → Sto → Fl := (sSeq (sAsg (gSubD (mVar 0) (mLit (.int 1))) (mOp pAdd (mOp pIdx (mVar 0) (mLit (.int 1))) (mLit (.int 1))))
  (sSeq (sAsg (gN 2) (mOp pMod (mOp pIdx (mVar 0) (mLit (.int 1))) (mB pMax2 (mCons (mLit (.int 1)) (mCons (mB pLen (mCons (mOp pIdx (mVar 0) (mLit (.int 0))) mNil)) mNil)))))
  (sSeq (sAsg (gN 3) (mOp pIdx (mFrz (lOp pCat (mOp pIdx (mVar 0) (mLit (.int 0))) (mFrz (lDisp (mCons (mLit (.int 0)) mNil))))) (mVar 2)))
  (sSeq (sIf (isB (mOp pGe (mVar 3) (mOp pPow (mLit (.int 10)) (mLit (.int 18))))) (sSeq (sAsg (gSubD (mOp pIdx (mVar 0) (mLit (.int 0))) (mVar 2)) (mOp pDiv (mVar 3) (mVar 1)))
    (sRet (mOp pMod (mVar 3) (mVar 1)))) sNext)
  (sSeq (sAsg (gN 4) (mOp pMod (mOp pPow (mOp pAdd (mOp pAdd (mOp pMod (mVar 3) (mLit (.int 2147483563))) (mOp pMul (mLit (.int 104729)) (mOp pIdx (mVar 0) (mLit (.int 1))))) (mLit (.int 7))) (mLit (.int 4))) (mLit (.int 2147483629))))
  (sRet (mOp pMod (mOp pAdd (mOp pDiv (mVar 4) (mLit (.int 8))) (mOp pMul (mLit (.int 31)) (mOp pIdx (mVar 0) (mLit (.int 1))))) (mVar 1))))))))
noncomputable def d__law_draw : List D → M D := fnD 2 5 m__law_draw
theorem nn__law_draw : NeedN 2 d__law_draw := needN_fnD
noncomputable def c__law_panel_1 : Rho → M (List D) := lLc (iRng1D (mVar 2)) (gN 7) (bAnd (isB (mOp pNe (mVar 7) (mVar 5))) (isB (mOp pEq (mCall d__law_draw (mCons (mVar 0) (mCons (mOp pIdx (mFrz (lDisp (mCons (mLit (.int 2)) (mCons (mLit (.int 5)) (mCons (mLit (.int 9)) (mCons (mLit (.int 7)) (mCons (mLit (.int 1)) mNil))))))) (mVar 3)) mNil))) (mLit (.int 0))))) (mVar 7) [7]
noncomputable def c__law_panel_2 : Rho → M (List D) := lLc (iRng1D (mVar 2)) (gN 7) (bAnd (isB (mOp pNe (mVar 7) (mVar 5))) (isB (mOp pNotIn (mVar 7) (mVar 6)))) (mVar 7) [7]
noncomputable def l__law_panel_1 : Rho → Sto → Fl := (sSeq (sAsg (gN 6) (mFrz c__law_panel_1))
    (sSeq (sIf (isB (mOp pEq (mVar 3) (mLit (.int 2)))) (sAsg (gN 6) (mFrz c__law_panel_2)) sNext)
    (sSeq (sIf (bAnd (isB (mOp pEq (mVar 3) (mLit (.int 3)))) (isB (mOp pGt (mVar 2) (mLit (.int 1))))) (sAsg (gN 6) (mFrz (lOp pCat (mVar 6) (mFrz (lDisp (mCons (mOp pMod (mOp pAdd (mVar 5) (mLit (.int 1))) (mVar 2)) mNil)))))) sNext)
    (sDrop (mMeth "list" pAppend (mVar 4) (mCons (mB pTuple (mCons (mFrz (lSortSet (mFrz (lOp pRepL (mVar 6) (mB pInt (mCons (mOp pNe (mVar 3) (mLit (.int 4))) mNil)))))) mNil)) mNil))))))
noncomputable def m__law_panel : Rho → Sto → Fl := (sSeq (sAsg (gT 3 (gsCons (gN 2) (gsCons (gN 3) (gsCons (gN 4) gsNil)))) (mTup (mCons (mOp pAdd (mLit (.int 1)) (mCall d__law_draw (mCons (mVar 0) (mCons (mVar 1) mNil)))) (mCons (mCall d__law_draw (mCons (mVar 0) (mCons (mLit (.int 5)) mNil))) (mCons (mNew (lDisp mNil)) mNil)))))
  (sSeq (sFor (iRng1D (mVar 2)) (gN 5) l__law_panel_1)
  (sFz 4 (sRet (mB pTuple (mCons (mVar 4) mNil))))))
noncomputable def d__law_panel : List D → M D := fnD 2 8 m__law_panel
theorem nn__law_panel : NeedN 2 d__law_panel := needN_fnD
noncomputable def c__law_row_1 : Rho → M (List D) := lLc (iRng1D (mCall d__law_draw (mCons (mVar 0) (mCons (mOp pAdd (mVar 2) (mLit (.int 1))) mNil)))) (gN 5) bYes (mOp pIdx (mFrz (lDisp (mCons (mCall d__law_draw (mCons (mVar 0) (mCons (mVar 1) mNil))) (mCons (mOp pIdx (mVar 3) (mOp pMod (mVar 5) (mLit (.int 3)))) mNil)))) (mVar 4)) [5]
noncomputable def m__law_row : Rho → Sto → Fl := (sSeq (sAsg (gN 3) (mFrz (lDisp (mCons (mCall d__law_draw (mCons (mVar 0) (mCons (mVar 1) mNil))) (mCons (mCall d__law_draw (mCons (mVar 0) (mCons (mVar 1) mNil))) (mCons (mCall d__law_draw (mCons (mVar 0) (mCons (mVar 1) mNil))) mNil))))))
  (sSeq (sAsg (gN 4) (mCall d__law_draw (mCons (mVar 0) (mCons (mLit (.int 2)) mNil))))
  (sRet (mB pTuple (mCons (mFrz c__law_row_1) mNil)))))
noncomputable def d__law_row : List D → M D := fnD 3 6 m__law_row
theorem nn__law_row : NeedN 3 d__law_row := needN_fnD
noncomputable def c_releasers_of_1 : Rho → M (List D) := lLc (iEnumD (mVar 0)) (gT 2 (gsCons (gN 2) (gsCons (gN 3) gsNil))) (isB (mOp pIn (mVar 1) (mVar 3))) (mVar 2) [2, 3]
noncomputable def m_releasers_of : Rho → Sto → Fl := (sRet (mB pTuple (mCons (mFrz c_releasers_of_1) mNil)))
noncomputable def d_releasers_of : List D → M D := fnD 2 4 m_releasers_of
theorem nn_releasers_of : NeedN 2 d_releasers_of := needN_fnD
noncomputable def c__law_apart_1 : Rho → M (List D) := lLc (iRng1D (mB pLen (mCons (mVar 0) mNil))) (gN 5) bYes (mTup (mCons (mB pLen (mCons (mCall d_releasers_of (mCons (mVar 0) (mCons (mVar 5) mNil))) mNil)) (mCons (mVar 5) mNil))) [5]
noncomputable def c__law_apart_2 : Rho → M (List D) := lLc (iSeq (mVar 6)) (gN 5) (isB (mOp pIn (mVar 5) (mVar 1))) (mLit (.int 1)) [5]
noncomputable def l__law_apart_1 : Rho → Sto → Fl := (sSeq (sAsg (gN 6) (mFrz (lOp pCat (mFrz (lB pList (mCons (mCall d_releasers_of (mCons (mVar 0) (mCons (mVar 4) mNil))) mNil))) (mFrz (lDisp (mCons (mVar 4) mNil))))))
    (sIf (isB (mOp pEq (mFrz c__law_apart_2) (mFrz (lDisp mNil)))) (sAsg (gT 2 (gsCons (gN 1) (gsCons (gN 2) gsNil))) (mTup (mCons (mFrz (lOp pCat (mVar 1) (mVar 6))) (mCons (mOp pAdd (mVar 2) (mLit (.int 1))) mNil)))) sNext))
noncomputable def m__law_apart : Rho → Sto → Fl := (sSeq (sAsg (gT 2 (gsCons (gN 1) (gsCons (gN 2) gsNil))) (mTup (mCons (mFrz (lDisp mNil)) (mCons (mLit (.int 0)) mNil))))
  (sSeq (sFor (iSeq (mFrz (lB pSorted (mCons (mFrz c__law_apart_1) mNil)))) (gT 2 (gsCons (gN 3) (gsCons (gN 4) gsNil))) l__law_apart_1)
  (sRet (mVar 2))))
noncomputable def d__law_apart : List D → M D := fnD 1 7 m__law_apart
theorem nn__law_apart : NeedN 1 d__law_apart := needN_fnD
noncomputable def m_with_list : Rho → Sto → Fl := (sRet (mTup (mStar (mSlT (mVar 0) oNone (oSome (mVar 1))) (mCons (mB pTuple (mCons (mFrz (lB pSorted (mCons (mVar 2) mNil))) mNil)) (mStar (mSlT (mVar 0) (oSome (mOp pAdd (mVar 1) (mLit (.int 1)))) oNone) mNil)))))
noncomputable def d_with_list : List D → M D := fnD 3 3 m_with_list
theorem nn_with_list : NeedN 3 d_with_list := needN_fnD
noncomputable def c_linked_1 : Rho → M (List D) := lLc (iSeq (mOp pIdx (mVar 0) (mVar 1))) (gN 3) (isB (mOp pNe (mVar 3) (mVar 2))) (mVar 3) [3]
noncomputable def m_linked : Rho → Sto → Fl := (sRet (mCall d_with_list (mCons (mVar 0) (mCons (mVar 1) (mCons (mFrz (lDisp (mStar (mFrz c_linked_1) (mCons (mVar 2) mNil)))) mNil)))))
noncomputable def d_linked : List D → M D := fnD 3 4 m_linked
theorem nn_linked : NeedN 3 d_linked := needN_fnD
noncomputable def c_unlinked_1 : Rho → M (List D) := lLc (iSeq (mOp pIdx (mVar 0) (mVar 1))) (gN 3) (isB (mOp pNe (mVar 3) (mVar 2))) (mVar 3) [3]
noncomputable def m_unlinked : Rho → Sto → Fl := (sRet (mCall d_with_list (mCons (mVar 0) (mCons (mVar 1) (mCons (mFrz c_unlinked_1) mNil)))))
noncomputable def d_unlinked : List D → M D := fnD 3 4 m_unlinked
theorem nn_unlinked : NeedN 3 d_unlinked := needN_fnD
noncomputable def m__law_links_right : Rho → Sto → Fl := (sSeq (sPar 3 4 (mCons (mCall d__law_draw (mCons (mVar 0) (mCons (mB pLen (mCons (mVar 1) mNil)) mNil))) (mCons (mCall d__law_draw (mCons (mVar 0) (mCons (mB pLen (mCons (mVar 1) mNil)) mNil))) mNil)))
  (sSeq (sIf (isB (mOp pEq (mVar 3) (mVar 4))) (sRet (mLit (.bl true))) sNext)
  (sSeq (sPar 5 6 (mCons (mB pLen (mCons (mCall d_shortest_reset (mCons (mCall d_linked (mCons (mVar 1) (mCons (mVar 3) (mCons (mVar 4) mNil)))) mNil)) mNil)) (mCons (mB pLen (mCons (mCall d_shortest_reset (mCons (mCall d_unlinked (mCons (mVar 1) (mCons (mVar 3) (mCons (mVar 4) mNil)))) mNil)) mNil)) mNil)))
  (sRet (mChn (mOp pSub (mVar 2) (mLit (.int 1))) (chCons pLe (mVar 5) (chCons pLe (mVar 2) (chCons pLe (mVar 6) (chOne pLe (mOp pAdd (mVar 2) (mLit (.int 1))))))))))))
noncomputable def d__law_links_right : List D → M D := fnD 3 7 m__law_links_right
theorem nn__law_links_right : NeedN 3 d__law_links_right := needN_fnD
noncomputable def c_renamed_1 : Rho → M (List D) := lLc (iSeq (mVar 4)) (gN 5) bYes (mOp pIdx (mVar 1) (mVar 5)) [5]
noncomputable def l_renamed_1 : Rho → Sto → Fl := (sAsg (gSubD (mVar 2) (mOp pIdx (mVar 1) (mVar 3))) (mB pTuple (mCons (mFrz (lB pSorted (mCons (mFrz c_renamed_1) mNil))) mNil)))
noncomputable def m_renamed : Rho → Sto → Fl := (sSeq (sAsg (gN 2) (mNew (lOp pRepL (mFrz (lDisp (mCons (mTup mNil) mNil))) (mB pLen (mCons (mVar 0) mNil)))))
  (sSeq (sFor (iEnumD (mVar 0)) (gT 2 (gsCons (gN 3) (gsCons (gN 4) gsNil))) l_renamed_1)
  (sFz 2 (sRet (mB pTuple (mCons (mVar 2) mNil))))))
noncomputable def d_renamed : List D → M D := fnD 2 6 m_renamed
theorem nn_renamed : NeedN 2 d_renamed := needN_fnD
noncomputable def l__law_names_right_1 : Rho → Sto → Fl := (sDrop (mMeth "list" pAppend (mVar 4) (mCons (mMeth "list" pPopAt (mVar 3) (mCons (mCall d__law_draw (mCons (mVar 0) (mCons (mB pLen (mCons (mVar 3) mNil)) mNil))) mNil)) mNil)))
noncomputable def c__law_names_right_1 : Rho → M (List D) := lLc (iSeq (mVar 5)) (gN 7) bYes (mMeth "list" pIndexL (mVar 4) (mCons (mVar 7) mNil)) [7]
noncomputable def m__law_names_right : Rho → Sto → Fl := (sSeq (sAsg (gT 2 (gsCons (gN 3) (gsCons (gN 4) gsNil))) (mTup (mCons (mNew (lLstRg (mB pLen (mCons (mVar 1) mNil)))) (mCons (mNew (lDisp mNil)) mNil))))
  (sSeq (sWhile 1000 (isB (mOp pNe (mVar 3) (mFrz (lDisp mNil)))) l__law_names_right_1)
  (sFz 4 (sSeq (sAsg (gN 5) (mCall d_shortest_reset (mCons (mCall d_renamed (mCons (mVar 1) (mCons (mB pTuple (mCons (mVar 4) mNil)) mNil))) mNil)))
  (sSeq (sAsg (gN 6) (mB pTuple (mCons (mFrz c__law_names_right_1) mNil)))
  (sRet (mAndV (mOp pEq (mB pLen (mCons (mVar 5) mNil)) (mVar 2)) (mOp pIsB (mCall d_is_reset (mCons (mVar 1) (mCons (mVar 6) mNil))) (mLit (.bl true))))))))))
noncomputable def d__law_names_right : List D → M D := fnD 3 8 m__law_names_right
theorem nn__law_names_right : NeedN 3 d__law_names_right := needN_fnD
noncomputable def l_law_1 : Rho → Sto → Fl := (sIf (mTru (mCall d_is_reset (mCons (mVar 3) (mCons (mOp pAdd (mSlT (mVar 4) oNone (oSome (mVar 5))) (mSlT (mVar 4) (oSome (mOp pAdd (mVar 5) (mLit (.int 1)))) oNone)) mNil)))) (sRet (mLit (.bl false))) sNext)
noncomputable def l_law_2 : Rho → Sto → Fl := (sIf (mTru (mCall d_is_reset (mCons (mVar 3) (mCons (mSlT (mCall d__law_row (mCons (mVar 1) (mCons (mB pLen (mCons (mVar 3) mNil)) (mCons (mLit (.int 60)) mNil)))) oNone (oSome (mOp pSub (mB pLen (mCons (mVar 4) mNil)) (mLit (.int 1))))) mNil)))) (sRet (mLit (.bl false))) sNext)
noncomputable def l_law_3 : Rho → Sto → Fl := (sSeq (sAsg (gN 3) (mCall d__law_panel (mCons (mVar 1) (mCons (mOp pIdx (mFrz (lDisp (mCons (mLit (.int 10)) (mCons (mLit (.int 8)) (mCons (mLit (.int 6)) (mCons (mLit (.int 5)) mNil)))))) (mVar 2)) mNil))))
    (sSeq (sAsg (gN 4) (mCall d_shortest_reset (mCons (mVar 3) mNil)))
    (sSeq (sIf (bOr (isB (mOp pIsNotB (mCall d_is_reset (mCons (mVar 3) (mCons (mVar 4) mNil))) (mLit (.bl true)))) (bNot (isB (mOp pLe (mCall d__law_apart (mCons (mVar 3) mNil)) (mB pLen (mCons (mVar 4) mNil)))))) (sRet (mLit (.bl false))) sNext)
    (sSeq (sFor (iRng1D (mB pLen (mCons (mVar 4) mNil))) (gN 5) l_law_1)
    (sSeq (sFor (iRng1D (mLit (.int 6))) (gN 5) l_law_2)
    (sIf (bOr (bNot (mTru (mCall d__law_links_right (mCons (mVar 1) (mCons (mVar 3) (mCons (mB pLen (mCons (mVar 4) mNil)) mNil)))))) (bNot (mTru (mCall d__law_names_right (mCons (mVar 1) (mCons (mVar 3) (mCons (mB pLen (mCons (mVar 4) mNil)) mNil))))))) (sRet (mLit (.bl false))) sNext))))))
noncomputable def rest_law_1 : Rho → Sto → Fl := (sSeq (sFor (iRng1D (mLit (.int 4))) (gN 2) l_law_3)
  (sSeq (sPar 6 7 (mCons (mCall d__law_panel (mCons (mVar 1) (mCons (mLit (.int 5)) mNil))) (mCons (mCall d__law_panel (mCons (mVar 1) (mCons (mLit (.int 5)) mNil))) mNil)))
  (sRet (mOp pEq (mB pLen (mCons (mCall d_shortest_reset (mCons (mCall (varD d_beside) (mCons (mVar 6) (mCons (mVar 7) mNil))) mNil)) mNil)) (mOp pAdd (mB pLen (mCons (mCall d_shortest_reset (mCons (mVar 6) mNil)) mNil)) (mB pLen (mCons (mCall d_shortest_reset (mCons (mVar 7) mNil)) mNil)))))))
noncomputable def m_law : Rho → Sto → Fl := (sSeq (sAsg (gN 1) (mCall d__law_deck (mCons (mVar 0) mNil))) rest_law_1)
noncomputable def d_law : List D → M D := fnD 1 8 m_law
theorem nn_law : NeedN 1 d_law := needN_fnD
def dk (cells : List Int) (k : Nat) (rest : Sto) : Sto := .lst (cells.map .int) :: .lst [.ref 0, nI k] :: rest
def Good (cells : List Int) : Prop := ∀ z ∈ cells, 0 ≤ z
theorem good_set {cells : List Int} (g : Good cells) {j : Nat} {z : Int} (h : 0 ≤ z) : Good (cells.set j z) := fun y hy => by
  rcases List.mem_or_eq_of_mem_set hy with q | q
  · exact g y q
  · rw [q]; exact h
section
variable (c : List Int) (k : Nat) (r : Sto)
theorem dk_idx1 : pIdx (dk c k r) (.ref 1) (.int 1) = some (.int (k : Int)) := by rw [pIdx_ref (xs := [.ref 0, nI k]) rfl] <;> rfl
theorem dk_idx0 : pIdx (dk c k r) (.ref 1) (.int 0) = some (.ref 0) := by rw [pIdx_ref (xs := [.ref 0, nI k]) rfl] <;> rfl
theorem dk_len : pLen (dk c k r) [.ref 0] = some (.int (c.length : Int)) := by rw [pLen_ref (xs := c.map .int) rfl, List.length_map]
theorem dk_put (ρ : Rho) : gSubD (mVar 0) (mLit (.int 1)) (.int ((k : Int) + 1)) (some (.ref 1) :: ρ) (dk c k r) = .ok (some (.ref 1) :: ρ) (dk c (k + 1) r) := by
  rw [gSubD_ref (l := 1) (j := 1) (xs := [.ref 0, nI k]) rfl rfl rfl rfl] <;> rfl
theorem dk_setD {j : Nat} {z : Int} {a b c4 : Option D} (h : j < c.length) : gSubD (mOp pIdx (mVar 0) (mLit (.int 0))) (mVar 2) (.int z) [some (.ref 1), a, some (.int (j : Int)), b, c4] (dk c k r) = .ok [some (.ref 1), a, some (.int (j : Int)), b, c4] (dk (c.set j z) k r) := by
  rw [gSubD_ref (l := 0) (j := j) (xs := c.map .int) (s1 := dk c k r) (s2 := dk c k r) (k := (j : Int)) (by simp only [mOp_ap, mVar_ap, mLit_ap, List.getElem?_cons_zero, Out.bind_ok, dk_idx0, lift_some]) rfl rfl ?_]
  · show Out.ok _ _ = Out.ok _ _
    unfold dk
    rw [List.map_set]
    rfl
  · rw [List.length_map]
    unfold ixN
    rw [if_pos (by omega), if_pos (by omega), Int.toNat_natCast]
end
theorem mix_ok (c : Int) (k m : Nat) (h0 : 0 ≤ c) (hk : k ≤ 1000000001) (hm : 1 ≤ m) : ∃ z : Nat, z < m ∧
    ((c % 2147483563 + 104729 * (k : Int) + 7) ^ 4 % 2147483629 / 8 + 31 * (k : Int)) % (m : Int) = (z : Int) ∧ 0 ≤ c % 2147483563 + 104729 * (k : Int) + 7 ∧ c % 2147483563 + 104729 * (k : Int) + 7 < 18446744073709551616 := by
  have e1 : 0 ≤ c % 2147483563 := Int.emod_nonneg _ (by decide)
  have e2 : c % 2147483563 < 2147483563 := Int.emod_lt_of_pos _ (by decide)
  have e3 : 0 ≤ ((c % 2147483563 + 104729 * (k : Int) + 7) ^ 4 % 2147483629 / 8 + 31 * (k : Int)) % (m : Int) := Int.emod_nonneg _ (by omega)
  have e4 : ((c % 2147483563 + 104729 * (k : Int) + 7) ^ 4 % 2147483629 / 8 + 31 * (k : Int)) % (m : Int) < m := Int.emod_lt_of_pos _ (by omega)
  exact ⟨(((c % 2147483563 + 104729 * (k : Int) + 7) ^ 4 % 2147483629 / 8 + 31 * (k : Int)) % (m : Int)).toNat, by omega, by omega, by omega, by omega⟩
theorem draw_ok {cells : List Int} {k m : Nat} (g : Good cells) (hcl : cells.length + 1 ≤ 100000) (hk : k ≤ 1000000000) (h1 : 1 ≤ m) (h2 : m < 1073741824) :
    ∃ z cells', z < m ∧ Good cells' ∧ cells'.length = cells.length ∧ ∀ rest, d__law_draw [.ref 1, nI m] (dk cells k rest) = .ok (nI z) (dk cells' (k + 1) rest) := by
  have hm : (0 : Int) < (m : Int) := by omega
  have hm2 : (m : Int) < 1073741824 := by omega
  have hu : ∀ z cells' rest, m__law_draw [some (.ref 1), some (nI m), none, none, none] (dk cells k rest) = .ret (nI z) (dk cells' (k + 1) rest) → d__law_draw [.ref 1, nI m] (dk cells k rest) = .ok (nI z) (dk cells' (k + 1) rest) := fun z c2 rest e => by
    show clean _ (flOut (m__law_draw [some (.ref 1), some (nI m), none, none, none] (dk cells k rest))) = _
    rw [e, flOut_ret]
    exact clean_same rfl
  have p18 : ∀ s : Sto, pPow s (.int 10) (.int 18) = some (.int 1000000000000000000) := fun s => by rw [pPow_int _ _ _ (by decide)] <;> rfl
  have e4 : (4 : Int).toNat = 4 := rfl
  -- where the cell stands
  obtain ⟨j, ej⟩ : ∃ j : Nat, (k + 1) % (max 1 cells.length) = j := ⟨_, rfl⟩
  have hj : j < max 1 cells.length := by rw [← ej]; exact Nat.mod_lt _ (by omega)
  obtain ⟨c, ec, hc0⟩ : ∃ c : Int, (cells ++ [0])[j]? = some c ∧ 0 ≤ c := by
    by_cases hl : j < cells.length
    · exact ⟨cells[j], by rw [List.getElem?_append_left hl, List.getElem?_eq_getElem hl], g _ (List.getElem_mem hl)⟩
    · have : j = cells.length := by omega
      exact ⟨0, by rw [List.getElem?_append_right (by omega), this]; simp, by decide⟩
  have hmax : ∀ s : Sto, pMax2 s [.int 1, .int (cells.length : Int)] = some (.int ((max 1 cells.length : Nat) : Int)) := fun s => by
    have := t_max 1 (cells.length : Int) s
    have e2 : max (1 : Int) (cells.length : Int) = ((max 1 cells.length : Nat) : Int) := by omega
    rw [e2] at this
    exact this
  have em : ∀ s : Sto, pMod s (.int ((k : Int) + 1)) (.int ((max 1 cells.length : Nat) : Int)) = some (.int (j : Int)) := fun s => by
    rw [pMod_int _ _ _ (by omega)]
    have : ((k : Int) + 1) % ((max 1 cells.length : Nat) : Int) = (j : Int) := by rw [← ej]; simp
    rw [this]
  have hcat : ∀ (k : Nat) (rest : Sto), cells.length + 1 ≤ 100000 → pCat (dk cells k rest) (.ref 0) (.lst [.int 0]) = some ((cells ++ [0]).map .int) := fun k rest hl => by
    show (match lstOf (dk cells k rest) (.ref 0), lstOf (dk cells k rest) (.lst [.int 0]) with
      | some xs, some ys => if xs.length + ys.length ≤ SZ then some (xs ++ ys) else none
      | _, _ => none) = _
    rw [lst_of_ref (xs := cells.map .int) rfl, lstOf_lst]
    dsimp only
    rw [if_pos (by rw [List.length_map]; exact hl), List.map_append] <;> rfl
  · have hidx : ∀ s : Sto, pIdx s (.lst ((cells ++ [0]).map .int)) (.int (j : Int)) = some (.int c) := fun s => by
      have := pIdx_lst s ((cells ++ [0]).map .int) j
      rw [List.getElem?_map, ec] at this
      exact this
    by_cases hb : (1000000000000000000 : Int) ≤ c
    · have hjl : j < cells.length := by
        by_cases hl : j < cells.length
        · exact hl
        · have : j = cells.length := by omega
          rw [List.getElem?_append_right (by omega), this] at ec
          simp at ec
          omega
      obtain ⟨z, ez⟩ : ∃ z : Nat, c % (m : Int) = z := ⟨(c % (m : Int)).toNat, by have := Int.emod_nonneg c (Int.ne_of_gt hm); omega⟩
      have hz : z < m := by have := Int.emod_lt_of_pos c hm; omega
      refine ⟨z, cells.set j (c / (m : Int)), hz, good_set g (Int.ediv_nonneg hc0 (by omega)), List.length_set, fun rest => hu z _ rest ?_⟩
      have dv : ∀ s : Sto, pDiv s (.int c) (nI m) = some (.int (c / (m : Int))) := fun s => pDiv_int _ _ _ ⟨hm, hm2⟩
      have md : ∀ s : Sto, pMod s (.int c) (nI m) = some (nI z) := fun s => by unfold nI; rw [pMod_int _ _ _ hm, ez]
      unfold m__law_draw
      simp [mVar_ap, dk_idx1, dk_idx0, dk_len, dk_put, p18, hmax, em, hcat _ _ hcl, hidx, hb, dv, md, dk_setD _ _ _ hjl, -List.map_append]
    · obtain ⟨z, hz, e, b1, b2⟩ := mix_ok c (k + 1) m hc0 (by omega) h1
      refine ⟨z, cells, hz, g, rfl, fun rest => hu z _ rest ?_⟩
      have q1 : ∀ s : Sto, pMod s (.int c) (.int 2147483563) = some (.int (c % 2147483563)) := fun s => pMod_int _ _ _ (by decide)
      have q2 : ∀ s : Sto, pMul s (.int 104729) (.int ((k : Int) + 1)) = some (.int (104729 * ((k : Int) + 1))) := fun s => pMul_int _ _ _ (.inl (by decide))
      have e' : ((k + 1 : Nat) : Int) = (k : Int) + 1 := by omega
      rw [e'] at e b1 b2
      have q3 : ∀ s : Sto, pPow s (.int (c % 2147483563 + 104729 * ((k : Int) + 1) + 7)) (.int 4) = some (.int ((c % 2147483563 + 104729 * ((k : Int) + 1) + 7) ^ 4)) := fun s => by rw [pPow_int _ _ _ ⟨by decide, by decide, by omega⟩] <;> rfl
      have q4 : ∀ (s : Sto) (x : Int), pMod s (.int x) (.int 2147483629) = some (.int (x % 2147483629)) := fun s x => pMod_int _ _ _ (by decide)
      have q5 : ∀ (s : Sto) (x : Int), pDiv s (.int x) (.int 8) = some (.int (x / 8)) := fun s x => pDiv_int _ _ _ (by decide)
      have q6 : ∀ s : Sto, pMul s (.int 31) (.int ((k : Int) + 1)) = some (.int (31 * ((k : Int) + 1))) := fun s => pMul_int _ _ _ (.inl (by decide))
      have q7 : ∀ s : Sto, pMod s (.int ((c % 2147483563 + 104729 * ((k : Int) + 1) + 7) ^ 4 % 2147483629 / 8 + 31 * ((k : Int) + 1))) (nI m) = some (nI z) := fun s => by unfold nI; rw [pMod_int _ _ _ hm, e]
      unfold m__law_draw
      simp [mVar_ap, dk_idx1, dk_idx0, dk_len, dk_put, p18, hmax, em, hcat _ _ hcl, hidx, hb, q1, q2, q3, q4, q5, q6, q7, -List.map_append]
theorem cutD_map {α β : Type} (f : α → β) (xs : List α) (lo hi : Option Int) : Dn.cutD (xs.map f) lo hi = (Dn.cutD xs lo hi).map f := by
  unfold Dn.cutD
  rw [List.length_map, List.map_take, List.map_drop]
theorem cutD_len {α : Type} (xs : List α) (lo hi : Option Int) : (Dn.cutD xs lo hi).length ≤ xs.length := by
  unfold Dn.cutD
  rw [List.length_take, List.length_drop]
  omega
theorem deck_ok (ns : List Int) (h : ns.length ≤ 63) : ∃ cells, Good cells ∧ cells.length ≤ 63 ∧ d__law_deck [.scr (ns.map .int)] [] = .ok (.ref 1) (dk cells 0 []) := by
  obtain ⟨ms, em⟩ : ∃ ms, Dn.cutD ns none (some 60) = ms := ⟨_, rfl⟩
  have hl : ms.length ≤ 63 := by rw [← em]; exact Nat.le_trans (cutD_len _ _ _) h
  refine ⟨ms.map fun i => if i < 0 then -i else i, fun z hz => ?_, by rw [List.length_map]; exact hl, ?_⟩
  · obtain ⟨i, _, rfl⟩ := List.mem_map.mp hz
    split <;> omega
  have key : lcL [] (lcF (gN 1) bYes (mB pAbs (mCons (mVar 1) mNil)) (wipeD [some (.scr (ns.map .int)), none] [1])) (ms.map .int) [] = .ok (((ms.map fun i => if i < 0 then -i else i)).map .int) [] := by
    rw [lcL_pure (g := fun d => match d with | .int i => some (.int (if i < 0 then -i else i)) | _ => none) (by simp)]
    · congr 1
      clear em hl
      induction ms with
      | nil => rfl
      | cons a ms ih => rw [List.map_cons, List.filterMap_cons, ih] <;> rfl
    · intro d hd
      obtain ⟨i, _, rfl⟩ := List.mem_map.mp hd
      simp [lcF, wipeD, mVar_ap, pAbs]
  have hs : iSeq (mFrz (lSlL (mVar 0) oNone (oSome (mLit (.int 60))))) [some (.scr (ns.map .int)), none] [] = .ok ⟨ms.map .int, []⟩ [] := by
    simp [iSeq_ap, mFrz_ap, lSlL, mVar_ap, oSome, cutD_map, em]
  show clean [] (flOut (m__law_deck [some (.scr (ns.map .int)), none] [])) = _
  have hm : m__law_deck [some (.scr (ns.map .int)), none] [] = .ret (.ref 1) (dk (ms.map fun i => if i < 0 then -i else i) 0 []) := by
    unfold m__law_deck c__law_deck_1
    simp only [sRet_ap, mNew_ap, lDisp_ap, mCons_ap, mNil_ap, lLc_ap, hs, Out.bind_ok]
    rw [if_pos (by simp; omega), key]
    simp [dk, nI]
  rw [hm, flOut_ret]
  unfold clean
  dsimp only
  rw [if_neg]
  rintro ⟨h1, _⟩
  simp [D.low] at h1
def Dk : Type := { x : List Int × Nat // Good x.1 ∧ x.1.length ≤ 63 }
def RDk : DkR Dk where
  d0 s := .lst (s.1.1.map .int)
  d1 s := .lst [.ref 0, nI s.1.2]
  n0 _ := rfl
  n1 _ := rfl
abbrev ST := OS Dk
def _root_.Dn.OS.k (s : ST) : Nat := s.dk.1.2
theorem dk_of {G_ : List Nat} {s : ST} {st : Sto} (h : HasO (RDk.lend G_) s st) : st = dk s.dk.1.1 s.dk.1.2 (st.drop 2) := by
  match st, h.a0, h.a1 with
  | a :: b :: r, h0, h1 =>
    obtain rfl := Option.some.inj h0
    obtain rfl := Option.some.inj h1
    rfl
theorem has_dk {G_ : List Nat} {s : ST} {c : List Int} {k : Nat} {d : Dk} {r : Sto} (h : HasO (RDk.lend G_) s (dk c k r)) : HasO (RDk.lend G_) ⟨d, s.m⟩ (dk d.1.1 d.1.2 r) := by
  have get : ∀ l (m : MO), 2 ≤ l → ((dk c k r)[l]? = some m ↔ (dk d.1.1 d.1.2 r)[l]? = some m) := fun l m hl => by
    match l, hl with
    | l + 2, _ => exact Iff.rfl
  have ins : ∀ (l : Nat) (n : Str) (fs : List (Str × D)), (dk d.1.1 d.1.2 r)[l]? = some (MO.ins n fs) ↔ (dk c k r)[l]? = some (MO.ins n fs) := fun l n fs => by
    match l with
    | 0 => exact ⟨fun h => (nomatch Option.some.inj h), fun h => (nomatch Option.some.inj h)⟩
    | 1 => exact ⟨fun h => (nomatch Option.some.inj h), fun h => (nomatch Option.some.inj h)⟩
    | l + 2 => exact Iff.rfl
  refine ⟨rfl, rfl, fun l o e => ?_, fun l n fs e => h.ins l n fs ((ins _ _ _).mp e), fun k' n fs f l e i => ?_, fun l q => h.gin l q, fun l q => ⟨fun n fs e => (h.gno l q).1 n fs ((ins _ _ _).mp e), fun k' n fs f e => (h.gno l q).2 k' n fs f ((ins _ _ _).mp e)⟩⟩
  · obtain ⟨a, b, o'⟩ := h.at_ l o e
    refine ⟨a, (get l _ a).mp b, ?_⟩
    rcases o' with q | ⟨n, fs, q⟩ | ⟨k', n, fs, f, q, i⟩
    · exact .inl q
    · exact .inr (.inl ⟨n, fs, (ins _ _ _).mpr q⟩)
    · exact .inr (.inr ⟨k', n, fs, f, (ins _ _ _).mpr q, i⟩)
  · exact h.ref k' n fs f l ((ins _ _ _).mp e) i
open Classical in
noncomputable def draw (m : Int) : Mt ST Int := fun s => if h : ∃ z d', (0 ≤ z ∧ z < m ∧ d'.1.2 = s.k + 1) ∧ ∀ r, d__law_draw [.ref 1, eI m] (dk s.dk.1.1 s.dk.1.2 r) = .ok (eI z) (dk (d' : Dk).1.1 d'.1.2 r) then .ok h.choose ⟨h.choose_spec.choose, s.m⟩ else .bad
theorem fn_draw {G_ : List Nat} (m : Int) : FN (WO (RDk.lend G_)) d__law_draw [.ref 1, eI m] (draw m) eI := fun st s hs => by
  have hs : HasO (RDk.lend G_) s st := hs
  unfold draw
  split
  · rename_i h
    have e := h.choose_spec.choose_spec.2 (st.drop 2)
    rw [← dk_of hs] at e
    have hd := dk_of hs
    have h2 : HasO (RDk.lend G_) s (dk s.dk.1.1 s.dk.1.2 (st.drop 2)) := by rw [← hd]; exact hs
    refine ⟨_, e, has_dk h2, ?_, fun l hl no => ?_⟩
    · have := congrArg List.length hd
      rw [this]
      exact Nat.le_refl _
    · have l2 : 2 ≤ l := by
        by_cases q : 2 ≤ l
        · exact q
        · exact absurd (Or.inl (Or.inl (by omega))) no
      have e2 : st[l]? = (dk h.choose_spec.choose.1.1 h.choose_spec.choose.1.2 (st.drop 2))[l]? := by
        rw [hd]
        match l, l2 with
        | l + 2, _ => rfl
      refine ⟨fun o => no ?_, e2.symm⟩
      have ins : ∀ (k' : Nat) (n : Str) (fs : List (Str × D)), (dk h.choose_spec.choose.1.1 h.choose_spec.choose.1.2 (st.drop 2))[k']? = some (MO.ins n fs) → st[k']? = some (MO.ins n fs) := fun k' n fs q => by
        rw [hd]
        match k', q with
        | 0, q => exact (nomatch Option.some.inj q)
        | 1, q => exact (nomatch Option.some.inj q)
        | k' + 2, q => exact q
      rcases o with q | ⟨n, fs, q⟩ | ⟨k', n, fs, f, q, i⟩
      · exact .inl q
      · exact .inr (.inl ⟨n, fs, ins _ _ _ q⟩)
      · exact .inr (.inr ⟨k', n, fs, f, ins _ _ _ q, i⟩)
  · trivial
theorem draw_run {m : Int} {s : ST} (h1 : 1 ≤ m) (h2 : m < 1073741824) (hk : s.k ≤ 10000000) : ∃ z s', draw m s = .ok z s' ∧ 0 ≤ z ∧ z < m ∧ s'.k = s.k + 1 ∧ s'.m = s.m := by
  have h : ∃ z d', (0 ≤ z ∧ z < m ∧ d'.1.2 = s.k + 1) ∧ ∀ r, d__law_draw [.ref 1, eI m] (dk s.dk.1.1 s.dk.1.2 r) = .ok (eI z) (dk (d' : Dk).1.1 d'.1.2 r) := by
    obtain ⟨⟨⟨c, k⟩, g⟩, hm⟩ := s
    have hk' : k ≤ 10000000 := hk
    have g2 : c.length ≤ 63 := g.2
    obtain ⟨z, e', hz, g', hl', hd⟩ := draw_ok (m := m.toNat) g.1 (by show c.length + 1 ≤ 100000; omega) (by show k ≤ 1000000000; omega) (by omega) (by omega)
    have em : (m.toNat : Int) = m := by omega
    have hl2 : e'.length = c.length := hl'
    refine ⟨z, ⟨(e', k + 1), ⟨g', by show e'.length ≤ 63; omega⟩⟩, ⟨by omega, by omega, rfl⟩, fun r => ?_⟩
    have := hd r
    unfold nI at this
    rw [em] at this
    exact this
  refine ⟨h.choose, ⟨h.choose_spec.choose, s.m⟩, ?_, h.choose_spec.choose_spec.1.1, h.choose_spec.choose_spec.1.2.1, h.choose_spec.choose_spec.1.2.2, rfl⟩
  unfold draw
  rw [dif_pos h]
def Runs {α : Type} (n : Nat) (q : Mt ST α) (Q : α → Prop) : Prop := ∀ s : ST, s.k + n ≤ 10000000 → ∃ a s', q s = .ok a s' ∧ (s'.k ≤ s.k + n ∧ s'.m = s.m) ∧ Q a
section
variable {α β σ : Type}
theorem runs_pure {a : α} {Q : α → Prop} (h : Q a) : Runs 0 (mpure a) Q := fun s _ => ⟨a, s, rfl, ⟨Nat.le_refl _, rfl⟩, h⟩
theorem runs_bind {n m : Nat} {q : Mt ST α} {k : α → Mt ST β} {Q : α → Prop} {R : β → Prop} (h : Runs n q Q) (hk : ∀ a, Q a → Runs m (k a) R) : Runs (n + m) (mbind q k) R := fun s hs => by
  obtain ⟨a, s1, e1, ⟨h1, g1⟩, ha⟩ := h s (by omega)
  obtain ⟨b, s2, e2, ⟨h2, g2⟩, hb⟩ := hk a ha s1 (by omega)
  exact ⟨b, s2, by unfold mbind; rw [e1]; exact e2, ⟨by omega, g2.trans g1⟩, hb⟩
theorem runs_mono {n m : Nat} {q : Mt ST α} {Q R : α → Prop} (h : Runs n q Q) (hn : n ≤ m) (hq : ∀ a, Q a → R a) : Runs m q R := fun s hs => by
  obtain ⟨a, s1, e1, ⟨h1, g1⟩, ha⟩ := h s (by omega)
  exact ⟨a, s1, e1, ⟨by omega, g1⟩, hq a ha⟩
theorem runs_le {n m : Nat} {q : Mt ST α} {Q : α → Prop} (h : Runs n q Q) (hn : n ≤ m) : Runs m q Q := runs_mono h hn fun _ h => h
theorem runs_draw {m : Int} (h1 : 1 ≤ m) (h2 : m < 1073741824) : Runs 1 (draw m) fun z => 0 ≤ z ∧ z < m := fun s hs => by
  obtain ⟨z, s', e, h3, h4, h5, h6⟩ := draw_run h1 h2 (s := s) (by omega)
  exact ⟨z, s', e, ⟨by omega, h6⟩, h3, h4⟩
theorem runs_calm {n : Nat} {q : Mt ST α} {Q : α → Prop} (h : Runs n q Q) : Runs n (calmly q) Q := fun s hs => by
  obtain ⟨a, s1, e1, h1, ha⟩ := h s hs
  exact ⟨a, s1, by unfold calmly; rw [e1] <;> rfl, h1, ha⟩
theorem runs_forU {c : Nat} {body : α → σ → Mt ST σ} (I : List α → σ → Prop) (xs : List α) (hb : ∀ pre x post z, xs = pre ++ x :: post → I pre z → Runs c (body x z) (I (pre ++ [x]))) :
    ∀ (post pre : List α) (z : σ), xs = pre ++ post → I pre z → Runs (post.length * c) (forU body post z) (I xs)
  | [], pre, z, e, h => by
    rw [List.append_nil] at e
    subst e
    exact runs_le (runs_pure h) (Nat.zero_le _)
  | x :: post, pre, z, e, h => by
    unfold forU
    refine runs_le (runs_bind (hb pre x post z e h) fun z' h' => runs_forU I xs hb post (pre ++ [x]) z' (by rw [e]; simp) h') ?_
    rw [List.length_cons, Nat.succ_mul]
    omega
theorem runs_for {c : Nat} {body : α → σ → Mt ST σ} (I : List α → σ → Prop) {xs : List α} {z : σ} (h : I [] z) (hb : ∀ pre x post z, xs = pre ++ x :: post → I pre z → Runs c (body x z) (I (pre ++ [x]))) : Runs (xs.length * c) (forU body xs z) (I xs) := runs_forU I xs hb xs [] z rfl h
theorem runs_forX {c : Nat} {body : α → σ → Mt ST (Lp σ β)} (I : σ → Prop) : ∀ (xs : List α) (z : σ), I z → (∀ x ∈ xs, ∀ z, I z → Runs c (body x z) fun r => ∃ z', r = .nx z' ∧ I z') → Runs (xs.length * c) (forX body xs z) fun r => ∃ z', r = .inl z' ∧ I z'
  | [], z, h, _ => runs_le (runs_pure ⟨z, rfl, h⟩) (Nat.zero_le _)
  | x :: xs, z, h, hb => by
    unfold forX
    refine runs_le (runs_bind (m := xs.length * c) (hb x (by simp) z h) ?_) ?_
    · rintro r ⟨z', rfl, h'⟩
      exact runs_forX I xs z' h' fun y hy => hb y (by simp [hy])
    · rw [List.length_cons, Nat.succ_mul]
      omega
theorem runs_mapT {c : Nat} {f : α → Mt ST β} (P : α → β → Prop) : ∀ (xs : List α), (∀ x ∈ xs, Runs c (f x) (P x)) → Runs (xs.length * c) (mapT f xs) fun ys => ys.length = xs.length ∧ ∀ y ∈ ys, ∃ x ∈ xs, P x y
  | [], _ => runs_le (runs_pure ⟨rfl, fun _ h => nomatch h⟩) (Nat.zero_le _)
  | x :: xs, hf => by
    unfold mapT
    refine runs_le (runs_bind (m := xs.length * c + 0) (hf x (by simp)) fun y hy => runs_bind (runs_mapT P xs fun z hz => hf z (by simp [hz])) fun ys hys => runs_pure ⟨by simp [hys.1], fun z hz => ?_⟩) ?_
    · rcases List.mem_cons.mp hz with e | e
      · exact ⟨x, by simp, by rw [e]; exact hy⟩
      · obtain ⟨w, hw, hp⟩ := hys.2 z e
        exact ⟨w, by simp [hw], hp⟩
    · rw [List.length_cons, Nat.succ_mul]
      omega
theorem runs_compM {c : Nat} {p : α → Bool} {f : α → Mt ST β} (P : α → β → Prop) {xs : List α} (hl : xs.length ≤ 100000) (hf : ∀ x ∈ xs, Runs c (f x) (P x)) : Runs (xs.length * c) (compM p f xs) fun ys => ys.length = (xs.filter p).length ∧ ∀ y ∈ ys, ∃ x ∈ xs, P x y := by
  unfold compM
  rw [if_pos hl]
  refine runs_mono (runs_mapT P (xs.filter p) fun x hx => hf x (List.mem_filter.mp hx).1) (Nat.mul_le_mul_right _ (List.length_filter_le _ _)) ?_
  rintro ys ⟨h1, h2⟩
  exact ⟨h1, fun y hy => let ⟨x, hx, hp⟩ := h2 y hy; ⟨x, (List.mem_filter.mp hx).1, hp⟩⟩
end
noncomputable def p_changed_word {S : Type} (vpanel : (List (List Int))) (vpressed : Int) (vbutton : Int) (vword : Str) : Mt S Str := mbind (mpure (decide (vbutton = vpressed))) fun vb1 => if vb1 = true then (mpure ("on" : Str)) else (mbind (mbind (midx vpanel vpressed) fun vx2 => mpure (decide (vbutton ∈ vx2))) fun vb3 => if vb3 = true then mpure ("off" : Str) else mpure vword)
theorem fn_changed_word {S : Type} {W : Wd S} (vpanel : (List (List Int))) (vpressed : Int) (vbutton : Int) (vword : Str) : FN W d_changed_word [(eT (eT eI)) vpanel, eI vpressed, eI vbutton, eS vword] (p_changed_word vpanel vpressed vbutton vword) eS := fnT_of (fun b => Pl.p b) rfl (le_c rfl) fun fr => (tr_ifseq (ht_ofV (enc := id) (hv_isB (hv_op (hv_var rfl) (hv_var rfl) (t_eq (e := eI) _ _ (by decide))))) (tr_seqR (tr_ret (ht_ofV hv_lit))) (tr_nextR (tr_ret (ht_if (ht_isB (ht_op (ac_V (hv_var rfl) (ac_T (ht_op (ac_V (hv_var rfl) (ac_V (hv_var rfl) (af_idxT (e := (eT eI)) vpanel vpressed)))) fun vx2 => (af_op (enc := eB) (t_inT (e := eI) vbutton vx2 (by decide))))))) (ht_ofV hv_lit) (ht_ofV (hv_var rfl))))))
noncomputable def p_effect_after {S : Type} (vpanel : (List (List Int))) (veffect : (List Str)) (vpressed : Int) : Mt S (List Str) := mbind (mbind (mbind (mpure veffect) fun vxs1 => mpure (enumZ 0 vxs1)) fun vxs3 => calmly (compM (fun (vx2 : (Int × Str)) => true) (fun (vx2 : (Int × Str)) => p_changed_word vpanel vpressed vx2.1 vx2.2) vxs3)) fun vx4 => mpure vx4
theorem fn_effect_after {S : Type} {W : Wd S} (vpanel : (List (List Int))) (veffect : (List Str)) (vpressed : Int) : FN W d_effect_after [(eT (eT eI)) vpanel, (eT eS) veffect, eI vpressed] (p_effect_after vpanel veffect vpressed) (eT eS) := fnT_of (fun b => Pl.p b) rfl (le_c rfl) fun fr => (tr_ret (ht_b (ac_T (ht_frz (ht_compM (enc := eS) (c := (fun (vx2 : (Int × Str)) => true)) (f := (fun (vx2 : (Int × Str)) => p_changed_word vpanel vpressed vx2.1 vx2.2)) (src_enum (sT (e := eS)) (ht_ofV (hv_var rfl))) rfl (fun vx2 => (gt1_T (gts_cons (gt1_N 3 _) (gts_cons (gt1_N 4 _) gts_nil)) rfl)) (by decide) (fun _ => (kp_of trivial)) (fun vx2 => hv_yes) (fun vx2 => (ht_call (ac_V (hv_var rfl) (ac_V (hv_var rfl) (ac_V (hv_var rfl) (ac_V (hv_var rfl) (ac_fn (fn_changed_word vpanel vpressed vx2.1 vx2.2)))))))))) fun vx4 => (af_b1 (enc := (eT eS)) (t_tupL (e := eS) _)))))
noncomputable def p_effect_of {S : Type} (vpanel : (List (List Int))) (vrow : (List Int)) : Mt S (List Str) := mbind (mrepT ([("same" : Str)]) (vpanel.length : Int)) fun veffect1 => mbind (mbind (mpure vrow) fun vxs5 => forU (fun (vx3 : Int) (vz2 : (List Str)) => mbind (p_effect_after vpanel vz2 vx3) fun veffect4 => mpure veffect4) vxs5 veffect1) fun vz2 => mpure vz2
theorem fn_effect_of {S : Type} {W : Wd S} (vpanel : (List (List Int))) (vrow : (List Int)) : FN W d_effect_of [(eT (eT eI)) vpanel, (eT eI) vrow] (p_effect_of vpanel vrow) (eT eS) := fnT_of (fun b => Pl.p b) rfl (le_c rfl) fun fr => (tr_seqN (tn_asg (ht_op (ac_V (hv_tup (hv_cons hv_lit hv_nil) (le_c rfl)) (ac_V (hv_b (A := D) (hv_cons (hv_var rfl) hv_nil) (t_lenT (e := (eT eI)) _)) (af_repT (e := eS) ([("same" : Str)]) (vpanel.length : Int)))))) fun veffect1 => (tr_seqN (tn_for (J := fun (vz2 : (List Str)) => [.val ((eT (eT eI)) vpanel), .val ((eT eI) vrow), .val ((eT eS) vz2), .any]) (z0 := veffect1) (src_seq (sT (e := eI)) (ht_ofV (hv_var rfl))) (fun _ => (.same (.same (.same (.any .nil))))) (fun vx3 vz2 => (gt1_N 3 _)) (fun vx3 vz2 => (tn_map (f := fun (veffect4 : (List Str)) => veffect4) (tn_asg (ht_call (ac_V (hv_var rfl) (ac_V (hv_var rfl) (ac_V (hv_var rfl) (ac_fn (fn_effect_after vpanel vz2 vx3))))))) (fun veffect4 => (.same (.same (.same (.any .nil)))))))) fun vz2 => (tr_ret (ht_ofV (hv_var rfl)))))
noncomputable def p_is_reset {S : Type} (vpanel : (List (List Int))) (vrow : (List Int)) : Mt S Bool := mbind (p_effect_of vpanel vrow) fun vx1 => mpure (!decide (("same" : Str) ∈ vx1))
theorem fn_is_reset {S : Type} {W : Wd S} (vpanel : (List (List Int))) (vrow : (List Int)) : FN W d_is_reset [(eT (eT eI)) vpanel, (eT eI) vrow] (p_is_reset vpanel vrow) eB := fnT_of (fun b => Pl.p b) rfl (le_c rfl) fun fr => (tr_ret (ht_op (ac_V hv_lit (ac_T (ht_call (ac_V (hv_var rfl) (ac_V (hv_var rfl) (ac_fn (fn_effect_of vpanel vrow))))) fun vx1 => (af_op (enc := eB) (t_ninT (e := eS) ("same" : Str) vx1 (by decide)))))))
noncomputable def p_shortest_reset {S : Type} (vpanel : (List (List Int))) : Mt S (List Int) := mbind (mbind (mpure (vpanel.length : Int)) fun vn1 => mrngL (0 : Int) vn1) fun vbuttons2 => mfin (mbind (mbind (mpure (1 : Int)) fun vn4 => mbind (mpure ((vpanel.length : Int) + (1 : Int))) fun vn5 => mrng vn4 vn5) fun vxs13 => forX (fun (vx6 : Int) (vz3 : Unit) => mfinL (mbind (calmly (p_rows_of vbuttons2 vx6)) fun vxs12 => forX (fun (vx8 : (List Int)) (vz7 : Unit) => mbind (mbind (p_is_reset vpanel vx8) fun vx9 => mpure vx9) fun vb10 => if vb10 = true then (mbind (mpure vx8) fun vr11 => mpure (.rt vr11)) else (mpure (.nx ()))) vxs12 ()) fun vz7 => mpure (.nx ())) vxs13 ()) fun vz3 => mpure vbuttons2
theorem fn_shortest_reset {S : Type} {W : Wd S} (vpanel : (List (List Int))) : FN W d_shortest_reset [(eT (eT eI)) vpanel] (p_shortest_reset vpanel) (eT eI) := fnT_of (fun b => Pl.p b) rfl (le_c rfl) fun fr => (tr_seqN (tn_asg (ht_tupRg (ht_ofV (hv_b (A := D) (hv_cons (hv_var rfl) hv_nil) (t_lenT (e := (eT eI)) _))))) fun vbuttons2 => (tr_seqF (J := _) (tf_for (J := fun (vz3 : Unit) => [.val ((eT (eT eI)) vpanel), .val ((eT eI) vbuttons2), .any, .any]) (z0 := ()) (src_rng2 (ht_ofV hv_lit) (ht_ofV (hv_op (hv_b (A := D) (hv_cons (hv_var rfl) hv_nil) (t_lenT (e := (eT eI)) _)) hv_lit (t_add _ _)))) (fun _ => (.same (.same (.any (.any .nil))))) (fun vx6 vz3 => (gt1_N 2 _)) (fun vx6 vz3 => (tl_endF (f := fun vz7 => ()) (tf_for (J := fun (vz7 : Unit) => [.val ((eT (eT eI)) vpanel), .val ((eT eI) vbuttons2), .val (eI vx6), .any]) (z0 := ()) (src_go (ac_V (hv_var rfl) (ac_V (hv_var rfl) (ac_fg (fn_rows_of vbuttons2 vx6))))) (fun _ => (.same (.same (.same (.any .nil))))) (fun vx8 vz7 => (gt1_N 3 _)) (fun vx8 vz7 => (tl_if (ht_tru (ht_call (ac_V (hv_var rfl) (ac_V (hv_var rfl) (ac_fn (fn_is_reset vpanel vx8))))) (fun x => tr_B x)) (tl_ofX (tx_ofR (tr_ret (ht_ofV (hv_var rfl))))) (tl_nextR (tl_next (.same (.same (.same (.any .nil))))))))) (fun vz7 => (.same (.same (.any (.any .nil)))))))) fun vz3 => (tr_ret (ht_ofV (hv_var rfl)))))
noncomputable def p_beside {S : Type} (vpanels : (List (List (List Int)))) : Mt S (List (List Int)) := mbind (mbind (mbind (mbind (mpure vpanels) fun vxs2 => compV (fun (vx1 : (List (List Int))) => true) (fun (vx1 : (List (List Int))) => (vx1.length : Int)) vxs2) fun vx3 => mpure vx3.sum) fun vx4 => mpure (decide (vx4 > (10 : Int)))) fun vb5 => if vb5 = true then mbad else (mbind (mpure ([] : (List (List Int)))) fun vfound6 => mbind (mbind (mpure vpanels) fun vxs17 => forU (fun (vx8 : (List (List Int))) (vz7 : (List (List Int))) => mbind (mpure (vz7.length : Int)) fun vbefore9 => mbind (mbind (mbind (mpure vx8) fun vxs15 => calmly (compM (fun (vx11 : (List Int)) => true) (fun (vx11 : (List Int)) => mbind (mbind (mpure vx11) fun vxs13 => compV (fun (vx12 : Int) => true) (fun (vx12 : Int) => (vbefore9 + vx12)) vxs13) fun vx14 => mpure vx14) vxs15)) fun vx16 => mcat vz7 vx16) fun vfound10 => mpure vfound10) vxs17 vfound6) fun vz7 => mpure vz7)
theorem fn_beside {S : Type} {W : Wd S} (vpanels : (List (List (List Int)))) : FN W d_beside [(eT (eT (eT eI))) vpanels] (p_beside vpanels) (eT (eT eI)) := fnT_of (fun b => Pl.p b) rfl (le_c rfl) fun fr => (tr_ifseq (ht_isB (ht_op (ac_T (ht_b (ac_T (ht_frz (ht_compV (enc := eI) (c := (fun (vx1 : (List (List Int))) => true)) (f := (fun (vx1 : (List (List Int))) => (vx1.length : Int))) (src_seq (sT (e := (eT (eT eI)))) (ht_ofV (hv_var rfl))) rfl (fun vx1 => (gt1_N 1 _)) (by decide) (fun _ => (kp_of trivial)) (fun vx1 => hv_yes) (fun vx1 => (hv_b (A := D) (hv_cons (hv_var rfl) hv_nil) (t_lenT (e := (eT eI)) _))))) fun vx3 => (af_b1 (enc := eI) (t_sum _)))) fun vx4 => (ac_V hv_lit (af_op (enc := eB) (t_gt _ _)))))) (tr_seqR tr_never) (tr_nextR (tr_seqN (tn_new (ht_ofV (enc := fun zs => List.map (eT eI) zs) (hv_disp hv_nil (le_c rfl)))) fun vfound6 => (tr_seqN (tn_for (J := fun (vz7 : (List (List Int))) => [.val ((eT (eT (eT eI))) vpanels), .any, .mut (.lst (List.map (eT eI) vz7)), .any, .any, .any]) (z0 := vfound6) (src_seq (sT (e := (eT (eT eI)))) (ht_ofV (hv_var rfl))) (fun _ => (.same (.any (.same (.any (.any (.any .nil))))))) (fun vx8 vz7 => (gt1_N 1 _)) (fun vx8 vz7 => (tn_seq (tn_asg (ht_ofV (hv_bM rfl (fun _ _ h => dr_len h) (t_lenL (e := (eT eI)) _)))) fun vbefore9 => (tn_map (f := fun (vfound10 : (List (List Int))) => vfound10) (tn_drop (ht_extend rfl (ht_frz (ht_compM (enc := (eT eI)) (c := (fun (vx11 : (List Int)) => true)) (f := (fun (vx11 : (List Int)) => mbind (mbind (mpure vx11) fun vxs13 => compV (fun (vx12 : Int) => true) (fun (vx12 : Int) => (vbefore9 + vx12)) vxs13) fun vx14 => mpure vx14)) (src_seq (sT (e := (eT eI))) (ht_ofV (hv_var rfl))) rfl (fun vx11 => (gt1_N 5 _)) (by decide) (fun _ => (kp_of ⟨by decide, rfl, trivial⟩)) (fun vx11 => hv_yes) (fun vx11 => (ht_b (ac_T (ht_frz (ht_compV (enc := eI) (c := (fun (vx12 : Int) => true)) (f := (fun (vx12 : Int) => (vbefore9 + vx12))) (src_seq (sT (e := eI)) (ht_ofV (hv_var rfl))) rfl (fun vx12 => (gt1_N 4 _)) (by decide) (fun _ => (kp_of ⟨by decide, rfl, trivial⟩)) (fun vx12 => hv_yes) (fun vx12 => (hv_op (hv_var rfl) (hv_var rfl) (t_add _ _))))) fun vx14 => (af_b1 (enc := (eT eI)) (t_tupL (e := eI) _))))))))) (fun vfound10 => (.same (.any (.same (.any (.any (.any .nil))))))))))) fun vz7 => (tr_fz rfl (tr_ret (ht_ofV (hv_b (A := D) (hv_cons (hv_var rfl) hv_nil) (t_tupL (e := (eT eI)) _)))))))))
noncomputable def p__law_panel (vmost : Int) : Mt ST (List (List Int)) := mbind (mbind (mbind (draw vmost) fun vx1 => mpure ((1 : Int) + vx1)) fun vx2 => mbind (draw (5 : Int)) fun vx3 => mpure (vx2, vx3, ([] : (List (List Int))))) fun vp4 => mbind (mbind (mbind (mpure vp4.1) fun vn6 => mrng (0 : Int) vn6) fun vxs30 => forU (fun (vx7 : Int) (vz5 : (List (List Int))) => mbind (mbind (mbind (mpure vp4.1) fun vn8 => mrng (0 : Int) vn8) fun vxs13 => calmly (compG (fun (vx9 : Int) => mbind (mpure (!decide (vx9 = vx7))) fun vb12 => if vb12 = true then mbind (mbind (midx ([(2 : Int), (5 : Int), (9 : Int), (7 : Int), (1 : Int)]) vp4.2.1) fun vx10 => draw vx10) fun vx11 => mpure (decide (vx11 = (0 : Int))) else mpure false) (fun (vx9 : Int) => mpure vx9) vxs13)) fun vown14 => mbind (mbind (mpure (decide (vp4.2.1 = (2 : Int)))) fun vb20 => if vb20 = true then (mbind (mbind (mbind (mpure vp4.1) fun vn16 => mrng (0 : Int) vn16) fun vxs18 => compV (fun (vx17 : Int) => ((!decide (vx17 = vx7)) && (!decide (vx17 ∈ vown14)))) (fun (vx17 : Int) => vx17) vxs18) fun vown19 => mpure vown19) else (mpure vown14)) fun vz15 => mbind (mbind (mpure ((decide (vp4.2.1 = (3 : Int))) && (decide (vp4.1 > (1 : Int))))) fun vb25 => if vb25 = true then (mbind (mbind (mbind (mmod (vx7 + (1 : Int)) vp4.1) fun vx22 => mpure [vx22]) fun vx23 => mcat vz15 vx23) fun vown24 => mpure vown24) else (mpure vz15)) fun vz21 => mbind (mbind (mbind (mbind (mrepL vz21 (b2z (!decide (vp4.2.1 = (4 : Int))))) fun vxs27 => msetS vxs27) fun vx28 => mpure vx28) fun vx29 => mapp vz5 vx29) fun vfound26 => mpure vfound26) vxs30 vp4.2.2) fun vz5 => mpure vz5
theorem fn__law_panel (vmost : Int) : FN (WO RDk) d__law_panel [.ref 1, eI vmost] (p__law_panel vmost) (eT (eT eI)) := fnT_of (fun b => Pl.p b) rfl (le_c rfl) fun fr => (tr_seqN (tn_tup3 (J := fun (vp4 : Int × Int × (List (List Int))) => [.val (.ref 1), .val (eI vmost), .val (eI vp4.1), .val (eI vp4.2.1), .mut (.lst (List.map (eT eI) vp4.2.2)), .any, .any, .any]) (ap_T (ht_op (ac_V hv_lit (ac_T (ht_call (ac_V (hv_var rfl) (ac_V (hv_var rfl) (ac_fn (fn_draw vmost))))) fun vx1 => (af_op (t_add _ _))))) (fun _ => rfl) fun vx2 => (ap_T1 (ht_call (ac_V (hv_var rfl) (ac_V hv_lit (ac_fn (fn_draw (5 : Int)))))) fun vx3 => (ap_New (hv_disp hv_nil (le_c rfl)) fun _ => (ap_three (lt_c rfl) (lt_c rfl) (lt_c rfl)))))) fun vp4 => (tr_seqN (tn_for (J := fun (vz5 : (List (List Int))) => [.val (.ref 1), .val (eI vmost), .val (eI vp4.1), .val (eI vp4.2.1), .mut (.lst (List.map (eT eI) vz5)), .any, .any, .any]) (z0 := vp4.2.2) (src_rng1 (ht_ofV (hv_var rfl))) (fun _ => (.same (.same (.same (.same (.same (.any (.any (.any .nil))))))))) (fun vx7 vz5 => (gt1_N 5 _)) (fun vx7 vz5 => (tn_seq (tn_asg (ht_frz (ht_compG (enc := eI) (c := (fun (vx9 : Int) => mbind (mpure (!decide (vx9 = vx7))) fun vb12 => if vb12 = true then mbind (mbind (midx ([(2 : Int), (5 : Int), (9 : Int), (7 : Int), (1 : Int)]) vp4.2.1) fun vx10 => draw vx10) fun vx11 => mpure (decide (vx11 = (0 : Int))) else mpure false)) (f := (fun (vx9 : Int) => mpure vx9)) (src_rng1 (ht_ofV (hv_var rfl))) rfl (fun vx9 => (gt1_N 7 _)) (by decide) (fun _ => (kp_of ⟨by decide, rfl, trivial⟩)) (fun vx9 => (ht_and (ht_ofV (enc := id) (hv_isB (hv_op (hv_var rfl) (hv_var rfl) (t_ne (e := eI) _ _ (by decide))))) (ht_isB (ht_op (ac_T (ht_call (ac_V (hv_var rfl) (ac_T (ht_op (ac_V (hv_frz (hv_disp (hv_cons hv_lit (hv_cons hv_lit (hv_cons hv_lit (hv_cons hv_lit (hv_cons hv_lit hv_nil))))) (le_c rfl))) (ac_V (hv_var rfl) (af_idxL (e := eI) ([(2 : Int), (5 : Int), (9 : Int), (7 : Int), (1 : Int)]) vp4.2.1)))) fun vx10 => (ac_fn (fn_draw vx10))))) fun vx11 => (ac_V hv_lit (af_op (enc := eB) (t_eq (e := eI) _ _ (by decide))))))))) (fun vx9 => (ht_ofV (hv_var rfl)))))) fun vown14 => (tn_seq (tn_if (J := fun (vz15 : (List Int)) => [.val (.ref 1), .val (eI vmost), .val (eI vp4.1), .val (eI vp4.2.1), .mut (.lst (List.map (eT eI) vz5)), .val (eI vx7), .val ((eL eI) vz15), .any]) (ht_ofV (enc := id) (hv_isB (hv_op (hv_var rfl) hv_lit (t_eq (e := eI) _ _ (by decide))))) (tn_map (f := fun (vown19 : (List Int)) => vown19) (tn_asg (ht_frz (ht_compV (enc := eI) (c := (fun (vx17 : Int) => ((!decide (vx17 = vx7)) && (!decide (vx17 ∈ vown14))))) (f := (fun (vx17 : Int) => vx17)) (src_rng1 (ht_ofV (hv_var rfl))) rfl (fun vx17 => (gt1_N 7 _)) (by decide) (fun _ => (kp_of ⟨by decide, rfl, trivial⟩)) (fun vx17 => (hv_and (hv_isB (hv_op (hv_var rfl) (hv_var rfl) (t_ne (e := eI) _ _ (by decide)))) (hv_isB (hv_op (hv_var rfl) (hv_var rfl) (t_ninL (e := eI) vx17 vown14 (by decide)))))) (fun vx17 => (hv_var rfl))))) (fun vown19 => (.same (.same (.same (.same (.same (.same (.same (.any .nil)))))))))) (tn_skip (.same (.same (.same (.same (.same (.same (.same (.any .nil)))))))))) fun vz15 => (tn_seq (tn_if (J := fun (vz21 : (List Int)) => [.val (.ref 1), .val (eI vmost), .val (eI vp4.1), .val (eI vp4.2.1), .mut (.lst (List.map (eT eI) vz5)), .val (eI vx7), .val ((eL eI) vz21), .any]) (ht_ofV (enc := id) (hv_and (hv_isB (hv_op (hv_var rfl) hv_lit (t_eq (e := eI) _ _ (by decide)))) (hv_isB (hv_op (hv_var rfl) hv_lit (t_gt _ _))))) (tn_map (f := fun (vown24 : (List Int)) => vown24) (tn_asg (ht_frz (ht_opL (ac_V (hv_var rfl) (ac_T (ht_frz (ht_disp (enc := fun (zs : List Int) => List.map eI zs) (ac_T (ht_op (ac_V (hv_op (hv_var rfl) hv_lit (t_add _ _)) (ac_V (hv_var rfl) (af_mod _ _)))) fun vx22 => (ac_ret fun _ => rfl)))) fun vx23 => (af_catL (e := eI) vz15 vx23)))))) (fun vown24 => (.same (.same (.same (.same (.same (.same (.same (.any .nil)))))))))) (tn_skip (.same (.same (.same (.same (.same (.same (.same (.any .nil)))))))))) fun vz21 => (tn_map (f := fun (vfound26 : (List (List Int))) => vfound26) (tn_drop (ht_append rfl (ht_b (ac_T (ht_frz (ht_sortSet iL (ht_frz (ht_opL (ac_V (hv_var rfl) (ac_V (hv_b (A := D) (hv_cons (hv_op (hv_var rfl) hv_lit (t_ne (e := eI) _ _ (by decide))) hv_nil) (t_intB _)) (af_repL (e := eI) vz21 (b2z (!decide (vp4.2.1 = (4 : Int))))))))))) fun vx28 => (af_b1 (enc := (eT eI)) (t_tupL (e := eI) _)))))) (fun vfound26 => (.same (.same (.same (.same (.same (.any (.any (.any .nil))))))))))))))) fun vz5 => (tr_fz rfl (tr_ret (ht_ofV (hv_b (A := D) (hv_cons (hv_var rfl) hv_nil) (t_tupL (e := (eT eI)) _)))))))
noncomputable def p__law_row (vn : Int) (vmost : Int) : Mt ST (List Int) := mbind (mbind (draw vn) fun vx1 => mbind (draw vn) fun vx2 => mbind (draw vn) fun vx3 => mpure [vx1, vx2, vx3]) fun vfew4 => mbind (draw (2 : Int)) fun vway5 => mbind (mbind (mbind (draw (vmost + (1 : Int))) fun vn6 => mrng (0 : Int) vn6) fun vxs12 => calmly (compM (fun (vx7 : Int) => true) (fun (vx7 : Int) => mbind (mbind (draw vn) fun vx9 => mbind (mbind (mmod vx7 (3 : Int)) fun vx8 => midx vfew4 vx8) fun vx10 => mpure [vx9, vx10]) fun vx11 => midx vx11 vway5) vxs12)) fun vx13 => mpure vx13
theorem fn__law_row (vn : Int) (vmost : Int) : FN (WO RDk) d__law_row [.ref 1, eI vn, eI vmost] (p__law_row vn vmost) (eT eI) := fnT_of (fun b => Pl.p b) rfl (le_c rfl) fun fr => (tr_seqN (tn_asg (ht_frz (ht_disp (enc := fun (zs : List Int) => List.map eI zs) (ac_T (ht_call (ac_V (hv_var rfl) (ac_V (hv_var rfl) (ac_fn (fn_draw vn))))) fun vx1 => (ac_T (ht_call (ac_V (hv_var rfl) (ac_V (hv_var rfl) (ac_fn (fn_draw vn))))) fun vx2 => (ac_T (ht_call (ac_V (hv_var rfl) (ac_V (hv_var rfl) (ac_fn (fn_draw vn))))) fun vx3 => (ac_ret fun _ => rfl))))))) fun vfew4 => (tr_seqN (tn_asg (ht_call (ac_V (hv_var rfl) (ac_V hv_lit (ac_fn (fn_draw (2 : Int))))))) fun vway5 => (tr_ret (ht_b (ac_T (ht_frz (ht_compM (enc := eI) (c := (fun (vx7 : Int) => true)) (f := (fun (vx7 : Int) => mbind (mbind (draw vn) fun vx9 => mbind (mbind (mmod vx7 (3 : Int)) fun vx8 => midx vfew4 vx8) fun vx10 => mpure [vx9, vx10]) fun vx11 => midx vx11 vway5)) (src_rng1 (ht_call (ac_V (hv_var rfl) (ac_V (hv_op (hv_var rfl) hv_lit (t_add _ _)) (ac_fn (fn_draw (vmost + (1 : Int)))))))) rfl (fun vx7 => (gt1_N 5 _)) (by decide) (fun _ => (kp_of trivial)) (fun vx7 => hv_yes) (fun vx7 => (ht_op (ac_T (ht_frz (ht_disp (enc := fun (zs : List Int) => List.map eI zs) (ac_T (ht_call (ac_V (hv_var rfl) (ac_V (hv_var rfl) (ac_fn (fn_draw vn))))) fun vx9 => (ac_T (ht_op (ac_V (hv_var rfl) (ac_T (ht_op (ac_V (hv_var rfl) (ac_V hv_lit (af_mod _ _)))) fun vx8 => (af_idxL (e := eI) vfew4 vx8)))) fun vx10 => (ac_ret fun _ => rfl))))) fun vx11 => (ac_V (hv_var rfl) (af_idxL (e := eI) vx11 vway5))))))) fun vx13 => (af_b1 (enc := (eT eI)) (t_tupL (e := eI) _)))))))
noncomputable def p_releasers_of {S : Type} (vpanel : (List (List Int))) (vbutton : Int) : Mt S (List Int) := mbind (mbind (mbind (mpure vpanel) fun vxs1 => mpure (enumZ 0 vxs1)) fun vxs3 => compV (fun (vx2 : (Int × (List Int))) => (decide (vbutton ∈ vx2.2))) (fun (vx2 : (Int × (List Int))) => vx2.1) vxs3) fun vx4 => mpure vx4
theorem fn_releasers_of {S : Type} {W : Wd S} (vpanel : (List (List Int))) (vbutton : Int) : FN W d_releasers_of [(eT (eT eI)) vpanel, eI vbutton] (p_releasers_of vpanel vbutton) (eT eI) := fnT_of (fun b => Pl.p b) rfl (le_c rfl) fun fr => (tr_ret (ht_b (ac_T (ht_frz (ht_compV (enc := eI) (c := (fun (vx2 : (Int × (List Int))) => (decide (vbutton ∈ vx2.2)))) (f := (fun (vx2 : (Int × (List Int))) => vx2.1)) (src_enum (sT (e := (eT eI))) (ht_ofV (hv_var rfl))) rfl (fun vx2 => (gt1_T (gts_cons (gt1_N 2 _) (gts_cons (gt1_N 3 _) gts_nil)) rfl)) (by decide) (fun _ => (kp_of trivial)) (fun vx2 => (hv_isB (hv_op (hv_var rfl) (hv_var rfl) (t_inT (e := eI) vbutton vx2.2 (by decide))))) (fun vx2 => (hv_var rfl)))) fun vx4 => (af_b1 (enc := (eT eI)) (t_tupL (e := eI) _)))))
noncomputable def p__law_apart {S : Type} (vpanel_here : (List (List Int))) : Mt S Int := mbind (mpure (([] : (List Int)), (0 : Int))) fun vp1 => mbind (mbind (mbind (mbind (mbind (mpure (vpanel_here.length : Int)) fun vn3 => mrng (0 : Int) vn3) fun vxs7 => calmly (compM (fun (vx4 : Int) => true) (fun (vx4 : Int) => mbind (mbind (p_releasers_of vpanel_here vx4) fun vx5 => mpure (vx5.length : Int)) fun vx6 => mpure (vx6, vx4)) vxs7)) fun vx8 => msort ltP2 vx8) fun vxs20 => forU (fun (vx9 : (Int × Int)) (vz2 : (List Int) × Int) => mbind (mbind (mbind (p_releasers_of vpanel_here vx9.2) fun vx10 => mpure vx10) fun vx11 => mcat vx11 ([vx9.2])) fun vown12 => mbind (mbind (mbind (mbind (mpure vown12) fun vxs14 => compV (fun (vx13 : Int) => (decide (vx13 ∈ vz2.1))) (fun (vx13 : Int) => (1 : Int)) vxs14) fun vx15 => mpure (decide (vx15 = ([] : (List Int))))) fun vb19 => if vb19 = true then (mbind (mbind (mcat vz2.1 vown12) fun vx17 => mpure (vx17, (vz2.2 + (1 : Int)))) fun vp18 => mpure (vp18.1, vp18.2)) else (mpure (vz2.1, vz2.2))) fun vz16 => mpure (vz16.1, vz16.2)) vxs20 (vp1.1, vp1.2)) fun vz2 => mpure vz2.2
theorem fn__law_apart {S : Type} {W : Wd S} (vpanel_here : (List (List Int))) : FN W d__law_apart [(eT (eT eI)) vpanel_here] (p__law_apart vpanel_here) eI := fnT_of (fun b => Pl.p b) rfl (le_c rfl) fun fr => (tr_seqN (tn_tup2 (J := fun (vp1 : (List Int) × Int) => [.val ((eT (eT eI)) vpanel_here), .val ((eL eI) vp1.1), .val (eI vp1.2), .any, .any, .any, .any]) (ap_V (hv_frz (hv_disp hv_nil (le_c rfl))) (ap_V hv_lit (ap_two (lt_c rfl) (lt_c rfl))))) fun vp1 => (tr_seqN (tn_for (J := fun (vz2 : (List Int) × Int) => [.val ((eT (eT eI)) vpanel_here), .val ((eL eI) vz2.1), .val (eI vz2.2), .any, .any, .any, .any]) (z0 := (vp1.1, vp1.2)) (src_seq (sL (e := (eP eI eI))) (ht_frz (ht_bL (ac_T (ht_frz (ht_compM (enc := (eP eI eI)) (c := (fun (vx4 : Int) => true)) (f := (fun (vx4 : Int) => mbind (mbind (p_releasers_of vpanel_here vx4) fun vx5 => mpure (vx5.length : Int)) fun vx6 => mpure (vx6, vx4))) (src_rng1 (ht_ofV (hv_b (A := D) (hv_cons (hv_var rfl) hv_nil) (t_lenT (e := (eT eI)) _)))) rfl (fun vx4 => (gt1_N 5 _)) (by decide) (fun _ => (kp_of trivial)) (fun vx4 => hv_yes) (fun vx4 => (ht_tup (ac_T (ht_b (ac_T (ht_call (ac_V (hv_var rfl) (ac_V (hv_var rfl) (ac_fn (fn_releasers_of vpanel_here vx4))))) fun vx5 => (af_b1 (enc := eI) (t_lenT (e := eI) _)))) fun vx6 => (ac_V (hv_var rfl) (ac_ret fun _ => rfl))))))) fun vx8 => (af_sortL (e := (eP eI eI)) (by decide) vx8))))) (fun _ => (.same (.same (.same (.any (.any (.any (.any .nil)))))))) (fun vx9 vz2 => (gt1_T (gts_cons (gt1_N 3 _) (gts_cons (gt1_N 4 _) gts_nil)) rfl)) (fun vx9 vz2 => (tn_seq (tn_asg (ht_frz (ht_opL (ac_T (ht_frz (ht_bL (ac_T (ht_call (ac_V (hv_var rfl) (ac_V (hv_var rfl) (ac_fn (fn_releasers_of vpanel_here vx9.2))))) fun vx10 => (af_b1 (enc := fun zs => List.map eI zs) (t_listT (e := eI) _))))) fun vx11 => (ac_V (hv_frz (hv_disp (hv_cons (hv_var rfl) hv_nil) (le_c rfl))) (af_catL (e := eI) vx11 ([vx9.2]))))))) fun vown12 => (tn_map (f := fun (vz16 : (List Int) × Int) => (vz16.1, vz16.2)) (tn_if (J := fun (vz16 : (List Int) × Int) => [.val ((eT (eT eI)) vpanel_here), .val ((eL eI) vz16.1), .val (eI vz16.2), .val (eI vx9.1), .val (eI vx9.2), .any, .val ((eL eI) vown12)]) (ht_isB (ht_op (ac_T (ht_frz (ht_compV (enc := eI) (c := (fun (vx13 : Int) => (decide (vx13 ∈ vz2.1)))) (f := (fun (vx13 : Int) => (1 : Int))) (src_seq (sL (e := eI)) (ht_ofV (hv_var rfl))) rfl (fun vx13 => (gt1_N 5 _)) (by decide) (fun _ => (kp_of trivial)) (fun vx13 => (hv_isB (hv_op (hv_var rfl) (hv_var rfl) (t_inL (e := eI) vx13 vz2.1 (by decide))))) (fun vx13 => hv_lit))) fun vx15 => (ac_V (hv_frz (hv_disp hv_nil (le_c rfl))) (af_op (enc := eB) (t_eq (e := (eL eI)) vx15 ([] : (List Int)) (by decide))))))) (tn_map (f := fun (vp18 : (List Int) × Int) => (vp18.1, vp18.2)) (tn_tup2 (J := fun (vp18 : (List Int) × Int) => [.val ((eT (eT eI)) vpanel_here), .val ((eL eI) vp18.1), .val (eI vp18.2), .val (eI vx9.1), .val (eI vx9.2), .any, .val ((eL eI) vown12)]) (ap_T (ht_frz (ht_opL (ac_V (hv_var rfl) (ac_V (hv_var rfl) (af_catL (e := eI) vz2.1 vown12))))) (fun _ => rfl) fun vx17 => (ap_V (hv_op (hv_var rfl) hv_lit (t_add _ _)) (ap_two (lt_c rfl) (lt_c rfl))))) (fun vp18 => (.same (.same (.same (.same (.same (.any (.same .nil))))))))) (tn_skip (.same (.same (.same (.same (.same (.any (.same .nil))))))))) (fun vz16 => (.same (.same (.same (.any (.any (.any (.any .nil)))))))))))) fun vz2 => (tr_ret (ht_ofV (hv_var rfl)))))
noncomputable def p_with_list {S : Type} (vpanel : (List (List Int))) (vbutton : Int) (vreleased : (List Int)) : Mt S (List (List Int)) := mbind (mbind (msort ltI vreleased) fun vx1 => mpure vx1) fun vx2 => mdisp ((cutD vpanel none (some vbutton)) ++ [vx2] ++ (cutD vpanel (some (vbutton + (1 : Int))) none))
theorem fn_with_list {S : Type} {W : Wd S} (vpanel : (List (List Int))) (vbutton : Int) (vreleased : (List Int)) : FN W d_with_list [(eT (eT eI)) vpanel, eI vbutton, (eL eI) vreleased] (p_with_list vpanel vbutton vreleased) (eT (eT eI)) := fnT_of (fun b => Pl.p b) rfl (le_c rfl) fun fr => (tr_ret (ht_tup (ac_starV (hv_slT (hv_var rfl) hv_oNone (hv_oSome (hv_var rfl))) (fun _ => rfl) (ac_T (ht_b (ac_T (ht_frz (ht_bL (ac_V (hv_var rfl) (af_sortL (e := eI) (by decide) vreleased)))) fun vx1 => (af_b1 (enc := (eT eI)) (t_tupL (e := eI) _)))) fun vx2 => (ac_starV (hv_slT (hv_var rfl) (hv_oSome (hv_op (hv_var rfl) hv_lit (t_add _ _))) hv_oNone) (fun _ => rfl) (af_tupE (e := (eT eI)) ((cutD vpanel none (some vbutton)) ++ [vx2] ++ (cutD vpanel (some (vbutton + (1 : Int))) none)) (by first | rfl | (simp only [List.map_append, List.map_cons, List.map_nil, List.append_nil, List.nil_append, List.append_assoc] <;> rfl))))))))
noncomputable def p_linked {S : Type} (vpanel : (List (List Int))) (vone : Int) (vother : Int) : Mt S (List (List Int)) := mbind (mbind (mbind (midx vpanel vone) fun vxs2 => compV (fun (vx1 : Int) => (!decide (vx1 = vother))) (fun (vx1 : Int) => vx1) vxs2) fun vx3 => mdisp (vx3 ++ [vother])) fun vx4 => p_with_list vpanel vone vx4
theorem fn_linked {S : Type} {W : Wd S} (vpanel : (List (List Int))) (vone : Int) (vother : Int) : FN W d_linked [(eT (eT eI)) vpanel, eI vone, eI vother] (p_linked vpanel vone vother) (eT (eT eI)) := fnT_of (fun b => Pl.p b) rfl (le_c rfl) fun fr => (tr_ret (ht_call (ac_V (hv_var rfl) (ac_V (hv_var rfl) (ac_T (ht_frz (ht_disp (ac_star (ht_frz (ht_compV (enc := eI) (c := (fun (vx1 : Int) => (!decide (vx1 = vother)))) (f := (fun (vx1 : Int) => vx1)) (src_seq (sT (e := eI)) (ht_op (ac_V (hv_var rfl) (ac_V (hv_var rfl) (af_idxT (e := (eT eI)) vpanel vone))))) rfl (fun vx1 => (gt1_N 3 _)) (by decide) (fun _ => (kp_of trivial)) (fun vx1 => (hv_isB (hv_op (hv_var rfl) (hv_var rfl) (t_ne (e := eI) _ _ (by decide))))) (fun vx1 => (hv_var rfl)))) (fun _ _ => rfl) fun vx3 => (ac_V (hv_var rfl) (af_dispE (e := eI) (vx3 ++ [vother]) (by first | rfl | (simp only [List.map_append, List.map_cons, List.map_nil, List.append_nil, List.nil_append, List.append_assoc] <;> rfl))))))) fun vx4 => (ac_fn (fn_with_list vpanel vone vx4)))))))
noncomputable def p_unlinked {S : Type} (vpanel : (List (List Int))) (vone : Int) (vother : Int) : Mt S (List (List Int)) := mbind (mbind (midx vpanel vone) fun vxs2 => compV (fun (vx1 : Int) => (!decide (vx1 = vother))) (fun (vx1 : Int) => vx1) vxs2) fun vx3 => p_with_list vpanel vone vx3
theorem fn_unlinked {S : Type} {W : Wd S} (vpanel : (List (List Int))) (vone : Int) (vother : Int) : FN W d_unlinked [(eT (eT eI)) vpanel, eI vone, eI vother] (p_unlinked vpanel vone vother) (eT (eT eI)) := fnT_of (fun b => Pl.p b) rfl (le_c rfl) fun fr => (tr_ret (ht_call (ac_V (hv_var rfl) (ac_V (hv_var rfl) (ac_T (ht_frz (ht_compV (enc := eI) (c := (fun (vx1 : Int) => (!decide (vx1 = vother)))) (f := (fun (vx1 : Int) => vx1)) (src_seq (sT (e := eI)) (ht_op (ac_V (hv_var rfl) (ac_V (hv_var rfl) (af_idxT (e := (eT eI)) vpanel vone))))) rfl (fun vx1 => (gt1_N 3 _)) (by decide) (fun _ => (kp_of trivial)) (fun vx1 => (hv_isB (hv_op (hv_var rfl) (hv_var rfl) (t_ne (e := eI) _ _ (by decide))))) (fun vx1 => (hv_var rfl)))) fun vx3 => (ac_fn (fn_with_list vpanel vone vx3)))))))
noncomputable def p__law_links_right (vpanel_here : (List (List Int))) (vmany : Int) : Mt ST Bool := mbind (mbind (draw (vpanel_here.length : Int)) fun vx1 => mbind (draw (vpanel_here.length : Int)) fun vx2 => mpure (vx1, vx2)) fun vp3 => mbind (mpure (decide (vp3.1 = vp3.2))) fun vb4 => if vb4 = true then (mpure true) else (mbind (mbind (mbind (mbind (p_linked vpanel_here vp3.1 vp3.2) fun vx5 => p_shortest_reset vx5) fun vx6 => mpure (vx6.length : Int)) fun vx9 => mbind (mbind (mbind (p_unlinked vpanel_here vp3.1 vp3.2) fun vx7 => p_shortest_reset vx7) fun vx8 => mpure (vx8.length : Int)) fun vx10 => mpure (vx9, vx10)) fun vp11 => mpure (decide ((vmany - (1 : Int)) ≤ vp11.1) && (decide (vp11.1 ≤ vmany) && (decide (vmany ≤ vp11.2) && decide (vp11.2 ≤ (vmany + (1 : Int)))))))
theorem fn__law_links_right (vpanel_here : (List (List Int))) (vmany : Int) : FN (WO RDk) d__law_links_right [.ref 1, (eT (eT eI)) vpanel_here, eI vmany] (p__law_links_right vpanel_here vmany) eB := fnT_of (fun b => Pl.p b) rfl (le_c rfl) fun fr => (tr_seqN (tn_par (J := fun (vp3 : Int × Int) => [.val (.ref 1), .val ((eT (eT eI)) vpanel_here), .val (eI vmany), .val (eI vp3.1), .val (eI vp3.2), .any, .any]) (ap_T (ht_call (ac_V (hv_var rfl) (ac_V (hv_b (A := D) (hv_cons (hv_var rfl) hv_nil) (t_lenT (e := (eT eI)) _)) (ac_fn (fn_draw (vpanel_here.length : Int)))))) (fun _ => rfl) fun vx1 => (ap_T1 (ht_call (ac_V (hv_var rfl) (ac_V (hv_b (A := D) (hv_cons (hv_var rfl) hv_nil) (t_lenT (e := (eT eI)) _)) (ac_fn (fn_draw (vpanel_here.length : Int)))))) fun vx2 => (ap_two (lt_c rfl) (lt_c rfl))))) fun vp3 => (tr_ifseq (ht_ofV (enc := id) (hv_isB (hv_op (hv_var rfl) (hv_var rfl) (t_eq (e := eI) _ _ (by decide))))) (tr_seqR (tr_ret (ht_ofV hv_lit))) (tr_nextR (tr_seqN (tn_par (J := fun (vp11 : Int × Int) => [.val (.ref 1), .val ((eT (eT eI)) vpanel_here), .val (eI vmany), .val (eI vp3.1), .val (eI vp3.2), .val (eI vp11.1), .val (eI vp11.2)]) (ap_T (ht_b (ac_T (ht_call (ac_T (ht_call (ac_V (hv_var rfl) (ac_V (hv_var rfl) (ac_V (hv_var rfl) (ac_fn (fn_linked vpanel_here vp3.1 vp3.2)))))) fun vx5 => (ac_fn (fn_shortest_reset vx5)))) fun vx6 => (af_b1 (enc := eI) (t_lenT (e := eI) _)))) (fun _ => rfl) fun vx9 => (ap_T1 (ht_b (ac_T (ht_call (ac_T (ht_call (ac_V (hv_var rfl) (ac_V (hv_var rfl) (ac_V (hv_var rfl) (ac_fn (fn_unlinked vpanel_here vp3.1 vp3.2)))))) fun vx7 => (ac_fn (fn_shortest_reset vx7)))) fun vx8 => (af_b1 (enc := eI) (t_lenT (e := eI) _)))) fun vx10 => (ap_two (lt_c rfl) (lt_c rfl))))) fun vp11 => (tr_ret (ht_ofV (hv_chn (hv_op (hv_var rfl) hv_lit (t_sub _ _)) (hvc_cons (hv_var rfl) (t_le _ _) (hvc_cons (hv_var rfl) (t_le _ _) (hvc_cons (hv_var rfl) (t_le _ _) (hvc_one (hv_op (hv_var rfl) hv_lit (t_add _ _)) (t_le _ _))))))))))))
noncomputable def p_renamed {S : Type} (vpanel : (List (List Int))) (vnames : (List Int)) : Mt S (List (List Int)) := mbind (mrepL ([([] : (List Int))]) (vpanel.length : Int)) fun vfound1 => mbind (mbind (mbind (mpure vpanel) fun vxs3 => mpure (enumZ 0 vxs3)) fun vxs12 => forU (fun (vx4 : (Int × (List Int))) (vz2 : (List (List Int))) => mbind (mbind (mbind (mbind (mbind (mpure vx4.2) fun vxs6 => calmly (compM (fun (vx5 : Int) => true) (fun (vx5 : Int) => midx vnames vx5) vxs6)) fun vx7 => msort ltI vx7) fun vx8 => mpure vx8) fun vx9 => calmly (mbind (midx vnames vx4.1) fun vj10 => msetI vz2 vj10 vx9)) fun vfound11 => mpure vfound11) vxs12 vfound1) fun vz2 => mpure vz2
theorem fn_renamed {S : Type} {W : Wd S} (vpanel : (List (List Int))) (vnames : (List Int)) : FN W d_renamed [(eT (eT eI)) vpanel, (eT eI) vnames] (p_renamed vpanel vnames) (eT (eT eI)) := fnT_of (fun b => Pl.p b) rfl (le_c rfl) fun fr => (tr_seqN (tn_new (ht_opL (ac_V (hv_frz (hv_disp (hv_cons (hv_tup hv_nil (le_c rfl)) hv_nil) (le_c rfl))) (ac_V (hv_b (A := D) (hv_cons (hv_var rfl) hv_nil) (t_lenT (e := (eT eI)) _)) (af_repL (e := (eT eI)) ([([] : (List Int))]) (vpanel.length : Int)))))) fun vfound1 => (tr_seqN (tn_for (J := fun (vz2 : (List (List Int))) => [.val ((eT (eT eI)) vpanel), .val ((eT eI) vnames), .mut (.lst (List.map (eT eI) vz2)), .any, .any, .any]) (z0 := vfound1) (src_enum (sT (e := (eT eI))) (ht_ofV (hv_var rfl))) (fun _ => (.same (.same (.same (.any (.any (.any .nil))))))) (fun vx4 vz2 => (gt1_T (gts_cons (gt1_N 3 _) (gts_cons (gt1_N 4 _) gts_nil)) rfl)) (fun vx4 vz2 => (tn_map (f := fun (vfound11 : (List (List Int))) => vfound11) (tn_setitem rfl (ht_b (ac_T (ht_frz (ht_bL (ac_T (ht_frz (ht_compM (enc := eI) (c := (fun (vx5 : Int) => true)) (f := (fun (vx5 : Int) => midx vnames vx5)) (src_seq (sT (e := eI)) (ht_ofV (hv_var rfl))) rfl (fun vx5 => (gt1_N 5 _)) (by decide) (fun _ => (kp_of ⟨by decide, rfl, trivial⟩)) (fun vx5 => hv_yes) (fun vx5 => (ht_op (ac_V (hv_var rfl) (ac_V (hv_var rfl) (af_idxT (e := eI) vnames vx5))))))) fun vx7 => (af_sortL (e := eI) (by decide) vx7)))) fun vx8 => (af_b1 (enc := (eT eI)) (t_tupL (e := eI) _)))) (ht_op (ac_V (hv_var rfl) (ac_V (hv_var rfl) (af_idxT (e := eI) vnames vx4.1))))) (fun vfound11 => (.same (.same (.same (.any (.any (.any .nil)))))))))) fun vz2 => (tr_fz rfl (tr_ret (ht_ofV (hv_b (A := D) (hv_cons (hv_var rfl) hv_nil) (t_tupL (e := (eT eI)) _)))))))
noncomputable def p__law_names_right (vpanel_here : (List (List Int))) (vmany : Int) : Mt ST Bool := mbind (mbind (mbind (mpure (vpanel_here.length : Int)) fun vn1 => mrngL (0 : Int) vn1) fun vx2 => mpure (vx2, ([] : (List Int)))) fun vp3 => mbind (whileU (fun (vz4 : (List Int) × (List Int)) => mpure (!decide (vz4.2 = ([] : (List Int))))) (fun (vz4 : (List Int) × (List Int)) => mbind (mbind (mbind (draw (vz4.2.length : Int)) fun vk7 => mpopIx vz4.2 vk7) fun vx8 => mbind (mapp vz4.1 vx8.1) fun vw9 => mpure (vw9, vx8)) fun vnames5 => mpure (vnames5.1, vnames5.2.2)) 1000 (vp3.2, vp3.1)) fun vz4 => mbind (mbind (p_renamed vpanel_here vz4.1) fun vx10 => p_shortest_reset vx10) fun vfound11 => mbind (mbind (mbind (mpure vfound11) fun vxs14 => calmly (compM (fun (vx12 : Int) => true) (fun (vx12 : Int) => mbind (mpure vx12) fun vy13 => mindexI vz4.1 vy13) vxs14)) fun vx15 => mpure vx15) fun vback16 => mbind (mpure (decide ((vfound11.length : Int) = vmany))) fun vb18 => if vb18 = true then mbind (p_is_reset vpanel_here vback16) fun vx17 => mpure ((vx17 == true)) else mpure false
theorem fn__law_names_right (vpanel_here : (List (List Int))) (vmany : Int) : FN (WO RDk) d__law_names_right [.ref 1, (eT (eT eI)) vpanel_here, eI vmany] (p__law_names_right vpanel_here vmany) eB := fnT_of (fun b => Pl.p b) rfl (le_c rfl) fun fr => (tr_seqN (tn_tup2 (J := fun (vp3 : (List Int) × (List Int)) => [.val (.ref 1), .val ((eT (eT eI)) vpanel_here), .val (eI vmany), .mut (.lst (List.map eI vp3.1)), .mut (.lst (List.map eI vp3.2)), .any, .any, .any]) (ap_NewT0 (ht_lstRg (ht_ofV (hv_b (A := D) (hv_cons (hv_var rfl) hv_nil) (t_lenT (e := (eT eI)) _)))) fun vx2 _ => (ap_New (hv_disp hv_nil (le_c rfl)) fun _ => (ap_two (lt_c rfl) (lt_c rfl))))) fun vp3 => (tr_seqN (tn_while (J := fun (vz4 : (List Int) × (List Int)) => [.val (.ref 1), .val ((eT (eT eI)) vpanel_here), .val (eI vmany), .mut (.lst (List.map eI vz4.2)), .mut (.lst (List.map eI vz4.1)), .any, .any, .any]) (z0 := (vp3.2, vp3.1)) (.same (.same (.same (.same (.same (.any (.any (.any .nil)))))))) (fun vz4 => (ht_ofV (enc := id) (hv_isB (hv_opM1 rfl (hv_frz (hv_disp hv_nil (le_c rfl))) (fun _ _ h => dr_ne1 h) (t_ne (e := (eL eI)) vz4.2 ([] : (List Int)) (by decide)))))) (fun vz4 => (tn_map (f := fun (vnames5 : (List Int) × Int × (List Int)) => (vnames5.1, vnames5.2.2)) (tn_drop (ht_appendZ (Γ := [.val (.ref 1), .val ((eT (eT eI)) vpanel_here), .val (eI vmany), .mut (.lst (List.map eI vz4.2)), .mut (.lst (List.map eI vz4.1)), .any, .any, .any]) (e := eI) (xs := vz4.1) (i := 4) (f := fun (z_ : Int × List Int) => z_.1) (Γ' := fun (z_ : Int × List Int) => [.val (.ref 1), .val ((eT (eT eI)) vpanel_here), .val (eI vmany), .mut (.lst (List.map eI z_.2)), .mut (.lst (List.map eI vz4.1)), .any, .any, .any]) rfl (ht_popIx rfl (ht_call (ac_V (hv_var rfl) (ac_V (hv_bM rfl (fun _ _ h => dr_len h) (t_lenL (e := eI) _)) (ac_fn (fn_draw (vz4.2.length : Int))))))) (fun _ => rfl))) (fun vnames5 => (.same (.same (.same (.same (.same (.any (.any (.any .nil)))))))))))) fun vz4 => (tr_fz rfl (tr_seqN (tn_asg (ht_call (ac_T (ht_call (ac_V (hv_var rfl) (ac_V (hv_b (A := D) (hv_cons (hv_var rfl) hv_nil) (t_tupL (e := eI) _)) (ac_fn (fn_renamed vpanel_here vz4.1))))) fun vx10 => (ac_fn (fn_shortest_reset vx10))))) fun vfound11 => (tr_seqN (tn_asg (ht_b (ac_T (ht_frz (ht_compM (enc := eI) (c := (fun (vx12 : Int) => true)) (f := (fun (vx12 : Int) => mbind (mpure vx12) fun vy13 => mindexI vz4.1 vy13)) (src_seq (sT (e := eI)) (ht_ofV (hv_var rfl))) rfl (fun vx12 => (gt1_N 7 _)) (by decide) (fun _ => (kp_of ⟨by decide, rfl, trivial⟩)) (fun vx12 => hv_yes) (fun vx12 => (ht_indexL (hv_var rfl) (ht_ofV (hv_var rfl)))))) fun vx15 => (af_b1 (enc := (eT eI)) (t_tupL (e := eI) _))))) fun vback16 => (tr_ret (ht_andV (ht_ofV (hv_op (hv_b (A := D) (hv_cons (hv_var rfl) hv_nil) (t_lenT (e := eI) _)) (hv_var rfl) (t_eq (e := eI) _ _ (by decide)))) (ht_op (ac_T (ht_call (ac_V (hv_var rfl) (ac_V (hv_var rfl) (ac_fn (fn_is_reset vpanel_here vback16))))) fun vx17 => (ac_V hv_lit (af_op (enc := eB) (t_isB _ _))))))))))))
noncomputable def p_law : Mt ST Bool := mfin (mbind (mbind (mpure (4 : Int)) fun vn2 => mrng (0 : Int) vn2) fun vxs39 => forX (fun (vx3 : Int) (vz1 : Unit) => mbind (mbind (midx ([(10 : Int), (8 : Int), (6 : Int), (5 : Int)]) vx3) fun vx4 => p__law_panel vx4) fun vpanel_here5 => mbind (p_shortest_reset vpanel_here5) fun vfound6 => mbind (mbind (mbind (p_is_reset vpanel_here5 vfound6) fun vx7 => mpure ((!(vx7 == true)))) fun vb10 => if vb10 = true then mpure true else mbind (mbind (p__law_apart vpanel_here5) fun vx8 => mpure (decide (vx8 ≤ (vfound6.length : Int)))) fun vb9 => mpure (!vb9)) fun vb11 => if vb11 = true then (mbind (mpure false) fun vr12 => mpure (.rt vr12)) else (mfinL (mbind (mbind (mpure (vfound6.length : Int)) fun vn14 => mrng (0 : Int) vn14) fun vxs20 => forX (fun (vx15 : Int) (vz13 : Unit) => mbind (mbind (mbind (mcat (cutD vfound6 none (some vx15)) (cutD vfound6 (some (vx15 + (1 : Int))) none)) fun vx16 => p_is_reset vpanel_here5 vx16) fun vx17 => mpure vx17) fun vb18 => if vb18 = true then (mbind (mpure false) fun vr19 => mpure (.rt vr19)) else (mpure (.nx ()))) vxs20 ()) fun vz13 => mfinL (mbind (mbind (mpure (6 : Int)) fun vn22 => mrng (0 : Int) vn22) fun vxs31 => forX (fun (vx23 : Int) (vz21 : Unit) => mbind (mbind (mbind (mbind (p__law_row (vpanel_here5.length : Int) (60 : Int)) fun vx24 => mbind (mpure none) fun vlo25 => mbind (mpure (some ((vfound6.length : Int) - (1 : Int)))) fun vhi26 => mpure (cutD vx24 vlo25 vhi26)) fun vx27 => p_is_reset vpanel_here5 vx27) fun vx28 => mpure vx28) fun vb29 => if vb29 = true then (mbind (mpure false) fun vr30 => mpure (.rt vr30)) else (mpure (.nx ()))) vxs31 ()) fun vz21 => mbind (mbind (mbind (mbind (p__law_links_right vpanel_here5 (vfound6.length : Int)) fun vx32 => mpure vx32) fun vb33 => mpure (!vb33)) fun vb36 => if vb36 = true then mpure true else mbind (mbind (p__law_names_right vpanel_here5 (vfound6.length : Int)) fun vx34 => mpure vx34) fun vb35 => mpure (!vb35)) fun vb37 => if vb37 = true then (mbind (mpure false) fun vr38 => mpure (.rt vr38)) else (mpure (.nx ())))) vxs39 ()) fun vz1 => mbind (mbind (p__law_panel (5 : Int)) fun vx40 => mbind (p__law_panel (5 : Int)) fun vx41 => mpure (vx40, vx41)) fun vp42 => mbind (mbind (mbind (p_beside [vp42.1, vp42.2]) fun vx43 => p_shortest_reset vx43) fun vx44 => mpure (vx44.length : Int)) fun vx49 => mbind (mbind (mbind (p_shortest_reset vp42.1) fun vx45 => mpure (vx45.length : Int)) fun vx47 => mbind (mbind (p_shortest_reset vp42.2) fun vx46 => mpure (vx46.length : Int)) fun vx48 => mpure (vx47 + vx48)) fun vx50 => mpure (decide (vx49 = vx50))
theorem tr_law (fr : Sto) : TR (WO RDk) fr [.any, .val (.ref 1), .any, .any, .any, .any, .any, .any] rest_law_1 p_law eB := (tr_seqF (J := _) (tf_for (J := fun (vz1 : Unit) => [.any, .val (.ref 1), .any, .any, .any, .any, .any, .any]) (z0 := ()) (src_rng1 (ht_ofV hv_lit)) (fun _ => (.any (.same (.any (.any (.any (.any (.any (.any .nil))))))))) (fun vx3 vz1 => (gt1_N 2 _)) (fun vx3 vz1 => (tl_seqN (tn_asg (ht_call (ac_V (hv_var rfl) (ac_T (ht_op (ac_V (hv_frz (hv_disp (hv_cons hv_lit (hv_cons hv_lit (hv_cons hv_lit (hv_cons hv_lit hv_nil)))) (le_c rfl))) (ac_V (hv_var rfl) (af_idxL (e := eI) ([(10 : Int), (8 : Int), (6 : Int), (5 : Int)]) vx3)))) fun vx4 => (ac_fn (fn__law_panel vx4)))))) fun vpanel_here5 => (tl_seqN (tn_asg (ht_call (ac_V (hv_var rfl) (ac_fn (fn_shortest_reset vpanel_here5))))) fun vfound6 => (tl_ifseq (ht_or (ht_isB (ht_op (ac_T (ht_call (ac_V (hv_var rfl) (ac_V (hv_var rfl) (ac_fn (fn_is_reset vpanel_here5 vfound6))))) fun vx7 => (ac_V hv_lit (af_op (enc := eB) (t_isNotB _ _)))))) (ht_not (ht_isB (ht_op (ac_T (ht_call (ac_V (hv_var rfl) (ac_fn (fn__law_apart vpanel_here5)))) fun vx8 => (ac_V (hv_b (A := D) (hv_cons (hv_var rfl) hv_nil) (t_lenT (e := eI) _)) (af_op (enc := eB) (t_le _ _)))))))) (tl_seqX (tx_ofR (tr_ret (ht_ofV hv_lit)))) (tl_nextR (tl_seqF (tf_for (J := fun (vz13 : Unit) => [.any, .val (.ref 1), .val (eI vx3), .val ((eT (eT eI)) vpanel_here5), .val ((eT eI) vfound6), .any, .any, .any]) (z0 := ()) (src_rng1 (ht_ofV (hv_b (A := D) (hv_cons (hv_var rfl) hv_nil) (t_lenT (e := eI) _)))) (fun _ => (.any (.same (.same (.same (.same (.any (.any (.any .nil))))))))) (fun vx15 vz13 => (gt1_N 5 _)) (fun vx15 vz13 => (tl_if (ht_tru (ht_call (ac_V (hv_var rfl) (ac_T (ht_op (ac_V (hv_slT (hv_var rfl) hv_oNone (hv_oSome (hv_var rfl))) (ac_V (hv_slT (hv_var rfl) (hv_oSome (hv_op (hv_var rfl) hv_lit (t_add _ _))) hv_oNone) (af_catT (e := eI) (cutD vfound6 none (some vx15)) (cutD vfound6 (some (vx15 + (1 : Int))) none))))) fun vx16 => (ac_fn (fn_is_reset vpanel_here5 vx16))))) (fun x => tr_B x)) (tl_ofX (tx_ofR (tr_ret (ht_ofV hv_lit)))) (tl_nextR (tl_next (.any (.same (.same (.same (.same (.any (.any (.any .nil))))))))))))) fun vz13 => (tl_seqF (tf_for (J := fun (vz21 : Unit) => [.any, .val (.ref 1), .val (eI vx3), .val ((eT (eT eI)) vpanel_here5), .val ((eT eI) vfound6), .any, .any, .any]) (z0 := ()) (src_rng1 (ht_ofV hv_lit)) (fun _ => (.any (.same (.same (.same (.same (.any (.any (.any .nil))))))))) (fun vx23 vz21 => (gt1_N 5 _)) (fun vx23 vz21 => (tl_if (ht_tru (ht_call (ac_V (hv_var rfl) (ac_T (ht_slT (ht_call (ac_V (hv_var rfl) (ac_V (hv_b (A := D) (hv_cons (hv_var rfl) hv_nil) (t_lenT (e := (eT eI)) _)) (ac_V hv_lit (ac_fn (fn__law_row (vpanel_here5.length : Int) (60 : Int))))))) (ht_ofV (enc := id) hv_oNone) (ht_ofV (enc := id) (hv_oSome (hv_op (hv_b (A := D) (hv_cons (hv_var rfl) hv_nil) (t_lenT (e := eI) _)) hv_lit (t_sub _ _))))) fun vx27 => (ac_fn (fn_is_reset vpanel_here5 vx27))))) (fun x => tr_B x)) (tl_ofX (tx_ofR (tr_ret (ht_ofV hv_lit)))) (tl_nextR (tl_next (.any (.same (.same (.same (.same (.any (.any (.any .nil))))))))))))) fun vz21 => (tl_if (ht_or (ht_not (ht_tru (ht_call (ac_V (hv_var rfl) (ac_V (hv_var rfl) (ac_V (hv_b (A := D) (hv_cons (hv_var rfl) hv_nil) (t_lenT (e := eI) _)) (ac_fn (fn__law_links_right vpanel_here5 (vfound6.length : Int))))))) (fun x => tr_B x))) (ht_not (ht_tru (ht_call (ac_V (hv_var rfl) (ac_V (hv_var rfl) (ac_V (hv_b (A := D) (hv_cons (hv_var rfl) hv_nil) (t_lenT (e := eI) _)) (ac_fn (fn__law_names_right vpanel_here5 (vfound6.length : Int))))))) (fun x => tr_B x)))) (tl_ofX (tx_ofR (tr_ret (ht_ofV hv_lit)))) (tl_nextR (tl_next (.any (.same (.any (.any (.any (.any (.any (.any .nil))))))))))))))))))) fun vz1 => (tr_seqN (tn_par (J := fun (vp42 : (List (List Int)) × (List (List Int))) => [.any, .val (.ref 1), .any, .any, .any, .any, .val ((eT (eT eI)) vp42.1), .val ((eT (eT eI)) vp42.2)]) (ap_T (ht_call (ac_V (hv_var rfl) (ac_V hv_lit (ac_fn (fn__law_panel (5 : Int)))))) (fun _ => rfl) fun vx40 => (ap_T1 (ht_call (ac_V (hv_var rfl) (ac_V hv_lit (ac_fn (fn__law_panel (5 : Int)))))) fun vx41 => (ap_two (lt_c rfl) (lt_c rfl))))) fun vp42 => (tr_ret (ht_op (ac_T (ht_b (ac_T (ht_call (ac_T (ht_call (ac_V (hv_var rfl) (ac_V (hv_var rfl) (ac_fn (fnV (fn_beside [vp42.1, vp42.2]) (by show 2 ≤ SZ; decide)))))) fun vx43 => (ac_fn (fn_shortest_reset vx43)))) fun vx44 => (af_b1 (enc := eI) (t_lenT (e := eI) _)))) fun vx49 => (ac_T (ht_op (ac_T (ht_b (ac_T (ht_call (ac_V (hv_var rfl) (ac_fn (fn_shortest_reset vp42.1)))) fun vx45 => (af_b1 (enc := eI) (t_lenT (e := eI) _)))) fun vx47 => (ac_T (ht_b (ac_T (ht_call (ac_V (hv_var rfl) (ac_fn (fn_shortest_reset vp42.2)))) fun vx46 => (af_b1 (enc := eI) (t_lenT (e := eI) _)))) fun vx48 => (af_op (t_add _ _))))) fun vx50 => (af_op (enc := eB) (t_eq (e := eI) _ _ (by decide)))))))))
section
variable {α β σ : Type}
theorem runs_b {N n : Nat} {q : Mt ST α} {k : α → Mt ST β} {Q : α → Prop} {R : β → Prop} (h : Runs n q Q) (hn : n ≤ N) (hk : ∀ a, Q a → Runs (N - n) (k a) R) : Runs N (mbind q k) R :=
  runs_le (runs_bind h hk) (by omega)
theorem runs_d {N : Nat} {m : Int} {k : Int → Mt ST β} {R : β → Prop} (h1 : 1 ≤ m) (h2 : m < 1073741824) (hn : 1 ≤ N) (hk : ∀ a, 0 ≤ a → a < m → Runs (N - 1) (k a) R) : Runs N (mbind (draw m) k) R :=
  runs_b (runs_draw h1 h2) hn fun a ha => hk a ha.1 ha.2
theorem runs_p {N : Nat} {a : α} {Q : α → Prop} (h : Q a) : Runs N (mpure a) Q := runs_le (runs_pure h) (Nat.zero_le _)
theorem runs_forL {N c : Nat} {body : α → σ → Mt ST σ} (I : List α → σ → Prop) {xs : List α} {z : σ} {k : σ → Mt ST β} {R : β → Prop} (h : I [] z) (hn : xs.length * c ≤ N) (hb : ∀ pre x post z, xs = pre ++ x :: post → I pre z → Runs c (body x z) (I (pre ++ [x]))) (hk : ∀ z, I xs z → Runs (N - xs.length * c) (k z) R) : Runs N (mbind (forU body xs z) k) R :=
  runs_b (runs_for I h hb) hn hk
theorem runs_fin {N c : Nat} {body : α → σ → Mt ST (Lp σ β)} (I : σ → Prop) {xs : List α} {z : σ} {k : σ → Mt ST β} {R : β → Prop} (h : I z) (hn : xs.length * c ≤ N) (hb : ∀ x ∈ xs, ∀ z, I z → Runs c (body x z) fun r => ∃ z', r = .nx z' ∧ I z') (hk : ∀ z, I z → Runs (N - xs.length * c) (k z) R) : Runs N (mfin (forX body xs z) k) R := by
  unfold mfin
  refine runs_b (runs_forX I xs z h hb) hn ?_
  rintro r ⟨z', rfl, hz⟩
  exact hk z' hz
theorem runs_finL {γ : Type} {N c : Nat} {body : α → σ → Mt ST (Lp σ β)} (I : σ → Prop) {xs : List α} {z : σ} {k : σ → Mt ST (Lp γ β)} {R : Lp γ β → Prop} (h : I z) (hn : xs.length * c ≤ N) (hb : ∀ x ∈ xs, ∀ z, I z → Runs c (body x z) fun r => ∃ z', r = .nx z' ∧ I z') (hk : ∀ z, I z → Runs (N - xs.length * c) (k z) R) : Runs N (mfinL (forX body xs z) k) R := by
  unfold mfinL
  refine runs_b (runs_forX I xs z h hb) hn ?_
  rintro r ⟨z', rfl, hz⟩
  exact hk z' hz
end
theorem mfin_bind {S β σ ω : Type} (q : Mt S ω) (l : ω → Mt S (σ ⊕ β)) (k : σ → Mt S β) : mfin (mbind q l) k = mbind q fun a => mfin (l a) k := by
  unfold mfin
  rw [mbind_assoc]
theorem mfinL_bind {S β σ τ ω : Type} (q : Mt S ω) (l : ω → Mt S (σ ⊕ β)) (k : σ → Mt S (Lp τ β)) : mfinL (mbind q l) k = mbind q fun a => mfinL (l a) k := by
  unfold mfinL
  rw [mbind_assoc]
theorem perm_erase {α : Type} : ∀ (l : List α) (i : Nat) (h : i < l.length), (l[i] :: l.eraseIdx i).Perm l
  | x :: l, 0, _ => List.Perm.refl _
  | x :: l, i + 1, h => (List.Perm.swap _ _ _).trans ((perm_erase l i (by simpa using h)).cons x)
def EndsR {S α : Type} (r : Rs S α) (Q : α → S → Prop) : Prop := match r with
  | .ok a s => Q a s
  | .amb P f => ∀ n, P n → EndsR (f n) Q
  | _ => False
theorem ends_mono {S α : Type} {r : Rs S α} {Q R : α → S → Prop} (h : EndsR r Q) (hq : ∀ a s, Q a s → R a s) : EndsR r R := by
  induction r with
  | ok a s => exact hq a s h
  | exc x s => exact (h : False).elim
  | bad => exact (h : False).elim
  | amb P f ih => exact fun n p => ih n (h n p)
abbrev Hpo := Nat → Option MO
def RunH {α : Type} (n : Nat) (m : Hpo) (q : Mt ST α) (Q : α → Hpo → Prop) : Prop := ∀ s : ST, s.m = m → s.k + n ≤ 10000000 → EndsR (q s) fun a s' => s'.k ≤ s.k + n ∧ Q a s'.m
section
variable {α β σ : Type} {m : Hpo}
theorem rh_mono {n n' : Nat} {q : Mt ST α} {Q R : α → Hpo → Prop} (h : RunH n m q Q) (hn : n ≤ n') (hq : ∀ a m', Q a m' → R a m') : RunH n' m q R := fun s e hs => ends_mono (h s e (by omega)) fun a s1 ⟨h1, ha⟩ => ⟨by omega, hq a _ ha⟩
theorem rh_r {n : Nat} {q : Mt ST α} {Q : α → Prop} (h : Runs n q Q) : RunH n m q fun a m' => m' = m ∧ Q a := fun s e hs => by
  obtain ⟨a, s', e1, ⟨h1, h2⟩, ha⟩ := h s hs
  rw [e1]
  exact ⟨h1, h2.trans e, ha⟩
end
theorem has_nil {c : List Int} {k : Nat} (g : Good c ∧ c.length ≤ 63) : HasO (RDk.lend []) (⟨⟨(c, k), g⟩, fun _ => none⟩ : ST) (dk c k []) := by
  refine ⟨rfl, rfl, fun l o e => (nomatch e), fun l n fs e => ?_, fun k' n fs f l e i => ?_, fun l q => absurd q List.not_mem_nil, fun l q => absurd q List.not_mem_nil⟩
  · match l, e with
    | 0, e => exact (nomatch Option.some.inj e)
    | 1, e => exact (nomatch Option.some.inj e)
    | l + 2, e => exact (nomatch e)
  · match k', e with
    | 0, e => exact (nomatch Option.some.inj e)
    | 1, e => exact (nomatch Option.some.inj e)
    | k' + 2, e => exact (nomatch e)
theorem rr_ends {α : Type} {fr : Sto} {enc : α → D} {r : Fl} {q : Rs ST α} {Q : α → ST → Prop} (h : RR (WO (RDk.lend [])) fr enc r q) (e : EndsR q Q) : ∃ b s' st', r = .ret (enc b) st' ∧ Q b s' := by
  induction q with
  | ok b s' =>
    obtain ⟨st', e1, _⟩ := h
    exact ⟨b, s', st', e1, e⟩
  | exc x s => exact (e : False).elim
  | bad => exact (e : False).elim
  | amb P f ih =>
    obtain ⟨n, p, h⟩ := h
    exact ih n h (e n p)
theorem law_end {c : Nat} {nN : Nat} {rest : Rho → Sto → Fl} {p : Mt ST Bool} (ht : TR (WO (RDk.lend [])) [] (.any :: .val (.ref 1) :: List.replicate nN .any) rest p eB) (hr : RunH c (fun _ => none) p fun b _ => b = true) (hc : c ≤ 10000000) (ns : List Int) (hl : ns.length ≤ 63) :
    ∃ st', fnD 1 (nN + 2) (sSeq (sAsg (gN 1) (mCall d__law_deck (mCons (mVar 0) mNil))) rest) [.scr (ns.map .int)] [] = .ok (.bl true) st' := by
  obtain ⟨cells, g, hl2, e⟩ := deck_ok ns hl
  have hs := has_nil (k := 0) ⟨g, hl2⟩
  have h1 := ht (⟨⟨(cells, 0), ⟨g, hl2⟩⟩, fun _ => none⟩ : ST) (some (.scr (ns.map .int)) :: some (.ref 1) :: List.replicate nN none) (dk cells 0 []) ⟨by simp, ⟨hs, Nat.zero_le _, fun l hl => absurd hl (Nat.not_lt_zero l)⟩, fun i d h => ?_, fun i m h => ?_, fun i j m1 m2 h => ?_, fun i m h => ?_⟩
  · obtain ⟨b, s', st', e3, hb⟩ := rr_ends h1 (hr _ rfl (by show 0 + c ≤ _; omega))
    obtain rfl := hb.2
    have hm : sSeq (sAsg (gN 1) (mCall d__law_deck (mCons (mVar 0) mNil))) rest (rho0 (nN + 2) [.scr (ns.map .int)]) [] = .ret (.bl true) st' := by
      have er : rho0 (nN + 2) [.scr (ns.map .int)] = some (.scr (ns.map .int)) :: none :: List.replicate nN none := rfl
      rw [er]
      simp [mVar_ap, e]
      exact e3
    obtain ⟨st2, hc⟩ := clean_some [] (.bl true) st'
    refine ⟨st2, ?_⟩
    show clean [] (flOut (sSeq (sAsg (gN 1) (mCall d__law_deck (mCons (mVar 0) mNil))) rest (rho0 (nN + 2) [.scr (ns.map .int)]) [])) = _
    rw [hm, flOut_ret, hc]
  · match i, h with
    | 0, h => simp at h
    | 1, h => simp at h; subst h; rfl
    | i + 2, h =>
      rw [List.getElem?_cons_succ, List.getElem?_cons_succ, List.getElem?_replicate] at h
      split at h <;> cases h
  · match i, h with
    | 0, h => simp at h
    | 1, h => simp at h
    | i + 2, h =>
      rw [List.getElem?_cons_succ, List.getElem?_cons_succ, List.getElem?_replicate] at h
      split at h <;> cases h
  · match i, h with
    | 0, h => simp at h
    | 1, h => simp at h
    | i + 2, h =>
      rw [List.getElem?_cons_succ, List.getElem?_cons_succ, List.getElem?_replicate] at h
      split at h <;> cases h
  · match i, h with
    | 0, h => simp at h
    | 1, h => simp at h
    | i + 2, h =>
      rw [List.getElem?_cons_succ, List.getElem?_cons_succ, List.getElem?_replicate] at h
      split at h <;> cases h
theorem changed_ok {S : Type} (pan : List (List Int)) {b : Int} (h0 : 0 ≤ b) (h1 : b < pan.length) (i : Int) (w : Str) :
    p_changed_word (S := S) pan b i w = mpure (if i = b then ("on" : Str) else if i ∈ rowAt pan b then ("off" : Str) else w) := by
  unfold p_changed_word
  simp only [midx_row h0 h1, mbind_pure]
  by_cases h : i = b <;> by_cases h2 : i ∈ rowAt pan b <;> simp [h, h2]
def wNew (pan : List (List Int)) (i : Int) (w : Str) (b : Int) : Str := if i = b then "on" else if i ∈ rowAt pan b then "off" else w
def wAft (pan : List (List Int)) (row : List Int) (i : Int) : Str := row.foldl (wNew pan i) "same"
theorem after_ok {S : Type} {K : Nat} {pan : List (List Int)} (h : Pan K pan) (hK : K ≤ 100) {b : Int} (h0 : 0 ≤ b) (h1 : b < pan.length) (w : Int → Str) :
    p_effect_after (S := S) pan ((upto pan.length).map w) b = mpure ((upto pan.length).map fun i => wNew pan i (w i) b) := by
  unfold p_effect_after
  have hl := h.le
  simp only [mbind_pure, enumZ_upto]
  rw [compM_pure (fun p : Int × Str => wNew pan p.1 p.2 b) (by simp [upto_length]; omega) (fun x _ _ => changed_ok pan h0 h1 _ _), filter_true, List.map_map]
  rfl
theorem effect_ok {S : Type} {K : Nat} {pan : List (List Int)} (h : Pan K pan) (hK : K ≤ 100) {row : List Int} (hr : Bel pan.length row) :
    p_effect_of (S := S) pan row = mpure ((upto pan.length).map (wAft pan row)) := by
  unfold p_effect_of
  have hl := h.le
  rw [mrepT_ok (by omega) (by omega)]
  simp only [mbind_pure, mbind_ret]
  refine forU_inv row _ (fun pre => (upto pan.length).map (wAft pan pre)) ?_ fun pre x post e => ?_
  · show (upto pan.length).map (fun _ => ("same" : Str)) = _
    rw [List.map_const', upto_length, Int.toNat_natCast]
  · have hx := hr x (by rw [e]; simp)
    rw [after_ok h hK hx.1 hx.2]
    congr 2
    funext i
    unfold wAft
    rw [List.foldl_append] <;> rfl
theorem wNew_same {pan : List (List Int)} {i b : Int} {w : Str} : wNew pan i w b = "same" ↔ w = "same" ∧ i ≠ b ∧ i ∉ rowAt pan b := by
  unfold wNew
  by_cases h : i = b
  · simp only [h, if_true, ne_eq, not_true, false_and, and_false, iff_false]
    decide
  · by_cases h2 : i ∈ rowAt pan b
    · simp only [h, h2, if_true, if_false, not_true, and_false, iff_false]
      decide
    · simp [h, h2]
theorem wAft_same {pan : List (List Int)} {i : Int} : ∀ {row : List Int} {w : Str}, row.foldl (wNew pan i) w = "same" ↔ w = "same" ∧ ∀ b ∈ row, i ≠ b ∧ i ∉ rowAt pan b
  | [], w => by simp
  | b :: row, w => by
    rw [List.foldl_cons, wAft_same (row := row), wNew_same]
    simp only [List.mem_cons, forall_eq_or_imp]
    exact ⟨fun ⟨⟨h1, h2⟩, h3⟩ => ⟨h1, h2, h3⟩, fun ⟨h1, h2, h3⟩ => ⟨⟨h1, h2⟩, h3⟩⟩
def met (pan : List (List Int)) (row : List Int) : List Int := row ++ row.flatMap (rowAt pan)
theorem mem_met {pan : List (List Int)} {row : List Int} {i : Int} : i ∈ met pan row ↔ ∃ b ∈ row, i = b ∨ i ∈ rowAt pan b := by
  unfold met
  rw [List.mem_append, List.mem_flatMap]
  constructor
  · rintro (h | ⟨b, hb, h⟩)
    · exact ⟨i, h, .inl rfl⟩
    · exact ⟨b, hb, .inr h⟩
  · rintro ⟨b, hb, rfl | h⟩
    · exact .inl hb
    · exact .inr ⟨b, hb, h⟩
theorem wAft_met {pan : List (List Int)} {row : List Int} {i : Int} : wAft pan row i = "same" ↔ i ∉ met pan row := by
  unfold wAft
  rw [wAft_same, mem_met]
  constructor
  · rintro ⟨_, h⟩ ⟨b, hb, h2⟩
    have := h b hb
    rcases h2 with h2 | h2
    · exact this.1 h2
    · exact this.2 h2
  · intro h
    exact ⟨rfl, fun b hb => ⟨fun q => h ⟨b, hb, .inl q⟩, fun q => h ⟨b, hb, .inr q⟩⟩⟩
theorem met_bel {pan : List (List Int)} {K : Nat} (h : Pan K pan) {row : List Int} (hr : Bel pan.length row) : Bel pan.length (met pan row) := fun a ha => by
  obtain ⟨b, hb, rfl | h2⟩ := mem_met.mp ha
  · exact hr _ hb
  · have h1 := hr b hb
    exact h.rng _ (h.row h1.1 h1.2) a h2
theorem reset_ok {S : Type} {K : Nat} {pan : List (List Int)} (h : Pan K pan) (hK : K ≤ 10) {row : List Int} (hr : Bel pan.length row) : p_is_reset (S := S) pan row = mpure (decide (((sortI (met pan row)).length : Int) = (pan.length : Int))) := by
  unfold p_is_reset
  rw [effect_ok h (by omega) hr, mbind_pure]
  congr 1
  rw [sortI_len]
  have e1 := setI_full (met_bel h hr)
  by_cases hc : (setI (met pan row)).length = pan.length
  · have hall := e1.mp hc
    rw [hc, decide_eq_true rfl]
    simp only [Bool.not_eq_true', decide_eq_false_iff_not, List.mem_map, mem_upto]
    rintro ⟨i, ⟨h0, h1⟩, e⟩
    exact wAft_met.mp e (hall i h0 h1)
  · have hn : ¬ ∀ a, 0 ≤ a → a < (pan.length : Int) → a ∈ met pan row := fun q => hc (e1.mpr q)
    have hd : ¬ ((setI (met pan row)).length : Int) = (pan.length : Int) := fun q => hc (by omega)
    rw [decide_eq_false hd]
    simp only [Bool.not_eq_false', decide_eq_true_eq, List.mem_map, mem_upto]
    apply Classical.byContradiction
    intro hno
    exact hn fun a h0 h1 => Classical.byContradiction fun hm => hno ⟨a, ⟨h0, h1⟩, wAft_met.mpr hm⟩
structure PanN (pan : List (List Int)) : Prop extends Pan 10 pan where
  self : ∀ (i : Nat) r, pan[i]? = some r → (i : Int) ∉ r
  nd : ∀ r ∈ pan, r.Nodup
theorem upto_split {n : Nat} {pre post : List Int} {b : Int} (e : upto n = pre ++ b :: post) : b = (pre.length : Int) ∧ pre.length < n := by
  have h : (upto n)[pre.length]? = some b := by rw [e]; simp
  rw [upto_get] at h
  split at h
  · exact ⟨(Option.some.inj h).symm, by assumption⟩
  · cases h
theorem runs_subP {α : Type} {c : Nat} {p : α → Mt ST Bool} {P : α → Prop} {xs : List α} (hl : xs.length ≤ 100000) (hp : ∀ x ∈ xs, Runs c (p x) fun b => b = true → P x) : Runs (xs.length * c) (compG p (fun x => mpure x) xs) fun ys => ys.Sublist xs ∧ ∀ y ∈ ys, P y := by
  unfold compG
  rw [if_pos hl]
  clear hl
  induction xs with
  | nil => exact runs_le (runs_pure ⟨List.Sublist.refl _, fun _ h => nomatch h⟩) (Nat.zero_le _)
  | cons x xs ih =>
    unfold compT
    refine runs_le (runs_bind (n := c + 0) (m := xs.length * c + 0) (Q := fun o => o = none ∨ (o = some x ∧ P x)) ?_ fun o ho => runs_bind (ih fun y hy => hp y (by simp [hy])) fun ys hys => runs_pure ?_) ?_
    · refine runs_bind (hp x (by simp)) fun b hb => ?_
      cases b
      · exact runs_pure (.inl rfl)
      · exact runs_pure (.inr ⟨rfl, hb rfl⟩)
    · rcases ho with rfl | ⟨rfl, hx⟩
      · exact ⟨hys.1.cons x, hys.2⟩
      · refine ⟨hys.1.cons_cons x, fun y hy => ?_⟩
        rcases List.mem_cons.mp hy with rfl | hy
        · exact hx
        · exact hys.2 y hy
    · rw [List.length_cons, Nat.succ_mul]
      omega
theorem panel_runs {M : Int} (h1 : 1 ≤ M) (h2 : M ≤ 10) : Runs 102 (p__law_panel M) fun pan => PanN pan ∧ (pan.length : Int) ≤ M ∧ ∀ r ∈ pan, r.Pairwise (· < ·) := by
  unfold p__law_panel
  simp only [mbind_assoc, mbind_pure]
  refine runs_d h1 (by omega) (by omega) fun x hx1 hx2 => ?_
  refine runs_d (by omega) (by omega) (by omega) fun way hw1 hw2 => ?_
  obtain ⟨n, hn⟩ : ∃ n : Nat, (n : Int) = 1 + x := ⟨(1 + x).toNat, by omega⟩
  simp only [← hn]
  rw [mrng_nat n (by omega), mbind_pure]
  refine runs_forL (c := 10) (fun pre (pan : List (List Int)) => pan.length = pre.length ∧ (∀ r ∈ pan, r.length ≤ 10 ∧ Bel n r ∧ r.Pairwise (· < ·)) ∧ ∀ (i : Nat) r, pan[i]? = some r → (i : Int) ∉ r) ⟨rfl, (fun _ h => nomatch h), fun i r h => by simp at h⟩ (by rw [upto_length]; omega) (fun pre b post pan e hI => ?_) fun pan hI => ?_
  · have hb : b ∈ upto n := by rw [e]; simp
    have hb := mem_upto.mp hb
    have hsp := upto_split e
    have hpl : pre.length ≤ n := by
      have := congrArg List.length e
      rw [upto_length] at this
      simp at this
      omega
    simp only [mbind_pure, mbind_ret]
    refine runs_b (n := 10) (Q := fun ys => (ys.length ≤ 10 ∧ Bel n ys) ∧ b ∉ ys) (runs_calm (runs_mono (runs_subP (c := 1) (P := fun y => y ≠ b) (by rw [upto_length]; omega) fun y hy => ?_) (by rw [upto_length]; omega) ?_)) (by omega) fun own ho => ?_
    · by_cases hy2 : y = b
      · simp only [hy2, decide_true, Bool.not_true, Bool.false_eq_true, if_false]
        exact runs_p fun h => (nomatch h)
      · simp only [hy2, decide_false, Bool.not_false, if_true]
        rw [midx_getD 1 hw1 (by simpa using hw2), mbind_pure]
        have hm := getD_mem (xs := [(2 : Int), 5, 9, 7, 1]) 1 hw1 (by simpa using hw2)
        have hm2 : ∀ z ∈ [(2 : Int), 5, 9, 7, 1], 1 ≤ z ∧ z ≤ 9 := by decide
        have hm3 := hm2 _ hm
        exact runs_d (by omega) (by omega) (by omega) fun a _ _ => runs_p fun _ => hy2
    · rintro ys ⟨hys, hne⟩
      have := hys.length_le
      rw [upto_length] at this
      exact ⟨⟨by omega, fun a ha => mem_upto.mp (hys.subset ha)⟩, fun hm => hne b hm rfl⟩
    · have hk : ∀ {zs : List Int}, zs.length ≤ 11 → Bel n zs → b ∉ zs → Runs (10 - 10) (mbind (mrepL zs (b2z (!decide (way = 4)))) fun xs => mbind (msetS xs) fun x28 => mapp pan x28) fun pan' => pan'.length = (pre ++ [b]).length ∧ (∀ r ∈ pan', r.length ≤ 10 ∧ Bel n r ∧ r.Pairwise (· < ·)) ∧ ∀ (i : Nat) r, pan'[i]? = some r → (i : Int) ∉ r := by
        intro zs hl hz hbz
        have e0 : ∃ ys : List Int, mrepL (S := ST) zs (b2z (!decide (way = 4))) = mpure ys ∧ ys.length ≤ 11 ∧ Bel n ys ∧ b ∉ ys := by
          by_cases hw : way = 4
          · refine ⟨[], ?_, by simp, (fun _ h => nomatch h), by simp⟩
            simp [hw, b2z, mrepL]
          · refine ⟨zs, ?_, hl, hz, hbz⟩
            have : zs.length ≤ 100000 := by omega
            simp [hw, b2z, mrepL, this]
        obtain ⟨ys, e1, hyl, hyb, hyn⟩ := e0
        rw [e1, mbind_pure, msetS_ok (n := n) (by omega) hyb (by omega), mbind_pure, mapp_ok (by omega)]
        refine runs_p ⟨by simp [hI.1], fun r hr => ?_, fun i r hr => ?_⟩
        · rcases List.mem_append.mp hr with h | h
          · exact hI.2.1 r h
          · rw [List.mem_singleton.mp h]
            have := setI_small hyb
            exact ⟨by rw [sortI_len]; omega, fun a ha => hyb a (mem_sortI.mp ha), sortI_sorted ys⟩
        · by_cases hi : i < pan.length
          · rw [List.getElem?_append_left hi] at hr
            exact hI.2.2 i r hr
          · rw [List.getElem?_append_right (by omega)] at hr
            have hi2 : i - pan.length = 0 := by
              apply Classical.byContradiction
              intro hne
              rw [List.getElem?_eq_none (by simp; omega)] at hr
              cases hr
            rw [hi2] at hr
            cases hr
            have : (i : Int) = b := by rw [hsp.1]; omega
            rw [this]
            exact fun hm => hyn (mem_sortI.mp hm)
      have hk2 : ∀ {zs : List Int}, zs.length ≤ 10 → Bel n zs → b ∉ zs → Runs (10 - 10) (mbind (if (decide (way = 3) && decide ((n : Int) > 1)) = true then mbind (mmod (b + 1) (n : Int)) fun a => mbind (mcat zs [a]) fun a => mpure a else mpure zs) fun a => mbind (mrepL a (b2z (!decide (way = 4)))) fun xs => mbind (msetS xs) fun x28 => mapp pan x28) fun pan' => pan'.length = (pre ++ [b]).length ∧ (∀ r ∈ pan', r.length ≤ 10 ∧ Bel n r ∧ r.Pairwise (· < ·)) ∧ ∀ (i : Nat) r, pan'[i]? = some r → (i : Int) ∉ r := by
        intro zs hl hz hbz
        split
        · rename_i hc
          rw [mmod_ok (by omega), mbind_pure, mcat_ok (by simp; omega), mbind_pure, mbind_pure]
          refine hk (by simp; omega) (fun a ha => ?_) fun hm => ?_
          · rcases List.mem_append.mp ha with h | h
            · exact hz a h
            · rw [List.mem_singleton.mp h]
              exact ⟨Int.emod_nonneg _ (by omega), Int.emod_lt_of_pos _ (by omega)⟩
          · rcases List.mem_append.mp hm with h | h
            · exact hbz h
            · have h := List.mem_singleton.mp h
              simp only [Bool.and_eq_true, decide_eq_true_eq] at hc
              by_cases q : b + 1 = (n : Int)
              · rw [q, Int.emod_self] at h
                omega
              · rw [Int.emod_eq_of_lt (by omega) (by omega)] at h
                omega
        · rw [mbind_pure]
          exact hk (by omega) hz hbz
      simp only [mbind_ret] at hk2 ⊢
      by_cases hw : way = 2
      · simp only [hw, decide_true, if_true]
        rw [compV_ok (by rw [upto_length]; omega), mbind_pure]
        simp only [hw] at hk2
        refine hk2 ?_ (fun a ha => ?_) fun hm => ?_
        · rw [List.length_map]
          refine Nat.le_trans (List.length_filter_le _ _) (by rw [upto_length]; omega)
        · rw [List.map_id'] at ha
          exact mem_upto.mp (List.mem_filter.mp ha).1
        · rw [List.map_id'] at hm
          have := (List.mem_filter.mp hm).2
          simp at this
      · simp only [hw, decide_false, Bool.false_eq_true, if_false, mbind_pure]
        exact hk2 ho.1.1 ho.1.2 ho.2
  · have hl : pan.length = n := by rw [hI.1, upto_length]
    refine runs_p ⟨{ pos := by omega, le := by omega, len := fun r hr => (hI.2.1 r hr).1, rng := fun r hr => ?_, self := hI.2.2, nd := fun r hr => (hI.2.1 r hr).2.2.imp fun h => Int.ne_of_lt h }, by omega, fun r hr => (hI.2.1 r hr).2.2⟩
    rw [hl]
    exact (hI.2.1 r hr).2.1
theorem row_runs {n : Nat} {m : Int} (hn : 1 ≤ n) (hn2 : n ≤ 100) (h0 : 0 ≤ m) (hm : m ≤ 60) : Runs 70 (p__law_row (n : Int) m) fun r => (r.length : Int) ≤ m ∧ Bel n r := by
  unfold p__law_row
  simp only [mbind_assoc, mbind_pure]
  refine runs_d (by omega) (by omega) (by omega) fun a ha1 ha2 => ?_
  refine runs_d (by omega) (by omega) (by omega) fun b hb1 hb2 => ?_
  refine runs_d (by omega) (by omega) (by omega) fun c hc1 hc2 => ?_
  refine runs_d (by omega) (by omega) (by omega) fun way hw1 hw2 => ?_
  refine runs_d (by omega) (by omega) (by omega) fun k hk1 hk2 => ?_
  obtain ⟨t, rfl⟩ : ∃ t : Nat, k = t := ⟨k.toNat, by omega⟩
  rw [mrng_nat t (by omega), mbind_pure]
  refine runs_b (n := 60) (Q := fun r => (r.length : Int) ≤ m ∧ Bel n r) (runs_calm (runs_mono (runs_compM (c := 1) (fun _ y => 0 ≤ y ∧ y < (n : Int)) (by rw [upto_length]; omega) fun y hy => ?_) (by rw [upto_length]; omega) ?_)) (by omega) fun r hr => runs_p hr
  · have hy := mem_upto.mp hy
    refine runs_d (by omega) (by omega) (by omega) fun d hd1 hd2 => ?_
    have e1 := Int.emod_nonneg y (b := 3) (by omega)
    have e2 := Int.emod_lt_of_pos y (b := 3) (by omega)
    rw [mmod_ok (by omega), mbind_pure, midx_getD 0 e1 (by simpa using e2), mbind_pure, midx_getD 0 hw1 (by simpa using hw2)]
    have h1 := getD_mem (xs := [a, b, c]) 0 e1 (by simpa using e2)
    have h2 := getD_mem (xs := [d, [a, b, c].getD (y % 3).toNat 0]) 0 hw1 (by simpa using hw2)
    refine runs_p ?_
    have h3 : 0 ≤ [a, b, c].getD (y % 3).toNat 0 ∧ [a, b, c].getD (y % 3).toNat 0 < (n : Int) := by
      simp only [List.mem_cons, List.not_mem_nil, or_false] at h1
      rcases h1 with h | h | h <;> rw [h] <;> omega
    simp only [List.mem_cons, List.not_mem_nil, or_false] at h2
    rcases h2 with h | h <;> rw [h]
    · omega
    · exact h3
  · rintro ys ⟨h1, h2⟩
    refine ⟨?_, fun a ha => ?_⟩
    · have := List.length_filter_le (fun _ => true) (upto t)
      rw [upto_length] at this
      omega
    · obtain ⟨_, _, h⟩ := h2 a ha
      exact h
def fullB (pan : List (List Int)) (r : List Int) : Bool := decide (((sortI (met pan r)).length : Int) = (pan.length : Int))
def leastO (pan : List (List Int)) : Option (List Int) := (rngI 1 ((pan.length : Int) + 1)).findSome? fun s => (rowsL (upto pan.length) s.toNat).find? (fullB pan)
def outL {β : Type} : Option β → Lp Unit β
  | some b => .rt b
  | none => .nx ()
def outS {β : Type} : Option β → Unit ⊕ β
  | some b => .inr b
  | none => .inl ()
theorem forX_some {S α β : Type} {body : α → Unit → Mt S (Lp Unit β)} (f : α → Option β) : ∀ (xs : List α), (∀ x ∈ xs, body x () = mpure (outL (f x))) → forX body xs () = mpure (outS (xs.findSome? f))
  | [], _ => rfl
  | x :: xs, hb => by
    unfold forX
    rw [hb x (by simp), mbind_pure, List.findSome?_cons]
    cases h : f x with
    | none =>
      exact forX_some f xs fun y hy => hb y (by simp [hy])
    | some b => rfl
theorem row_len {n s : Nat} {r : List Int} (h : r ∈ rowsL (upto n) s) : Bel n r ∧ r.length = s := ⟨fun a ha => mem_upto.mp (rowsL_mem _ _ _ h a ha), rowsL_len _ _ _ h⟩
theorem size_mem {n : Nat} {s : Int} (h : s ∈ rngI 1 ((n : Int) + 1)) : ∃ k : Nat, s = (k : Int) ∧ 1 ≤ k ∧ k ≤ n := by
  unfold rngI at h
  obtain ⟨i, hi, rfl⟩ := List.mem_map.mp h
  have := List.mem_range.mp hi
  exact ⟨i + 1, by omega, by omega, by omega⟩
theorem inner_ok {S : Type} {xs : List (List Int)} {p : List Int → Bool} {test : List Int → Mt S Bool} (ht : ∀ r ∈ xs, test r = mpure (p r)) :
    mfinL (forX (fun (r : List Int) (_ : Unit) => mbind (test r) fun b => if b = true then (mpure (.rt r)) else (mpure (.nx ()))) xs ()) (fun _ => (mpure (.nx ()) : Mt S (Lp Unit (List Int)))) = mpure (outL (xs.find? p)) := by
  unfold mfinL
  rw [forX_find p id xs fun r hr => ?_, mbind_pure]
  · cases xs.find? p with
    | none => rfl
    | some r => rfl
  · rw [ht r hr, mbind_pure]
    cases p r <;> rfl
theorem shortest_ok {S : Type} {pan : List (List Int)} (h : Pan 10 pan) : p_shortest_reset (S := S) pan = mpure (match leastO pan with
    | some r => r
    | none => upto pan.length) := by
  have hle := h.le
  unfold p_shortest_reset
  simp only [mbind_pure]
  rw [mrngL_nat pan.length (by omega), mbind_pure, mrng2_ok (by omega) (by omega) (by omega) (by omega), mbind_pure]
  unfold mfin
  rw [forX_some (fun s => (rowsL (upto pan.length) s.toNat).find? (fullB pan)) _ fun s hs => ?_, mbind_pure]
  · unfold leastO
    generalize List.findSome? (fun s : Int => List.find? (fullB pan) (rowsL (upto pan.length) s.toNat)) (rngI 1 ((pan.length : Int) + 1)) = q
    cases q <;> rfl
  · obtain ⟨k, rfl, h1, h2⟩ := size_mem hs
    unfold p_rows_of
    rw [if_pos ⟨by omega, by omega, by rw [upto_length]; omega⟩, calmly_pure', mbind_pure, Int.toNat_natCast]
    exact inner_ok (S := S) (xs := rowsL (upto pan.length) k) (p := fullB pan) (test := fun r => mbind (p_is_reset pan r) fun x => mpure x) fun r hr => by
      obtain ⟨hb, hl⟩ := row_len hr
      rw [reset_ok h (by omega) hb]
      simp only [mbind_pure] <;> rfl
theorem rows_self {α : Type} : ∀ bs : List α, bs ∈ rowsL bs bs.length
  | [] => by simp [rowsL]
  | b :: bs => by
    show b :: bs ∈ (rowsL bs bs.length).map _ ++ _
    exact List.mem_append.mpr (.inl (List.mem_map.mpr ⟨bs, rows_self bs, rfl⟩))
theorem full_iff {pan : List (List Int)} (h : Pan 10 pan) {r : List Int} (hr : Bel pan.length r) : fullB pan r = true ↔ ∀ a, 0 ≤ a → a < (pan.length : Int) → a ∈ met pan r := by
  unfold fullB
  rw [decide_eq_true_eq, sortI_len, ← setI_full (met_bel h hr)]
  omega
theorem full_up {pan : List (List Int)} (h : Pan 10 pan) : fullB pan (upto pan.length) = true :=
  (full_iff h fun a ha => mem_upto.mp ha).mpr fun a h0 h1 => List.mem_append.mpr (.inl (mem_upto.mpr ⟨h0, h1⟩))
theorem least_some {pan : List (List Int)} (h : Pan 10 pan) : ∃ r, leastO pan = some r ∧ Bel pan.length r ∧ r.length ≤ 10 ∧ fullB pan r = true := by
  have hle := h.le
  have hpos := h.pos
  cases e : leastO pan with
  | some r =>
    unfold leastO at e
    obtain ⟨s, hs, e2⟩ := List.exists_of_findSome?_eq_some e
    obtain ⟨k, rfl, h1, h2⟩ := size_mem hs
    obtain ⟨hb, hl⟩ := row_len (List.mem_of_find?_eq_some e2)
    exact ⟨r, rfl, hb, by omega, List.find?_some e2⟩
  | none =>
    unfold leastO at e
    rw [List.findSome?_eq_none_iff] at e
    have h1 := e (pan.length : Int) (by
      unfold rngI
      exact List.mem_map.mpr ⟨pan.length - 1, List.mem_range.mpr (by omega), by omega⟩)
    rw [Int.toNat_natCast, List.find?_eq_none] at h1
    have h2 := rows_self (upto pan.length)
    rw [upto_length] at h2
    exact absurd (full_up h) (by simpa using h1 _ h2)
theorem rngI_split {n : Nat} {l₁ l₂ : List Int} {a : Int} (e : rngI 1 ((n : Int) + 1) = l₁ ++ a :: l₂) : a = (l₁.length : Int) + 1 ∧ l₁.length < n ∧ ∀ k : Nat, 1 ≤ k → k ≤ l₁.length → (k : Int) ∈ l₁ := by
  have hlen : (rngI 1 ((n : Int) + 1)).length = n := by
    unfold rngI
    rw [List.length_map, List.length_range]
    omega
  have get : ∀ i : Nat, i < n → (rngI 1 ((n : Int) + 1))[i]? = some ((i : Int) + 1) := fun i hi => by
    unfold rngI
    rw [List.getElem?_map, List.getElem?_range (by omega)]
    show some (1 + (i : Int)) = _
    rw [Int.add_comm]
  have hl : l₁.length < n := by
    have := congrArg List.length e
    rw [hlen] at this
    simp at this
    omega
  refine ⟨?_, hl, fun k h1 h2 => ?_⟩
  · have := get l₁.length hl
    rw [e] at this
    simp at this
    omega
  · have := get (k - 1) (by omega)
    rw [e, List.getElem?_append_left (by omega)] at this
    have hk : ((k - 1 : Nat) : Int) + 1 = (k : Int) := by omega
    rw [hk] at this
    exact List.mem_of_getElem? this
theorem sub_rows {α : Type} : ∀ {T bs : List α}, T.Sublist bs → T ∈ rowsL bs T.length
  | _, _, .slnil => by simp [rowsL]
  | T, b :: bs, .cons _ h => by
    cases T with
    | nil => rw [List.length_nil, rowsL_zero]; simp
    | cons t T => exact List.mem_append.mpr (.inr (sub_rows h))
  | _, _, .cons₂ (l₁ := T) b h => List.mem_append.mpr (.inl (List.mem_map.mpr ⟨T, sub_rows h, rfl⟩))
theorem met_same {pan : List (List Int)} {L T : List Int} (h : ∀ a, a ∈ L ↔ a ∈ T) (i : Int) : i ∈ met pan L ↔ i ∈ met pan T := by
  rw [mem_met, mem_met]
  exact ⟨fun ⟨b, hb, q⟩ => ⟨b, (h b).mp hb, q⟩, fun ⟨b, hb, q⟩ => ⟨b, (h b).mpr hb, q⟩⟩
def mn (pan : List (List Int)) : Nat := match leastO pan with
  | some r => r.length
  | none => pan.length
structure Lst (pan : List (List Int)) (r : List Int) : Prop where
  o : leastO pan = some r
  bel : Bel pan.length r
  len : r.length = mn pan
  full : fullB pan r = true
  nd : r.Nodup
  min : ∀ L, Bel pan.length L → fullB pan L = true → r.length ≤ L.length
theorem lst_of {pan : List (List Int)} (h : Pan 10 pan) : ∃ r, Lst pan r := by
  obtain ⟨r, e, hb, hl, hf⟩ := least_some h
  have e0 := e
  unfold leastO at e
  obtain ⟨l₁, a, l₂, es, ea, hn⟩ := List.findSome?_eq_some_iff.mp e
  obtain ⟨ha, hl1, hk⟩ := rngI_split es
  have hm := List.mem_of_find?_eq_some ea
  have hrl := rowsL_len _ _ _ hm
  have hsub : r.Sublist (upto pan.length) := by
    have key : ∀ (bs : List Int) (n : Nat) (r : List Int), r ∈ rowsL bs n → r.Sublist bs := by
      intro bs
      induction bs with
      | nil =>
        intro n r h
        cases n with
        | zero => rw [rowsL_zero, List.mem_singleton] at h; rw [h]; exact .slnil
        | succ n => simp [rowsL] at h
      | cons b bs ih =>
        intro n r h
        cases n with
        | zero => rw [rowsL_zero, List.mem_singleton] at h; rw [h]; exact List.nil_sublist _
        | succ n =>
          rcases List.mem_append.mp (show r ∈ (rowsL bs n).map (b :: ·) ++ rowsL bs (n + 1) from h) with q | q
          · obtain ⟨r', h1, rfl⟩ := List.mem_map.mp q
            exact (ih n r' h1).cons₂ b
          · exact (ih (n + 1) r q).cons b
    exact key _ _ _ hm
  refine ⟨r, e0, hb, by unfold mn; rw [e0], hf, ((sorted_upto pan.length).imp fun h => Int.ne_of_lt h).sublist hsub, fun L hL hLf => ?_⟩
  -- the support of L
  have hT : ∀ x, x ∈ (upto pan.length).filter (fun a => decide (a ∈ L)) ↔ x ∈ L := fun x => by
    rw [List.mem_filter, mem_upto]
    simp only [decide_eq_true_eq]
    exact ⟨fun q => q.2, fun q => ⟨hL x q, q⟩⟩
  generalize hTe : (upto pan.length).filter (fun a => decide (a ∈ L)) = T at hT
  have hTs : T.Sublist (upto pan.length) := by rw [← hTe]; exact List.filter_sublist
  have hTn : T.Nodup := ((sorted_upto pan.length).imp fun h => Int.ne_of_lt h).sublist hTs
  have hTb : Bel pan.length T := fun x hx => hL x ((hT x).mp hx)
  have hTl : T.length ≤ L.length := nodup_len_sub hTn fun x hx => (hT x).mp hx
  have hTf : fullB pan T = true := (full_iff h hTb).mpr fun x h0 h1 => (met_same hT x).mpr ((full_iff h hL).mp hLf x h0 h1)
  have hpos : 1 ≤ T.length := by
    have hp := h.pos
    have := (full_iff h hTb).mp hTf 0 (by omega) (by omega)
    obtain ⟨b, hb2, _⟩ := mem_met.mp this
    exact List.length_pos_of_mem hb2
  apply Classical.byContradiction
  intro hlt
  have h2 : a.toNat = r.length := hrl.symm
  have hin := hk T.length hpos (by omega)
  have hno := hn _ hin
  rw [List.find?_eq_none] at hno
  have := hno T (by rw [Int.toNat_natCast]; exact sub_rows hTs)
  rw [hTf] at this
  exact this rfl
theorem Lst.le10 {pan : List (List Int)} (h : Pan 10 pan) {r : List Int} (l : Lst pan r) : 1 ≤ r.length ∧ r.length ≤ 10 := by
  have hle := h.le
  have hpos := h.pos
  constructor
  · have := (full_iff h l.bel).mp l.full 0 (by omega) (by omega)
    obtain ⟨b, hb, _⟩ := mem_met.mp this
    exact List.length_pos_of_mem hb
  · have := nodup_len_sub l.nd (m := upto pan.length) fun a ha => mem_upto.mpr (l.bel a ha)
    rw [upto_length] at this
    omega
theorem Lst.short {S : Type} {pan : List (List Int)} (h : Pan 10 pan) {r : List Int} (l : Lst pan r) : p_shortest_reset (S := S) pan = mpure r := by rw [shortest_ok h, l.o]
theorem isr_ok {S : Type} {pan : List (List Int)} (h : Pan 10 pan) {row : List Int} (hr : Bel pan.length row) : p_is_reset (S := S) pan row = mpure (fullB pan row) := reset_ok h (by decide) hr
theorem Lst.few {pan : List (List Int)} {r : List Int} (l : Lst pan r) {L : List Int} (hL : Bel pan.length L) (hl : L.length < r.length) : fullB pan L = false := by
  cases e : fullB pan L with
  | false => rfl
  | true => have := l.min L hL e; omega
structure PanA (P : List (List Int)) : Prop where
  pan : Pan 10 P
  srt : ∀ r ∈ P, r.Pairwise (· < ·)
theorem PanA.sorted {P : List (List Int)} (h : PanA P) {r : List Int} (hr : r ∈ P) : r.Pairwise (· < ·) := h.srt r hr
theorem sort_up {n : Nat} {L : List Int} (hn : L.Nodup) (hb : Bel n L) : L.mergeSort (leOf ltI) = (upto n).filter (fun a => decide (a ∈ L)) := by
  refine sort_eq ((List.perm_ext_iff_of_nodup hn (((sorted_upto n).imp fun h => Int.ne_of_lt h).sublist List.filter_sublist)).mpr fun a => ?_) ((sorted_upto n).sublist List.filter_sublist)
  rw [List.mem_filter, mem_upto]
  simp only [decide_eq_true_eq]
  exact ⟨fun h => ⟨hb a h, h⟩, fun h => h.2⟩
def setL (pan : List (List Int)) (b : Int) (r : List Int) : List (List Int) := pan.set b.toNat r
theorem setL_len (pan : List (List Int)) (b : Int) (r : List Int) : (setL pan b r).length = pan.length := List.length_set
theorem rowAt_set {pan : List (List Int)} {b : Int} {r : List Int} (h0 : 0 ≤ b) (h1 : b < pan.length) {x : Int} (hx : 0 ≤ x) : rowAt (setL pan b r) x = if x = b then r else rowAt pan x := by
  unfold rowAt setL
  rw [List.getD_eq_getElem?_getD, List.getD_eq_getElem?_getD, List.getElem?_set]
  by_cases h : x = b
  · subst h
    rw [if_pos rfl, if_pos (by omega), if_pos rfl] <;> rfl
  · rw [if_neg (by omega), if_neg h]
theorem set_pan {pan : List (List Int)} (h : Pan 10 pan) {b : Int} {r : List Int} (hr : Bel pan.length r) (hl : r.length ≤ 10) : Pan 10 (setL pan b r) := by
  have hl2 := setL_len pan b r
  refine ⟨by rw [hl2]; exact h.pos, by rw [hl2]; exact h.le, fun q hq => ?_, fun q hq a ha => ?_⟩
  · rcases List.mem_or_eq_of_mem_set hq with k | k
    · exact h.len q k
    · rw [k]; exact hl
  · rw [hl2]
    rcases List.mem_or_eq_of_mem_set hq with k | k
    · exact h.rng q k a ha
    · rw [k] at ha; exact hr a ha
theorem with_ok {S : Type} {pan : List (List Int)} (h : Pan 10 pan) {b : Int} (h0 : 0 ≤ b) (h1 : b < pan.length) {L : List Int} (hn : L.Nodup) (hb : Bel pan.length L) (hl : L.length ≤ 100) : p_with_list (S := S) pan b L = mpure (setL pan b ((upto pan.length).filter fun a => decide (a ∈ L))) := by
  have hle := h.le
  unfold p_with_list
  rw [msort_ok (by omega), sort_up hn hb]
  simp only [mbind_pure]
  obtain ⟨k, rfl⟩ : ∃ k : Nat, b = (k : Int) := ⟨b.toNat, by omega⟩
  have e1 : ((k : Int) + 1) = ((k + 1 : Nat) : Int) := by omega
  rw [e1, Dn.cutD_take, Dn.cutD_drop]
  have e2 : List.take k pan ++ [List.filter (fun a => decide (a ∈ L)) (upto pan.length)] ++ List.drop (k + 1) pan = setL pan (k : Int) ((upto pan.length).filter fun a => decide (a ∈ L)) := by
    unfold setL
    rw [Int.toNat_natCast, List.set_eq_take_append_cons_drop, if_pos (by omega), List.append_assoc]
    rfl
  rw [e2, mdisp_ok (by rw [setL_len]; omega)]
def addR (pan : List (List Int)) (a o : Int) : List Int := (upto pan.length).filter fun x => decide (x ∈ (rowAt pan a).filter (fun y => !decide (y = o)) ++ [o])
def subR (pan : List (List Int)) (a o : Int) : List Int := (upto pan.length).filter fun x => decide (x ∈ (rowAt pan a).filter (fun y => !decide (y = o)))
theorem mem_addR {pan : List (List Int)} (h : PanA pan) {a o : Int} (h0 : 0 ≤ a) (h1 : a < pan.length) (o0 : 0 ≤ o) (o1 : o < pan.length) {x : Int} : x ∈ addR pan a o ↔ x ∈ rowAt pan a ∨ x = o := by
  unfold addR
  rw [List.mem_filter, mem_upto]
  simp only [decide_eq_true_eq, List.mem_append, List.mem_filter, List.mem_singleton, Bool.not_eq_true', decide_eq_false_iff_not]
  have hr := h.pan.rng _ (h.pan.row h0 h1)
  constructor
  · rintro ⟨_, ⟨q, _⟩ | q⟩
    · exact .inl q
    · exact .inr q
  · rintro (q | q)
    · refine ⟨hr x q, ?_⟩
      by_cases e : x = o
      · exact .inr e
      · exact .inl ⟨q, e⟩
    · exact ⟨by omega, .inr q⟩
theorem mem_subR {pan : List (List Int)} (h : PanA pan) {a o : Int} (h0 : 0 ≤ a) (h1 : a < pan.length) {x : Int} : x ∈ subR pan a o ↔ x ∈ rowAt pan a ∧ x ≠ o := by
  unfold subR
  rw [List.mem_filter, mem_upto]
  simp only [decide_eq_true_eq, List.mem_filter, Bool.not_eq_true', decide_eq_false_iff_not]
  have hr := h.pan.rng _ (h.pan.row h0 h1)
  exact ⟨fun q => q.2, fun q => ⟨hr x q.1, q⟩⟩
theorem bel_add (pan : List (List Int)) (a o : Int) : Bel pan.length (addR pan a o) ∧ (addR pan a o).length ≤ pan.length := ⟨fun x hx => mem_upto.mp (List.mem_filter.mp hx).1, Nat.le_trans (List.length_filter_le _ _) (by rw [upto_length]; omega)⟩
theorem bel_sub (pan : List (List Int)) (a o : Int) : Bel pan.length (subR pan a o) ∧ (subR pan a o).length ≤ pan.length := ⟨fun x hx => mem_upto.mp (List.mem_filter.mp hx).1, Nat.le_trans (List.length_filter_le _ _) (by rw [upto_length]; omega)⟩
theorem fr_ok {pan : List (List Int)} (h : PanA pan) {a : Int} (h0 : 0 ≤ a) (h1 : a < pan.length) (o : Int) : let L := (rowAt pan a).filter (fun y => !decide (y = o)); L.Nodup ∧ Bel pan.length L ∧ L.length ≤ 10 := by
  have hr := h.pan.row h0 h1
  refine ⟨((h.sorted hr).imp fun h => Int.ne_of_lt h).sublist List.filter_sublist, fun x hx => h.pan.rng _ hr x (List.mem_filter.mp hx).1, Nat.le_trans (List.length_filter_le _ _) (h.pan.len _ hr)⟩
theorem linked_ok {S : Type} {pan : List (List Int)} (h : PanA pan) {a o : Int} (h0 : 0 ≤ a) (h1 : a < pan.length) (o0 : 0 ≤ o) (o1 : o < pan.length) : p_linked (S := S) pan a o = mpure (setL pan a (addR pan a o)) := by
  obtain ⟨f1, f2, f3⟩ := fr_ok h h0 h1 o
  unfold p_linked
  rw [midx_row h0 h1, mbind_pure, compV_ok (by have := h.pan.len _ (h.pan.row h0 h1); omega), List.map_id', mbind_pure, mdisp_ok (by rw [List.length_append, List.length_singleton]; omega), mbind_pure]
  refine with_ok h.pan h0 h1 (List.nodup_append.mpr ⟨f1, by simp, fun x hx y hy q => ?_⟩) (fun x hx => ?_) (by rw [List.length_append, List.length_singleton]; omega)
  · have := (List.mem_filter.mp hx).2
    rw [q, List.mem_singleton.mp hy] at this
    simp at this
  · rcases List.mem_append.mp hx with q | q
    · exact f2 x q
    · rw [List.mem_singleton.mp q]; omega
theorem unlinked_ok {S : Type} {pan : List (List Int)} (h : PanA pan) {a : Int} (h0 : 0 ≤ a) (h1 : a < pan.length) (o : Int) : p_unlinked (S := S) pan a o = mpure (setL pan a (subR pan a o)) := by
  obtain ⟨f1, f2, f3⟩ := fr_ok h h0 h1 o
  unfold p_unlinked
  rw [midx_row h0 h1, mbind_pure, compV_ok (by have := h.pan.len _ (h.pan.row h0 h1); omega), List.map_id', mbind_pure]
  exact with_ok h.pan h0 h1 f1 f2 (by omega)
theorem met_add {pan : List (List Int)} (h : PanA pan) {a o : Int} (h0 : 0 ≤ a) (h1 : a < pan.length) (o0 : 0 ≤ o) (o1 : o < pan.length) : (∀ L, Bel pan.length L → ∀ i, i ∈ met pan L → i ∈ met (setL pan a (addR pan a o)) L) ∧ ∀ L, Bel pan.length L → ∀ i, i ∈ met (setL pan a (addR pan a o)) L → i ∈ met pan L ∨ i = o := by
  constructor
  · intro L hL i hi
    obtain ⟨b, hb, q⟩ := mem_met.mp hi
    refine mem_met.mpr ⟨b, hb, ?_⟩
    rcases q with q | q
    · exact .inl q
    · right
      rw [rowAt_set h0 h1 (hL b hb).1]
      by_cases e : b = a
      · rw [if_pos e]
        subst e
        exact (mem_addR h h0 h1 o0 o1).mpr (.inl q)
      · rw [if_neg e]; exact q
  · intro L hL i hi
    obtain ⟨b, hb, q⟩ := mem_met.mp hi
    rcases q with q | q
    · exact .inl (mem_met.mpr ⟨b, hb, .inl q⟩)
    · rw [rowAt_set h0 h1 (hL b hb).1] at q
      by_cases e : b = a
      · rw [if_pos e] at q
        subst e
        rcases (mem_addR h h0 h1 o0 o1).mp q with z | z
        · exact .inl (mem_met.mpr ⟨b, hb, .inr z⟩)
        · exact .inr z
      · rw [if_neg e] at q
        exact .inl (mem_met.mpr ⟨b, hb, .inr q⟩)
theorem met_sub {pan : List (List Int)} (h : PanA pan) {a o : Int} (h0 : 0 ≤ a) (h1 : a < pan.length) : (∀ L, Bel pan.length L → ∀ i, i ∈ met (setL pan a (subR pan a o)) L → i ∈ met pan L) ∧ ∀ L, Bel pan.length L → ∀ i, i ∈ met pan L → i ∈ met (setL pan a (subR pan a o)) L ∨ i = o := by
  constructor
  · intro L hL i hi
    obtain ⟨b, hb, q⟩ := mem_met.mp hi
    refine mem_met.mpr ⟨b, hb, q.imp id fun q => ?_⟩
    rw [rowAt_set h0 h1 (hL b hb).1] at q
    by_cases e : b = a
    · rw [if_pos e] at q
      subst e
      exact ((mem_subR h h0 h1).mp q).1
    · rw [if_neg e] at q; exact q
  · intro L hL i hi
    obtain ⟨b, hb, q⟩ := mem_met.mp hi
    by_cases ho : i = o
    · exact .inr ho
    left
    refine mem_met.mpr ⟨b, hb, q.imp id fun q => ?_⟩
    rw [rowAt_set h0 h1 (hL b hb).1]
    by_cases e : b = a
    · rw [if_pos e]
      subst e
      exact (mem_subR h h0 h1).mpr ⟨q, ho⟩
    · rw [if_neg e]; exact q
theorem near_mn' {P Q : List (List Int)} (hP : Pan 10 P) (hQ : Pan 10 Q) (hl : P.length = Q.length) {o : Int} (o0 : 0 ≤ o) (o1 : o < P.length) (h1 : ∀ L, Bel P.length L → ∀ i, i ∈ met P L → i ∈ met Q L) (h2 : ∀ L, Bel P.length L → ∀ i, i ∈ met Q L → i ∈ met P L ∨ i = o)
    {r q : List Int} (lr : Lst P r) (lq : Lst Q q) : q.length ≤ r.length ∧ r.length ≤ q.length + 1 := by
  have bq : Bel P.length q := by rw [hl]; exact lq.bel
  have br : Bel Q.length r := by rw [← hl]; exact lr.bel
  constructor
  · refine lq.min r br ((full_iff hQ br).mpr fun a a0 a1 => h1 r lr.bel a ((full_iff hP lr.bel).mp lr.full a a0 (by rw [hl]; exact a1)))
  · have hb : Bel P.length (q ++ [o]) := fun a ha => by
      rcases List.mem_append.mp ha with z | z
      · exact bq a z
      · rw [List.mem_singleton.mp z]; exact ⟨o0, o1⟩
    have := lr.min (q ++ [o]) hb ((full_iff hP hb).mpr fun a a0 a1 => by
      have hm := (full_iff hQ lq.bel).mp lq.full a a0 (by rw [← hl]; exact a1)
      rcases h2 q bq a hm with z | z
      · obtain ⟨b, hb, y⟩ := mem_met.mp z
        exact mem_met.mpr ⟨b, List.mem_append.mpr (.inl hb), y⟩
      · exact mem_met.mpr ⟨o, by simp, .inl z⟩)
    rw [List.length_append, List.length_singleton] at this
    exact this
theorem links_runs {pan : List (List Int)} (h : PanA pan) {r : List Int} (lr : Lst pan r) : Runs 2 (p__law_links_right pan (r.length : Int)) fun b => b = true := by
  have hpos := h.pan.pos
  have hle := h.pan.le
  unfold p__law_links_right
  simp only [mbind_assoc, mbind_pure]
  refine runs_d (by omega) (by omega) (by omega) fun a a0 a1 => ?_
  refine runs_d (by omega) (by omega) (by omega) fun o o0 o1 => ?_
  by_cases e : a = o
  · rw [decide_eq_true e, if_pos rfl]; exact runs_p rfl
  rw [decide_eq_false e, if_neg (by decide), linked_ok h a0 a1 o0 o1, unlinked_ok h a0 a1 o]
  simp only [mbind_pure]
  have hba := bel_add pan a o
  have hbs := bel_sub pan a o
  have p1 := set_pan h.pan (b := a) hba.1 (by omega)
  have p2 := set_pan h.pan (b := a) hbs.1 (by omega)
  obtain ⟨r1, l1⟩ := lst_of p1
  obtain ⟨r2, l2⟩ := lst_of p2
  rw [l1.short p1, l2.short p2]
  simp only [mbind_pure]
  have m1 := met_add h a0 a1 o0 o1
  have m2 := met_sub (o := o) h a0 a1
  have n1 := near_mn' h.pan p1 (setL_len pan a _).symm o0 o1 m1.1 m1.2 lr l1
  have n2 := near_mn' p2 h.pan (setL_len pan a _) (o := o) o0 (by rw [setL_len]; exact o1) (fun L hL => m2.1 L (by rw [setL_len] at hL; exact hL)) (fun L hL => m2.2 L (by rw [setL_len] at hL; exact hL)) l2 lr
  refine runs_p ?_
  simp only [Bool.and_eq_true, decide_eq_true_eq]
  omega
theorem forU_rel {S α σ : Type} {body : α → σ → Mt S σ} (I : σ → Prop) : ∀ (xs : List α) (z : σ), I z → (∀ x ∈ xs, ∀ z, I z → ∃ z', body x z = mpure z' ∧ I z') → ∃ z', forU body xs z = mpure z' ∧ I z'
  | [], z, h, _ => ⟨z, rfl, h⟩
  | x :: xs, z, h, hb => by
    obtain ⟨z', e, h'⟩ := hb x (by simp) z h
    obtain ⟨z2, e2, h2⟩ := forU_rel I xs z' h' fun y hy => hb y (by simp [hy])
    refine ⟨z2, ?_, h2⟩
    unfold forU
    rw [e, mbind_pure]
    exact e2
theorem ex_forU {S α σ β : Type} {body : α → σ → Mt S σ} {k : σ → Mt S β} (Q : Mt S β → Prop) (I : σ → Prop) {xs : List α} {z : σ} (h : I z) (hk : ∀ z, I z → Q (k z)) (hb : ∀ x ∈ xs, ∀ z, I z → ∃ z', body x z = mpure z' ∧ I z') : Q (mbind (forU body xs z) k) := by
  obtain ⟨z', e, h'⟩ := forU_rel I xs z h hb
  rw [e, mbind_pure]
  exact hk z' h'
def relL (pan : List (List Int)) (b : Int) : List Int := ((enumZ 0 pan).filter fun x => decide (b ∈ x.2)).map fun x => x.1
theorem rel_ok {S : Type} {pan : List (List Int)} (h : Pan 10 pan) (b : Int) : p_releasers_of (S := S) pan b = mpure (relL pan b) := by
  unfold p_releasers_of
  simp only [mbind_pure]
  have hle := h.le
  rw [compV_ok (by rw [enumZ_length]; omega), mbind_pure] <;> rfl
theorem mem_relL {pan : List (List Int)} {b x : Int} : x ∈ relL pan b ↔ (0 ≤ x ∧ x < pan.length) ∧ b ∈ rowAt pan x := by
  unfold relL
  rw [List.mem_map]
  constructor
  · rintro ⟨⟨i, r⟩, hm, rfl⟩
    obtain ⟨h1, h2⟩ := List.mem_filter.mp hm
    obtain ⟨k, hk⟩ := List.getElem?_of_mem h1
    rw [enumZ_get] at hk
    cases hp : pan[k]? with
    | none => rw [hp] at hk; cases hk
    | some r' =>
      rw [hp] at hk
      cases hk
      have hlt := (List.getElem?_eq_some_iff.mp hp).1
      refine ⟨⟨by simp, by simp; omega⟩, ?_⟩
      unfold rowAt
      simp only [Nat.zero_add, Int.toNat_natCast]
      rw [List.getD_eq_getElem?_getD, hp]
      simpa using h2
  · rintro ⟨⟨h0, h1⟩, hb⟩
    have hlt : x.toNat < pan.length := by omega
    refine ⟨(x, pan[x.toNat]), List.mem_filter.mpr ⟨?_, ?_⟩, rfl⟩
    · refine List.mem_of_getElem? (i := x.toNat) ?_
      rw [enumZ_get, List.getElem?_eq_getElem hlt]
      simp
      omega
    · unfold rowAt at hb
      rw [List.getD_eq_getElem?_getD, List.getElem?_eq_getElem hlt] at hb
      simpa using hb
theorem relL_len {pan : List (List Int)} (h : Pan 10 pan) (b : Int) : (relL pan b).length ≤ 10 := by
  unfold relL
  rw [List.length_map]
  have := List.length_filter_le (fun x : Int × List Int => decide (b ∈ x.2)) (enumZ 0 pan)
  rw [enumZ_length] at this
  have := h.le
  omega
theorem filt_add {F U O : List Int} (h : ∀ x ∈ O, x ∉ U) : (F.filter fun x => decide (x ∈ U ++ O)).length = (F.filter fun x => decide (x ∈ U)).length + (F.filter fun x => decide (x ∈ O)).length := by
  induction F with
  | nil => rfl
  | cons f F ih =>
    by_cases h1 : f ∈ U
    · have h2 : f ∉ O := fun q => h f q h1
      simp only [List.filter_cons, List.mem_append, h1, h2, true_or, or_false, decide_true, decide_false, if_true, Bool.false_eq_true, if_false, List.length_cons]
      simp only [List.mem_append] at ih
      omega
    · by_cases h2 : f ∈ O
      · simp only [List.filter_cons, List.mem_append, h1, h2, or_true, decide_true, decide_false, if_true, Bool.false_eq_true, if_false, List.length_cons]
        simp only [List.mem_append] at ih
        omega
      · simp only [List.filter_cons, List.mem_append, h1, h2, or_false, decide_false, Bool.false_eq_true, if_false]
        simp only [List.mem_append] at ih
        omega
theorem apart_ok {S : Type} {pan : List (List Int)} (h : Pan 10 pan) {r : List Int} (l : Lst pan r) : ∃ f : Int, p__law_apart (S := S) pan = mpure f ∧ f ≤ r.length := by
  have hle := h.le
  have hpos := h.pos
  have h10 := l.le10 h
  unfold p__law_apart
  simp only [mbind_pure]
  rw [mrng_nat pan.length (by omega), mbind_pure, compM_pure (fun x => (((relL pan x).length : Int), x)) (by rw [upto_length]; omega) (fun x _ _ => by rw [rel_ok h]; rfl), filter_true, calmly_pure', mbind_pure]
  have hs : ∃ xs : List (Int × Int), msort (S := S) ltP2 ((upto pan.length).map fun x => (((relL pan x).length : Int), x)) = mpure xs ∧ ∀ x ∈ xs, 0 ≤ x.2 ∧ x.2 < (pan.length : Int) := by
    refine ⟨_, if_pos (by rw [List.length_map, upto_length]; omega), fun x hx => ?_⟩
    have := (List.mergeSort_perm _ _).mem_iff.mp hx
    obtain ⟨y, hy, rfl⟩ := List.mem_map.mp this
    exact mem_upto.mp hy
  obtain ⟨xs, e, hxs⟩ := hs
  rw [e, mbind_pure]
  refine ex_forU (S := S) (fun q => ∃ f : Int, q = mpure f ∧ f ≤ r.length) (fun z : List Int × Int => z.2 ≤ ((r.filter fun x => decide (x ∈ z.1)).length : Int) ∧ (z.1.length : Int) ≤ 11 * z.2 ∧ 0 ≤ z.2) ⟨by simp, by simp, by simp⟩ (fun z hz => ?_) fun x hx z ⟨i1, i2, i3⟩ => ?_
  · refine ⟨z.2, rfl, ?_⟩
    have := List.length_filter_le (fun x => decide (x ∈ z.1)) r
    omega
  · have hb := hxs x hx
    have hfl := List.length_filter_le (fun x => decide (x ∈ z.1)) r
    have hrl := relL_len h x.2
    rw [rel_ok h, mbind_pure, mbind_pure, mcat_ok (by simp; omega), mbind_pure, compV_ok (by simp; omega)]
    simp only [mbind_pure]
    by_cases hd : ((relL pan x.2 ++ [x.2]).filter fun y => decide (y ∈ z.1)).map (fun _ => (1 : Int)) = []
    · rw [decide_eq_true hd, if_pos rfl, mcat_ok (by simp; omega)]
      simp only [mbind_pure]
      refine ⟨_, rfl, ?_⟩
      have hdis : ∀ y ∈ relL pan x.2 ++ [x.2], y ∉ z.1 := fun y hy hz => by
        rw [List.map_eq_nil_iff, List.filter_eq_nil_iff] at hd
        have := hd y hy
        simp [hz] at this
      have hone : 1 ≤ (r.filter fun y => decide (y ∈ relL pan x.2 ++ [x.2])).length := by
        have hm := (full_iff h l.bel).mp l.full x.2 hb.1 hb.2
        obtain ⟨b, hbr, q⟩ := mem_met.mp hm
        refine List.length_pos_of_mem (a := b) (List.mem_filter.mpr ⟨hbr, ?_⟩)
        rw [decide_eq_true_eq, List.mem_append, List.mem_singleton]
        rcases q with q | q
        · exact .inr q.symm
        · exact .inl (mem_relL.mpr ⟨l.bel b hbr, q⟩)
      have := filt_add (F := r) hdis
      refine ⟨?_, ?_, ?_⟩
      · rw [this]
        show z.2 + 1 ≤ _
        omega
      · show (((z.1 ++ (relL pan x.2 ++ [x.2])).length : Nat) : Int) ≤ 11 * (z.2 + 1)
        rw [List.length_append, List.length_append, List.length_singleton]
        omega
      · show 0 ≤ z.2 + 1
        omega
    · rw [decide_eq_false hd, if_neg (by decide)]
      exact ⟨_, rfl, i1, i2, i3⟩
def nmA (ns : List Int) (i : Int) : Int := ns.getD i.toNat 0
def ixA (ns : List Int) (j : Int) : Int := (ns.idxOf j : Nat)
structure Names (n : Nat) (ns : List Int) : Prop where
  perm : ns.Perm (upto n)
theorem Names.len {n : Nat} {ns : List Int} (h : Names n ns) : ns.length = n := by rw [h.perm.length_eq, upto_length]
theorem Names.nd {n : Nat} {ns : List Int} (h : Names n ns) : ns.Nodup := h.perm.nodup_iff.mpr ((sorted_upto n).imp fun h => Int.ne_of_lt h)
theorem Names.mem {n : Nat} {ns : List Int} (h : Names n ns) {a : Int} : a ∈ ns ↔ 0 ≤ a ∧ a < (n : Int) := by rw [h.perm.mem_iff, mem_upto]
theorem Names.at {n : Nat} {ns : List Int} (h : Names n ns) {i : Int} (h0 : 0 ≤ i) (h1 : i < (n : Int)) : ns[i.toNat]? = some (nmA ns i) := by
  unfold nmA
  have hl : i.toNat < ns.length := by rw [h.len]; omega
  rw [List.getD_eq_getElem?_getD, List.getElem?_eq_getElem hl] <;> rfl
theorem Names.nm {n : Nat} {ns : List Int} (h : Names n ns) {i : Int} (h0 : 0 ≤ i) (h1 : i < (n : Int)) : 0 ≤ nmA ns i ∧ nmA ns i < (n : Int) := h.mem.mp (List.mem_of_getElem? (h.at h0 h1))
theorem Names.ix {n : Nat} {ns : List Int} (h : Names n ns) {j : Int} (h0 : 0 ≤ j) (h1 : j < (n : Int)) : 0 ≤ ixA ns j ∧ ixA ns j < (n : Int) := by
  unfold ixA
  have := List.idxOf_lt_length_iff.mpr (h.mem.mpr ⟨h0, h1⟩)
  rw [h.len] at this
  omega
theorem Names.nm_ix {n : Nat} {ns : List Int} (h : Names n ns) {j : Int} (h0 : 0 ≤ j) (h1 : j < (n : Int)) : nmA ns (ixA ns j) = j := by
  have hm := h.mem.mpr ⟨h0, h1⟩
  have hl := List.idxOf_lt_length_iff.mpr hm
  unfold nmA ixA
  rw [Int.toNat_natCast, List.getD_eq_getElem?_getD, List.getElem?_eq_getElem hl]
  exact List.getElem_idxOf hl
theorem Names.ix_nm {n : Nat} {ns : List Int} (h : Names n ns) {i : Int} (h0 : 0 ≤ i) (h1 : i < (n : Int)) : ixA ns (nmA ns i) = i := by
  have hl : i.toNat < ns.length := by rw [h.len]; omega
  have e : nmA ns i = ns[i.toNat] := by
    have := h.at h0 h1
    rw [List.getElem?_eq_getElem hl] at this
    exact (Option.some.inj this).symm
  unfold ixA
  rw [e, h.nd.idxOf_getElem]
  omega
def renR (pan : List (List Int)) (ns : List Int) (i : Int) : List Int := ((rowAt pan i).map (nmA ns)).mergeSort (leOf ltI)
def renP (pan : List (List Int)) (ns : List Int) : List (List Int) := (upto pan.length).map fun j => renR pan ns (ixA ns j)
theorem renP_len (pan : List (List Int)) (ns : List Int) : (renP pan ns).length = pan.length := by unfold renP; rw [List.length_map, upto_length]
theorem mem_renR {pan : List (List Int)} {ns : List Int} {i x : Int} : x ∈ renR pan ns i ↔ ∃ y ∈ rowAt pan i, nmA ns y = x := by
  unfold renR
  rw [(List.mergeSort_perm _ _).mem_iff, List.mem_map]
theorem renR_len (pan : List (List Int)) (ns : List Int) (i : Int) : (renR pan ns i).length = (rowAt pan i).length := by
  unfold renR
  rw [List.length_mergeSort, List.length_map]
theorem rowAt_ren (pan : List (List Int)) (ns : List Int) {j : Int} (h0 : 0 ≤ j) (h1 : j < (pan.length : Int)) : rowAt (renP pan ns) j = renR pan ns (ixA ns j) := by
  unfold renP rowAt
  rw [List.getD_eq_getElem?_getD, List.getElem?_map, upto_get, if_pos (by omega)]
  show renR pan ns (ixA ns ((j.toNat : Nat) : Int)) = _
  rw [show ((j.toNat : Nat) : Int) = j by omega]
theorem ren_pan {pan : List (List Int)} (h : Pan 10 pan) {ns : List Int} (hn : Names pan.length ns) : Pan 10 (renP pan ns) := by
  have hl := renP_len pan ns
  have row : ∀ q ∈ renP pan ns, ∃ i : Int, (0 ≤ i ∧ i < (pan.length : Int)) ∧ q = renR pan ns i := fun q hq => by
    obtain ⟨j, hj, rfl⟩ := List.mem_map.mp hq
    have := mem_upto.mp hj
    exact ⟨_, hn.ix this.1 this.2, rfl⟩
  refine ⟨by rw [hl]; exact h.pos, by rw [hl]; exact h.le, fun q hq => ?_, fun q hq a ha => ?_⟩
  · obtain ⟨i, ⟨h0, h1⟩, rfl⟩ := row q hq
    rw [renR_len]
    exact h.len _ (h.row h0 h1)
  · obtain ⟨i, ⟨h0, h1⟩, rfl⟩ := row q hq
    obtain ⟨y, hy, rfl⟩ := mem_renR.mp ha
    have := h.rng _ (h.row h0 h1) y hy
    rw [hl]
    exact hn.nm this.1 this.2
theorem ren_ok {S : Type} {pan : List (List Int)} (h : Pan 10 pan) {ns : List Int} (hn : Names pan.length ns) : p_renamed (S := S) pan ns = mpure (renP pan ns) := by
  have hle := h.le
  unfold p_renamed
  rw [mrepL_ok (by omega) (by omega)]
  simp only [mbind_pure]
  rw [forU_inv (enumZ 0 pan) _ (fun pre => (upto pan.length).map fun j => if ns.idxOf j < pre.length then renR pan ns (ixA ns j) else []) ?_ fun pre x post e => ?_, mbind_ret]
  · congr 1
    unfold renP
    refine List.map_congr_left fun j hj => ?_
    have hj := mem_upto.mp hj
    have := List.idxOf_lt_length_iff.mpr (hn.mem.mpr hj)
    rw [hn.len] at this
    rw [if_pos (by rw [enumZ_length]; exact this)]
  · show (upto pan.length).map _ = List.replicate _ []
    rw [Int.toNat_natCast]
    refine List.eq_replicate_iff.mpr ⟨by rw [List.length_map, upto_length], fun b hb => ?_⟩
    obtain ⟨j, _, rfl⟩ := List.mem_map.mp hb
    rw [if_neg (by simp)]
  · have hx : (enumZ 0 pan)[pre.length]? = some x := by rw [e]; simp
    rw [enumZ_get] at hx
    have hpl : pre.length < pan.length := by
      have := congrArg List.length e
      rw [enumZ_length] at this
      simp at this
      omega
    rw [List.getElem?_eq_getElem hpl] at hx
    have hx2 : x = ((pre.length : Int), rowAt pan pre.length) := by
      have := (Option.some.inj hx).symm
      rw [this]
      show ((((0 + pre.length : Nat)) : Int), _) = _
      rw [Nat.zero_add]
      unfold rowAt
      rw [Int.toNat_natCast, List.getD_eq_getElem?_getD, List.getElem?_eq_getElem hpl] <;> rfl
    subst hx2
    have hr := h.row (b := (pre.length : Int)) (by omega) (by omega)
    have hrl := h.len _ hr
    have h0 : (0 : Int) ≤ (pre.length : Int) := by omega
    have h1 : (pre.length : Int) < (pan.length : Int) := by omega
    have hnm := hn.nm h0 h1
    simp only [mbind_pure]
    rw [compM_pure (nmA ns) (by omega) (fun y hy _ => ?_), filter_true, calmly_pure', mbind_pure, msort_ok (by rw [List.length_map]; omega), mbind_pure]
    · rw [midx_ok h0 (hn.at h0 h1)]
      simp only [mbind_pure, mbind_ret]
      have e2 : msetI (S := S) ((upto pan.length).map fun j => if ns.idxOf j < pre.length then renR pan ns (ixA ns j) else []) (nmA ns (pre.length : Int)) (renR pan ns (pre.length : Int)) = mpure (((upto pan.length).map fun j => if ns.idxOf j < pre.length then renR pan ns (ixA ns j) else []).set (nmA ns (pre.length : Int)).toNat (renR pan ns (pre.length : Int))) := by
        unfold msetI ixN
        rw [if_pos (by omega), if_pos (by rw [List.length_map, upto_length]; omega)] <;> rfl
      show calmly (msetI _ _ (renR pan ns (pre.length : Int))) = _
      rw [e2, calmly_pure']
      congr 1
      refine List.ext_getElem? fun m => ?_
      rw [List.getElem?_set, List.getElem?_map, List.getElem?_map, upto_get]
      by_cases hm : m < pan.length
      · rw [if_pos hm]
        by_cases hq : (nmA ns (pre.length : Int)).toNat = m
        · rw [if_pos hq, if_pos (by rw [List.length_map, upto_length]; omega)]
          have hmm : (m : Int) = nmA ns (pre.length : Int) := by omega
          show _ = some (if ns.idxOf (m : Int) < (pre ++ [_]).length then renR pan ns (ixA ns (m : Int)) else [])
          have hix := hn.ix_nm h0 h1
          have hix2 : ns.idxOf (m : Int) = pre.length := by
            rw [hmm]
            unfold ixA at hix
            omega
          rw [if_pos (by rw [hix2, List.length_append, List.length_singleton]; omega), hmm, hix]
        · rw [if_neg hq]
          show some (if ns.idxOf (m : Int) < pre.length then renR pan ns (ixA ns (m : Int)) else []) = some (if ns.idxOf (m : Int) < (pre ++ [_]).length then renR pan ns (ixA ns (m : Int)) else [])
          have hne : ns.idxOf (m : Int) ≠ pre.length := fun q => by
            have h2 := hn.nm_ix (j := (m : Int)) (by omega) (by omega)
            unfold ixA at h2
            rw [q] at h2
            omega
          congr 1
          rw [List.length_append, List.length_singleton]
          by_cases hlt : ns.idxOf (m : Int) < pre.length
          · rw [if_pos hlt, if_pos (by omega)]
          · rw [if_neg hlt, if_neg (by omega)]
      · rw [if_neg hm]
        by_cases hq : (nmA ns (pre.length : Int)).toNat = m
        · omega
        · rw [if_neg hq] <;> rfl
    · have := h.rng _ hr y hy
      exact midx_ok this.1 (hn.at this.1 this.2)
theorem ren_met {pan : List (List Int)} (h : Pan 10 pan) {ns : List Int} (hn : Names pan.length ns) {L : List Int} (hL : Bel pan.length L) {c : Int} (h0 : 0 ≤ c) (h1 : c < (pan.length : Int)) : nmA ns c ∈ met (renP pan ns) (L.map (nmA ns)) ↔ c ∈ met pan L := by
  have inj : ∀ {a b : Int}, (0 ≤ a ∧ a < (pan.length : Int)) → (0 ≤ b ∧ b < (pan.length : Int)) → nmA ns a = nmA ns b → a = b := fun {a b} ha hb e => by
    rw [← hn.ix_nm ha.1 ha.2, ← hn.ix_nm hb.1 hb.2, e]
  rw [mem_met, mem_met]
  constructor
  · rintro ⟨x, hx, q⟩
    obtain ⟨b, hb, rfl⟩ := List.mem_map.mp hx
    have hbb := hL b hb
    refine ⟨b, hb, ?_⟩
    rcases q with q | q
    · exact .inl (inj ⟨h0, h1⟩ hbb q)
    · have hnm := hn.nm hbb.1 hbb.2
      rw [rowAt_ren pan ns hnm.1 hnm.2, hn.ix_nm hbb.1 hbb.2] at q
      obtain ⟨y, hy, ey⟩ := mem_renR.mp q
      have := h.rng _ (h.row hbb.1 hbb.2) y hy
      rw [← inj this ⟨h0, h1⟩ ey]
      exact .inr hy
  · rintro ⟨b, hb, q⟩
    have hbb := hL b hb
    refine ⟨nmA ns b, List.mem_map.mpr ⟨b, hb, rfl⟩, ?_⟩
    rcases q with q | q
    · rw [q]; exact .inl rfl
    · have hnm := hn.nm hbb.1 hbb.2
      rw [rowAt_ren pan ns hnm.1 hnm.2, hn.ix_nm hbb.1 hbb.2]
      exact .inr (mem_renR.mpr ⟨c, q, rfl⟩)
theorem ren_bel {n : Nat} {ns : List Int} (hn : Names n ns) {L : List Int} (hL : Bel n L) : Bel n (L.map (nmA ns)) := fun a ha => by
  obtain ⟨b, hb, rfl⟩ := List.mem_map.mp ha
  exact hn.nm (hL b hb).1 (hL b hb).2
theorem back_bel {n : Nat} {ns : List Int} (hn : Names n ns) {L : List Int} (hL : Bel n L) : Bel n (L.map (ixA ns)) := fun a ha => by
  obtain ⟨b, hb, rfl⟩ := List.mem_map.mp ha
  exact hn.ix (hL b hb).1 (hL b hb).2
theorem ren_back {n : Nat} {ns : List Int} (hn : Names n ns) {L : List Int} (hL : Bel n L) : (L.map (ixA ns)).map (nmA ns) = L := by
  rw [List.map_map]
  conv => rhs; rw [← List.map_id L]
  exact List.map_congr_left fun b hb => hn.nm_ix (hL b hb).1 (hL b hb).2
theorem ren_full {pan : List (List Int)} (h : Pan 10 pan) {ns : List Int} (hn : Names pan.length ns) {L : List Int} (hL : Bel pan.length L) : fullB (renP pan ns) (L.map (nmA ns)) = fullB pan L := by
  have hb : Bel (renP pan ns).length (L.map (nmA ns)) := by rw [renP_len]; exact ren_bel hn hL
  have key : fullB (renP pan ns) (L.map (nmA ns)) = true ↔ fullB pan L = true := by
    rw [full_iff (ren_pan h hn) hb, full_iff h hL, renP_len]
    constructor
    · intro q c h0 h1
      have hnm := hn.nm h0 h1
      exact (ren_met h hn hL h0 h1).mp (q _ hnm.1 hnm.2)
    · intro q a h0 h1
      have hix := hn.ix h0 h1
      have := (ren_met h hn hL hix.1 hix.2).mpr (q _ hix.1 hix.2)
      rw [hn.nm_ix h0 h1] at this
      exact this
  cases e1 : fullB pan L with
  | true => exact key.mpr e1
  | false =>
    cases e2 : fullB (renP pan ns) (L.map (nmA ns)) with
    | false => rfl
    | true => rw [key.mp e2] at e1; exact e1
theorem ren_mn {pan : List (List Int)} (h : Pan 10 pan) {ns : List Int} (hn : Names pan.length ns) {r q : List Int} (lr : Lst pan r) (lq : Lst (renP pan ns) q) : q.length = r.length ∧ fullB pan (q.map (ixA ns)) = true := by
  have hq : Bel pan.length q := by have := lq.bel; rw [renP_len] at this; exact this
  have hb := back_bel hn hq
  have hf : fullB pan (q.map (ixA ns)) = true := by
    rw [← ren_full h hn hb, ren_back hn hq]
    exact lq.full
  refine ⟨Nat.le_antisymm ?_ ?_, hf⟩
  · have := lq.min (r.map (nmA ns)) (by rw [renP_len]; exact ren_bel hn lr.bel) (by rw [ren_full h hn lr.bel]; exact lr.full)
    rw [List.length_map] at this
    exact this
  · have := lr.min _ hb hf
    rw [List.length_map] at this
    exact this
def shiftR (k : Int) (r : List Int) : List Int := r.map fun x => k + x
def bes (ps : List (List (List Int))) : List (List Int) := ps.foldl (fun z p => z ++ p.map (shiftR z.length)) []
theorem bes_snoc (ps : List (List (List Int))) (p : List (List Int)) : bes (ps ++ [p]) = bes ps ++ p.map (shiftR (bes ps).length) := by
  unfold bes
  rw [List.foldl_append]
  rfl
structure Few (ps : List (List (List Int))) : Prop where
  n : ps.length ≤ 11
  len : ∀ p ∈ ps, p.length ≤ 10
  row : ∀ p ∈ ps, ∀ r ∈ p, r.length ≤ 10 ∧ ∀ a ∈ r, 0 ≤ a ∧ a < 10
theorem Few.pre {pre post : List (List (List Int))} (h : Few (pre ++ post)) : Few pre := ⟨by have := h.n; rw [List.length_append] at this; omega, fun p hp => h.len p (by simp [hp]), fun p hp => h.row p (by simp [hp])⟩
theorem bes_ok : ∀ (n : Nat) (ps : List (List (List Int))), ps.length = n → Few ps → (bes ps).length = (ps.map List.length).sum ∧ (bes ps).length ≤ 10 * n ∧ ∀ r ∈ bes ps, r.length ≤ 10 ∧ ∀ a ∈ r, 0 ≤ a ∧ a < 10 * n + 10
  | 0, ps, e, _ => by
    cases List.eq_nil_of_length_eq_zero e
    exact ⟨rfl, Nat.le_refl _, fun r hr => nomatch hr⟩
  | n + 1, ps, e, h => by
    obtain ⟨q, p, rfl⟩ : ∃ q p, ps = q ++ [p] := by
      rcases List.eq_nil_or_concat ps with rfl | ⟨q, p, rfl⟩
      · cases e
      · exact ⟨q, p, by simp⟩
    have hq : q.length = n := by simpa using e
    obtain ⟨h1, h2, h3⟩ := bes_ok n q hq h.pre
    have hp := h.len p (by simp)
    rw [bes_snoc]
    refine ⟨?_, ?_, fun r hr => ?_⟩
    · rw [List.length_append, List.length_map, h1]
      simp
    · rw [List.length_append, List.length_map]
      omega
    · rcases List.mem_append.mp hr with hr | hr
      · have := h3 r hr
        exact ⟨this.1, fun a ha => by have := this.2 a ha; omega⟩
      · obtain ⟨t, ht, rfl⟩ := List.mem_map.mp hr
        have := h.row p (by simp) t ht
        unfold shiftR
        refine ⟨by rw [List.length_map]; exact this.1, fun a ha => ?_⟩
        obtain ⟨x, hx, rfl⟩ := List.mem_map.mp ha
        have := this.2 x hx
        omega
theorem sum_cast : ∀ l : List (List (List Int)), (l.map fun p => (p.length : Int)).sum = ((l.map List.length).sum : Nat)
  | [] => rfl
  | p :: l => by
    simp only [List.map_cons, List.sum_cons]
    rw [sum_cast l]
    omega
theorem beside_ok {S : Type} {ps : List (List (List Int))} (h : Few ps) (hb : (bes ps).length ≤ 10) : p_beside (S := S) ps = mpure (bes ps) := by
  have hn := h.n
  obtain ⟨h1, h2, h3⟩ := bes_ok _ ps rfl h
  unfold p_beside
  simp only [mbind_pure, mbind_ret]
  rw [compV_ok (by omega)]
  simp only [mbind_pure, mbind_ret]
  rw [filter_true, sum_cast, ← h1]
  rw [if_neg (by simp; omega)]
  refine forU_inv ps [] bes rfl fun pre p post e => ?_
  subst e
  obtain ⟨h4, h5, h6⟩ := bes_ok _ pre rfl h.pre
  have hp := h.len p (by simp)
  have hpn : pre.length ≤ 11 := by rw [List.length_append] at hn; omega
  rw [compM_pure (shiftR (bes pre).length) (by omega) (fun r hr _ => ?_), filter_true, calmly_pure', mbind_pure, mcat_ok (by rw [List.length_map]; omega), bes_snoc]
  have := (h.row p (by simp) r hr).1
  rw [compV_ok (by omega), filter_true]
  rfl
theorem bes_two (A B : List (List Int)) : bes [A, B] = A ++ B.map (shiftR A.length) := by
  have e0 : A.map (shiftR 0) = A := by
    conv => rhs; rw [← List.map_id A]
    refine List.map_congr_left fun r _ => ?_
    unfold shiftR
    conv => rhs; rw [id, ← List.map_id r]
    exact List.map_congr_left fun x _ => by rw [Int.zero_add] <;> rfl
  show ([] ++ A.map (shiftR (([] : List (List Int)).length : Int))) ++ B.map (shiftR (([] ++ A.map (shiftR (([] : List (List Int)).length : Int))).length : Int)) = _
  rw [List.nil_append]
  show A.map (shiftR 0) ++ B.map (shiftR ((A.map (shiftR 0)).length : Int)) = _
  rw [e0]
section
variable {A B : List (List Int)}
abbrev bsW (A B : List (List Int)) : List (List Int) := A ++ B.map (shiftR A.length)
theorem bsW_len : (bsW A B).length = A.length + B.length := by rw [List.length_append, List.length_map]
theorem row_left {i : Int} (h0 : 0 ≤ i) (h1 : i < (A.length : Int)) : rowAt (bsW A B) i = rowAt A i := by
  unfold rowAt
  rw [List.getD_eq_getElem?_getD, List.getElem?_append_left (by omega), ← List.getD_eq_getElem?_getD]
theorem row_right {i : Int} (h0 : (A.length : Int) ≤ i) (h1 : i < (A.length : Int) + B.length) : rowAt (bsW A B) i = shiftR A.length (rowAt B (i - A.length)) := by
  unfold rowAt
  have e : (i - (A.length : Int)).toNat = i.toNat - A.length := by omega
  have hl : i.toNat - A.length < B.length := by omega
  rw [List.getD_eq_getElem?_getD, List.getElem?_append_right (by omega), List.getElem?_map, e, List.getD_eq_getElem?_getD, List.getElem?_eq_getElem hl] <;> rfl
theorem mem_shift {k x : Int} {r : List Int} : x ∈ shiftR k r ↔ ∃ y ∈ r, k + y = x := by unfold shiftR; rw [List.mem_map]
theorem bs_pan (hA : Pan 10 A) (hB : Pan 10 B) (hl : A.length + B.length ≤ 10) : Pan 10 (bsW A B) := by
  refine ⟨by rw [bsW_len]; have := hA.pos; omega, by rw [bsW_len]; exact hl, fun r hr => ?_, fun r hr a ha => ?_⟩
  · rcases List.mem_append.mp hr with q | q
    · exact hA.len r q
    · obtain ⟨t, ht, rfl⟩ := List.mem_map.mp q
      unfold shiftR
      rw [List.length_map]
      exact hB.len t ht
  · rw [bsW_len]
    rcases List.mem_append.mp hr with q | q
    · have := hA.rng r q a ha; omega
    · obtain ⟨t, ht, rfl⟩ := List.mem_map.mp q
      obtain ⟨y, hy, rfl⟩ := mem_shift.mp ha
      have := hB.rng t ht y hy
      omega
def lowL (A : List (List Int)) (L : List Int) : List Int := L.filter fun x => decide (x < (A.length : Int))
def upL (A : List (List Int)) (L : List Int) : List Int := (L.filter fun x => !decide (x < (A.length : Int))).map fun x => x - A.length
theorem split_len (L : List Int) : (lowL A L).length + (upL A L).length = L.length := by
  unfold lowL upL
  rw [List.length_map]
  induction L with
  | nil => rfl
  | cons x L ih =>
    by_cases h : x < (A.length : Int)
    · simp only [List.filter_cons, h, decide_true, if_true, Bool.not_true, Bool.false_eq_true, if_false, List.length_cons]
      omega
    · simp only [List.filter_cons, h, decide_false, if_true, Bool.not_false, Bool.false_eq_true, if_false, List.length_cons]
      omega
theorem low_bel {L : List Int} (hL : Bel (bsW A B).length L) : Bel A.length (lowL A L) := fun a ha => by
  obtain ⟨h1, h2⟩ := List.mem_filter.mp ha
  have := hL a h1
  rw [decide_eq_true_eq] at h2
  exact ⟨this.1, h2⟩
theorem up_bel {L : List Int} (hL : Bel (bsW A B).length L) : Bel B.length (upL A L) := fun a ha => by
  obtain ⟨x, hx, rfl⟩ := List.mem_map.mp ha
  obtain ⟨h1, h2⟩ := List.mem_filter.mp hx
  have := hL x h1
  rw [bsW_len] at this
  simp only [Bool.not_eq_true', decide_eq_false_iff_not] at h2
  omega
theorem met_low (hB : Pan 10 B) {L : List Int} (hL : Bel (bsW A B).length L) {c : Int} (c1 : c < (A.length : Int)) : c ∈ met (bsW A B) L ↔ c ∈ met A (lowL A L) := by
  rw [mem_met, mem_met]
  constructor
  · rintro ⟨b, hb, q⟩
    have hbb := hL b hb
    rw [bsW_len] at hbb
    by_cases hlt : b < (A.length : Int)
    · refine ⟨b, List.mem_filter.mpr ⟨hb, by simpa using hlt⟩, q.imp id fun q => ?_⟩
      rw [row_left hbb.1 hlt] at q
      exact q
    · rcases q with q | q
      · omega
      · rw [row_right (by omega) (by omega)] at q
        obtain ⟨y, hy, e⟩ := mem_shift.mp q
        have := hB.rng _ (hB.row (b := b - A.length) (by omega) (by omega)) y hy
        omega
  · rintro ⟨b, hb, q⟩
    obtain ⟨h1, h2⟩ := List.mem_filter.mp hb
    rw [decide_eq_true_eq] at h2
    exact ⟨b, h1, q.imp id fun q => by rw [row_left (hL b h1).1 h2]; exact q⟩
theorem met_up (hA : Pan 10 A) {L : List Int} (hL : Bel (bsW A B).length L) {c : Int} (c0 : 0 ≤ c) : (A.length : Int) + c ∈ met (bsW A B) L ↔ c ∈ met B (upL A L) := by
  rw [mem_met, mem_met]
  constructor
  · rintro ⟨b, hb, q⟩
    have hbb := hL b hb
    rw [bsW_len] at hbb
    by_cases hlt : b < (A.length : Int)
    · rcases q with q | q
      · omega
      · rw [row_left hbb.1 hlt] at q
        have := hA.rng _ (hA.row hbb.1 hlt) _ q
        omega
    · refine ⟨b - A.length, List.mem_map.mpr ⟨b, List.mem_filter.mpr ⟨hb, by simpa using hlt⟩, rfl⟩, ?_⟩
      rcases q with q | q
      · left; omega
      · right
        rw [row_right (by omega) (by omega)] at q
        obtain ⟨y, hy, e⟩ := mem_shift.mp q
        have : y = c := by omega
        rw [← this]; exact hy
  · rintro ⟨b, hb, q⟩
    obtain ⟨x, hx, rfl⟩ := List.mem_map.mp hb
    obtain ⟨h1, h2⟩ := List.mem_filter.mp hx
    simp only [Bool.not_eq_true', decide_eq_false_iff_not] at h2
    have hxx := hL x h1
    rw [bsW_len] at hxx
    refine ⟨x, h1, ?_⟩
    rcases q with q | q
    · left; omega
    · right
      rw [row_right (by omega) (by omega)]
      exact mem_shift.mpr ⟨c, q, rfl⟩
theorem bs_full (hA : Pan 10 A) (hB : Pan 10 B) (hl : A.length + B.length ≤ 10) {L : List Int} (hL : Bel (bsW A B).length L) : fullB (bsW A B) L = true ↔ fullB A (lowL A L) = true ∧ fullB B (upL A L) = true := by
  rw [full_iff (bs_pan hA hB hl) hL, full_iff hA (low_bel hL), full_iff hB (up_bel hL), bsW_len]
  constructor
  · intro q
    refine ⟨fun c h0 h1 => (met_low hB hL h1).mp (q c h0 (by omega)), fun c h0 h1 => (met_up hA hL h0).mp (q _ (by omega) (by omega))⟩
  · rintro ⟨q1, q2⟩ a h0 h1
    by_cases hlt : a < (A.length : Int)
    · exact (met_low hB hL hlt).mpr (q1 a h0 hlt)
    · have := (met_up (B := B) hA hL (c := a - A.length) (by omega)).mpr (q2 _ (by omega) (by omega))
      rw [show (A.length : Int) + (a - A.length) = a by omega] at this
      exact this
theorem bs_mn (hA : Pan 10 A) (hB : Pan 10 B) (hl : A.length + B.length ≤ 10) {a b w : List Int} (la : Lst A a) (lb : Lst B b) (lw : Lst (bsW A B) w) : w.length = a.length + b.length := by
  refine Nat.le_antisymm ?_ ?_
  · have hb : Bel (bsW A B).length (a ++ b.map fun y => (A.length : Int) + y) := fun x hx => by
      rw [bsW_len]
      rcases List.mem_append.mp hx with q | q
      · have := la.bel x q; omega
      · obtain ⟨y, hy, rfl⟩ := List.mem_map.mp q
        have := lb.bel y hy; omega
    have e1 : lowL A (a ++ b.map fun y => (A.length : Int) + y) = a := by
      unfold lowL
      rw [List.filter_append, List.filter_eq_self.mpr (fun x hx => by simpa using (la.bel x hx).2), List.filter_eq_nil_iff.mpr (fun x hx => ?_), List.append_nil]
      obtain ⟨y, hy, rfl⟩ := List.mem_map.mp hx
      have := lb.bel y hy
      simp only [decide_eq_true_eq]
      omega
    have e2 : upL A (a ++ b.map fun y => (A.length : Int) + y) = b := by
      unfold upL
      rw [List.filter_append, List.filter_eq_nil_iff.mpr (fun x hx => by have := (la.bel x hx).2; simpa using this), List.nil_append, List.filter_eq_self.mpr (fun x hx => ?_), List.map_map]
      · conv => rhs; rw [← List.map_id b]
        refine List.map_congr_left fun y _ => ?_
        show (A.length : Int) + y - A.length = y
        omega
      · obtain ⟨y, hy, rfl⟩ := List.mem_map.mp hx
        have := lb.bel y hy
        simp only [Bool.not_eq_true', decide_eq_false_iff_not]
        omega
    have := lw.min _ hb ((bs_full hA hB hl hb).mpr ⟨by rw [e1]; exact la.full, by rw [e2]; exact lb.full⟩)
    rw [List.length_append, List.length_map] at this
    exact this
  · obtain ⟨h1, h2⟩ := (bs_full hA hB hl lw.bel).mp lw.full
    have m1 := la.min _ (low_bel lw.bel) h1
    have m2 := lb.min _ (up_bel lw.bel) h2
    have := split_len (A := A) w
    omega
end
theorem names_runs {n : Nat} (hn : n ≤ 10) {c : List Int × List Int → Mt ST Bool} {body : List Int × List Int → Mt ST (List Int × List Int)}
    (hc : ∀ z, c z = mpure (!decide (z.2 = ([] : List Int))))
    (hb : ∀ z, body z = mbind (mbind (mbind (draw (z.2.length : Int)) fun k => mpopIx z.2 k) fun x => mbind (mapp z.1 x.1) fun w => mpure (w, x)) fun y => mpure (y.1, y.2.2)) :
    ∀ (fuel : Nat) (found left : List Int), (found ++ left).Perm (upto n) → left.length < fuel → Runs left.length (whileU c body fuel (found, left)) fun z => z.1.Perm (upto n)
  | 0, _, _, _, hf => by omega
  | fuel + 1, found, left, hp, hf => by
    have hlen := hp.length_eq
    rw [List.length_append, upto_length] at hlen
    unfold whileU
    rw [hc, mbind_pure]
    by_cases hd : left = []
    · subst hd
      rw [List.append_nil] at hp
      rw [if_neg (by simp)]
      exact runs_p hp
    · rw [if_pos (by simp [hd]), hb]
      have hne : 1 ≤ left.length := List.length_pos_iff.mpr hd
      simp only [mbind_assoc]
      refine runs_d (by omega) (by omega) (by omega) fun k hk1 hk2 => ?_
      have hk : k.toNat < left.length := by omega
      have e1 : mpopIx (S := ST) left k = mpure (left[k.toNat], left.eraseIdx k.toNat) := by
        unfold mpopIx
        rw [if_pos ⟨hk1, by omega⟩, List.getElem?_eq_getElem hk]
      rw [e1]
      simp only [mbind_pure]
      rw [mapp_ok (by omega)]
      simp only [mbind_pure]
      have hl2 : (left.eraseIdx k.toNat).length = left.length - 1 := List.length_eraseIdx_of_lt hk
      have := names_runs hn hc hb fuel (found ++ [left[k.toNat]]) (left.eraseIdx k.toNat) (by
        rw [List.append_assoc, List.singleton_append]
        exact ((perm_erase left k.toNat hk).append_left found).trans hp) (by omega)
      rw [hl2] at this
      exact this
theorem namesr_runs {pan : List (List Int)} (h : Pan 10 pan) {r : List Int} (lr : Lst pan r) : Runs 10 (p__law_names_right pan (r.length : Int)) fun b => b = true := by
  have hpos := h.pos
  have hle := h.le
  unfold p__law_names_right
  simp only [mbind_pure]
  rw [mrngL_nat pan.length (by omega)]
  simp only [mbind_pure]
  refine runs_b (n := 10) (runs_le (names_runs hle (fun z => rfl) (fun z => rfl) 1000 [] (upto pan.length) (by simp) (by rw [upto_length]; omega)) (by rw [upto_length]; omega)) (by omega) fun z hz => ?_
  have hn : Names pan.length z.1 := ⟨hz⟩
  have hr := ren_pan h hn
  obtain ⟨q, lq⟩ := lst_of hr
  obtain ⟨e1, e2⟩ := ren_mn h hn lr lq
  have hqb : Bel pan.length q := by have := lq.bel; rw [renP_len] at this; exact this
  have hql := lq.le10 hr
  rw [ren_ok h hn, mbind_pure, lq.short hr]
  simp only [mbind_pure]
  rw [compM_pure (ixA z.1) (by omega) (fun y hy _ => ?_), filter_true, calmly_pure', mbind_pure, e1, decide_eq_true rfl, mbind_pure, if_pos rfl, isr_ok h (back_bel hn hqb), e2]
  · exact runs_p rfl
  · unfold mindexI
    rw [if_pos (hn.mem.mpr (hqb y hy))] <;> rfl
theorem cut_bel {n : Nat} {L : List Int} (h : Bel n L) (lo hi : Option Int) : Bel n (Dn.cutD L lo hi) := fun a ha => by
  unfold Dn.cutD at ha
  exact h a (List.mem_of_mem_drop (List.mem_of_mem_take ha))
theorem law_runs0 : Runs 4000 p_law fun b => b = true := by
  unfold p_law
  simp only [mfin_bind, mfinL_bind, mbind_pure, mbind_ret, mbind_assoc]
  rw [mrng_ok (by omega) (by omega)]
  simp only [mbind_pure]
  refine runs_fin (c := 700) (fun _ => True) trivial (by decide) (fun x hx _ _ => ?_) fun _ _ => ?_
  · obtain ⟨i, hi, rfl⟩ := List.mem_map.mp hx
    have hi := List.mem_range.mp hi
    have hi4 : i < 4 := hi
    obtain ⟨M, eM, hM1, hM2⟩ : ∃ M : Int, midx (S := ST) [(10 : Int), 8, 6, 5] (i : Int) = mpure M ∧ 1 ≤ M ∧ M ≤ 10 := by
      match i, hi4 with
      | 0, _ => exact ⟨10, rfl, by omega, by omega⟩
      | 1, _ => exact ⟨8, rfl, by omega, by omega⟩
      | 2, _ => exact ⟨6, rfl, by omega, by omega⟩
      | 3, _ => exact ⟨5, rfl, by omega, by omega⟩
    rw [eM]
    simp only [mbind_pure]
    refine runs_b (panel_runs hM1 hM2) (by omega) ?_
    rintro pan ⟨hN, hpm, hsrt⟩
    have h := hN.toPan
    have hpos := h.pos
    have hle := h.le
    obtain ⟨r, lr⟩ := lst_of h
    have h10 := lr.le10 h
    obtain ⟨f, ef, hf⟩ := apart_ok (S := ST) h lr
    rw [lr.short h]
    simp only [mbind_pure]
    rw [isr_ok h lr.bel, lr.full, ef]
    simp only [mbind_pure]
    rw [if_neg (by decide), decide_eq_true hf]
    simp only [mbind_pure, Bool.not_true, Bool.false_eq_true, if_false]
    rw [mrng_nat r.length (by omega)]
    simp only [mbind_pure]
    have hul : (upto r.length).length = r.length := upto_length _
    refine runs_finL (c := 0) (fun _ => True) trivial (by omega) (fun k hk _ _ => ?_) fun _ _ => ?_
    · have hk := mem_upto.mp hk
      obtain ⟨m, rfl⟩ : ∃ m : Nat, k = (m : Int) := ⟨k.toNat, by omega⟩
      have e1 : ((m : Int) + 1) = ((m + 1 : Nat) : Int) := by omega
      rw [e1, Dn.cutD_take, Dn.cutD_drop, mcat_ok (by rw [List.length_take, List.length_drop]; omega), mbind_pure]
      have hb : Bel pan.length (r.take m ++ r.drop (m + 1)) := fun a ha => by
        rcases List.mem_append.mp ha with q | q
        · exact lr.bel a (List.mem_of_mem_take q)
        · exact lr.bel a (List.mem_of_mem_drop q)
      rw [isr_ok h hb, lr.few hb (by rw [List.length_append, List.length_take, List.length_drop]; omega)]
      simp only [mbind_pure, Bool.false_eq_true, if_false]
      exact runs_p ⟨(), rfl, trivial⟩
    · rw [mrng_ok (by omega) (by omega)]
      simp only [mbind_pure]
      have h6 : (upto (Int.toNat 6)).length = 6 := upto_length _
      refine runs_finL (c := 70) (fun _ => True) trivial (by omega) (fun k hk _ _ => ?_) fun _ _ => ?_
      · refine runs_b (row_runs hpos (by omega) (by omega) (by omega)) (by omega) ?_
        rintro row ⟨_, hrow⟩
        have hb := cut_bel hrow none (some ((r.length : Int) - 1))
        have hcl : (Dn.cutD row none (some ((r.length : Int) - 1))).length < r.length := by
          obtain ⟨m, hm⟩ : ∃ m : Nat, (r.length : Int) - 1 = (m : Int) := ⟨r.length - 1, by omega⟩
          rw [hm, Dn.cutD_take, List.length_take]
          omega
        rw [isr_ok h hb, lr.few hb hcl]
        simp only [mbind_pure, Bool.false_eq_true, if_false]
        exact runs_p ⟨(), rfl, trivial⟩
      · refine runs_b (links_runs ⟨h, hsrt⟩ lr) (by omega) fun b hb => ?_
        subst hb
        simp only [mbind_pure, Bool.not_true, Bool.false_eq_true, if_false, mbind_assoc]
        refine runs_b (namesr_runs h lr) (by omega) fun b hb => ?_
        subst hb
        simp only [mbind_pure, Bool.not_true, Bool.false_eq_true, if_false]
        exact runs_p ⟨(), rfl, trivial⟩
  · have h4 : (upto (Int.toNat 4)).length = 4 := upto_length _
    refine runs_b (panel_runs (by omega) (by omega)) (by omega) ?_
    rintro A ⟨hA, hAm, _⟩
    refine runs_b (panel_runs (by omega) (by omega)) (by omega) ?_
    rintro B ⟨hB, hBm, _⟩
    have h1 := hA.toPan
    have h2 := hB.toPan
    have hl : A.length + B.length ≤ 10 := by omega
    have few : Few [A, B] := ⟨by simp, fun p hp => by
      simp only [List.mem_cons, List.not_mem_nil, or_false] at hp
      rcases hp with rfl | rfl
      · omega
      · omega, fun p hp r hr => by
      simp only [List.mem_cons, List.not_mem_nil, or_false] at hp
      rcases hp with rfl | rfl
      · exact ⟨h1.len r hr, fun a ha => by have := h1.rng r hr a ha; omega⟩
      · exact ⟨h2.len r hr, fun a ha => by have := h2.rng r hr a ha; omega⟩⟩
    have hw : bes [A, B] = bsW A B := bes_two A B
    have hwp := bs_pan h1 h2 hl
    obtain ⟨a, la⟩ := lst_of h1
    obtain ⟨b, lb⟩ := lst_of h2
    obtain ⟨w, lw⟩ := lst_of hwp
    rw [beside_ok few (by rw [hw, bsW_len]; exact hl), hw]
    simp only [mbind_pure]
    rw [lw.short hwp, la.short h1, lb.short h2]
    simp only [mbind_pure]
    have := bs_mn h1 h2 hl la lb lw
    exact runs_p (decide_eq_true (by omega))
theorem law_runs : RunH 4000 (fun _ => none) p_law fun b _ => b = true := rh_mono (rh_r law_runs0) (Nat.le_refl _) fun _ _ h => h.2
theorem law_true (ns : List Int) (hl : ns.length ≤ 63) (_ : ∀ z ∈ ns, Builtin.Int.intBits z ≤ 1048576) : ∃ st', d_law [.scr (ns.map .int)] [] = .ok (.bl true) st' := law_end (nN := 6) (tr_law []) law_runs (by decide) ns hl
--PROOF
-- ### that they mean so
structure Txt (K : PySem.W.Frag) (mg : Str → Option Value) : Prop where
  m_abs : mg "abs" = none
  m_enumerate : mg "enumerate" = none
  m_int : mg "int" = none
  m_len : mg "len" = none
  m_list : mg "list" = none
  m_max : mg "max" = none
  m_range : mg "range" = none
  m_set : mg "set" = none
  m_sorted : mg "sorted" = none
  m_sum : mg "sum" = none
  m_tuple : mg "tuple" = none
  tb0 : HzC.tb = []
  g_MAX_BUTTONS : ∃ t, mg "MAX_BUTTONS" = some (.int 10 t)
  g_OFF : ∃ t, mg "OFF" = some (.str ("off" : Str) t)
  g_ON : ∃ t, mg "ON" = some (.str ("on" : Str) t)
  g_SAME : ∃ t, mg "SAME" = some (.str ("same" : Str) t)
section
variable {P : Program} {w : World} {K : PySem.W.Frag} {mg : Str → Option Value} {base : Heap}
theorem sc_changed_word : FnScope N_changed_word ["panel", "pressed", "button", "word"] (defScope s_changed_word) := ⟨rfl, rfl, rfl, by decide +kernel, rfl, by decide +kernel, by decide +kernel⟩
theorem b_changed_word (T : Txt K mg) {cdv : Value}   {f : Addr} {B : Around} {fr : List Env} {s : Shared} {H : Hp} {E : XK} (bd : Bd (cxOf (CXk 7 P w) P w K mg base N_changed_word "changed_word" (defScope s_changed_word) f cdv B fr s H E) (wE E) 6)
    (hp : PassesOwn (model P w) (B.deeper (envOfC "changed_word" (defScope s_changed_word) s.heap.objs.size f cdv)) (envOfC "changed_word" (defScope s_changed_word) s.heap.objs.size f cdv) (cxOf (CXk 7 P w) P w K mg base N_changed_word "changed_word" (defScope s_changed_word) f cdv B fr s H E).xe) :
    DSs (cxOf (CXk 7 P w) P w K mg base N_changed_word "changed_word" (defScope s_changed_word) f cdv B fr s H E) (wE E) (defBody s_changed_word) m_changed_word :=
  (dss_cons (ds_if (dt_cmp (op_pEq bd.u64) (vr 2) (vr 1)) (dss_one (ds_ret (de_gs (by rfl) T.g_ON))) dss_nil)
  (dss_one (ds_ret (de_if (dt_cmp (op_pIn bd.u65) (vr 2) (de_idx (vr 0) (vr 1))) (de_gs (by rfl) T.g_OFF) (vr 3)))))
theorem g_changed_word (T : Txt K mg) {fd : FuncData}   {f : Addr} (F : Fun K "changed_word" "changed_word" s_changed_word f fd) : FnG P w K mg base 7 f fd ["panel", "pressed", "button", "word"] (spD K 4 d_changed_word) :=
  fnG_of F sc_changed_word (by decide) fun _ _ _ _ _ _ bd hp => b_changed_word T  bd hp
theorem sc_effect_after : FnScope N_effect_after ["panel", "effect", "pressed"] (defScope s_effect_after) := ⟨rfl, rfl, rfl, by decide +kernel, rfl, by decide +kernel, by decide +kernel⟩
theorem b_effect_after (T : Txt K mg) {cdv : Value} (C_changed_word : FnC P w K mg base 7 "changed_word" 4 d_changed_word)  {f : Addr} {B : Around} {fr : List Env} {s : Shared} {H : Hp} {E : XK} (bd : Bd (cxOf (CXk 8 P w) P w K mg base N_effect_after "effect_after" (defScope s_effect_after) f cdv B fr s H E) (wE E) 7)
    (hp : PassesOwn (model P w) (B.deeper (envOfC "effect_after" (defScope s_effect_after) s.heap.objs.size f cdv)) (envOfC "effect_after" (defScope s_effect_after) s.heap.objs.size f cdv) (cxOf (CXk 8 P w) P w K mg base N_effect_after "effect_after" (defScope s_effect_after) f cdv B fr s H E).xe) :
    DSs (cxOf (CXk 8 P w) P w K mg base N_effect_after "effect_after" (defScope s_effect_after) f cdv B fr s H E) (wE E) (defBody s_effect_after) m_effect_after :=
  (dss_one (ds_ret (de_bT call_pTuple (by rfl) T.m_tuple (by rfl) (da_cons (de_frz (dl_lc (own := [("button", 3), ("word", 4)]) bd.calm bd.nd (di_enum (by rfl) T.m_enumerate (vr 1)) (blkOk_by (own := [("button", 3), ("word", 4)]) (N := N_effect_after) (sc := defScope s_effect_after) (by decide +kernel)) (by decide) (fun _ _ _ _ _ => (dg_tup bd.blk.calm (dgs_cons (gn 3 bd.blk) (dgs_cons (gn 4 bd.blk) dgs_nil)))) (fun _ _ _ _ _ => dts_nil) (fun _ _ _ _ _ => (de_call bd.blk C_changed_word (by decide) (by rfl) nn_changed_word (da_cons (vr 0) (da_cons (vr 2) (da_cons (vr 3) (da_cons (vr 4) da_nil)))))))) da_nil))))
theorem g_effect_after (T : Txt K mg) {fd : FuncData} (C_changed_word : FnC P w K mg base 7 "changed_word" 4 d_changed_word)  {f : Addr} (F : Fun K "effect_after" "effect_after" s_effect_after f fd) : FnG P w K mg base 8 f fd ["panel", "effect", "pressed"] (spD K 3 d_effect_after) :=
  fnG_of F sc_effect_after (by decide) fun _ _ _ _ _ _ bd hp => b_effect_after T C_changed_word bd hp
theorem sc_effect_of : FnScope N_effect_of ["panel", "row"] (defScope s_effect_of) := ⟨rfl, rfl, rfl, by decide +kernel, rfl, by decide +kernel, by decide +kernel⟩
theorem b_effect_of (T : Txt K mg) {cdv : Value} (C_effect_after : FnC P w K mg base 8 "effect_after" 3 d_effect_after)  {f : Addr} {B : Around} {fr : List Env} {s : Shared} {H : Hp} {E : XK} (bd : Bd (cxOf (CXk 9 P w) P w K mg base N_effect_of "effect_of" (defScope s_effect_of) f cdv B fr s H E) (wE E) 8)
    (hp : PassesOwn (model P w) (B.deeper (envOfC "effect_of" (defScope s_effect_of) s.heap.objs.size f cdv)) (envOfC "effect_of" (defScope s_effect_of) s.heap.objs.size f cdv) (cxOf (CXk 9 P w) P w K mg base N_effect_of "effect_of" (defScope s_effect_of) f cdv B fr s H E).xe) :
    DSs (cxOf (CXk 9 P w) P w K mg base N_effect_of "effect_of" (defScope s_effect_of) f cdv B fr s H E) (wE E) (defBody s_effect_of) m_effect_of :=
  (dss_cons (st 2 bd (de_bin op_pMul (de_tup (da_cons (de_gs (by rfl) T.g_SAME) da_nil)) (de_b call_pLen (by rfl) T.m_len (by rfl) (da_cons (vr 0) da_nil))))
  (dss_cons (ds_for hp bd.calm (di_seq (vr 1)) (gn 3 bd) (dss_one (st 2 bd (de_call bd C_effect_after (by decide) (by rfl) nn_effect_after (da_cons (vr 0) (da_cons (vr 2) (da_cons (vr 3) da_nil)))))))
  (dss_one (ds_ret (vr 2)))))
theorem g_effect_of (T : Txt K mg) {fd : FuncData} (C_effect_after : FnC P w K mg base 8 "effect_after" 3 d_effect_after)  {f : Addr} (F : Fun K "effect_of" "effect_of" s_effect_of f fd) : FnG P w K mg base 9 f fd ["panel", "row"] (spD K 2 d_effect_of) :=
  fnG_of F sc_effect_of (by decide) fun _ _ _ _ _ _ bd hp => b_effect_of T C_effect_after bd hp
theorem sc_is_reset : FnScope N_is_reset ["panel", "row"] (defScope s_is_reset) := ⟨rfl, rfl, rfl, by decide +kernel, rfl, by decide +kernel, by decide +kernel⟩
theorem b_is_reset (T : Txt K mg) {cdv : Value} (C_effect_of : FnC P w K mg base 9 "effect_of" 2 d_effect_of)  {f : Addr} {B : Around} {fr : List Env} {s : Shared} {H : Hp} {E : XK} (bd : Bd (cxOf (CXk 10 P w) P w K mg base N_is_reset "is_reset" (defScope s_is_reset) f cdv B fr s H E) (wE E) 9)
    (hp : PassesOwn (model P w) (B.deeper (envOfC "is_reset" (defScope s_is_reset) s.heap.objs.size f cdv)) (envOfC "is_reset" (defScope s_is_reset) s.heap.objs.size f cdv) (cxOf (CXk 10 P w) P w K mg base N_is_reset "is_reset" (defScope s_is_reset) f cdv B fr s H E).xe) :
    DSs (cxOf (CXk 10 P w) P w K mg base N_is_reset "is_reset" (defScope s_is_reset) f cdv B fr s H E) (wE E) (defBody s_is_reset) m_is_reset :=
  (dss_one (ds_ret (de_cmp (op_pNotIn bd.u65) de_str (de_call bd C_effect_of (by decide) (by rfl) nn_effect_of (da_cons (vr 0) (da_cons (vr 1) da_nil))))))
theorem g_is_reset (T : Txt K mg) {fd : FuncData} (C_effect_of : FnC P w K mg base 9 "effect_of" 2 d_effect_of)  {f : Addr} (F : Fun K "is_reset" "is_reset" s_is_reset f fd) : FnG P w K mg base 10 f fd ["panel", "row"] (spD K 2 d_is_reset) :=
  fnG_of F sc_is_reset (by decide) fun _ _ _ _ _ _ bd hp => b_is_reset T C_effect_of bd hp
theorem sc_rows_of : GScope N_rows_of ["buttons", "size"] (defScope s_rows_of) := ⟨rfl, rfl, rfl, by decide +kernel, rfl, by decide +kernel, by decide +kernel⟩
theorem g_rows_of (T : Txt K mg) {f : Addr} {fd : FuncData} (F : Fun K "rows_of" "rows_of" s_rows_of f fd) (hm : mg "rows_of" = some (.ref f)) (hk : PySem.W.keepIn K (.ref f) = true) (hb : Binds K fd ["buttons", "size"] []) : GoC P w K mg base 29 "rows_of" 2 d_rows_of :=
  ⟨⟨f, fd, _, rows_go T.tb0 F sc_rows_of rfl hm hk hb rfl (fun _ => rfl) rfl (by decide) (fun _ _ => rfl) (fun _ _ => ⟨rfl, rfl, fun _ => rfl, fun _ => rfl, rfl, rfl⟩) (fun _ _ _ _ _ _ _ _ bd => ⟨(dt_cmp (op_pEq bd.u64) (vr 1) de_int), (de_tup da_nil), pi_enumX (by rfl) T.m_enumerate (pa_cons (vr 0) pa_nil), (dg_tup bd.calm (dgs_cons (gn 2 bd) (dgs_cons (gn 3 bd) dgs_nil))), (dt_cmp op_pGt (vr 1) de_int), (gn 4 bd), (da_cons (de_slT (vr 0) (do_some (de_bin op_pAdd (vr 2) de_int)) do_none) (da_cons (de_bin op_pSub (vr 1) de_int) da_nil)), (de_tup (da_cons (vr 3) (da_star (vr 4) da_nil)))⟩) 12, hm, hk, hb⟩, fun _ _ h => rowsS_np h⟩
theorem sc_shortest_reset : FnScope N_shortest_reset ["panel"] (defScope s_shortest_reset) := ⟨rfl, rfl, rfl, by decide +kernel, rfl, by decide +kernel, by decide +kernel⟩
theorem b_shortest_reset (T : Txt K mg) {cdv : Value} (C_is_reset : FnC P w K mg base 10 "is_reset" 2 d_is_reset) (C_rows_of : GoC P w K mg base 29 "rows_of" 2 d_rows_of)  {f : Addr} {B : Around} {fr : List Env} {s : Shared} {H : Hp} {E : XK} (bd : Bd (cxOf (CXk 37 P w) P w K mg base N_shortest_reset "shortest_reset" (defScope s_shortest_reset) f cdv B fr s H E) (wE E) 36)
    (hp : PassesOwn (model P w) (B.deeper (envOfC "shortest_reset" (defScope s_shortest_reset) s.heap.objs.size f cdv)) (envOfC "shortest_reset" (defScope s_shortest_reset) s.heap.objs.size f cdv) (cxOf (CXk 37 P w) P w K mg base N_shortest_reset "shortest_reset" (defScope s_shortest_reset) f cdv B fr s H E).xe) :
    DSs (cxOf (CXk 37 P w) P w K mg base N_shortest_reset "shortest_reset" (defScope s_shortest_reset) f cdv B fr s H E) (wE E) (defBody s_shortest_reset) m_shortest_reset :=
  (dss_cons (st 1 bd (de_tupRg bd.calm (by rfl) T.m_tuple (by rfl) T.m_range (de_b call_pLen (by rfl) T.m_len (by rfl) (da_cons (vr 0) da_nil))))
  (dss_cons (ds_for hp bd.calm (di_range2 (by rfl) T.m_range de_int (de_bin op_pAdd (de_b call_pLen (by rfl) T.m_len (by rfl) (da_cons (vr 0) da_nil)) de_int)) (gn 2 bd) (dss_one (ds_forgen T.tb0 hp genX_cx bd C_rows_of (by decide) (by rfl) (da_cons (vr 1) (da_cons (vr 2) da_nil)) (gn 3 bd) (dss_one (ds_if (dt_tru (de_call bd C_is_reset (by decide) (by rfl) nn_is_reset (da_cons (vr 0) (da_cons (vr 3) da_nil)))) (dss_one (ds_ret (vr 3))) dss_nil)))))
  (dss_one (ds_ret (vr 1)))))
theorem g_shortest_reset (T : Txt K mg) {fd : FuncData} (C_is_reset : FnC P w K mg base 10 "is_reset" 2 d_is_reset) (C_rows_of : GoC P w K mg base 29 "rows_of" 2 d_rows_of)  {f : Addr} (F : Fun K "shortest_reset" "shortest_reset" s_shortest_reset f fd) : FnG P w K mg base 37 f fd ["panel"] (spD K 1 d_shortest_reset) :=
  fnG_of F sc_shortest_reset (by decide) fun _ _ _ _ _ _ bd hp => b_shortest_reset T C_is_reset C_rows_of bd hp
theorem sc_beside : FnScope N_beside ["panels"] (defScope s_beside) := ⟨rfl, rfl, rfl, by decide +kernel, rfl, by decide +kernel, by decide +kernel⟩
theorem b_beside (T : Txt K mg) {cdv : Value}   {f : Addr} {B : Around} {fr : List Env} {s : Shared} {H : Hp} {E : XK} (bd : Bd (cxOf (CXk 7 P w) P w K mg base N_beside "beside" (defScope s_beside) f cdv B fr s H E) (wE E) 6)
    (hp : PassesOwn (model P w) (B.deeper (envOfC "beside" (defScope s_beside) s.heap.objs.size f cdv)) (envOfC "beside" (defScope s_beside) s.heap.objs.size f cdv) (cxOf (CXk 7 P w) P w K mg base N_beside "beside" (defScope s_beside) f cdv B fr s H E).xe) :
    DSs (cxOf (CXk 7 P w) P w K mg base N_beside "beside" (defScope s_beside) f cdv B fr s H E) (wE E) (defBody s_beside) m_beside :=
  (dss_cons (ds_if (dt_cmp op_pGt (de_b (call_pSum bd.calm) (by rfl) T.m_sum (by rfl) (da_cons (de_frz (dl_lc (own := [("panel", 1)]) bd.calm bd.nd (di_seq (vr 0)) (blkOk_by (own := [("panel", 1)]) (N := N_beside) (sc := defScope s_beside) (by decide +kernel)) (by decide) (fun _ _ _ _ _ => (gn 1 bd.blk)) (fun _ _ _ _ _ => dts_nil) (fun _ _ _ _ _ => (de_b call_pLen (by rfl) T.m_len (by rfl) (da_cons (vr 1) da_nil))))) da_nil)) (de_gi (by rfl) T.g_MAX_BUTTONS)) (dss_one ds_never) dss_nil)
  (dss_cons (st 2 bd (de_new (dl_disp da_nil)))
  (dss_cons (ds_for hp bd.calm (di_seq (vr 0)) (gn 1 bd) (dss_cons (st 3 bd (de_b call_pLen (by rfl) T.m_len (by rfl) (da_cons (vr 2) da_nil)))
    (dss_one (ds_expr (de_m PySem.F.plainAttrs_list PySem.F.slot_list_extend PySem.F.type_list_extend mt_pExtend (vr 2) (da_cons (de_frz (dl_lc (own := [("released", 5)]) bd.calm bd.nd (di_seq (vr 1)) (blkOk_by (own := [("released", 5)]) (N := N_beside) (sc := defScope s_beside) (by decide +kernel)) (by decide) (fun _ _ _ _ _ => (gn 5 bd.blk)) (fun _ _ _ _ _ => dts_nil) (fun _ _ _ _ _ => (de_bT call_pTuple (by rfl) T.m_tuple (by rfl) (da_cons (de_frz (dl_lc (own := [("button", 4)]) bd.blk.calm bd.blk.nd (di_seq (vr 5)) (blk_in (own := [("button", 4)]) (N := N_beside) (sc := defScope s_beside) rfl rfl (by decide +kernel)) (by decide) (fun _ _ _ _ _ => (gn 4 bd.blk.blk)) (fun _ _ _ _ _ => dts_nil) (fun _ _ _ _ _ => (de_bin op_pAdd (vr 3) (vr 4))))) da_nil))))) da_nil))))))
  (dss_fz (dss_one (ds_ret (de_bT call_pTuple (by rfl) T.m_tuple (by rfl) (da_cons (vr 2) da_nil))))))))
theorem g_beside (T : Txt K mg)  {f : Addr} {fd : FuncData} (F : Fun K "beside" "beside" s_beside f fd) : FnBody P w K mg base 7 f fd (defBody s_beside) ["panels"] (spD K 1 d_beside) :=
  fnBody_of F sc_beside (by decide) fun _ _ _ _ _ _ bd hp => b_beside T  bd hp
theorem sc__law_deck : FnScope N__law_deck ["_law_script"] (defScope s__law_deck) := ⟨rfl, rfl, rfl, by decide +kernel, rfl, by decide +kernel, by decide +kernel⟩
theorem b__law_deck (T : Txt K mg) {cdv : Value}   {f : Addr} {B : Around} {fr : List Env} {s : Shared} {H : Hp} {E : XK} (bd : Bd (cxOf (CXk 7 P w) P w K mg base N__law_deck "_law_deck" (defScope s__law_deck) f cdv B fr s H E) (wE E) 6)
    (hp : PassesOwn (model P w) (B.deeper (envOfC "_law_deck" (defScope s__law_deck) s.heap.objs.size f cdv)) (envOfC "_law_deck" (defScope s__law_deck) s.heap.objs.size f cdv) (cxOf (CXk 7 P w) P w K mg base N__law_deck "_law_deck" (defScope s__law_deck) f cdv B fr s H E).xe) :
    DSs (cxOf (CXk 7 P w) P w K mg base N__law_deck "_law_deck" (defScope s__law_deck) f cdv B fr s H E) (wE E) (defBody s__law_deck) m__law_deck :=
  (dss_one (ds_ret (de_new (dl_disp (da_cons (de_new (dl_lc (own := [("_law_cell", 1)]) bd.calm bd.nd (di_seq (de_frz (dl_slL (vr 0) do_none (do_some de_int)))) (blkOk_by (own := [("_law_cell", 1)]) (N := N__law_deck) (sc := defScope s__law_deck) (by decide +kernel)) (by decide) (fun _ _ _ _ _ => (gn 1 bd.blk)) (fun _ _ _ _ _ => dts_nil) (fun _ _ _ _ _ => (de_b call_pAbs (by rfl) T.m_abs (by rfl) (da_cons (vr 1) da_nil))))) (da_cons de_int da_nil))))))
theorem g__law_deck (T : Txt K mg) {fd : FuncData}   {f : Addr} (F : Fun K "_law_deck" "_law_deck" s__law_deck f fd) : FnG P w K mg base 7 f fd ["_law_script"] (spD K 1 d__law_deck) :=
  fnG_of F sc__law_deck (by decide) fun _ _ _ _ _ _ bd hp => b__law_deck T  bd hp
theorem sc__law_draw : FnScope N__law_draw ["_law_deck_here", "_law_bound"] (defScope s__law_draw) := ⟨rfl, rfl, rfl, by decide +kernel, rfl, by decide +kernel, by decide +kernel⟩
theorem b__law_draw (T : Txt K mg) {cdv : Value}   {f : Addr} {B : Around} {fr : List Env} {s : Shared} {H : Hp} {E : XK} (bd : Bd (cxOf (CXk 7 P w) P w K mg base N__law_draw "_law_draw" (defScope s__law_draw) f cdv B fr s H E) (wE E) 6)
    (hp : PassesOwn (model P w) (B.deeper (envOfC "_law_draw" (defScope s__law_draw) s.heap.objs.size f cdv)) (envOfC "_law_draw" (defScope s__law_draw) s.heap.objs.size f cdv) (cxOf (CXk 7 P w) P w K mg base N__law_draw "_law_draw" (defScope s__law_draw) f cdv B fr s H E).xe) :
    DSs (cxOf (CXk 7 P w) P w K mg base N__law_draw "_law_draw" (defScope s__law_draw) f cdv B fr s H E) (wE E) (defBody s__law_draw) m__law_draw :=
  (dss_cons (ds_asg (de_bin op_pAdd (de_idx (vr 0) de_int) de_int) (dg_sub (vr 0) de_int))
  (dss_cons (st 2 bd (de_bin op_pMod (de_idx (vr 0) de_int) (de_b (call_pMax2 bd.calm) (by rfl) T.m_max (by rfl) (da_cons de_int (da_cons (de_b call_pLen (by rfl) T.m_len (by rfl) (da_cons (de_idx (vr 0) de_int) da_nil)) da_nil)))))
  (dss_cons (st 3 bd (de_idx (de_frz (dl_bin op_pCat (de_idx (vr 0) de_int) (de_frz (dl_disp (da_cons de_int da_nil))))) (vr 2)))
  (dss_cons (ds_if (dt_cmp op_pGe (vr 3) (de_bin op_pPow de_int de_int)) (dss_cons (ds_asg (de_bin op_pDiv (vr 3) (vr 1)) (dg_sub (de_idx (vr 0) de_int) (vr 2)))
    (dss_one (ds_ret (de_bin op_pMod (vr 3) (vr 1))))) dss_nil)
  (dss_cons (st 4 bd (de_bin op_pMod (de_bin op_pPow (de_bin op_pAdd (de_bin op_pAdd (de_bin op_pMod (vr 3) de_int) (de_bin op_pMul de_int (de_idx (vr 0) de_int))) de_int) de_int) de_int))
  (dss_one (ds_ret (de_bin op_pMod (de_bin op_pAdd (de_bin op_pDiv (vr 4) de_int) (de_bin op_pMul de_int (de_idx (vr 0) de_int))) (vr 1)))))))))
theorem g__law_draw (T : Txt K mg) {fd : FuncData}   {f : Addr} (F : Fun K "_law_draw" "_law_draw" s__law_draw f fd) : FnG P w K mg base 7 f fd ["_law_deck_here", "_law_bound"] (spD K 2 d__law_draw) :=
  fnG_of F sc__law_draw (by decide) fun _ _ _ _ _ _ bd hp => b__law_draw T  bd hp
theorem sc__law_panel : FnScope N__law_panel ["_law_deck_here", "_law_most"] (defScope s__law_panel) := ⟨rfl, rfl, rfl, by decide +kernel, rfl, by decide +kernel, by decide +kernel⟩
theorem b__law_panel (T : Txt K mg) {cdv : Value} (C__law_draw : FnC P w K mg base 7 "_law_draw" 2 d__law_draw)  {f : Addr} {B : Around} {fr : List Env} {s : Shared} {H : Hp} {E : XK} (bd : Bd (cxOf (CXk 8 P w) P w K mg base N__law_panel "_law_panel" (defScope s__law_panel) f cdv B fr s H E) (wE E) 7)
    (hp : PassesOwn (model P w) (B.deeper (envOfC "_law_panel" (defScope s__law_panel) s.heap.objs.size f cdv)) (envOfC "_law_panel" (defScope s__law_panel) s.heap.objs.size f cdv) (cxOf (CXk 8 P w) P w K mg base N__law_panel "_law_panel" (defScope s__law_panel) f cdv B fr s H E).xe) :
    DSs (cxOf (CXk 8 P w) P w K mg base N__law_panel "_law_panel" (defScope s__law_panel) f cdv B fr s H E) (wE E) (defBody s__law_panel) m__law_panel :=
  (dss_cons (ds_asg (de_tup (da_cons (de_bin op_pAdd de_int (de_call bd C__law_draw (by decide) (by rfl) nn__law_draw (da_cons (vr 0) (da_cons (vr 1) da_nil)))) (da_cons (de_call bd C__law_draw (by decide) (by rfl) nn__law_draw (da_cons (vr 0) (da_cons de_int da_nil))) (da_cons (de_new (dl_disp da_nil)) da_nil)))) (dg_tup bd.calm (dgs_cons (gn 2 bd) (dgs_cons (gn 3 bd) (dgs_cons (gn 4 bd) dgs_nil)))))
  (dss_cons (ds_for hp bd.calm (di_range1 (by rfl) T.m_range (vr 2)) (gn 5 bd) (dss_cons (st 6 bd (de_frz (dl_lc (own := [("_law_other", 7)]) bd.calm bd.nd (di_range1 (by rfl) T.m_range (vr 2)) (blkOk_by (own := [("_law_other", 7)]) (N := N__law_panel) (sc := defScope s__law_panel) (by decide +kernel)) (by decide) (fun _ _ _ _ _ => (gn 7 bd.blk)) (fun _ _ _ _ _ => (dts1 (dt_w (dw_and (dt_cmp (op_pNe bd.blk.u64) (vr 7) (vr 5)) (dw_and1 (dt_cmp (op_pEq bd.blk.u64) (de_call bd.blk C__law_draw (by decide) (by rfl) nn__law_draw (da_cons (vr 0) (da_cons (de_idx (de_frz (dl_disp (da_cons de_int (da_cons de_int (da_cons de_int (da_cons de_int (da_cons de_int da_nil))))))) (vr 3)) da_nil))) de_int)))))) (fun _ _ _ _ _ => (vr 7)))))
    (dss_cons (ds_if (dt_cmp (op_pEq bd.u64) (vr 3) de_int) (dss_one (st 6 bd (de_frz (dl_lc (own := [("_law_other", 7)]) bd.calm bd.nd (di_range1 (by rfl) T.m_range (vr 2)) (blkOk_by (own := [("_law_other", 7)]) (N := N__law_panel) (sc := defScope s__law_panel) (by decide +kernel)) (by decide) (fun _ _ _ _ _ => (gn 7 bd.blk)) (fun _ _ _ _ _ => (dts1 (dt_w (dw_and (dt_cmp (op_pNe bd.blk.u64) (vr 7) (vr 5)) (dw_and1 (dt_cmp (op_pNotIn bd.blk.u65) (vr 7) (vr 6))))))) (fun _ _ _ _ _ => (vr 7)))))) dss_nil)
    (dss_cons (ds_if (dt_w (dw_and (dt_cmp (op_pEq bd.u64) (vr 3) de_int) (dw_and1 (dt_cmp op_pGt (vr 2) de_int)))) (dss_one (st 6 bd (de_frz (dl_bin op_pCat (vr 6) (de_frz (dl_disp (da_cons (de_bin op_pMod (de_bin op_pAdd (vr 5) de_int) (vr 2)) da_nil))))))) dss_nil)
    (dss_one (ds_expr (de_m PySem.F.plainAttrs_list PySem.F.slot_list_append PySem.F.type_list_append mt_pAppend (vr 4) (da_cons (de_bT call_pTuple (by rfl) T.m_tuple (by rfl) (da_cons (de_frz (dl_sortSet bd.calm (by rfl) T.m_sorted (by rfl) T.m_set (de_frz (dl_bin op_pRepL (vr 6) (de_bT call_pInt (by rfl) T.m_int (by rfl) (da_cons (de_cmp (op_pNe bd.u64) (vr 3) de_int) da_nil)))))) da_nil)) da_nil))))))))
  (dss_fz (dss_one (ds_ret (de_bT call_pTuple (by rfl) T.m_tuple (by rfl) (da_cons (vr 4) da_nil)))))))
theorem g__law_panel (T : Txt K mg) {fd : FuncData} (C__law_draw : FnC P w K mg base 7 "_law_draw" 2 d__law_draw)  {f : Addr} (F : Fun K "_law_panel" "_law_panel" s__law_panel f fd) : FnG P w K mg base 8 f fd ["_law_deck_here", "_law_most"] (spD K 2 d__law_panel) :=
  fnG_of F sc__law_panel (by decide) fun _ _ _ _ _ _ bd hp => b__law_panel T C__law_draw bd hp
theorem sc__law_row : FnScope N__law_row ["_law_deck_here", "_law_n", "_law_most"] (defScope s__law_row) := ⟨rfl, rfl, rfl, by decide +kernel, rfl, by decide +kernel, by decide +kernel⟩
theorem b__law_row (T : Txt K mg) {cdv : Value} (C__law_draw : FnC P w K mg base 7 "_law_draw" 2 d__law_draw)  {f : Addr} {B : Around} {fr : List Env} {s : Shared} {H : Hp} {E : XK} (bd : Bd (cxOf (CXk 8 P w) P w K mg base N__law_row "_law_row" (defScope s__law_row) f cdv B fr s H E) (wE E) 7)
    (hp : PassesOwn (model P w) (B.deeper (envOfC "_law_row" (defScope s__law_row) s.heap.objs.size f cdv)) (envOfC "_law_row" (defScope s__law_row) s.heap.objs.size f cdv) (cxOf (CXk 8 P w) P w K mg base N__law_row "_law_row" (defScope s__law_row) f cdv B fr s H E).xe) :
    DSs (cxOf (CXk 8 P w) P w K mg base N__law_row "_law_row" (defScope s__law_row) f cdv B fr s H E) (wE E) (defBody s__law_row) m__law_row :=
  (dss_cons (st 3 bd (de_frz (dl_disp (da_cons (de_call bd C__law_draw (by decide) (by rfl) nn__law_draw (da_cons (vr 0) (da_cons (vr 1) da_nil))) (da_cons (de_call bd C__law_draw (by decide) (by rfl) nn__law_draw (da_cons (vr 0) (da_cons (vr 1) da_nil))) (da_cons (de_call bd C__law_draw (by decide) (by rfl) nn__law_draw (da_cons (vr 0) (da_cons (vr 1) da_nil))) da_nil))))))
  (dss_cons (st 4 bd (de_call bd C__law_draw (by decide) (by rfl) nn__law_draw (da_cons (vr 0) (da_cons de_int da_nil))))
  (dss_one (ds_ret (de_bT call_pTuple (by rfl) T.m_tuple (by rfl) (da_cons (de_frz (dl_lc (own := [("_law_k", 5)]) bd.calm bd.nd (di_range1 (by rfl) T.m_range (de_call bd C__law_draw (by decide) (by rfl) nn__law_draw (da_cons (vr 0) (da_cons (de_bin op_pAdd (vr 2) de_int) da_nil)))) (blkOk_by (own := [("_law_k", 5)]) (N := N__law_row) (sc := defScope s__law_row) (by decide +kernel)) (by decide) (fun _ _ _ _ _ => (gn 5 bd.blk)) (fun _ _ _ _ _ => dts_nil) (fun _ _ _ _ _ => (de_idx (de_frz (dl_disp (da_cons (de_call bd.blk C__law_draw (by decide) (by rfl) nn__law_draw (da_cons (vr 0) (da_cons (vr 1) da_nil))) (da_cons (de_idx (vr 3) (de_bin op_pMod (vr 5) de_int)) da_nil)))) (vr 4))))) da_nil))))))
theorem g__law_row (T : Txt K mg) {fd : FuncData} (C__law_draw : FnC P w K mg base 7 "_law_draw" 2 d__law_draw)  {f : Addr} (F : Fun K "_law_row" "_law_row" s__law_row f fd) : FnG P w K mg base 8 f fd ["_law_deck_here", "_law_n", "_law_most"] (spD K 3 d__law_row) :=
  fnG_of F sc__law_row (by decide) fun _ _ _ _ _ _ bd hp => b__law_row T C__law_draw bd hp
theorem sc_releasers_of : FnScope N_releasers_of ["panel", "button"] (defScope s_releasers_of) := ⟨rfl, rfl, rfl, by decide +kernel, rfl, by decide +kernel, by decide +kernel⟩
theorem b_releasers_of (T : Txt K mg) {cdv : Value}   {f : Addr} {B : Around} {fr : List Env} {s : Shared} {H : Hp} {E : XK} (bd : Bd (cxOf (CXk 7 P w) P w K mg base N_releasers_of "releasers_of" (defScope s_releasers_of) f cdv B fr s H E) (wE E) 6)
    (hp : PassesOwn (model P w) (B.deeper (envOfC "releasers_of" (defScope s_releasers_of) s.heap.objs.size f cdv)) (envOfC "releasers_of" (defScope s_releasers_of) s.heap.objs.size f cdv) (cxOf (CXk 7 P w) P w K mg base N_releasers_of "releasers_of" (defScope s_releasers_of) f cdv B fr s H E).xe) :
    DSs (cxOf (CXk 7 P w) P w K mg base N_releasers_of "releasers_of" (defScope s_releasers_of) f cdv B fr s H E) (wE E) (defBody s_releasers_of) m_releasers_of :=
  (dss_one (ds_ret (de_bT call_pTuple (by rfl) T.m_tuple (by rfl) (da_cons (de_frz (dl_lc (own := [("other", 2), ("released", 3)]) bd.calm bd.nd (di_enum (by rfl) T.m_enumerate (vr 0)) (blkOk_by (own := [("other", 2), ("released", 3)]) (N := N_releasers_of) (sc := defScope s_releasers_of) (by decide +kernel)) (by decide) (fun _ _ _ _ _ => (dg_tup bd.blk.calm (dgs_cons (gn 2 bd.blk) (dgs_cons (gn 3 bd.blk) dgs_nil)))) (fun _ _ _ _ _ => (dts1 (dt_cmp (op_pIn bd.blk.u65) (vr 1) (vr 3)))) (fun _ _ _ _ _ => (vr 2)))) da_nil))))
theorem g_releasers_of (T : Txt K mg) {fd : FuncData}   {f : Addr} (F : Fun K "releasers_of" "releasers_of" s_releasers_of f fd) : FnG P w K mg base 7 f fd ["panel", "button"] (spD K 2 d_releasers_of) :=
  fnG_of F sc_releasers_of (by decide) fun _ _ _ _ _ _ bd hp => b_releasers_of T  bd hp
theorem sc__law_apart : FnScope N__law_apart ["_law_panel_here"] (defScope s__law_apart) := ⟨rfl, rfl, rfl, by decide +kernel, rfl, by decide +kernel, by decide +kernel⟩
theorem b__law_apart (T : Txt K mg) {cdv : Value} (C_releasers_of : FnC P w K mg base 7 "releasers_of" 2 d_releasers_of)  {f : Addr} {B : Around} {fr : List Env} {s : Shared} {H : Hp} {E : XK} (bd : Bd (cxOf (CXk 8 P w) P w K mg base N__law_apart "_law_apart" (defScope s__law_apart) f cdv B fr s H E) (wE E) 7)
    (hp : PassesOwn (model P w) (B.deeper (envOfC "_law_apart" (defScope s__law_apart) s.heap.objs.size f cdv)) (envOfC "_law_apart" (defScope s__law_apart) s.heap.objs.size f cdv) (cxOf (CXk 8 P w) P w K mg base N__law_apart "_law_apart" (defScope s__law_apart) f cdv B fr s H E).xe) :
    DSs (cxOf (CXk 8 P w) P w K mg base N__law_apart "_law_apart" (defScope s__law_apart) f cdv B fr s H E) (wE E) (defBody s__law_apart) m__law_apart :=
  (dss_cons (ds_asg (de_tup (da_cons (de_frz (dl_disp da_nil)) (da_cons de_int da_nil))) (dg_tup bd.calm (dgs_cons (gn 1 bd) (dgs_cons (gn 2 bd) dgs_nil))))
  (dss_cons (ds_for hp bd.calm (di_seq (de_frz (dl_b (call_pSorted bd.calm bd.u70) (by rfl) T.m_sorted (by rfl) (da_cons (de_frz (dl_lc (own := [("_law_one", 5)]) bd.calm bd.nd (di_range1 (by rfl) T.m_range (de_b call_pLen (by rfl) T.m_len (by rfl) (da_cons (vr 0) da_nil))) (blkOk_by (own := [("_law_one", 5)]) (N := N__law_apart) (sc := defScope s__law_apart) (by decide +kernel)) (by decide) (fun _ _ _ _ _ => (gn 5 bd.blk)) (fun _ _ _ _ _ => dts_nil) (fun _ _ _ _ _ => (de_tup (da_cons (de_b call_pLen (by rfl) T.m_len (by rfl) (da_cons (de_call bd.blk C_releasers_of (by decide) (by rfl) nn_releasers_of (da_cons (vr 0) (da_cons (vr 5) da_nil))) da_nil)) (da_cons (vr 5) da_nil)))))) da_nil)))) (dg_tup bd.calm (dgs_cons (gn 3 bd) (dgs_cons (gn 4 bd) dgs_nil))) (dss_cons (st 6 bd (de_frz (dl_bin op_pCat (de_frz (dl_bT call_pList (by rfl) T.m_list (by rfl) (da_cons (de_call bd C_releasers_of (by decide) (by rfl) nn_releasers_of (da_cons (vr 0) (da_cons (vr 4) da_nil))) da_nil))) (de_frz (dl_disp (da_cons (vr 4) da_nil))))))
    (dss_one (ds_if (dt_cmp (op_pEq bd.u64) (de_frz (dl_lc (own := [("_law_one", 5)]) bd.calm bd.nd (di_seq (vr 6)) (blkOk_by (own := [("_law_one", 5)]) (N := N__law_apart) (sc := defScope s__law_apart) (by decide +kernel)) (by decide) (fun _ _ _ _ _ => (gn 5 bd.blk)) (fun _ _ _ _ _ => (dts1 (dt_cmp (op_pIn bd.blk.u65) (vr 5) (vr 1)))) (fun _ _ _ _ _ => de_int))) (de_frz (dl_disp da_nil))) (dss_one (ds_asg (de_tup (da_cons (de_frz (dl_bin op_pCat (vr 1) (vr 6))) (da_cons (de_bin op_pAdd (vr 2) de_int) da_nil))) (dg_tup bd.calm (dgs_cons (gn 1 bd) (dgs_cons (gn 2 bd) dgs_nil))))) dss_nil))))
  (dss_one (ds_ret (vr 2)))))
theorem g__law_apart (T : Txt K mg) {fd : FuncData} (C_releasers_of : FnC P w K mg base 7 "releasers_of" 2 d_releasers_of)  {f : Addr} (F : Fun K "_law_apart" "_law_apart" s__law_apart f fd) : FnG P w K mg base 8 f fd ["_law_panel_here"] (spD K 1 d__law_apart) :=
  fnG_of F sc__law_apart (by decide) fun _ _ _ _ _ _ bd hp => b__law_apart T C_releasers_of bd hp
theorem sc_with_list : FnScope N_with_list ["panel", "button", "released"] (defScope s_with_list) := ⟨rfl, rfl, rfl, by decide +kernel, rfl, by decide +kernel, by decide +kernel⟩
theorem b_with_list (T : Txt K mg) {cdv : Value}   {f : Addr} {B : Around} {fr : List Env} {s : Shared} {H : Hp} {E : XK} (bd : Bd (cxOf (CXk 7 P w) P w K mg base N_with_list "with_list" (defScope s_with_list) f cdv B fr s H E) (wE E) 6)
    (hp : PassesOwn (model P w) (B.deeper (envOfC "with_list" (defScope s_with_list) s.heap.objs.size f cdv)) (envOfC "with_list" (defScope s_with_list) s.heap.objs.size f cdv) (cxOf (CXk 7 P w) P w K mg base N_with_list "with_list" (defScope s_with_list) f cdv B fr s H E).xe) :
    DSs (cxOf (CXk 7 P w) P w K mg base N_with_list "with_list" (defScope s_with_list) f cdv B fr s H E) (wE E) (defBody s_with_list) m_with_list :=
  (dss_one (ds_ret (de_tup (da_star (de_slT (vr 0) do_none (do_some (vr 1))) (da_cons (de_bT call_pTuple (by rfl) T.m_tuple (by rfl) (da_cons (de_frz (dl_b (call_pSorted bd.calm bd.u70) (by rfl) T.m_sorted (by rfl) (da_cons (vr 2) da_nil))) da_nil)) (da_star (de_slT (vr 0) (do_some (de_bin op_pAdd (vr 1) de_int)) do_none) da_nil))))))
theorem g_with_list (T : Txt K mg) {fd : FuncData}   {f : Addr} (F : Fun K "with_list" "with_list" s_with_list f fd) : FnG P w K mg base 7 f fd ["panel", "button", "released"] (spD K 3 d_with_list) :=
  fnG_of F sc_with_list (by decide) fun _ _ _ _ _ _ bd hp => b_with_list T  bd hp
theorem sc_linked : FnScope N_linked ["panel", "one", "other"] (defScope s_linked) := ⟨rfl, rfl, rfl, by decide +kernel, rfl, by decide +kernel, by decide +kernel⟩
theorem b_linked (T : Txt K mg) {cdv : Value} (C_with_list : FnC P w K mg base 7 "with_list" 3 d_with_list)  {f : Addr} {B : Around} {fr : List Env} {s : Shared} {H : Hp} {E : XK} (bd : Bd (cxOf (CXk 8 P w) P w K mg base N_linked "linked" (defScope s_linked) f cdv B fr s H E) (wE E) 7)
    (hp : PassesOwn (model P w) (B.deeper (envOfC "linked" (defScope s_linked) s.heap.objs.size f cdv)) (envOfC "linked" (defScope s_linked) s.heap.objs.size f cdv) (cxOf (CXk 8 P w) P w K mg base N_linked "linked" (defScope s_linked) f cdv B fr s H E).xe) :
    DSs (cxOf (CXk 8 P w) P w K mg base N_linked "linked" (defScope s_linked) f cdv B fr s H E) (wE E) (defBody s_linked) m_linked :=
  (dss_one (ds_ret (de_call bd C_with_list (by decide) (by rfl) nn_with_list (da_cons (vr 0) (da_cons (vr 1) (da_cons (de_frz (dl_disp (da_star (de_frz (dl_lc (own := [("button", 3)]) bd.calm bd.nd (di_seq (de_idx (vr 0) (vr 1))) (blkOk_by (own := [("button", 3)]) (N := N_linked) (sc := defScope s_linked) (by decide +kernel)) (by decide) (fun _ _ _ _ _ => (gn 3 bd.blk)) (fun _ _ _ _ _ => (dts1 (dt_cmp (op_pNe bd.blk.u64) (vr 3) (vr 2)))) (fun _ _ _ _ _ => (vr 3)))) (da_cons (vr 2) da_nil)))) da_nil))))))
theorem g_linked (T : Txt K mg) {fd : FuncData} (C_with_list : FnC P w K mg base 7 "with_list" 3 d_with_list)  {f : Addr} (F : Fun K "linked" "linked" s_linked f fd) : FnG P w K mg base 8 f fd ["panel", "one", "other"] (spD K 3 d_linked) :=
  fnG_of F sc_linked (by decide) fun _ _ _ _ _ _ bd hp => b_linked T C_with_list bd hp
theorem sc_unlinked : FnScope N_unlinked ["panel", "one", "other"] (defScope s_unlinked) := ⟨rfl, rfl, rfl, by decide +kernel, rfl, by decide +kernel, by decide +kernel⟩
theorem b_unlinked (T : Txt K mg) {cdv : Value} (C_with_list : FnC P w K mg base 7 "with_list" 3 d_with_list)  {f : Addr} {B : Around} {fr : List Env} {s : Shared} {H : Hp} {E : XK} (bd : Bd (cxOf (CXk 8 P w) P w K mg base N_unlinked "unlinked" (defScope s_unlinked) f cdv B fr s H E) (wE E) 7)
    (hp : PassesOwn (model P w) (B.deeper (envOfC "unlinked" (defScope s_unlinked) s.heap.objs.size f cdv)) (envOfC "unlinked" (defScope s_unlinked) s.heap.objs.size f cdv) (cxOf (CXk 8 P w) P w K mg base N_unlinked "unlinked" (defScope s_unlinked) f cdv B fr s H E).xe) :
    DSs (cxOf (CXk 8 P w) P w K mg base N_unlinked "unlinked" (defScope s_unlinked) f cdv B fr s H E) (wE E) (defBody s_unlinked) m_unlinked :=
  (dss_one (ds_ret (de_call bd C_with_list (by decide) (by rfl) nn_with_list (da_cons (vr 0) (da_cons (vr 1) (da_cons (de_frz (dl_lc (own := [("button", 3)]) bd.calm bd.nd (di_seq (de_idx (vr 0) (vr 1))) (blkOk_by (own := [("button", 3)]) (N := N_unlinked) (sc := defScope s_unlinked) (by decide +kernel)) (by decide) (fun _ _ _ _ _ => (gn 3 bd.blk)) (fun _ _ _ _ _ => (dts1 (dt_cmp (op_pNe bd.blk.u64) (vr 3) (vr 2)))) (fun _ _ _ _ _ => (vr 3)))) da_nil))))))
theorem g_unlinked (T : Txt K mg) {fd : FuncData} (C_with_list : FnC P w K mg base 7 "with_list" 3 d_with_list)  {f : Addr} (F : Fun K "unlinked" "unlinked" s_unlinked f fd) : FnG P w K mg base 8 f fd ["panel", "one", "other"] (spD K 3 d_unlinked) :=
  fnG_of F sc_unlinked (by decide) fun _ _ _ _ _ _ bd hp => b_unlinked T C_with_list bd hp
theorem sc__law_links_right : FnScope N__law_links_right ["_law_deck_here", "_law_panel_here", "_law_many"] (defScope s__law_links_right) := ⟨rfl, rfl, rfl, by decide +kernel, rfl, by decide +kernel, by decide +kernel⟩
theorem b__law_links_right (T : Txt K mg) {cdv : Value} (C_shortest_reset : FnC P w K mg base 37 "shortest_reset" 1 d_shortest_reset) (C__law_draw : FnC P w K mg base 7 "_law_draw" 2 d__law_draw) (C_linked : FnC P w K mg base 8 "linked" 3 d_linked) (C_unlinked : FnC P w K mg base 8 "unlinked" 3 d_unlinked)  {f : Addr} {B : Around} {fr : List Env} {s : Shared} {H : Hp} {E : XK} (bd : Bd (cxOf (CXk 38 P w) P w K mg base N__law_links_right "_law_links_right" (defScope s__law_links_right) f cdv B fr s H E) (wE E) 37)
    (hp : PassesOwn (model P w) (B.deeper (envOfC "_law_links_right" (defScope s__law_links_right) s.heap.objs.size f cdv)) (envOfC "_law_links_right" (defScope s__law_links_right) s.heap.objs.size f cdv) (cxOf (CXk 38 P w) P w K mg base N__law_links_right "_law_links_right" (defScope s__law_links_right) f cdv B fr s H E).xe) :
    DSs (cxOf (CXk 38 P w) P w K mg base N__law_links_right "_law_links_right" (defScope s__law_links_right) f cdv B fr s H E) (wE E) (defBody s__law_links_right) m__law_links_right :=
  (dss_cons (ds_par (i := 3) (j := 4) bd.calm bd.nd rfl rfl (by decide) rfl rfl (da_cons (de_call bd C__law_draw (by decide) (by rfl) nn__law_draw (da_cons (vr 0) (da_cons (de_b call_pLen (by rfl) T.m_len (by rfl) (da_cons (vr 1) da_nil)) da_nil))) (da_cons (de_call bd C__law_draw (by decide) (by rfl) nn__law_draw (da_cons (vr 0) (da_cons (de_b call_pLen (by rfl) T.m_len (by rfl) (da_cons (vr 1) da_nil)) da_nil))) da_nil)) (by rfl))
  (dss_cons (ds_if (dt_cmp (op_pEq bd.u64) (vr 3) (vr 4)) (dss_one (ds_ret de_bl)) dss_nil)
  (dss_cons (ds_par (i := 5) (j := 6) bd.calm bd.nd rfl rfl (by decide) rfl rfl (da_cons (de_b call_pLen (by rfl) T.m_len (by rfl) (da_cons (de_call bd C_shortest_reset (by decide) (by rfl) nn_shortest_reset (da_cons (de_call bd C_linked (by decide) (by rfl) nn_linked (da_cons (vr 1) (da_cons (vr 3) (da_cons (vr 4) da_nil)))) da_nil)) da_nil)) (da_cons (de_b call_pLen (by rfl) T.m_len (by rfl) (da_cons (de_call bd C_shortest_reset (by decide) (by rfl) nn_shortest_reset (da_cons (de_call bd C_unlinked (by decide) (by rfl) nn_unlinked (da_cons (vr 1) (da_cons (vr 3) (da_cons (vr 4) da_nil)))) da_nil)) da_nil)) da_nil)) (by rfl))
  (dss_one (ds_ret (de_chn (de_bin op_pSub (vr 2) de_int) (dch_cons op_pLe (vr 5) (dch_cons op_pLe (vr 2) (dch_cons op_pLe (vr 6) (dch_one op_pLe (de_bin op_pAdd (vr 2) de_int)))))))))))
theorem g__law_links_right (T : Txt K mg) {fd : FuncData} (C_shortest_reset : FnC P w K mg base 37 "shortest_reset" 1 d_shortest_reset) (C__law_draw : FnC P w K mg base 7 "_law_draw" 2 d__law_draw) (C_linked : FnC P w K mg base 8 "linked" 3 d_linked) (C_unlinked : FnC P w K mg base 8 "unlinked" 3 d_unlinked)  {f : Addr} (F : Fun K "_law_links_right" "_law_links_right" s__law_links_right f fd) : FnG P w K mg base 38 f fd ["_law_deck_here", "_law_panel_here", "_law_many"] (spD K 3 d__law_links_right) :=
  fnG_of F sc__law_links_right (by decide) fun _ _ _ _ _ _ bd hp => b__law_links_right T C_shortest_reset C__law_draw C_linked C_unlinked bd hp
theorem sc_renamed : FnScope N_renamed ["panel", "names"] (defScope s_renamed) := ⟨rfl, rfl, rfl, by decide +kernel, rfl, by decide +kernel, by decide +kernel⟩
theorem b_renamed (T : Txt K mg) {cdv : Value}   {f : Addr} {B : Around} {fr : List Env} {s : Shared} {H : Hp} {E : XK} (bd : Bd (cxOf (CXk 7 P w) P w K mg base N_renamed "renamed" (defScope s_renamed) f cdv B fr s H E) (wE E) 6)
    (hp : PassesOwn (model P w) (B.deeper (envOfC "renamed" (defScope s_renamed) s.heap.objs.size f cdv)) (envOfC "renamed" (defScope s_renamed) s.heap.objs.size f cdv) (cxOf (CXk 7 P w) P w K mg base N_renamed "renamed" (defScope s_renamed) f cdv B fr s H E).xe) :
    DSs (cxOf (CXk 7 P w) P w K mg base N_renamed "renamed" (defScope s_renamed) f cdv B fr s H E) (wE E) (defBody s_renamed) m_renamed :=
  (dss_cons (st 2 bd (de_new (dl_bin op_pRepL (de_frz (dl_disp (da_cons (de_tup da_nil) da_nil))) (de_b call_pLen (by rfl) T.m_len (by rfl) (da_cons (vr 0) da_nil)))))
  (dss_cons (ds_for hp bd.calm (di_enum (by rfl) T.m_enumerate (vr 0)) (dg_tup bd.calm (dgs_cons (gn 3 bd) (dgs_cons (gn 4 bd) dgs_nil))) (dss_one (ds_asg (de_bT call_pTuple (by rfl) T.m_tuple (by rfl) (da_cons (de_frz (dl_b (call_pSorted bd.calm bd.u70) (by rfl) T.m_sorted (by rfl) (da_cons (de_frz (dl_lc (own := [("other", 5)]) bd.calm bd.nd (di_seq (vr 4)) (blkOk_by (own := [("other", 5)]) (N := N_renamed) (sc := defScope s_renamed) (by decide +kernel)) (by decide) (fun _ _ _ _ _ => (gn 5 bd.blk)) (fun _ _ _ _ _ => dts_nil) (fun _ _ _ _ _ => (de_idx (vr 1) (vr 5))))) da_nil))) da_nil)) (dg_sub (vr 2) (de_idx (vr 1) (vr 3))))))
  (dss_fz (dss_one (ds_ret (de_bT call_pTuple (by rfl) T.m_tuple (by rfl) (da_cons (vr 2) da_nil)))))))
theorem g_renamed (T : Txt K mg) {fd : FuncData}   {f : Addr} (F : Fun K "renamed" "renamed" s_renamed f fd) : FnG P w K mg base 7 f fd ["panel", "names"] (spD K 2 d_renamed) :=
  fnG_of F sc_renamed (by decide) fun _ _ _ _ _ _ bd hp => b_renamed T  bd hp
theorem sc__law_names_right : FnScope N__law_names_right ["_law_deck_here", "_law_panel_here", "_law_many"] (defScope s__law_names_right) := ⟨rfl, rfl, rfl, by decide +kernel, rfl, by decide +kernel, by decide +kernel⟩
theorem b__law_names_right (T : Txt K mg) {cdv : Value} (C_is_reset : FnC P w K mg base 10 "is_reset" 2 d_is_reset) (C_shortest_reset : FnC P w K mg base 37 "shortest_reset" 1 d_shortest_reset) (C__law_draw : FnC P w K mg base 7 "_law_draw" 2 d__law_draw) (C_renamed : FnC P w K mg base 7 "renamed" 2 d_renamed)  {f : Addr} {B : Around} {fr : List Env} {s : Shared} {H : Hp} {E : XK} (bd : Bd (cxOf (CXk 38 P w) P w K mg base N__law_names_right "_law_names_right" (defScope s__law_names_right) f cdv B fr s H E) (wE E) 37)
    (hp : PassesOwn (model P w) (B.deeper (envOfC "_law_names_right" (defScope s__law_names_right) s.heap.objs.size f cdv)) (envOfC "_law_names_right" (defScope s__law_names_right) s.heap.objs.size f cdv) (cxOf (CXk 38 P w) P w K mg base N__law_names_right "_law_names_right" (defScope s__law_names_right) f cdv B fr s H E).xe) :
    DSs (cxOf (CXk 38 P w) P w K mg base N__law_names_right "_law_names_right" (defScope s__law_names_right) f cdv B fr s H E) (wE E) (defBody s__law_names_right) m__law_names_right :=
  (dss_cons (ds_asg (de_tup (da_cons (de_new (dl_lstRg bd.calm (by rfl) T.m_list (by rfl) T.m_range (de_b call_pLen (by rfl) T.m_len (by rfl) (da_cons (vr 1) da_nil)))) (da_cons (de_new (dl_disp da_nil)) da_nil))) (dg_tup bd.calm (dgs_cons (gn 3 bd) (dgs_cons (gn 4 bd) dgs_nil))))
  (dss_cons (ds_while hp (dt_cmp (op_pNe bd.u64) (vr 3) (de_frz (dl_disp da_nil))) (dss_one (ds_expr (de_m PySem.F.plainAttrs_list PySem.F.slot_list_append PySem.F.type_list_append mt_pAppend (vr 4) (da_cons (de_m PySem.F.plainAttrs_list PySem.F.slot_list_pop PySem.F.type_list_pop mt_pPopAt (vr 3) (da_cons (de_call bd C__law_draw (by decide) (by rfl) nn__law_draw (da_cons (vr 0) (da_cons (de_b call_pLen (by rfl) T.m_len (by rfl) (da_cons (vr 3) da_nil)) da_nil))) da_nil)) da_nil)))))
  (dss_fz (dss_cons (st 5 bd (de_call bd C_shortest_reset (by decide) (by rfl) nn_shortest_reset (da_cons (de_call bd C_renamed (by decide) (by rfl) nn_renamed (da_cons (vr 1) (da_cons (de_bT call_pTuple (by rfl) T.m_tuple (by rfl) (da_cons (vr 4) da_nil)) da_nil))) da_nil)))
  (dss_cons (st 6 bd (de_bT call_pTuple (by rfl) T.m_tuple (by rfl) (da_cons (de_frz (dl_lc (own := [("_law_button", 7)]) bd.calm bd.nd (di_seq (vr 5)) (blkOk_by (own := [("_law_button", 7)]) (N := N__law_names_right) (sc := defScope s__law_names_right) (by decide +kernel)) (by decide) (fun _ _ _ _ _ => (gn 7 bd.blk)) (fun _ _ _ _ _ => dts_nil) (fun _ _ _ _ _ => (de_m PySem.F.plainAttrs_list PySem.F.slot_list_index PySem.F.type_list_index (mt_pIndexL bd.blk.u70) (vr 4) (da_cons (vr 7) da_nil))))) da_nil)))
  (dss_one (ds_ret (de_and (de_cmp (op_pEq bd.u64) (de_b call_pLen (by rfl) T.m_len (by rfl) (da_cons (vr 5) da_nil)) (vr 2)) (de_one (de_cmp op_pIsB (de_call bd C_is_reset (by decide) (by rfl) nn_is_reset (da_cons (vr 1) (da_cons (vr 6) da_nil))) de_bl))))))))))
theorem g__law_names_right (T : Txt K mg) {fd : FuncData} (C_is_reset : FnC P w K mg base 10 "is_reset" 2 d_is_reset) (C_shortest_reset : FnC P w K mg base 37 "shortest_reset" 1 d_shortest_reset) (C__law_draw : FnC P w K mg base 7 "_law_draw" 2 d__law_draw) (C_renamed : FnC P w K mg base 7 "renamed" 2 d_renamed)  {f : Addr} (F : Fun K "_law_names_right" "_law_names_right" s__law_names_right f fd) : FnG P w K mg base 38 f fd ["_law_deck_here", "_law_panel_here", "_law_many"] (spD K 3 d__law_names_right) :=
  fnG_of F sc__law_names_right (by decide) fun _ _ _ _ _ _ bd hp => b__law_names_right T C_is_reset C_shortest_reset C__law_draw C_renamed bd hp
theorem sc_law : FnScope N_law ["_law_script"] (defScope s_law) := ⟨rfl, rfl, rfl, by decide +kernel, rfl, by decide +kernel, by decide +kernel⟩
theorem b_law (T : Txt K mg) {cdv : Value} (C_is_reset : FnC P w K mg base 10 "is_reset" 2 d_is_reset) (C_shortest_reset : FnC P w K mg base 37 "shortest_reset" 1 d_shortest_reset) (C_beside : FnCV P w K mg base 7 "beside" d_beside) (C__law_deck : FnC P w K mg base 7 "_law_deck" 1 d__law_deck) (C__law_panel : FnC P w K mg base 8 "_law_panel" 2 d__law_panel) (C__law_row : FnC P w K mg base 8 "_law_row" 3 d__law_row) (C__law_apart : FnC P w K mg base 8 "_law_apart" 1 d__law_apart) (C__law_links_right : FnC P w K mg base 38 "_law_links_right" 3 d__law_links_right) (C__law_names_right : FnC P w K mg base 38 "_law_names_right" 3 d__law_names_right)  {f : Addr} {B : Around} {fr : List Env} {s : Shared} {H : Hp} {E : XK} (bd : Bd (cxOf (CXk 39 P w) P w K mg base N_law "law" (defScope s_law) f cdv B fr s H E) (wE E) 38)
    (hp : PassesOwn (model P w) (B.deeper (envOfC "law" (defScope s_law) s.heap.objs.size f cdv)) (envOfC "law" (defScope s_law) s.heap.objs.size f cdv) (cxOf (CXk 39 P w) P w K mg base N_law "law" (defScope s_law) f cdv B fr s H E).xe) :
    DSs (cxOf (CXk 39 P w) P w K mg base N_law "law" (defScope s_law) f cdv B fr s H E) (wE E) (defBody s_law) m_law :=
  (dss_cons (st 1 bd (de_call bd C__law_deck (by decide) (by rfl) nn__law_deck (da_cons (vr 0) da_nil)))
  (dss_cons (ds_for hp bd.calm (di_range1 (by rfl) T.m_range de_int) (gn 2 bd) (dss_cons (st 3 bd (de_call bd C__law_panel (by decide) (by rfl) nn__law_panel (da_cons (vr 1) (da_cons (de_idx (de_frz (dl_disp (da_cons de_int (da_cons de_int (da_cons de_int (da_cons de_int da_nil)))))) (vr 2)) da_nil))))
    (dss_cons (st 4 bd (de_call bd C_shortest_reset (by decide) (by rfl) nn_shortest_reset (da_cons (vr 3) da_nil)))
    (dss_cons (ds_if (dt_w (dw_or (dt_cmp op_pIsNotB (de_call bd C_is_reset (by decide) (by rfl) nn_is_reset (da_cons (vr 3) (da_cons (vr 4) da_nil))) de_bl) (dw_or1 (dt_not (dt_cmp op_pLe (de_call bd C__law_apart (by decide) (by rfl) nn__law_apart (da_cons (vr 3) da_nil)) (de_b call_pLen (by rfl) T.m_len (by rfl) (da_cons (vr 4) da_nil))))))) (dss_one (ds_ret de_bl)) dss_nil)
    (dss_cons (ds_for hp bd.calm (di_range1 (by rfl) T.m_range (de_b call_pLen (by rfl) T.m_len (by rfl) (da_cons (vr 4) da_nil))) (gn 5 bd) (dss_one (ds_if (dt_tru (de_call bd C_is_reset (by decide) (by rfl) nn_is_reset (da_cons (vr 3) (da_cons (de_bin op_pAdd (de_slT (vr 4) do_none (do_some (vr 5))) (de_slT (vr 4) (do_some (de_bin op_pAdd (vr 5) de_int)) do_none)) da_nil)))) (dss_one (ds_ret de_bl)) dss_nil)))
    (dss_cons (ds_for hp bd.calm (di_range1 (by rfl) T.m_range de_int) (gn 5 bd) (dss_one (ds_if (dt_tru (de_call bd C_is_reset (by decide) (by rfl) nn_is_reset (da_cons (vr 3) (da_cons (de_slT (de_call bd C__law_row (by decide) (by rfl) nn__law_row (da_cons (vr 1) (da_cons (de_b call_pLen (by rfl) T.m_len (by rfl) (da_cons (vr 3) da_nil)) (da_cons de_int da_nil)))) do_none (do_some (de_bin op_pSub (de_b call_pLen (by rfl) T.m_len (by rfl) (da_cons (vr 4) da_nil)) de_int))) da_nil)))) (dss_one (ds_ret de_bl)) dss_nil)))
    (dss_one (ds_if (dt_w (dw_or (dt_not (dt_tru (de_call bd C__law_links_right (by decide) (by rfl) nn__law_links_right (da_cons (vr 1) (da_cons (vr 3) (da_cons (de_b call_pLen (by rfl) T.m_len (by rfl) (da_cons (vr 4) da_nil)) da_nil)))))) (dw_or1 (dt_not (dt_tru (de_call bd C__law_names_right (by decide) (by rfl) nn__law_names_right (da_cons (vr 1) (da_cons (vr 3) (da_cons (de_b call_pLen (by rfl) T.m_len (by rfl) (da_cons (vr 4) da_nil)) da_nil))))))))) (dss_one (ds_ret de_bl)) dss_nil))))))))
  (dss_cons (ds_par (i := 6) (j := 7) bd.calm bd.nd rfl rfl (by decide) rfl rfl (da_cons (de_call bd C__law_panel (by decide) (by rfl) nn__law_panel (da_cons (vr 1) (da_cons de_int da_nil))) (da_cons (de_call bd C__law_panel (by decide) (by rfl) nn__law_panel (da_cons (vr 1) (da_cons de_int da_nil))) da_nil)) (by rfl))
  (dss_one (ds_ret (de_cmp (op_pEq bd.u64) (de_b call_pLen (by rfl) T.m_len (by rfl) (da_cons (de_call bd C_shortest_reset (by decide) (by rfl) nn_shortest_reset (da_cons (de_callV bd C_beside (by decide) (by rfl) (da_cons (vr 6) (da_cons (vr 7) da_nil))) da_nil)) da_nil)) (de_bin op_pAdd (de_b call_pLen (by rfl) T.m_len (by rfl) (da_cons (de_call bd C_shortest_reset (by decide) (by rfl) nn_shortest_reset (da_cons (vr 6) da_nil)) da_nil)) (de_b call_pLen (by rfl) T.m_len (by rfl) (da_cons (de_call bd C_shortest_reset (by decide) (by rfl) nn_shortest_reset (da_cons (vr 7) da_nil)) da_nil)))))))))
theorem g_law (T : Txt K mg) {fd : FuncData} (C_is_reset : FnC P w K mg base 10 "is_reset" 2 d_is_reset) (C_shortest_reset : FnC P w K mg base 37 "shortest_reset" 1 d_shortest_reset) (C_beside : FnCV P w K mg base 7 "beside" d_beside) (C__law_deck : FnC P w K mg base 7 "_law_deck" 1 d__law_deck) (C__law_panel : FnC P w K mg base 8 "_law_panel" 2 d__law_panel) (C__law_row : FnC P w K mg base 8 "_law_row" 3 d__law_row) (C__law_apart : FnC P w K mg base 8 "_law_apart" 1 d__law_apart) (C__law_links_right : FnC P w K mg base 38 "_law_links_right" 3 d__law_links_right) (C__law_names_right : FnC P w K mg base 38 "_law_names_right" 3 d__law_names_right)  {f : Addr} (F : Fun K "law" "law" s_law f fd) : FnG P w K mg base 39 f fd ["_law_script"] (spD K 1 d_law) :=
  fnG_of F sc_law (by decide) fun _ _ _ _ _ _ bd hp => b_law T C_is_reset C_shortest_reset C_beside C__law_deck C__law_panel C__law_row C__law_apart C__law_links_right C__law_names_right bd hp
theorem all_mk (tb0 : HzC.tb = []) {h : Heap} {f0 f1 f2 f3 f4 f5 f6 f7 f8 f9 f10 f11 f12 f13 f14 f15 f16 f17 f18 f19 : Addr} (X : K.In h) (G : h.Ns mainGlobals mg) {fa : Addr} (hfa : mg "law" = some (.ref fa))
    {od0 an0 od1 an1 od2 an2 od3 an3 od4 an4 od5 an5 od6 an6 od7 an7 od8 an8 od9 an9 od10 an10 od11 an11 od12 an12 od13 an13 od14 an14 od15 an15 od16 an16 od17 an17 od18 an18 od19 an19 : Option Addr} {sl0 sl1 sl2 sl3 sl4 sl5 sl6 sl7 sl8 sl9 sl10 sl11 sl12 sl13 sl14 sl15 sl16 sl17 sl18 sl19 : Array (Option Value)} {oc0 kV0 dc0 pm0 cd0 ct0 oc1 kV1 dc1 pm1 cd1 ct1 oc2 kV2 dc2 pm2 cd2 ct2 oc3 kV3 dc3 pm3 cd3 ct3 oc4 kV4 dc4 pm4 cd4 ct4 oc5 kV5 dc5 pm5 cd5 ct5 oc6 kV6 dc6 pm6 cd6 ct6 oc7 kV7 dc7 pm7 cd7 ct7 oc8 kV8 dc8 pm8 cd8 ct8 oc9 kV9 dc9 pm9 cd9 ct9 oc10 kV10 dc10 pm10 cd10 ct10 oc11 kV11 dc11 pm11 cd11 ct11 oc12 kV12 dc12 pm12 cd12 ct12 oc13 kV13 dc13 pm13 cd13 ct13 oc14 kV14 dc14 pm14 cd14 ct14 oc15 kV15 dc15 pm15 cd15 ct15 oc16 kV16 dc16 pm16 cd16 ct16 oc17 kV17 dc17 pm17 cd17 ct17 oc18 kV18 dc18 pm18 cd18 ct18 oc19 kV19 dc19 pm19 cd19 ct19 : Value}
    (a0 : PySem.W.nsIn K mainGlobals "changed_word" = some (some (.ref f0))) (l0 : K.lookup f0 = some ⟨oc0, od0, .func (PySem.W.fnOf "changed_word" "changed_word" (defArgs s_changed_word) (defBody s_changed_word) (defScope s_changed_word) .none kV0 dc0 pm0 an0 cd0 ct0), sl0⟩) (c0 : PySem.W.codeIn K cd0 "changed_word" = true) (k0 : PySem.W.keepIn K (.ref f0) = true)
    (a1 : PySem.W.nsIn K mainGlobals "effect_after" = some (some (.ref f1))) (l1 : K.lookup f1 = some ⟨oc1, od1, .func (PySem.W.fnOf "effect_after" "effect_after" (defArgs s_effect_after) (defBody s_effect_after) (defScope s_effect_after) .none kV1 dc1 pm1 an1 cd1 ct1), sl1⟩) (c1 : PySem.W.codeIn K cd1 "effect_after" = true) (k1 : PySem.W.keepIn K (.ref f1) = true)
    (a2 : PySem.W.nsIn K mainGlobals "effect_of" = some (some (.ref f2))) (l2 : K.lookup f2 = some ⟨oc2, od2, .func (PySem.W.fnOf "effect_of" "effect_of" (defArgs s_effect_of) (defBody s_effect_of) (defScope s_effect_of) .none kV2 dc2 pm2 an2 cd2 ct2), sl2⟩) (c2 : PySem.W.codeIn K cd2 "effect_of" = true) (k2 : PySem.W.keepIn K (.ref f2) = true)
    (a3 : PySem.W.nsIn K mainGlobals "is_reset" = some (some (.ref f3))) (l3 : K.lookup f3 = some ⟨oc3, od3, .func (PySem.W.fnOf "is_reset" "is_reset" (defArgs s_is_reset) (defBody s_is_reset) (defScope s_is_reset) .none kV3 dc3 pm3 an3 cd3 ct3), sl3⟩) (c3 : PySem.W.codeIn K cd3 "is_reset" = true) (k3 : PySem.W.keepIn K (.ref f3) = true)
    (a4 : PySem.W.nsIn K mainGlobals "rows_of" = some (some (.ref f4))) (l4 : K.lookup f4 = some ⟨oc4, od4, .func (PySem.W.fnOf "rows_of" "rows_of" (defArgs s_rows_of) (defBody s_rows_of) (defScope s_rows_of) .none kV4 dc4 pm4 an4 cd4 ct4), sl4⟩) (c4 : PySem.W.codeIn K cd4 "rows_of" = true) (k4 : PySem.W.keepIn K (.ref f4) = true)
    (a5 : PySem.W.nsIn K mainGlobals "shortest_reset" = some (some (.ref f5))) (l5 : K.lookup f5 = some ⟨oc5, od5, .func (PySem.W.fnOf "shortest_reset" "shortest_reset" (defArgs s_shortest_reset) (defBody s_shortest_reset) (defScope s_shortest_reset) .none kV5 dc5 pm5 an5 cd5 ct5), sl5⟩) (c5 : PySem.W.codeIn K cd5 "shortest_reset" = true) (k5 : PySem.W.keepIn K (.ref f5) = true)
    (a6 : PySem.W.nsIn K mainGlobals "beside" = some (some (.ref f6))) (l6 : K.lookup f6 = some ⟨oc6, od6, .func (PySem.W.fnOf "beside" "beside" (defArgs s_beside) (defBody s_beside) (defScope s_beside) .none kV6 dc6 pm6 an6 cd6 ct6), sl6⟩) (c6 : PySem.W.codeIn K cd6 "beside" = true) (k6 : PySem.W.keepIn K (.ref f6) = true)
    (a7 : PySem.W.nsIn K mainGlobals "_law_deck" = some (some (.ref f7))) (l7 : K.lookup f7 = some ⟨oc7, od7, .func (PySem.W.fnOf "_law_deck" "_law_deck" (defArgs s__law_deck) (defBody s__law_deck) (defScope s__law_deck) .none kV7 dc7 pm7 an7 cd7 ct7), sl7⟩) (c7 : PySem.W.codeIn K cd7 "_law_deck" = true) (k7 : PySem.W.keepIn K (.ref f7) = true)
    (a8 : PySem.W.nsIn K mainGlobals "_law_draw" = some (some (.ref f8))) (l8 : K.lookup f8 = some ⟨oc8, od8, .func (PySem.W.fnOf "_law_draw" "_law_draw" (defArgs s__law_draw) (defBody s__law_draw) (defScope s__law_draw) .none kV8 dc8 pm8 an8 cd8 ct8), sl8⟩) (c8 : PySem.W.codeIn K cd8 "_law_draw" = true) (k8 : PySem.W.keepIn K (.ref f8) = true)
    (a9 : PySem.W.nsIn K mainGlobals "_law_panel" = some (some (.ref f9))) (l9 : K.lookup f9 = some ⟨oc9, od9, .func (PySem.W.fnOf "_law_panel" "_law_panel" (defArgs s__law_panel) (defBody s__law_panel) (defScope s__law_panel) .none kV9 dc9 pm9 an9 cd9 ct9), sl9⟩) (c9 : PySem.W.codeIn K cd9 "_law_panel" = true) (k9 : PySem.W.keepIn K (.ref f9) = true)
    (a10 : PySem.W.nsIn K mainGlobals "_law_row" = some (some (.ref f10))) (l10 : K.lookup f10 = some ⟨oc10, od10, .func (PySem.W.fnOf "_law_row" "_law_row" (defArgs s__law_row) (defBody s__law_row) (defScope s__law_row) .none kV10 dc10 pm10 an10 cd10 ct10), sl10⟩) (c10 : PySem.W.codeIn K cd10 "_law_row" = true) (k10 : PySem.W.keepIn K (.ref f10) = true)
    (a11 : PySem.W.nsIn K mainGlobals "releasers_of" = some (some (.ref f11))) (l11 : K.lookup f11 = some ⟨oc11, od11, .func (PySem.W.fnOf "releasers_of" "releasers_of" (defArgs s_releasers_of) (defBody s_releasers_of) (defScope s_releasers_of) .none kV11 dc11 pm11 an11 cd11 ct11), sl11⟩) (c11 : PySem.W.codeIn K cd11 "releasers_of" = true) (k11 : PySem.W.keepIn K (.ref f11) = true)
    (a12 : PySem.W.nsIn K mainGlobals "_law_apart" = some (some (.ref f12))) (l12 : K.lookup f12 = some ⟨oc12, od12, .func (PySem.W.fnOf "_law_apart" "_law_apart" (defArgs s__law_apart) (defBody s__law_apart) (defScope s__law_apart) .none kV12 dc12 pm12 an12 cd12 ct12), sl12⟩) (c12 : PySem.W.codeIn K cd12 "_law_apart" = true) (k12 : PySem.W.keepIn K (.ref f12) = true)
    (a13 : PySem.W.nsIn K mainGlobals "with_list" = some (some (.ref f13))) (l13 : K.lookup f13 = some ⟨oc13, od13, .func (PySem.W.fnOf "with_list" "with_list" (defArgs s_with_list) (defBody s_with_list) (defScope s_with_list) .none kV13 dc13 pm13 an13 cd13 ct13), sl13⟩) (c13 : PySem.W.codeIn K cd13 "with_list" = true) (k13 : PySem.W.keepIn K (.ref f13) = true)
    (a14 : PySem.W.nsIn K mainGlobals "linked" = some (some (.ref f14))) (l14 : K.lookup f14 = some ⟨oc14, od14, .func (PySem.W.fnOf "linked" "linked" (defArgs s_linked) (defBody s_linked) (defScope s_linked) .none kV14 dc14 pm14 an14 cd14 ct14), sl14⟩) (c14 : PySem.W.codeIn K cd14 "linked" = true) (k14 : PySem.W.keepIn K (.ref f14) = true)
    (a15 : PySem.W.nsIn K mainGlobals "unlinked" = some (some (.ref f15))) (l15 : K.lookup f15 = some ⟨oc15, od15, .func (PySem.W.fnOf "unlinked" "unlinked" (defArgs s_unlinked) (defBody s_unlinked) (defScope s_unlinked) .none kV15 dc15 pm15 an15 cd15 ct15), sl15⟩) (c15 : PySem.W.codeIn K cd15 "unlinked" = true) (k15 : PySem.W.keepIn K (.ref f15) = true)
    (a16 : PySem.W.nsIn K mainGlobals "_law_links_right" = some (some (.ref f16))) (l16 : K.lookup f16 = some ⟨oc16, od16, .func (PySem.W.fnOf "_law_links_right" "_law_links_right" (defArgs s__law_links_right) (defBody s__law_links_right) (defScope s__law_links_right) .none kV16 dc16 pm16 an16 cd16 ct16), sl16⟩) (c16 : PySem.W.codeIn K cd16 "_law_links_right" = true) (k16 : PySem.W.keepIn K (.ref f16) = true)
    (a17 : PySem.W.nsIn K mainGlobals "renamed" = some (some (.ref f17))) (l17 : K.lookup f17 = some ⟨oc17, od17, .func (PySem.W.fnOf "renamed" "renamed" (defArgs s_renamed) (defBody s_renamed) (defScope s_renamed) .none kV17 dc17 pm17 an17 cd17 ct17), sl17⟩) (c17 : PySem.W.codeIn K cd17 "renamed" = true) (k17 : PySem.W.keepIn K (.ref f17) = true)
    (a18 : PySem.W.nsIn K mainGlobals "_law_names_right" = some (some (.ref f18))) (l18 : K.lookup f18 = some ⟨oc18, od18, .func (PySem.W.fnOf "_law_names_right" "_law_names_right" (defArgs s__law_names_right) (defBody s__law_names_right) (defScope s__law_names_right) .none kV18 dc18 pm18 an18 cd18 ct18), sl18⟩) (c18 : PySem.W.codeIn K cd18 "_law_names_right" = true) (k18 : PySem.W.keepIn K (.ref f18) = true)
    (a19 : PySem.W.nsIn K mainGlobals "law" = some (some (.ref f19))) (l19 : K.lookup f19 = some ⟨oc19, od19, .func (PySem.W.fnOf "law" "law" (defArgs s_law) (defBody s_law) (defScope s_law) .none kV19 dc19 pm19 an19 cd19 ct19), sl19⟩) (c19 : PySem.W.codeIn K cd19 "law" = true) (k19 : PySem.W.keepIn K (.ref f19) = true)
    (z_abs : PySem.W.nsIn K mainGlobals "abs" = some none)
    (z_enumerate : PySem.W.nsIn K mainGlobals "enumerate" = some none)
    (z_int : PySem.W.nsIn K mainGlobals "int" = some none)
    (z_len : PySem.W.nsIn K mainGlobals "len" = some none)
    (z_list : PySem.W.nsIn K mainGlobals "list" = some none)
    (z_max : PySem.W.nsIn K mainGlobals "max" = some none)
    (z_range : PySem.W.nsIn K mainGlobals "range" = some none)
    (z_set : PySem.W.nsIn K mainGlobals "set" = some none)
    (z_sorted : PySem.W.nsIn K mainGlobals "sorted" = some none)
    (z_sum : PySem.W.nsIn K mainGlobals "sum" = some none)
    (z_tuple : PySem.W.nsIn K mainGlobals "tuple" = some none)
    {t0 : Tok} (y_MAX_BUTTONS : PySem.W.nsIn K mainGlobals "MAX_BUTTONS" = some (some (.int 10 t0)))
    {t1 : Tok} (y_OFF : PySem.W.nsIn K mainGlobals "OFF" = some (some (.str ("off" : Str) t1)))
    {t2 : Tok} (y_ON : PySem.W.nsIn K mainGlobals "ON" = some (some (.str ("on" : Str) t2)))
    {t3 : Tok} (y_SAME : PySem.W.nsIn K mainGlobals "SAME" = some (some (.str ("same" : Str) t3)))
    : ∃ fd : FuncData, (∀ (s : Shared) (v : Value), BindsTo s fd ⟨[v], []⟩ [("_law_script", v)]) ∧ ∀ base : Heap, K.In base → base.Ns mainGlobals mg → FnG P w K mg base 39 fa fd ["_law_script"] (spD K 1 d_law) := by
  have e := hfa.symm.trans (PySem.W.mg_of X G a19)
  cases e
  have T : Txt K mg := ⟨PySem.W.mg_none_of X G z_abs, PySem.W.mg_none_of X G z_enumerate, PySem.W.mg_none_of X G z_int, PySem.W.mg_none_of X G z_len, PySem.W.mg_none_of X G z_list, PySem.W.mg_none_of X G z_max, PySem.W.mg_none_of X G z_range, PySem.W.mg_none_of X G z_set, PySem.W.mg_none_of X G z_sorted, PySem.W.mg_none_of X G z_sum, PySem.W.mg_none_of X G z_tuple, tb0, ⟨_, PySem.W.mg_of X G y_MAX_BUTTONS⟩, ⟨_, PySem.W.mg_of X G y_OFF⟩, ⟨_, PySem.W.mg_of X G y_ON⟩, ⟨_, PySem.W.mg_of X G y_SAME⟩⟩
  have F0 := fun_mk (st := s_changed_word) l0 c0 k0
  have b0 := F0.binds (ps := ["panel", "pressed", "button", "word"]) fun _ _ _ _ _ _ us hl => match us, hl with | [_, _, _, _], _ => rfl
  have F1 := fun_mk (st := s_effect_after) l1 c1 k1
  have b1 := F1.binds (ps := ["panel", "effect", "pressed"]) fun _ _ _ _ _ _ us hl => match us, hl with | [_, _, _], _ => rfl
  have F2 := fun_mk (st := s_effect_of) l2 c2 k2
  have b2 := F2.binds (ps := ["panel", "row"]) fun _ _ _ _ _ _ us hl => match us, hl with | [_, _], _ => rfl
  have F3 := fun_mk (st := s_is_reset) l3 c3 k3
  have b3 := F3.binds (ps := ["panel", "row"]) fun _ _ _ _ _ _ us hl => match us, hl with | [_, _], _ => rfl
  have F4 := fun_mk (st := s_rows_of) l4 c4 k4
  have b4 := F4.binds (ps := ["buttons", "size"]) fun _ _ _ _ _ _ us hl => match us, hl with | [_, _], _ => rfl
  have F5 := fun_mk (st := s_shortest_reset) l5 c5 k5
  have b5 := F5.binds (ps := ["panel"]) fun _ _ _ _ _ _ us hl => match us, hl with | [_], _ => rfl
  have F6 := fun_mk (st := s_beside) l6 c6 k6
  have b6 : ∀ us : List Value, bindArgs (PySem.W.fnOf "beside" "beside" (defArgs s_beside) (defBody s_beside) (defScope s_beside) .none kV6 dc6 pm6 an6 cd6 ct6) ⟨us, []⟩ = (newTuple us >>= fun t => pure [(("panels" : Str), t)]) := fun us => by cases us <;> rfl
  have F7 := fun_mk (st := s__law_deck) l7 c7 k7
  have b7 := F7.binds (ps := ["_law_script"]) fun _ _ _ _ _ _ us hl => match us, hl with | [_], _ => rfl
  have F8 := fun_mk (st := s__law_draw) l8 c8 k8
  have b8 := F8.binds (ps := ["_law_deck_here", "_law_bound"]) fun _ _ _ _ _ _ us hl => match us, hl with | [_, _], _ => rfl
  have F9 := fun_mk (st := s__law_panel) l9 c9 k9
  have b9 := F9.binds (ps := ["_law_deck_here", "_law_most"]) fun _ _ _ _ _ _ us hl => match us, hl with | [_, _], _ => rfl
  have F10 := fun_mk (st := s__law_row) l10 c10 k10
  have b10 := F10.binds (ps := ["_law_deck_here", "_law_n", "_law_most"]) fun _ _ _ _ _ _ us hl => match us, hl with | [_, _, _], _ => rfl
  have F11 := fun_mk (st := s_releasers_of) l11 c11 k11
  have b11 := F11.binds (ps := ["panel", "button"]) fun _ _ _ _ _ _ us hl => match us, hl with | [_, _], _ => rfl
  have F12 := fun_mk (st := s__law_apart) l12 c12 k12
  have b12 := F12.binds (ps := ["_law_panel_here"]) fun _ _ _ _ _ _ us hl => match us, hl with | [_], _ => rfl
  have F13 := fun_mk (st := s_with_list) l13 c13 k13
  have b13 := F13.binds (ps := ["panel", "button", "released"]) fun _ _ _ _ _ _ us hl => match us, hl with | [_, _, _], _ => rfl
  have F14 := fun_mk (st := s_linked) l14 c14 k14
  have b14 := F14.binds (ps := ["panel", "one", "other"]) fun _ _ _ _ _ _ us hl => match us, hl with | [_, _, _], _ => rfl
  have F15 := fun_mk (st := s_unlinked) l15 c15 k15
  have b15 := F15.binds (ps := ["panel", "one", "other"]) fun _ _ _ _ _ _ us hl => match us, hl with | [_, _, _], _ => rfl
  have F16 := fun_mk (st := s__law_links_right) l16 c16 k16
  have b16 := F16.binds (ps := ["_law_deck_here", "_law_panel_here", "_law_many"]) fun _ _ _ _ _ _ us hl => match us, hl with | [_, _, _], _ => rfl
  have F17 := fun_mk (st := s_renamed) l17 c17 k17
  have b17 := F17.binds (ps := ["panel", "names"]) fun _ _ _ _ _ _ us hl => match us, hl with | [_, _], _ => rfl
  have F18 := fun_mk (st := s__law_names_right) l18 c18 k18
  have b18 := F18.binds (ps := ["_law_deck_here", "_law_panel_here", "_law_many"]) fun _ _ _ _ _ _ us hl => match us, hl with | [_, _, _], _ => rfl
  have F19 := fun_mk (st := s_law) l19 c19 k19
  refine ⟨PySem.W.fnOf "law" "law" (defArgs s_law) (defBody s_law) (defScope s_law) .none kV19 dc19 pm19 an19 cd19 ct19, fun s v => .of_eq rfl, fun base _ _ => ?_⟩
  have C_changed_word : FnC P w K mg base 7 "changed_word" 4 d_changed_word := ⟨_, _, _, g_changed_word T  F0, PySem.W.mg_of X G a0, k0, b0⟩
  have C_effect_after : FnC P w K mg base 8 "effect_after" 3 d_effect_after := ⟨_, _, _, g_effect_after T C_changed_word F1, PySem.W.mg_of X G a1, k1, b1⟩
  have C_effect_of : FnC P w K mg base 9 "effect_of" 2 d_effect_of := ⟨_, _, _, g_effect_of T C_effect_after F2, PySem.W.mg_of X G a2, k2, b2⟩
  have C_is_reset : FnC P w K mg base 10 "is_reset" 2 d_is_reset := ⟨_, _, _, g_is_reset T C_effect_of F3, PySem.W.mg_of X G a3, k3, b3⟩
  have C_rows_of : GoC P w K mg base 29 "rows_of" 2 d_rows_of := g_rows_of T F4 (PySem.W.mg_of X G a4) k4 b4
  have C_shortest_reset : FnC P w K mg base 37 "shortest_reset" 1 d_shortest_reset := ⟨_, _, _, g_shortest_reset T C_is_reset C_rows_of F5, PySem.W.mg_of X G a5, k5, b5⟩
  have C_beside : FnCV P w K mg base 7 "beside" d_beside := ⟨_, _, _, _, _, _, g_beside T  F6, F6, rfl, rfl, PySem.W.mg_of X G a6, k6, fun us => b6 us⟩
  have C__law_deck : FnC P w K mg base 7 "_law_deck" 1 d__law_deck := ⟨_, _, _, g__law_deck T  F7, PySem.W.mg_of X G a7, k7, b7⟩
  have C__law_draw : FnC P w K mg base 7 "_law_draw" 2 d__law_draw := ⟨_, _, _, g__law_draw T  F8, PySem.W.mg_of X G a8, k8, b8⟩
  have C__law_panel : FnC P w K mg base 8 "_law_panel" 2 d__law_panel := ⟨_, _, _, g__law_panel T C__law_draw F9, PySem.W.mg_of X G a9, k9, b9⟩
  have C__law_row : FnC P w K mg base 8 "_law_row" 3 d__law_row := ⟨_, _, _, g__law_row T C__law_draw F10, PySem.W.mg_of X G a10, k10, b10⟩
  have C_releasers_of : FnC P w K mg base 7 "releasers_of" 2 d_releasers_of := ⟨_, _, _, g_releasers_of T  F11, PySem.W.mg_of X G a11, k11, b11⟩
  have C__law_apart : FnC P w K mg base 8 "_law_apart" 1 d__law_apart := ⟨_, _, _, g__law_apart T C_releasers_of F12, PySem.W.mg_of X G a12, k12, b12⟩
  have C_with_list : FnC P w K mg base 7 "with_list" 3 d_with_list := ⟨_, _, _, g_with_list T  F13, PySem.W.mg_of X G a13, k13, b13⟩
  have C_linked : FnC P w K mg base 8 "linked" 3 d_linked := ⟨_, _, _, g_linked T C_with_list F14, PySem.W.mg_of X G a14, k14, b14⟩
  have C_unlinked : FnC P w K mg base 8 "unlinked" 3 d_unlinked := ⟨_, _, _, g_unlinked T C_with_list F15, PySem.W.mg_of X G a15, k15, b15⟩
  have C__law_links_right : FnC P w K mg base 38 "_law_links_right" 3 d__law_links_right := ⟨_, _, _, g__law_links_right T C_shortest_reset C__law_draw C_linked C_unlinked F16, PySem.W.mg_of X G a16, k16, b16⟩
  have C_renamed : FnC P w K mg base 7 "renamed" 2 d_renamed := ⟨_, _, _, g_renamed T  F17, PySem.W.mg_of X G a17, k17, b17⟩
  have C__law_names_right : FnC P w K mg base 38 "_law_names_right" 3 d__law_names_right := ⟨_, _, _, g__law_names_right T C_is_reset C_shortest_reset C__law_draw C_renamed F18, PySem.W.mg_of X G a18, k18, b18⟩
  exact g_law T C_is_reset C_shortest_reset C_beside C__law_deck C__law_panel C__law_row C__law_apart C__law_links_right C__law_names_right F19
end
end Lw
namespace Lw
open PySem PySem.Spec PyProof.Rows L2 Dn
theorem all_f {w : World} {K : PySem.W.Frag} {h : Heap} {mg : Str → Option Value} {fa : Addr} (X : K.In h) (G : h.Ns mainGlobals mg) (hfa : mg "law" = some (.ref fa)) (c : Dn.SaysQ fcts fdfs hds w.params K) :
    ∃ fd : FuncData, (∀ (s : Shared) (v : Value), BindsTo s fd ⟨[v], []⟩ [("_law_script", v)]) ∧ ∀ base : Heap, K.In base → base.Ns mainGlobals mg → FnG (PySem.Challenge.rw_pressrelease_k39_whole_fewest_buttons_of).prog w K mg base 39 fa fd ["_law_script"] (spD K 1 d_law) := by
  obtain ⟨oc0, od0, sl0, kV0, dc0, pm0, an0, cd0, ct0, l0, c0, k0, i0⟩ := Dn.fnq_of (c.def_ 0) (c.fact 0)
  obtain ⟨oc1, od1, sl1, kV1, dc1, pm1, an1, cd1, ct1, l1, c1, k1, i1⟩ := Dn.fnq_of (c.def_ 1) (c.fact 1)
  obtain ⟨oc2, od2, sl2, kV2, dc2, pm2, an2, cd2, ct2, l2, c2, k2, i2⟩ := Dn.fnq_of (c.def_ 2) (c.fact 2)
  obtain ⟨oc3, od3, sl3, kV3, dc3, pm3, an3, cd3, ct3, l3, c3, k3, i3⟩ := Dn.fnq_of (c.def_ 3) (c.fact 3)
  obtain ⟨oc4, od4, sl4, kV4, dc4, pm4, an4, cd4, ct4, l4, c4, k4, i4⟩ := Dn.fnq_of (c.def_ 4) (c.fact 4)
  obtain ⟨oc5, od5, sl5, kV5, dc5, pm5, an5, cd5, ct5, l5, c5, k5, i5⟩ := Dn.fnq_of (c.def_ 5) (c.fact 5)
  obtain ⟨oc6, od6, sl6, kV6, dc6, pm6, an6, cd6, ct6, l6, c6, k6, i6⟩ := Dn.fnq_of (c.def_ 6) (c.fact 6)
  obtain ⟨oc7, od7, sl7, kV7, dc7, pm7, an7, cd7, ct7, l7, c7, k7, i7⟩ := Dn.fnq_of (c.def_ 7) (c.fact 7)
  obtain ⟨oc8, od8, sl8, kV8, dc8, pm8, an8, cd8, ct8, l8, c8, k8, i8⟩ := Dn.fnq_of (c.def_ 8) (c.fact 8)
  obtain ⟨oc9, od9, sl9, kV9, dc9, pm9, an9, cd9, ct9, l9, c9, k9, i9⟩ := Dn.fnq_of (c.def_ 9) (c.fact 9)
  obtain ⟨oc10, od10, sl10, kV10, dc10, pm10, an10, cd10, ct10, l10, c10, k10, i10⟩ := Dn.fnq_of (c.def_ 10) (c.fact 10)
  obtain ⟨oc11, od11, sl11, kV11, dc11, pm11, an11, cd11, ct11, l11, c11, k11, i11⟩ := Dn.fnq_of (c.def_ 11) (c.fact 11)
  obtain ⟨oc12, od12, sl12, kV12, dc12, pm12, an12, cd12, ct12, l12, c12, k12, i12⟩ := Dn.fnq_of (c.def_ 12) (c.fact 12)
  obtain ⟨oc13, od13, sl13, kV13, dc13, pm13, an13, cd13, ct13, l13, c13, k13, i13⟩ := Dn.fnq_of (c.def_ 13) (c.fact 13)
  obtain ⟨oc14, od14, sl14, kV14, dc14, pm14, an14, cd14, ct14, l14, c14, k14, i14⟩ := Dn.fnq_of (c.def_ 14) (c.fact 14)
  obtain ⟨oc15, od15, sl15, kV15, dc15, pm15, an15, cd15, ct15, l15, c15, k15, i15⟩ := Dn.fnq_of (c.def_ 15) (c.fact 15)
  obtain ⟨oc16, od16, sl16, kV16, dc16, pm16, an16, cd16, ct16, l16, c16, k16, i16⟩ := Dn.fnq_of (c.def_ 16) (c.fact 16)
  obtain ⟨oc17, od17, sl17, kV17, dc17, pm17, an17, cd17, ct17, l17, c17, k17, i17⟩ := Dn.fnq_of (c.def_ 17) (c.fact 17)
  obtain ⟨oc18, od18, sl18, kV18, dc18, pm18, an18, cd18, ct18, l18, c18, k18, i18⟩ := Dn.fnq_of (c.def_ 18) (c.fact 18)
  obtain ⟨oc19, od19, sl19, kV19, dc19, pm19, an19, cd19, ct19, l19, c19, k19, i19⟩ := Dn.fnq_of (c.def_ 19) (c.fact 19)
  obtain ⟨ty_MAX_BUTTONS, y_MAX_BUTTONS⟩ := Dn.int_of (c.fact 51)
  obtain ⟨ty_OFF, y_OFF⟩ := Dn.str_of (c.fact 52)
  obtain ⟨ty_ON, y_ON⟩ := Dn.str_of (c.fact 53)
  obtain ⟨ty_SAME, y_SAME⟩ := Dn.str_of (c.fact 54)
  exact all_mk (P := (PySem.Challenge.rw_pressrelease_k39_whole_fewest_buttons_of).prog) (w := w) rfl X G hfa (of_decide_eq_true (c.fact 20)) l0 c0 k0 (of_decide_eq_true (c.fact 21)) l1 c1 k1 (of_decide_eq_true (c.fact 22)) l2 c2 k2 (of_decide_eq_true (c.fact 23)) l3 c3 k3 (of_decide_eq_true (c.fact 24)) l4 c4 k4 (of_decide_eq_true (c.fact 25)) l5 c5 k5 (of_decide_eq_true (c.fact 26)) l6 c6 k6 (of_decide_eq_true (c.fact 27)) l7 c7 k7 (of_decide_eq_true (c.fact 28)) l8 c8 k8 (of_decide_eq_true (c.fact 29)) l9 c9 k9 (of_decide_eq_true (c.fact 30)) l10 c10 k10 (of_decide_eq_true (c.fact 31)) l11 c11 k11 (of_decide_eq_true (c.fact 32)) l12 c12 k12 (of_decide_eq_true (c.fact 33)) l13 c13 k13 (of_decide_eq_true (c.fact 34)) l14 c14 k14 (of_decide_eq_true (c.fact 35)) l15 c15 k15 (of_decide_eq_true (c.fact 36)) l16 c16 k16 (of_decide_eq_true (c.fact 37)) l17 c17 k17 (of_decide_eq_true (c.fact 38)) l18 c18 k18 (of_decide_eq_true (c.fact 39)) l19 c19 k19 (of_decide_eq_true (c.fact 40)) (of_decide_eq_true (c.fact 41)) (of_decide_eq_true (c.fact 42)) (of_decide_eq_true (c.fact 43)) (of_decide_eq_true (c.fact 44)) (of_decide_eq_true (c.fact 45)) (of_decide_eq_true (c.fact 46)) (of_decide_eq_true (c.fact 47)) (of_decide_eq_true (c.fact 48)) (of_decide_eq_true (c.fact 49)) (of_decide_eq_true (c.fact 50)) y_MAX_BUTTONS y_OFF y_ON y_SAME
end Lw
open PySem PySem.W PySem.Calls PyProof.Rows in
set_option maxRecDepth 100000 in
set_option maxHeartbeats 0 in
theorem PySem.Challenge.cw_pressrelease_k39_whole_fewest_buttons_of_holds : PySem.Challenge.rw_pressrelease_k39_whole_fewest_buttons_of.Holds := by
  w_on; o_law
  refine HandSHeadRun.head_any (r := OpenLaw.row PySem.Challenge.rw_pressrelease_k39_whole_fewest_buttons_of) (q := view (OpenLaw.row PySem.Challenge.rw_pressrelease_k39_whole_fewest_buttons_of).prog [31]) (H := Dn.hookQ Lw.fcts Lw.fdfs Lw.hds) (ob := Dn.obQ Lw.fcts Lw.fdfs Lw.hds) (M := 9000) (loose := Lw.lse) (d := HandSHeadRun.topDef (OpenLaw.row PySem.Challenge.rw_pressrelease_k39_whole_fewest_buttons_of).prog 31) (kwd := []) Dn.obQ_eq
    (by kernel_rfl) (fun s => by kernel_rfl) Lw.run_all (by kernel_rfl) (by kernel_rfl) (by kernel_rfl) (by rfl) (by first | assumption | decide +kernel) (by decide +kernel) ⟨rfl, rfl, rfl, rfl, rfl, by decide +kernel⟩ ?hw ?hc
  case hw => w_witness2
  case hc =>
    refine Dn.walkQ (l := PySem.Challenge.rw_pressrelease_k39_whole_fewest_buttons_of) (k := 39) (spec := Lw.d_law) (x := "_law_script") rfl (by kernel_rfl) ⟨rfl, by decide, by decide⟩ Lw.law_true ?F
    intro w mg fa h Y G hmg0
    obtain ⟨K, KX, c⟩ := Y
    have hmg : mg ("law" : PySem.Str) = some (.ref fa) := by
      have e : (HandSHeadRun.topDef (OpenLaw.row PySem.Challenge.rw_pressrelease_k39_whole_fewest_buttons_of).prog 31).name = ("law" : PySem.Str) := by kernel_rfl
      rw [← e]
      exact hmg0
    obtain ⟨fd, hb, hF⟩ := Lw.all_f (w := w) KX G hmg c
    exact ⟨Dn.hzC0, K, fd, rfl, KX, hb, hF⟩
