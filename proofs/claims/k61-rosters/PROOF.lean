import PyProof.Rows.All
import Wide.All
import OpenK.AllK
import Wide.FinOn
import KE.KStateDown
import KE.KDictKeyed
import KE.KDictWalk
import KE.KDictOf
import HandS.ForMost
import HandS.Strs
import HandS.Flow
import HandS.WordsExc
import HandS.Defaults
import HandS.IsInst
import HandS.SortInts
import HandS.SortKw
import HandS.SortOrd
import HandS.SortRule
import HandS.Conv
import HandS.TupAny
import HandS.More
import HandS.TupSets
import HandS.TupLen
import HandS.SetFor
import KE.SortData
import KE.SortCalls
import HandS.Deep
import HandS.Head0
import HandS.Head1
import HandS.Head2
import HandS.HeadEnd
import HandS.HeadHook1
import HandS.HeadHook2
import KE.KDictList
import HandS.DictComp
import PySem.Challenge.RW_everyhaven_k61_whole_rosters_counted
set_option Elab.async false
set_option linter.all false
set_option autoImplicit false
set_option maxRecDepth 100000
set_option maxHeartbeats 4000000
namespace DL
open PySem PySem.Spec PyProof.Rows L2
abbrev St' := L2.St

/-- the written part, the program, the world -/
structure KW where
  f : PySem.W.Frag
  P : Program
  w : World

/-! ### data -/
inductive D where
  | non | bl (b : Bool) | int (i : Int) | str (x : Str) | tup (xs : List D) | lst (xs : List D) | dic (kvs : List (D × D)) | set (xs : List D)

def kD : Key → D
  | .inl i => .int i
  | .inr x => .str x

/-- a tuple stands at a: tracked, or one of the written part -/
def TpAt (K : KW) (H : Hp) (a : Addr) (xs : List V) : Prop :=
  H a = some (.tup xs) ∨
    ∃ (o : Obj) (its : Array Value) (n : Nat), K.f.lookup a = some o ∧ o.cls = .type "tuple" ∧ o.data = .seq its n ∧ its.size ≤ sizeLine ∧ Vals xs its.toList
theorem TpAt.sq {K : KW} {H : Hp} {a : Addr} {xs : List V} (h : TpAt K H a xs) : SqT K.f H a xs := h.elim (fun h => .inl (.inl h)) .inr

/-- a set of ints stands at a -/
def SetIs (K : KW) (H : Hp) (a : Addr) (o : HO) (ds : List D) : Prop :=
  (∃ (S : Int → Bool) (n : Nat) (is : List Int), o = SetO K.w a S n ∧ ds = is.map D.int ∧ is.Nodup ∧ is.length = n ∧ ∀ i, S i = true ↔ i ∈ is) ∨
    ∃ L : List (Addr × List Int), o = SetTO K.P K.w a L ∧ L ≠ [] ∧ (∀ p ∈ L, TpAt K H p.1 (p.2.map V.int)) ∧ (L.map (·.2)).Nodup ∧ ds = L.map fun p => D.tup (p.2.map D.int)
def SetRep (K : KW) (H : Hp) (a : Addr) (ds : List D) : Prop := ∃ o, H a = some o ∧ SetIs K H a o ds

/-- a dict stands at a, its entries told -/
def rawO (a : Addr) (es : Array DictEntry) (ep : Nat) : HO := .ext fun h => h.DictRaw a es ep
/-- its keys are ints and texts -/
def LeafOk (K : KW) (a : Addr) (es : Array DictEntry) (vs : List (Key × Value)) : Prop :=
  (a == sysModules) = false ∧ vs.length ≤ sizeLine ∧ KeysOf (mixKind K.P K.w) es ∧ Pairs (mixKind K.P K.w) es.toList vs ∧ (vs.map (·.1)).Nodup
/-- its keys are tuples -/
def NestOk (K : KW) (a : Addr) (es : Array DictEntry) (xs : List (NestedKey × Addr × Value)) : Prop :=
  (a == sysModules) = false ∧ xs.length ≤ sizeLine ∧ es.toList = xs.map (entryOfKey (nestedKind K.P K.w)) ∧ (xs.map (·.1)).Nodup
mutual
def nkOf : D → Option NestedKey
  | .non => some .none
  | .bl b => some (.num (if b = true then 1 else 0))
  | .int i => some (.num i)
  | .str x => some (.text x)
  | .tup ds => (nkAll ds).map .tup
  | .lst _ => none
  | .dic _ => none
  | .set _ => none
def nkAll : List D → Option (List NestedKey)
  | [] => some []
  | d :: r => (nkOf d).bind fun k => (nkAll r).map fun ks => k :: ks
end
/-- a tuple as a key -/
def nkT : D → Option NestedKey
  | .tup ds => (nkOf (.tup ds)).bind fun k => if k.depth ≤ 8 then some k else none
  | _ => none

mutual
/-- the value v is the datum d; its lists, dicts and sets stand outside F -/
inductive Dt (K : KW) (F : Addr → Prop) (H : Hp) : V → D → Prop
  | non : Dt K F H .non .non
  | bl (b : Bool) : Dt K F H (.bl b) (.bl b)
  | int (i : Int) : Dt K F H (.int i) (.int i)
  | str (x : Str) : Dt K F H (.str x) (.str x)
  | tup {a : Addr} {xs : List V} {ds : List D} : TpAt K H a xs → DtL K F H xs ds → Dt K F H (.ref a) (.tup ds)
  | lst {a : Addr} {xs : List V} {ds : List D} : ¬ F a → H a = some (.lst xs) → DtL K F H xs ds → Dt K F H (.ref a) (.lst ds)
  | dK {a : Addr} {es : Array DictEntry} {ep : Nat} {vs : List (Key × Value)} {kvs : List (Key × V)} {ds : List (D × D)} : ¬ F a → H a = some (rawO a es ep) → LeafOk K a es vs → KV kvs vs → DtK K F H kvs ds → Dt K F H (.ref a) (.dic ds)
  | dT {a : Addr} {es : Array DictEntry} {ep : Nat} {xs : List (NestedKey × Addr × Value)} {ds : List (D × D)} : ¬ F a → H a = some (rawO a es ep) → NestOk K a es xs → DtT K F H xs ds → Dt K F H (.ref a) (.dic ds)
  | set {a : Addr} {ds : List D} : ¬ F a → SetRep K H a ds → Dt K F H (.ref a) (.set ds)
inductive DtL (K : KW) (F : Addr → Prop) (H : Hp) : List V → List D → Prop
  | nil : DtL K F H [] []
  | cons {v : V} {d : D} {vs : List V} {ds : List D} : Dt K F H v d → DtL K F H vs ds → DtL K F H (v :: vs) (d :: ds)
inductive DtK (K : KW) (F : Addr → Prop) (H : Hp) : List (Key × V) → List (D × D) → Prop
  | nil : DtK K F H [] []
  | cons {k : Key} {v : V} {d : D} {vs : List (Key × V)} {ds : List (D × D)} : Dt K F H v d → DtK K F H vs ds → DtK K F H ((k, v) :: vs) ((kD k, d) :: ds)
inductive DtT (K : KW) (F : Addr → Prop) (H : Hp) : List (NestedKey × Addr × Value) → List (D × D) → Prop
  | nil : DtT K F H [] []
  | cons {k : NestedKey} {b : Addr} {u : Value} {v : V} {kd d : D} {vs : List (NestedKey × Addr × Value)} {ds : List (D × D)} : nkT kd = some k → Dt K F H (.ref b) kd → RelV v u → Dt K F H v d → DtT K F H vs ds → DtT K F H ((k, b, u) :: vs) ((kd, d) :: ds)
end

/-- the step of the abstract heap that frozen data outlive -/
def Stp (F : Addr → Prop) (H H' : Hp) : Prop := ∀ b o, H b = some o → (¬ F b ∨ ∃ xs, o = .tup xs) → H' b = some o
theorem Stp.refl (F : Addr → Prop) (H : Hp) : Stp F H H := fun _ _ e _ => e
theorem Stp.trans {F : Addr → Prop} {H H1 H2 : Hp} (a : Stp F H H1) (b : Stp F H1 H2) : Stp F H H2 := fun c o e n => b c o (a c o e n) n
theorem Stp.of_same {F : Addr → Prop} {H H' : Hp} (a : Same H H') : Stp F H H' := fun c o e _ => a c o e
theorem Stp.anti {F F' : Addr → Prop} {H H' : Hp} (a : Stp F H H') (h : ∀ b, F b → F' b) : Stp F' H H' := fun c o e n => a c o e (n.imp (fun z q => z (h c q)) id)

theorem TpAt.stp {K : KW} {F : Addr → Prop} {H H' : Hp} {a : Addr} {xs : List V} (s : Stp F H H') (h : TpAt K H a xs) : TpAt K H' a xs := by
  rcases h with h | h
  · exact .inl (s _ _ h (.inr ⟨_, rfl⟩))
  · exact .inr h
theorem SetIs.stp {K : KW} {F : Addr → Prop} {H H' : Hp} {a : Addr} {o : HO} {ds : List D} (s : Stp F H H') (h : SetIs K H a o ds) : SetIs K H' a o ds := by
  rcases h with h | ⟨L, h1, h0, h2, h3⟩
  · exact .inl h
  · exact .inr ⟨L, h1, h0, fun p hp => (h2 p hp).stp s, h3⟩
/-- the script: known to the object, or of the written part -/
def ScAt (K : KW) (F : Addr → Prop) (H : Hp) (a : Addr) (xs : List V) : Prop :=
  ((∃ o, H a = some (.frz o (.lst xs))) ∧ ¬ F a) ∨
    ∃ (o : Obj) (its : Array Value) (n : Nat), K.f.lookup a = some o ∧ o.cls = .type "list" ∧ o.dict = none ∧ o.data = .seq its n ∧ its.size ≤ sizeLine ∧ Vals xs its.toList
theorem ScAt.sq {K : KW} {F : Addr → Prop} {H : Hp} {a : Addr} {xs : List V} (h : ScAt K F H a xs) : SqL K.f H a xs := h.elim (fun h => .inl (.inr h.1)) .inr
theorem ScAt.mv {K : KW} {F F' : Addr → Prop} {H H' : Hp} {a : Addr} {xs : List V} (s : Stp F H H') (hF : F' a → F a) (h : ScAt K F H a xs) : ScAt K F' H' a xs := by
  rcases h with ⟨⟨o, h⟩, n⟩ | h
  · exact .inl ⟨⟨o, s _ _ h (.inl n)⟩, fun z => n (hF z)⟩
  · exact .inr h
theorem ScAt.apart {K : KW} {F : Addr → Prop} {H : Hp} {a p : Addr} {xs : List V} (h : ScAt K F H a xs) (hp : H p = none) (hF : ∀ b, F b → b ≠ p) : ScAt K (fun b => F b ∨ b = p) H a xs := by
  rcases h with ⟨⟨o, h⟩, n⟩ | h
  · exact .inl ⟨⟨o, h⟩, fun z => z.elim n fun e => by rw [e, hp] at h; cases h⟩
  · exact .inr h
theorem SqL.stp {K : KW} {F : Addr → Prop} {H H' : Hp} {a : Addr} {xs : List V} (s : Stp F H H') (h : SqL K.f H a xs) (hf : ¬ F a) : SqL K.f H' a xs := by
  rcases h with (h | ⟨o, h⟩) | h
  · exact .inl (.inl (s _ _ h (.inl hf)))
  · exact .inl (.inr ⟨o, s _ _ h (.inl hf)⟩)
  · exact .inr h

section
variable {K : KW} {F F' : Addr → Prop} {H H' : Hp}
mutual
/-- what a datum stands on is kept, and what it stays apart from grows no more -/
theorem Dt.mv (s : Stp F H H') (hF : ∀ b, F' b → F b) : ∀ {v : V} {d : D}, Dt K F H v d → Dt K F' H' v d
  | _, _, .non => .non
  | _, _, .bl b => .bl b
  | _, _, .int i => .int i
  | _, _, .str x => .str x
  | _, _, .tup h r => .tup (h.stp s) (DtL.mv s hF r)
  | _, _, .lst n h r => .lst (fun z => n (hF _ z)) (s _ _ h (.inl n)) (DtL.mv s hF r)
  | _, _, .dK n h l k r => .dK (fun z => n (hF _ z)) (s _ _ h (.inl n)) l k (DtK.mv s hF r)
  | _, _, .dT n h l r => .dT (fun z => n (hF _ z)) (s _ _ h (.inl n)) l (DtT.mv s hF r)
  | _, _, .set n ⟨o, e, r⟩ => .set (fun z => n (hF _ z)) ⟨o, s _ _ e (.inl n), r.stp s⟩
theorem DtL.mv (s : Stp F H H') (hF : ∀ b, F' b → F b) : ∀ {vs : List V} {ds : List D}, DtL K F H vs ds → DtL K F' H' vs ds
  | _, _, .nil => .nil
  | _, _, .cons h r => .cons (Dt.mv s hF h) (DtL.mv s hF r)
theorem DtK.mv (s : Stp F H H') (hF : ∀ b, F' b → F b) : ∀ {vs : List (Key × V)} {ds : List (D × D)}, DtK K F H vs ds → DtK K F' H' vs ds
  | _, _, .nil => .nil
  | _, _, .cons h r => .cons (Dt.mv s hF h) (DtK.mv s hF r)
theorem DtT.mv (s : Stp F H H') (hF : ∀ b, F' b → F b) : ∀ {vs : List (NestedKey × Addr × Value)} {ds : List (D × D)}, DtT K F H vs ds → DtT K F' H' vs ds
  | _, _, .nil => .nil
  | _, _, .cons e k v h r => .cons e (Dt.mv s hF k) v (Dt.mv s hF h) (DtT.mv s hF r)
end
theorem Dt.stp (s : Stp F H H') {v : V} {d : D} (h : Dt K F H v d) : Dt K F H' v d := h.mv s fun _ z => z
theorem Dt.anti (hF : ∀ b, F' b → F b) {v : V} {d : D} (h : Dt K F H v d) : Dt K F' H v d := h.mv (Stp.refl _ _) hF
theorem DtL.stp (s : Stp F H H') {v : List V} {d : List D} (h : DtL K F H v d) : DtL K F H' v d := h.mv s fun _ z => z
theorem DtL.anti (hF : ∀ b, F' b → F b) {v : List V} {d : List D} (h : DtL K F H v d) : DtL K F' H v d := h.mv (Stp.refl _ _) hF
theorem DtK.stp (s : Stp F H H') {v : List (Key × V)} {d : List (D × D)} (h : DtK K F H v d) : DtK K F H' v d := h.mv s fun _ z => z
theorem DtT.stp (s : Stp F H H') {v : List (NestedKey × Addr × Value)} {d : List (D × D)} (h : DtT K F H v d) : DtT K F H' v d := h.mv s fun _ z => z

theorem DtL.length : ∀ {vs : List V} {ds : List D}, DtL K F H vs ds → vs.length = ds.length
  | _, _, .nil => rfl
  | _, _, .cons _ r => by rw [List.length_cons, List.length_cons, r.length]
theorem DtL.append : ∀ {vs ws : List V} {ds es : List D}, DtL K F H vs ds → DtL K F H ws es → DtL K F H (vs ++ ws) (ds ++ es)
  | _, _, _, _, .nil, s => s
  | _, _, _, _, .cons h r, s => .cons h (r.append s)
theorem DtL.get : ∀ {vs : List V} {ds : List D} {i : Nat} {d : D}, DtL K F H vs ds → ds[i]? = some d → ∃ v, vs[i]? = some v ∧ Dt K F H v d
  | _, _, _, _, .nil, e => by simp at e
  | _, _, 0, _, .cons h _, e => by simp at e; subst e; exact ⟨_, rfl, h⟩
  | _, _, i + 1, _, .cons _ r, e => by
    obtain ⟨v, h1, h2⟩ := r.get (i := i) (by simpa using e)
    exact ⟨v, by simpa using h1, h2⟩
theorem DtL.getV : ∀ {vs : List V} {ds : List D} {i : Nat} {v : V}, DtL K F H vs ds → vs[i]? = some v → ∃ d, ds[i]? = some d ∧ Dt K F H v d
  | _, _, _, _, .nil, e => by simp at e
  | _, _, 0, _, .cons h _, e => by simp at e; subst e; exact ⟨_, rfl, h⟩
  | _, _, i + 1, _, .cons _ r, e => by
    obtain ⟨v, h1, h2⟩ := r.getV (i := i) (by simpa using e)
    exact ⟨v, by simpa using h1, h2⟩
theorem DtL.take : ∀ {vs : List V} {ds : List D} (n : Nat), DtL K F H vs ds → DtL K F H (vs.take n) (ds.take n)
  | _, _, 0, _ => .nil
  | _, _, _ + 1, .nil => .nil
  | _, _, n + 1, .cons h r => .cons h (r.take n)
theorem DtL.drop : ∀ {vs : List V} {ds : List D} (n : Nat), DtL K F H vs ds → DtL K F H (vs.drop n) (ds.drop n)
  | _, _, 0, r => r
  | _, _, _ + 1, .nil => .nil
  | _, _, n + 1, .cons _ r => r.drop n
theorem DtL.set {v : V} {d : D} (h : Dt K F H v d) : ∀ {vs : List V} {ds : List D} (i : Nat), DtL K F H vs ds → DtL K F H (vs.set i v) (ds.set i d)
  | _, _, _, .nil => .nil
  | _, _, 0, .cons _ r => .cons h r
  | _, _, i + 1, .cons q r => .cons q (r.set h i)
theorem DtL.ints : ∀ {vs : List V} {is : List Int}, DtL K F H vs (is.map D.int) → vs = is.map V.int
  | _, [], .nil => rfl
  | _, _ :: _, .cons (.int _) r => by rw [r.ints]; rfl
theorem DtL.of_ints : ∀ (is : List Int), DtL K F H (is.map V.int) (is.map D.int)
  | [] => .nil
  | i :: r => .cons (.int i) (DtL.of_ints r)
theorem DtL.bls : ∀ {vs : List V} {is : List Bool}, DtL K F H vs (is.map D.bl) → vs = is.map V.bl
  | _, [], .nil => rfl
  | _, _ :: _, .cons (.bl _) r => by rw [r.bls]; rfl
theorem DtL.of_bls : ∀ (is : List Bool), DtL K F H (is.map V.bl) (is.map D.bl)
  | [] => .nil
  | i :: r => .cons (.bl i) (DtL.of_bls r)

/-- a dict of the pairs ds stands at a -/
def DicC (K : KW) (F : Addr → Prop) (H : Hp) (a : Addr) (ds : List (D × D)) : Prop :=
  ∃ es ep, H a = some (rawO a es ep) ∧ ((∃ vs kvs, LeafOk K a es vs ∧ KV kvs vs ∧ DtK K F H kvs ds) ∨ ∃ xs, NestOk K a es xs ∧ DtT K F H xs ds)
theorem DicC.mv' {K : KW} {F F' : Addr → Prop} {H H' : Hp} {a : Addr} {ds : List (D × D)} (s : Stp F H H') (hF : ∀ b, F' b → F b) (e : ∀ o, H a = some o → H' a = some o) (h : DicC K F H a ds) : DicC K F' H' a ds := by
  obtain ⟨es, ep, q, h⟩ := h
  rcases h with ⟨vs, kvs, l, k, r⟩ | ⟨xs, l, r⟩
  · exact ⟨es, ep, e _ q, .inl ⟨vs, kvs, l, k, r.mv s hF⟩⟩
  · exact ⟨es, ep, e _ q, .inr ⟨xs, l, r.mv s hF⟩⟩
theorem DicC.dt {K : KW} {F : Addr → Prop} {H : Hp} {a : Addr} {ds : List (D × D)} (n : ¬ F a) (h : DicC K F H a ds) : Dt K F H (.ref a) (.dic ds) := by
  obtain ⟨es, ep, q, h⟩ := h
  rcases h with ⟨vs, kvs, l, k, r⟩ | ⟨xs, l, r⟩
  · exact .dK n q l k r
  · exact .dT n q l r
/-- .. the outermost list, dict or set may stand in F -/
def Dr (K : KW) (F : Addr → Prop) (H : Hp) (v : V) : D → Prop
  | .lst ds => ∃ a xs, v = .ref a ∧ H a = some (.lst xs) ∧ DtL K F H xs ds
  | .dic ds => ∃ a, v = .ref a ∧ DicC K F H a ds
  | .set ds => ∃ a, v = .ref a ∧ SetRep K H a ds
  | d => Dt K F H v d
theorem Dt.dr {v : V} {d : D} (h : Dt K F H v d) : Dr K F H v d := by
  cases h with
  | lst _ h r => exact ⟨_, _, rfl, h, r⟩
  | dK _ h l k r => exact ⟨_, rfl, _, _, h, .inl ⟨_, _, l, k, r⟩⟩
  | dT _ h l r => exact ⟨_, rfl, _, _, h, .inr ⟨_, l, r⟩⟩
  | set _ h => exact ⟨_, rfl, h⟩
  | non => exact .non
  | bl b => exact .bl b
  | int i => exact .int i
  | str x => exact .str x
  | tup h r => exact .tup h r
theorem SqL.same {a : Addr} {xs : List V} (s : Same H H') (h : SqL K.f H a xs) : SqL K.f H' a xs := Same.seq s h
theorem Dr.same {v : V} {d : D} (s : Same H H') (h : Dr K F H v d) : Dr K F H' v d := by
  have sp : Stp F H H' := Stp.of_same s
  cases d with
  | lst ds => obtain ⟨a, xs, rfl, h, r⟩ := h; exact ⟨a, xs, rfl, s _ _ h, r.stp sp⟩
  | dic ds => obtain ⟨a, rfl, h⟩ := h; exact ⟨a, rfl, h.mv' sp (fun _ z => z) fun o z => s _ _ z⟩
  | set ds => obtain ⟨a, rfl, o, e, r⟩ := h; exact ⟨a, rfl, o, s _ _ e, r.stp sp⟩
  | non => exact Dt.stp sp h
  | bl b => exact Dt.stp sp h
  | int i => exact Dt.stp sp h
  | str x => exact Dt.stp sp h
  | tup xs => exact Dt.stp sp h
theorem Dr.anti {v : V} {d : D} (hF : ∀ b, F' b → F b) (h : Dr K F H v d) : Dr K F' H v d := by
  cases d with
  | lst ds => obtain ⟨a, xs, rfl, h, r⟩ := h; exact ⟨a, xs, rfl, h, r.anti hF⟩
  | dic ds => obtain ⟨a, rfl, h⟩ := h; exact ⟨a, rfl, h.mv' (Stp.refl _ _) hF fun _ z => z⟩
  | set ds => exact h
  | non => exact Dt.anti hF h
  | bl b => exact Dt.anti hF h
  | int i => exact Dt.anti hF h
  | str x => exact Dt.anti hF h
  | tup xs => exact Dt.anti hF h
/-- no list, dict, set within -/
inductive Flat : D → Prop
  | non : Flat .non
  | bl (b : Bool) : Flat (.bl b)
  | int (i : Int) : Flat (.int i)
  | str (x : Str) : Flat (.str x)
  | tup {xs : List D} : (∀ d, d ∈ xs → Flat d) → Flat (.tup xs)
mutual
def flat : D → Bool
  | .tup xs => flatL xs
  | .lst _ => false
  | .dic _ => false
  | .set _ => false
  | .non => true
  | .bl _ => true
  | .int _ => true
  | .str _ => true
def flatL : List D → Bool
  | [] => true
  | d :: r => flat d && flatL r
end
mutual
theorem Dt.flat (s : Stp F H H') : ∀ {v : V} {d : D}, Dt K F H v d → DL.flat d = true → Dt K F' H' v d
  | _, _, .non, _ => .non
  | _, _, .bl b, _ => .bl b
  | _, _, .int i, _ => .int i
  | _, _, .str x, _ => .str x
  | _, _, .tup h r, e => .tup (h.stp s) (DtL.flat s r (by simpa [DL.flat] using e))
  | _, _, .lst _ _ _, e => by simp [DL.flat] at e
  | _, _, .dK _ _ _ _ _, e => by simp [DL.flat] at e
  | _, _, .dT _ _ _ _, e => by simp [DL.flat] at e
  | _, _, .set _ _, e => by simp [DL.flat] at e
theorem DtL.flat (s : Stp F H H') : ∀ {vs : List V} {ds : List D}, DtL K F H vs ds → DL.flatL ds = true → DtL K F' H' vs ds
  | _, _, .nil, _ => .nil
  | _, _, .cons h r, e => by
    simp only [DL.flatL, Bool.and_eq_true] at e
    exact .cons (Dt.flat s h e.1) (DtL.flat s r e.2)
end
end

/-! ### slots -/
inductive Slot where
  /-- not told; frozen; the frame's own object, changed in place; the same, handed in by reference -/
  | un | fz (d : D) | ow (d : D) | rf (d : D) | sc (ns : List Int)
abbrev Sd := List Slot
structure Ctx where
  /-- objects that stand fixed and apart from all that is frozen here; the objects handed in by reference; the heap at the entry -/
  fx : Addr → Option HO
  br : Nat → Option Addr
  H0 : Hp
  bM : ∀ i a, br i = some a → fx a = none
abbrev Wn := Nat → Option Addr
def Fo (G : Ctx) (W : Wn) : Addr → Prop := fun a => G.fx a ≠ none ∨ ∃ i, W i = some a
/-- an own object's content -/
def OwnAt (K : KW) (F : Addr → Prop) (H : Hp) (a : Addr) : D → Prop
  | .lst ds => ∃ xs, H a = some (.lst xs) ∧ DtL K F H xs ds
  | .dic ds => DicC K F H a ds
  | .set ds => SetRep K H a ds
  | _ => False
def SlotOk (K : KW) (F : Addr → Prop) (H : Hp) (ov : Option V) (w br : Option Addr) : Slot → Prop
  | .un => w = none ∧ br = none
  | .fz d => w = none ∧ br = none ∧ ∃ v, ov = some v ∧ Dt K F H v d
  | .ow d => br = none ∧ ∃ a, w = some a ∧ ov = some (.ref a) ∧ OwnAt K F H a d
  | .rf d => ∃ a, br = some a ∧ w = some a ∧ ov = some (.ref a) ∧ OwnAt K F H a d
  | .sc ns => w = none ∧ br = none ∧ ∃ a, ov = some (.ref a) ∧ ScAt K F H a (ns.map V.int)
structure Rel (K : KW) (G : Ctx) (W : Wn) (σ : St') (H : Hp) (sd : Sd) : Prop where
  len : σ.length = sd.length
  slot : ∀ i s, sd[i]? = some s → SlotOk K (Fo G W) H ((σ[i]?).getD none) (W i) (G.br i) s
  out : ∀ i, sd.length ≤ i → W i = none ∧ G.br i = none
  inj : ∀ i j a, W i = some a → W j = some a → i = j
  wM : ∀ i a, W i = some a → G.fx a = none
  new : ∀ i a, W i = some a → G.br i = some a ∨ G.H0 a = none
  keep : ∀ b o, G.H0 b = some o → (∀ i, G.br i ≠ some b) → H b = some o
  fix : ∀ a o, G.fx a = some o → H a = some o

section
variable {K : KW} {F F' : Addr → Prop} {H H' : Hp} {a : Addr} {d : D}
theorem OwnAt.there (h : OwnAt K F H a d) : ∃ o, H a = some o ∧ ∀ xs, o ≠ .tup xs := by
  cases d with
  | lst ds => obtain ⟨xs, e, _⟩ := h; exact ⟨_, e, fun _ z => by cases z⟩
  | dic ds => obtain ⟨es, ep, e, _⟩ := h; exact ⟨_, e, fun _ z => by cases z⟩
  | set ds =>
    obtain ⟨o, e, r⟩ := h
    refine ⟨_, e, fun _ z => ?_⟩
    rcases r with ⟨_, _, _, rfl, _⟩ | ⟨_, rfl, _⟩ <;> cases z
  | _ => exact h.elim
theorem OwnAt.mv (s : Stp F H H') (hF : ∀ b, F' b → F b) (e : ∀ o, H a = some o → H' a = some o) (h : OwnAt K F H a d) : OwnAt K F' H' a d := by
  cases d with
  | lst ds => obtain ⟨xs, q, r⟩ := h; exact ⟨xs, e _ q, r.mv s hF⟩
  | dic ds => exact DicC.mv' s hF e h
  | set ds => obtain ⟨o, q, r⟩ := h; exact ⟨o, e _ q, r.stp s⟩
  | _ => exact h.elim
theorem OwnAt.dr (h : OwnAt K F H a d) : Dr K F H (.ref a) d := by
  cases d with
  | lst ds => obtain ⟨xs, q, r⟩ := h; exact ⟨a, xs, rfl, q, r⟩
  | dic ds => exact ⟨a, rfl, h⟩
  | set ds => exact ⟨a, rfl, h⟩
  | _ => exact h.elim
end

theorem OwnAt.dt {K : KW} {F : Addr → Prop} {H : Hp} {a : Addr} {d : D} (h : OwnAt K F H a d) (n : ¬ F a) : Dt K F H (.ref a) d := by
  cases d with
  | lst ds => obtain ⟨xs, q, r⟩ := h; exact .lst n q r
  | dic ds => exact DicC.dt n h
  | set ds => exact .set n h
  | _ => exact h.elim
section
variable {K : KW} {G : Ctx} {W : Wn} {σ : St'} {H H' : Hp} {sd : Sd}
theorem Rel.own (R : Rel K G W σ H sd) {i : Nat} {a : Addr} (e : W i = some a) : ∃ d, OwnAt K (Fo G W) H a d ∧ (sd[i]? = some (.ow d) ∨ sd[i]? = some (.rf d)) ∧ σ[i]? = some (some (.ref a)) := by
  have hi : i < sd.length := Nat.lt_of_not_le fun z => by rw [(R.out i z).1] at e; cases e
  have q := R.slot i _ (List.getElem?_eq_getElem hi)
  have hσ : i < σ.length := by rw [R.len]; exact hi
  have getσ : ∀ v, (σ[i]?).getD none = some v → σ[i]? = some (some v) := fun v z => by
    rw [List.getElem?_eq_getElem hσ] at z ⊢
    exact congrArg some z
  cases hs : sd[i] with
  | un => rw [hs] at q; rw [q.1] at e; cases e
  | fz d => rw [hs] at q; rw [q.1] at e; cases e
  | ow d =>
    rw [hs] at q
    obtain ⟨_, b, hw, hv, o⟩ := q
    rw [e] at hw; cases hw
    exact ⟨d, o, .inl (by rw [List.getElem?_eq_getElem hi, hs]), getσ _ hv⟩
  | rf d =>
    rw [hs] at q
    obtain ⟨b, _, hw, hv, o⟩ := q
    rw [e] at hw; cases hw
    exact ⟨d, o, .inr (by rw [List.getElem?_eq_getElem hi, hs]), getσ _ hv⟩
  | sc ns => rw [hs] at q; rw [q.1] at e; cases e
theorem Rel.mdom (R : Rel K G W σ H sd) {a : Addr} (h : G.fx a ≠ none) : H a ≠ none := by
  cases e : G.fx a with
  | none => exact absurd e h
  | some o => rw [R.fix a o e]; exact fun z => nomatch z
theorem Rel.fdom (R : Rel K G W σ H sd) {a : Addr} (h : Fo G W a) : H a ≠ none := by
  rcases h with h | ⟨i, h⟩
  · exact R.mdom h
  · obtain ⟨d, o, _⟩ := R.own h
    obtain ⟨x, e, _⟩ := o.there
    rw [e]; exact fun z => nomatch z
/-- frozen data stay, and so do the own objects -/
theorem Rel.same (R : Rel K G W σ H sd) (s : Same H H') : Rel K G W σ H' sd where
  len := R.len
  slot := fun i x e => by
    have q := R.slot i x e
    cases x with
    | un => exact q
    | fz d => obtain ⟨h1, h2, v, h3, h4⟩ := q; exact ⟨h1, h2, v, h3, h4.stp (Stp.of_same s)⟩
    | ow d => obtain ⟨h1, a, h2, h3, h4⟩ := q; exact ⟨h1, a, h2, h3, h4.mv (Stp.of_same s) (fun _ z => z) fun o z => s _ _ z⟩
    | rf d => obtain ⟨a, h1, h2, h3, h4⟩ := q; exact ⟨a, h1, h2, h3, h4.mv (Stp.of_same s) (fun _ z => z) fun o z => s _ _ z⟩
    | sc ns => obtain ⟨h1, h2, a, h3, h4⟩ := q; exact ⟨h1, h2, a, h3, h4.mv (Stp.of_same s) fun z => z⟩
  out := R.out
  inj := R.inj
  wM := R.wM
  new := R.new
  keep := fun b o e n => s _ _ (R.keep b o e n)
  fix := fun a o e => s _ _ (R.fix a o e)
theorem Rel.dom {sd' : Sd} (R : Rel K G W σ H' sd') (s : Stp (Fo G W) H H') {a : Addr} (h : H a ≠ none) : H' a ≠ none := by
  by_cases hf : Fo G W a
  · exact R.fdom hf
  · cases e : H a with
    | none => exact absurd e h
    | some o => rw [s a o e (.inl hf)]; exact fun z => nomatch z
end

section
variable {K : KW} {F : Addr → Prop} {H : Hp} {p : Addr}
mutual
theorem Dt.apart (hp : H p = none) : ∀ {v : V} {d : D}, Dt K F H v d → Dt K (fun b => F b ∨ b = p) H v d
  | _, _, .non => .non
  | _, _, .bl b => .bl b
  | _, _, .int i => .int i
  | _, _, .str x => .str x
  | _, _, .tup h r => .tup h (DtL.apart hp r)
  | _, _, .lst n h r => .lst (fun z => z.elim n (ne_of_none h hp)) h (DtL.apart hp r)
  | _, _, .dK n h l k r => .dK (fun z => z.elim n (ne_of_none h hp)) h l k (DtK.apart hp r)
  | _, _, .dT n h l r => .dT (fun z => z.elim n (ne_of_none h hp)) h l (DtT.apart hp r)
  | _, _, .set n ⟨o, e, r⟩ => .set (fun z => z.elim n (ne_of_none e hp)) ⟨o, e, r⟩
theorem DtL.apart (hp : H p = none) : ∀ {vs : List V} {ds : List D}, DtL K F H vs ds → DtL K (fun b => F b ∨ b = p) H vs ds
  | _, _, .nil => .nil
  | _, _, .cons h r => .cons (Dt.apart hp h) (DtL.apart hp r)
theorem DtK.apart (hp : H p = none) : ∀ {vs : List (Key × V)} {ds : List (D × D)}, DtK K F H vs ds → DtK K (fun b => F b ∨ b = p) H vs ds
  | _, _, .nil => .nil
  | _, _, .cons h r => .cons (Dt.apart hp h) (DtK.apart hp r)
theorem DtT.apart (hp : H p = none) : ∀ {vs : List (NestedKey × Addr × Value)} {ds : List (D × D)}, DtT K F H vs ds → DtT K (fun b => F b ∨ b = p) H vs ds
  | _, _, .nil => .nil
  | _, _, .cons e k v h r => .cons e (Dt.apart hp k) v (Dt.apart hp h) (DtT.apart hp r)
end
theorem OwnAt.apart {a : Addr} {d : D} (hp : H p = none) (h : OwnAt K F H a d) : OwnAt K (fun b => F b ∨ b = p) H a d := by
  cases d with
  | lst ds => obtain ⟨xs, q, r⟩ := h; exact ⟨xs, q, r.apart hp⟩
  | dic ds =>
    obtain ⟨es, ep, q, h⟩ := h
    rcases h with ⟨vs, kvs, l, k, r⟩ | ⟨xs, l, r⟩
    · exact ⟨es, ep, q, .inl ⟨vs, kvs, l, k, r.apart hp⟩⟩
    · exact ⟨es, ep, q, .inr ⟨xs, l, r.apart hp⟩⟩
  | set ds => exact h
  | _ => exact h.elim
/-- a new object over what stands -/
theorem OwnAt.newL {xs : List V} {ds : List D} (hp : H p = none) (r : DtL K F H xs ds) : OwnAt K (fun b => F b ∨ b = p) (upd H p (.lst xs)) p (.lst ds) :=
  ⟨xs, upd_same, (r.apart hp).stp (Stp.of_same fun b x e => by rw [upd_ne (ne_of_none e hp)]; exact e)⟩
end

/-! ### kinds of an expression's outcome -/
inductive Kd where
  | E | R | N
def Res (k : Kd) (K : KW) (F : Addr → Prop) (H H' : Hp) (v : V) (d : D) : Prop := match k with
  | .E => Dt K F H' v d
  | .R => Dr K F H' v d
  | .N => ∃ a, v = .ref a ∧ H a = none ∧ OwnAt K (fun b => F b ∨ b = a) H' a d
abbrev Ev := Sd → Option (D × Sd)
abbrev Tv := Sd → Option (Bool × Sd)
abbrev Av := Sd → Option (List D × Sd)
/-- the expression's reading t yields what f tells; p: it changes nothing -/
def SemE (K : KW) (k : Kd) (p : Bool) (t : TE) (f : Ev) : Prop := ∀ (G : Ctx) W σ H sd, Rel K G W σ H sd → ∀ d sd', f sd = some (d, sd') → ∀ Q : VK,
  (∀ v H', Stp (Fo G W) H H' → Rel K G W σ H' sd' → (p = true → sd' = sd ∧ Same H H') → Res k K (Fo G W) H H' v d → Q v H') → t σ H Q
def SemT (K : KW) (p : Bool) (t : TT) (f : Tv) : Prop := ∀ (G : Ctx) W σ H sd, Rel K G W σ H sd → ∀ b sd', f sd = some (b, sd') → ∀ Q : Bool → Hp → Prop,
  (∀ H', Stp (Fo G W) H H' → Rel K G W σ H' sd' → (p = true → sd' = sd ∧ Same H H') → Q b H') → t σ H Q
/-- arguments: all frozen -/
def SemA (K : KW) (p : Bool) (t : TA) (f : Av) : Prop := ∀ (G : Ctx) W σ H sd, Rel K G W σ H sd → ∀ ds sd', f sd = some (ds, sd') → ∀ Q : List V → Hp → Prop,
  (∀ vs H', Stp (Fo G W) H H' → Rel K G W σ H' sd' → (p = true → sd' = sd ∧ Same H H') → DtL K (Fo G W) H' vs ds → Q vs H') → t σ H Q
section
variable {K : KW} {F : Addr → Prop} {H H' H2 : Hp} {v : V} {d : D}
theorem Res.dr {k : Kd} (h : Res k K F H H' v d) : Dr K F H' v d := by
  cases k with
  | E => exact Dt.dr h
  | R => exact h
  | N => obtain ⟨a, rfl, _, o⟩ := h; exact (o.mv (Stp.refl _ _) (fun _ z => .inl z) fun _ z => z).dr
theorem Res.dt (h : Res .N K F H H' v d) (hf : ∀ a, F a → H a ≠ none) : Dt K F H' v d := by
  obtain ⟨a, rfl, n, o⟩ := h
  exact (o.mv (Stp.refl _ _) (fun _ z => .inl z) fun _ z => z).dt fun z => hf a z n
end
section
variable {K : KW} {k : Kd} {p : Bool} {t ta tb tc : TE} {f fa fb fc : Ev}
theorem SemE.r (h : SemE K k p t f) : SemE K .R p t f := fun G W σ H sd R d sd' e Q q => h G W σ H sd R d sd' e Q fun v H' s R' pp r => q v H' s R' pp r.dr
theorem SemE.ne (h : SemE K .N p t f) : SemE K .E p t f := fun G W σ H sd R d sd' e Q q => h G W σ H sd R d sd' e Q fun v H' s R' pp r => q v H' s R' pp (r.dt fun _ z => R.fdom z)
theorem SemE.imp (h : SemE K k p t f) : SemE K k false t f := fun G W σ H sd R d sd' e Q q => h G W σ H sd R d sd' e Q fun v H' s R' _ r => q v H' s R' (fun z => nomatch z) r

/-! ### names, constants -/
def eV (i : Nat) : Ev := fun sd => match sd[i]? with
  | some (.fz d) => some (d, sd)
  | _ => none
def eVo (i : Nat) : Ev := fun sd => match sd[i]? with
  | some (.fz d) => some (d, sd)
  | some (.ow d) => some (d, sd)
  | some (.rf d) => some (d, sd)
  | _ => none
def eC (d : D) : Ev := fun sd => some (d, sd)
theorem getσ {σ : St'} {i : Nat} {v : V} (h : (σ[i]?).getD none = some v) : σ[i]? = some (some v) := by
  cases e : σ[i]? with
  | none => rw [e] at h; cases h
  | some x => rw [e] at h; exact congrArg some h
theorem se_v {i : Nat} : SemE K .E true (tVar i) (eV i) := by
  intro G W σ H sd R d sd' e Q q
  unfold eV at e
  split at e
  · rename_i d' hs
    cases e
    obtain ⟨_, _, v, h1, h2⟩ := R.slot i _ hs
    exact ⟨v, getσ h1, q v H (Stp.refl _ _) R (fun _ => ⟨rfl, Same.refl _⟩) h2⟩
  · cases e
theorem se_vo {i : Nat} : SemE K .R true (tVar i) (eVo i) := by
  intro G W σ H sd R d sd' e Q q
  unfold eVo at e
  split at e
  · rename_i d' hs
    cases e
    obtain ⟨_, _, v, h1, h2⟩ := R.slot i _ hs
    exact ⟨v, getσ h1, q v H (Stp.refl _ _) R (fun _ => ⟨rfl, Same.refl _⟩) h2.dr⟩
  · rename_i d' hs
    cases e
    obtain ⟨_, a, _, h1, h2⟩ := R.slot i _ hs
    exact ⟨_, getσ h1, q _ H (Stp.refl _ _) R (fun _ => ⟨rfl, Same.refl _⟩) h2.dr⟩
  · rename_i d' hs
    cases e
    obtain ⟨a, _, _, h1, h2⟩ := R.slot i _ hs
    exact ⟨_, getσ h1, q _ H (Stp.refl _ _) R (fun _ => ⟨rfl, Same.refl _⟩) h2.dr⟩
  · cases e
theorem se_c {v : V} {d : D} (h : ∀ K F H, Dt K F H v d) : SemE K .E true (tC v) (eC d) := by
  intro G W σ H sd R d' sd' e Q q
  cases e
  exact q v H (Stp.refl _ _) R (fun _ => ⟨rfl, Same.refl _⟩) (h _ _ _)
theorem se_int {i : Int} : SemE K .E true (tC (.int i)) (eC (.int i)) := se_c fun _ _ _ => .int i
theorem se_str {i : Str} : SemE K .E true (tC (.str i)) (eC (.str i)) := se_c fun _ _ _ => .str i
theorem se_bl {i : Bool} : SemE K .E true (tC (.bl i)) (eC (.bl i)) := se_c fun _ _ _ => .bl i
theorem se_non : SemE K .E true (tC .non) (eC .non) := se_c fun _ _ _ => .non

/-! ### two operands -/
/-- what is carried over another evaluation -/
def Carry (k : Kd) (p : Bool) : Prop := k = .E ∨ p = true
theorem Res.carry {K : KW} {F : Addr → Prop} {H0 H H' : Hp} {v : V} {d : D} {p : Bool} (h : Res k K F H0 H v d) (c : Carry k p) (s : Stp F H H') (pp : p = true → Same H H') : Dr K F H' v d := by
  rcases c with rfl | rfl
  · exact Dt.dr (Dt.stp s h)
  · exact h.dr.same (pp rfl)
def eOp (g : D → D → Option D) (a b : Ev) : Ev := fun sd => (a sd).bind fun r => (b r.2).bind fun q => (g r.1 q.1).map fun d => (d, q.2)
def eUn (g : D → Option D) (a : Ev) : Ev := fun sd => (a sd).bind fun r => (g r.1).map fun d => (d, r.2)
/-- a two-place operation that changes nothing -/
def OpD (K : KW) (k : Kd) (r : R2) (g : D → D → Option D) : Prop := ∀ (F : Addr → Prop) (H : Hp) (x y : V) (d e out : D), (∀ a, F a → H a ≠ none) → Dr K F H x d → Dr K F H y e → g d e = some out → ∀ Q : VK,
  (∀ v H', Same H H' → Res k K F H H' v out → Q v H') → r x y H Q
def UnD (K : KW) (k : Kd) (r : V → Hp → VK → Prop) (g : D → Option D) : Prop := ∀ (F : Addr → Prop) (H : Hp) (x : V) (d out : D), (∀ a, F a → H a ≠ none) → Dr K F H x d → g d = some out → ∀ Q : VK,
  (∀ v H', Same H H' → Res k K F H H' v out → Q v H') → r x H Q
theorem Res.older {K : KW} {F : Addr → Prop} {H0 H H' : Hp} {v : V} {d : D} (h : Res k K F H H' v d) (hd : ∀ a, H0 a ≠ none → H a ≠ none) : Res k K F H0 H' v d := by
  cases k with
  | E => exact h
  | R => exact h
  | N => obtain ⟨a, e, n, o⟩ := h; exact ⟨a, e, Classical.byContradiction fun z => hd a z n, o⟩
theorem se_op {k1 k2 : Kd} {p1 p2 : Bool} {r : R2} {g : D → D → Option D} (c : Carry k1 p2) (ho : OpD K k r g) (ha : SemE K k1 p1 ta fa) (hb : SemE K k2 p2 tb fb) : SemE K k (p1 && p2) (tOp r ta tb) (eOp g fa fb) := by
  intro G W σ H sd R d sd' e Q q
  obtain ⟨⟨d1, sd1⟩, e1, e⟩ := Option.bind_eq_some_iff.mp e
  obtain ⟨⟨d2, sd2⟩, e2, e⟩ := Option.bind_eq_some_iff.mp e
  obtain ⟨d3, e3, e⟩ := Option.map_eq_some_iff.mp e
  cases e
  refine ha G W σ H sd R d1 sd1 e1 _ fun x H1 s1 R1 pp1 x1 => ?_
  refine hb G W σ H1 sd1 R1 d2 sd2 e2 _ fun y H2 s2 R2 pp2 x2 => ?_
  refine ho (Fo G W) H2 x y d1 d2 _ (fun a z => R2.fdom z) (x1.carry c s2 fun z => (pp2 z).2) x2.dr e3 Q fun v H3 s3 r3 => ?_
  refine q v H3 ((s1.trans s2).trans (Stp.of_same s3)) (R2.same s3) (fun z => ?_) (r3.older fun a z => R2.dom s2 (R1.dom s1 z))
  rw [Bool.and_eq_true] at z
  exact ⟨(pp2 z.2).1.trans (pp1 z.1).1, ((pp1 z.1).2.trans (pp2 z.2).2).trans s3⟩
theorem se_un {k1 : Kd} {r : V → Hp → VK → Prop} {g : D → Option D} (ho : UnD K k r g) (ha : SemE K k1 p ta fa) : SemE K k p (tUn r ta) (eUn g fa) := by
  intro G W σ H sd R d sd' e Q q
  obtain ⟨⟨d1, sd1⟩, e1, e⟩ := Option.bind_eq_some_iff.mp e
  obtain ⟨d3, e3, e⟩ := Option.map_eq_some_iff.mp e
  cases e
  refine ha G W σ H sd R d1 sd1 e1 _ fun x H1 s1 R1 pp1 x1 => ?_
  refine ho (Fo G W) H1 x d1 _ (fun a z => R1.fdom z) x1.dr e3 Q fun v H3 s3 r3 => ?_
  exact q v H3 (s1.trans (Stp.of_same s3)) (R1.same s3) (fun z => ⟨(pp1 z).1, (pp1 z).2.trans s3⟩) (r3.older fun a z => R1.dom s1 z)

/-! ### arguments, displays -/
def aNil : Av := fun sd => some ([], sd)
def aCons (e : Ev) (r : Av) : Av := fun sd => (e sd).bind fun x => (r x.2).map fun q => (x.1 :: q.1, q.2)
theorem sa_nil : SemA K true tNil aNil := by
  intro G W σ H sd R d sd' e Q q
  cases e
  exact q [] H (Stp.refl _ _) R (fun _ => ⟨rfl, Same.refl _⟩) .nil
theorem sa_cons {p2 : Bool} {te : TE} {tr : TA} {fe : Ev} {fr : Av} (he : SemE K .E p te fe) (hr : SemA K p2 tr fr) : SemA K (p && p2) (tCons te tr) (aCons fe fr) := by
  intro G W σ H sd R d sd' e Q q
  obtain ⟨⟨d1, sd1⟩, e1, e⟩ := Option.bind_eq_some_iff.mp e
  obtain ⟨⟨d2, sd2⟩, e2, e⟩ := Option.map_eq_some_iff.mp e
  cases e
  refine he G W σ H sd R d1 sd1 e1 _ fun x H1 s1 R1 pp1 x1 => ?_
  refine hr G W σ H1 sd1 R1 d2 sd2 e2 _ fun xs H2 s2 R2 pp2 x2 => ?_
  refine q (x :: xs) H2 (s1.trans s2) R2 (fun z => ?_) (.cons (Dt.stp s2 x1) x2)
  rw [Bool.and_eq_true] at z
  exact ⟨(pp2 z.2).1.trans (pp1 z.1).1, (pp1 z.1).2.trans (pp2 z.2).2⟩
def szl : Nat := 16000000
theorem szl_le {n : Nat} (h : n ≤ szl) : n ≤ sizeLine := Nat.le_trans h (by decide)
theorem szl_lt {n : Nat} (h : n ≤ szl) : n < sizeLine := Nat.lt_of_le_of_lt h (by decide)
def eTup (a : Av) : Ev := fun sd => (a sd).bind fun r => if r.1.length ≤ szl then some (.tup r.1, r.2) else none
def eLst (a : Av) : Ev := fun sd => (a sd).bind fun r => if r.1.length ≤ szl then some (.lst r.1, r.2) else none
theorem same_upd {H : Hp} {p : Addr} {o : HO} (h : H p = none) : Same H (upd H p o) := fun b x e => by
  rw [upd_ne (ne_of_none e h)]
  exact e
theorem se_tup {ta : TA} {fa : Av} (h : SemA K p ta fa) : SemE K .E p (tTup ta) (eTup fa) := by
  intro G W σ H sd R d sd' e Q q
  obtain ⟨⟨d1, sd1⟩, e1, e⟩ := Option.bind_eq_some_iff.mp e
  simp only at e
  split at e
  · rename_i hl
    cases e
    refine h G W σ H sd R d1 _ e1 _ fun xs H1 s1 R1 pp1 x1 => ⟨szl_le (by rw [x1.length]; exact hl), fun b hb => ?_⟩
    exact q _ _ (s1.trans (Stp.of_same (same_upd hb))) (R1.same (same_upd hb)) (fun z => ⟨(pp1 z).1, (pp1 z).2.trans (same_upd hb)⟩) (.tup (.inl upd_same) (x1.stp (Stp.of_same (same_upd hb))))
  · cases e
theorem se_lst {ta : TA} {fa : Av} (h : SemA K p ta fa) : SemE K .N p (tLst ta) (eLst fa) := by
  intro G W σ H sd R d sd' e Q q
  obtain ⟨⟨d1, sd1⟩, e1, e⟩ := Option.bind_eq_some_iff.mp e
  simp only at e
  split at e
  · rename_i hl
    cases e
    refine h G W σ H sd R d1 _ e1 _ fun xs H1 s1 R1 pp1 x1 => ⟨szl_le (by rw [x1.length]; exact hl), fun b hb => ?_⟩
    refine q _ _ (s1.trans (Stp.of_same (same_upd hb))) (R1.same (same_upd hb)) (fun z => ⟨(pp1 z).1, (pp1 z).2.trans (same_upd hb)⟩) ⟨b, rfl, ?_, OwnAt.newL hb x1⟩
    exact Classical.byContradiction fun z => R1.dom s1 z hb
  · cases e

/-! ### tests; and, or, not; a if t else b -/
def tOf (f : Ev) : Tv := fun sd => (f sd).bind fun r => match r.1 with
  | .bl b => some (b, r.2)
  | _ => none
theorem isBl {K : KW} {F : Addr → Prop} {H H' : Hp} {v : V} {b : Bool} (h : Res k K F H H' v (.bl b)) : v = .bl b := by
  have q : Dt K F H' v (.bl b) := h.dr
  cases q; rfl
theorem tOf_some {f : Ev} {sd sd' : Sd} {b : Bool} (e : tOf f sd = some (b, sd')) : f sd = some (.bl b, sd') := by
  obtain ⟨⟨d1, sd1⟩, e1, e⟩ := Option.bind_eq_some_iff.mp e
  simp only at e
  split at e
  · cases e
    exact e1
  · cases e
theorem st_b (h : SemE K k p t f) : SemT K p (tB t) (tOf f) := by
  intro G W σ H sd R b sd' e Q q
  exact h G W σ H sd R _ _ (tOf_some e) _ fun v H' s R' pp r => ⟨_, isBl r, q H' s R' pp⟩
theorem st_test (h : SemE K k p t f) : SemT K p (tTest t) (tOf f) := st_b h
def tAndD (a b : Tv) : Tv := fun sd => (a sd).bind fun r => if r.1 = true then b r.2 else some (false, r.2)
def tOrD (a b : Tv) : Tv := fun sd => (a sd).bind fun r => if r.1 = true then some (true, r.2) else b r.2
def tNotD (a : Tv) : Tv := fun sd => (a sd).map fun r => (!r.1, r.2)
variable {p2 p3 : Bool} {t1 t2 : TT} {f1 f2 : Tv}
theorem st_and (h1 : SemT K p t1 f1) (h2 : SemT K p2 t2 f2) : SemT K (p && p2) (tAnd t1 t2) (tAndD f1 f2) := by
  intro G W σ H sd R b sd' e Q q
  obtain ⟨⟨b1, sd1⟩, e1, e⟩ := Option.bind_eq_some_iff.mp e
  refine h1 G W σ H sd R b1 sd1 e1 _ fun H1 s1 R1 pp1 => ?_
  simp only at e
  split at e
  · rename_i hb
    rw [if_pos hb]
    refine h2 G W σ H1 sd1 R1 b sd' e _ fun H2 s2 R2 pp2 => q H2 (s1.trans s2) R2 fun z => ?_
    rw [Bool.and_eq_true] at z
    exact ⟨(pp2 z.2).1.trans (pp1 z.1).1, (pp1 z.1).2.trans (pp2 z.2).2⟩
  · rename_i hb
    rw [if_neg hb]
    cases e
    exact q H1 s1 R1 fun z => by
      rw [Bool.and_eq_true] at z
      exact pp1 z.1
theorem st_or (h1 : SemT K p t1 f1) (h2 : SemT K p2 t2 f2) : SemT K (p && p2) (tOr t1 t2) (tOrD f1 f2) := by
  intro G W σ H sd R b sd' e Q q
  obtain ⟨⟨b1, sd1⟩, e1, e⟩ := Option.bind_eq_some_iff.mp e
  refine h1 G W σ H sd R b1 sd1 e1 _ fun H1 s1 R1 pp1 => ?_
  simp only at e
  split at e
  · rename_i hb
    rw [if_pos hb]
    cases e
    exact q H1 s1 R1 fun z => by
      rw [Bool.and_eq_true] at z
      exact pp1 z.1
  · rename_i hb
    rw [if_neg hb]
    refine h2 G W σ H1 sd1 R1 b sd' e _ fun H2 s2 R2 pp2 => q H2 (s1.trans s2) R2 fun z => ?_
    rw [Bool.and_eq_true] at z
    exact ⟨(pp2 z.2).1.trans (pp1 z.1).1, (pp1 z.1).2.trans (pp2 z.2).2⟩
theorem st_not (h1 : SemT K p t1 f1) : SemT K p (tNot t1) (tNotD f1) := by
  intro G W σ H sd R b sd' e Q q
  obtain ⟨⟨b1, sd1⟩, e1, e⟩ := Option.map_eq_some_iff.mp e
  cases e
  exact h1 G W σ H sd R b1 sd1 e1 _ fun H1 s1 R1 pp1 => q H1 s1 R1 pp1
/-- .. as values, all bools -/
def eOfT (f : Tv) : Ev := fun sd => (f sd).map fun r => (.bl r.1, r.2)
theorem se_and {k2 : Kd} (h1 : SemE K k p ta fa) (h2 : SemE K k2 p2 tb fb) : SemE K .E (p && p2) (tAndV ta tb) (eOfT (tAndD (tOf fa) (tOf fb))) := by
  intro G W σ H sd R d sd' ee Q q
  obtain ⟨⟨b, sd2⟩, e, e'⟩ := Option.map_eq_some_iff.mp ee
  clear ee
  cases e'
  obtain ⟨⟨b1, sd1⟩, e1, e⟩ := Option.bind_eq_some_iff.mp e
  refine h1 G W σ H sd R _ _ (tOf_some e1) _ fun v H1 s1 R1 pp1 r1 => ⟨b1, isBl r1, ?_⟩
  simp only at e
  split at e
  · rename_i hb
    rw [if_pos hb]
    refine h2 G W σ H1 _ R1 _ _ (tOf_some e) _ fun v2 H2 s2 R2 pp2 r2 => ?_
    rw [isBl r2]
    refine q _ H2 (s1.trans s2) R2 (fun z => ?_) (Dt.bl _)
    rw [Bool.and_eq_true] at z
    exact ⟨(pp2 z.2).1.trans (pp1 z.1).1, (pp1 z.1).2.trans (pp2 z.2).2⟩
  · rename_i hb
    rw [if_neg hb]
    cases e
    exact q _ H1 s1 R1 (fun z => by
      rw [Bool.and_eq_true] at z
      exact pp1 z.1) (Dt.bl _)
theorem se_or {k2 : Kd} (h1 : SemE K k p ta fa) (h2 : SemE K k2 p2 tb fb) : SemE K .E (p && p2) (tOrV ta tb) (eOfT (tOrD (tOf fa) (tOf fb))) := by
  intro G W σ H sd R d sd' ee Q q
  obtain ⟨⟨b, sd2⟩, e, e'⟩ := Option.map_eq_some_iff.mp ee
  clear ee
  cases e'
  obtain ⟨⟨b1, sd1⟩, e1, e⟩ := Option.bind_eq_some_iff.mp e
  refine h1 G W σ H sd R _ _ (tOf_some e1) _ fun v H1 s1 R1 pp1 r1 => ⟨b1, isBl r1, ?_⟩
  simp only at e
  split at e
  · rename_i hb
    rw [if_pos hb]
    cases e
    exact q _ H1 s1 R1 (fun z => by
      rw [Bool.and_eq_true] at z
      exact pp1 z.1) (Dt.bl _)
  · rename_i hb
    rw [if_neg hb]
    refine h2 G W σ H1 _ R1 _ _ (tOf_some e) _ fun v2 H2 s2 R2 pp2 r2 => ?_
    rw [isBl r2]
    refine q _ H2 (s1.trans s2) R2 (fun z => ?_) (Dt.bl _)
    rw [Bool.and_eq_true] at z
    exact ⟨(pp2 z.2).1.trans (pp1 z.1).1, (pp1 z.1).2.trans (pp2 z.2).2⟩
theorem se_not (h1 : SemE K k p ta fa) : SemE K .E p (tNotV ta) (eOfT (tNotD (tOf fa))) := by
  intro G W σ H sd R d sd' ee Q q
  obtain ⟨⟨b, sd2⟩, e, e'⟩ := Option.map_eq_some_iff.mp ee
  clear ee
  cases e'
  obtain ⟨⟨b1, sd1⟩, e1, e⟩ := Option.map_eq_some_iff.mp e
  cases e
  refine h1 G W σ H sd R _ _ (tOf_some e1) _ fun v H1 s1 R1 pp1 r1 => ⟨b1, isBl r1, ?_⟩
  exact q _ H1 s1 R1 pp1 (Dt.bl _)
def eIf (c : Tv) (a b : Ev) : Ev := fun sd => (c sd).bind fun r => if r.1 = true then a r.2 else b r.2
theorem se_if (hc : SemT K p t1 f1) (ha : SemE K k p2 ta fa) (hb : SemE K k p3 tb fb) : SemE K k (p && (p2 && p3)) (tIf t1 ta tb) (eIf f1 fa fb) := by
  intro G W σ H sd R d sd' e Q q
  obtain ⟨⟨b1, sd1⟩, e1, e⟩ := Option.bind_eq_some_iff.mp e
  refine hc G W σ H sd R b1 sd1 e1 _ fun H1 s1 R1 pp1 => ?_
  simp only at e
  split at e
  · rename_i hx
    rw [if_pos hx]
    refine ha G W σ H1 sd1 R1 d sd' e _ fun v H2 s2 R2 pp2 r2 => q v H2 (s1.trans s2) R2 (fun z => ?_) (r2.older fun a z => R1.dom s1 z)
    rw [Bool.and_eq_true, Bool.and_eq_true] at z
    exact ⟨(pp2 z.2.1).1.trans (pp1 z.1).1, (pp1 z.1).2.trans (pp2 z.2.1).2⟩
  · rename_i hx
    rw [if_neg hx]
    refine hb G W σ H1 sd1 R1 d sd' e _ fun v H2 s2 R2 pp2 r2 => q v H2 (s1.trans s2) R2 (fun z => ?_) (r2.older fun a z => R1.dom s1 z)
    rw [Bool.and_eq_true, Bool.and_eq_true] at z
    exact ⟨(pp2 z.2.2).1.trans (pp1 z.1).1, (pp1 z.1).2.trans (pp2 z.2.2).2⟩
/-- a chain of two comparisons -/
def eChain (g g' : D → D → Option D) (a b c : Ev) : Ev := fun sd => (a sd).bind fun r => (b r.2).bind fun q => (g r.1 q.1).bind fun x => match x with
  | .bl true => (c q.2).bind fun u => (g' q.1 u.1).map fun d => (d, u.2)
  | .bl false => some (.bl false, q.2)
  | _ => none
theorem se_chain {k1 k2 k3 : Kd} {r r' : R2} {g g' : D → D → Option D} (c1 : Carry k1 p2) (c2 : Carry k2 p3) (ho : OpD K .E r g) (ho' : OpD K .E r' g') (ha : SemE K k1 p ta fa) (hb : SemE K k2 p2 tb fb) (hc : SemE K k3 p3 tc fc) :
    SemE K .E (p && (p2 && p3)) (tChain r r' ta tb tc) (eChain g g' fa fb fc) := by
  intro G W σ H sd R d sd' e Q q
  obtain ⟨⟨d1, sd1⟩, e1, e⟩ := Option.bind_eq_some_iff.mp e
  obtain ⟨⟨d2, sd2⟩, e2, e⟩ := Option.bind_eq_some_iff.mp e
  obtain ⟨d3, e3, e⟩ := Option.bind_eq_some_iff.mp e
  refine ha G W σ H sd R d1 sd1 e1 _ fun x H1 s1 R1 pp1 x1 => ?_
  refine hb G W σ H1 sd1 R1 d2 sd2 e2 _ fun y H2 s2 R2 pp2 x2 => ?_
  have xx := x1.carry c1 s2 fun z => (pp2 z).2
  refine ho (Fo G W) H2 x y d1 d2 _ (fun a z => R2.fdom z) xx x2.dr e3 _ fun v H3 s3 r3 => ?_
  have r3' : Dt K (Fo G W) H3 v d3 := r3
  simp only at e
  split at e
  · cases r3'
    refine ⟨true, rfl, ?_⟩
    rw [if_pos rfl]
    obtain ⟨⟨d4, sd4⟩, e4, e⟩ := Option.bind_eq_some_iff.mp e
    obtain ⟨d5, e5, e⟩ := Option.map_eq_some_iff.mp e
    cases e
    refine hc G W σ H3 sd2 (R2.same s3) d4 _ e4 _ fun z H4 s4 R4 pp4 x4 => ?_
    have y4 : Dr K (Fo G W) H4 y d2 := by
      rcases c2 with rfl | rfl
      · exact Dt.dr (Dt.stp ((Stp.of_same s3).trans s4) x2)
      · exact (x2.dr.same s3).same (pp4 rfl).2
    refine ho' (Fo G W) H4 y z d2 d4 _ (fun a z => R4.fdom z) y4 x4.dr e5 _ fun v H5 s5 r5 => ?_
    refine q v H5 ((((s1.trans s2).trans (Stp.of_same s3)).trans s4).trans (Stp.of_same s5)) (R4.same s5) (fun z => ?_) r5
    rw [Bool.and_eq_true, Bool.and_eq_true] at z
    exact ⟨(pp4 z.2.2).1.trans ((pp2 z.2.1).1.trans (pp1 z.1).1), ((((pp1 z.1).2.trans (pp2 z.2.1).2).trans s3).trans (pp4 z.2.2).2).trans s5⟩
  · cases r3'
    refine ⟨false, rfl, ?_⟩
    rw [if_neg (by decide)]
    cases e
    refine q _ H3 ((s1.trans s2).trans (Stp.of_same s3)) (R2.same s3) (fun z => ?_) (Dt.bl _)
    rw [Bool.and_eq_true, Bool.and_eq_true] at z
    exact ⟨(pp2 z.2.1).1.trans (pp1 z.1).1, ((pp1 z.1).2.trans (pp2 z.2.1).2).trans s3⟩
  · cases e
end
end DL

set_option Elab.async false
set_option linter.all false
set_option autoImplicit false
set_option maxRecDepth 100000
set_option maxHeartbeats 4000000
namespace DL
open PySem PySem.Spec PyProof.Rows L2

/-! ### statements -/
inductive Fl where
  | nx | bk | ct | rt (d : D)
  /-- a new object is handed back -/
  | rn (d : D)
abbrev Xv := Sd → Option (Fl × Sd)
/-- what was frozen is frozen -/
structure Frm (K : KW) (G : Ctx) (W : Wn) (H : Hp) (W' : Wn) (H' : Hp) : Prop where
  dt : ∀ v d, Dt K (Fo G W) H v d → Dt K (Fo G W') H' v d
  fx : ∀ a o, H a = some o → ¬ Fo G W a → ¬ Fo G W' a ∧ H' a = some o
theorem Frm.refl {K : KW} {G : Ctx} {W : Wn} {H : Hp} : Frm K G W H W H := ⟨fun _ _ h => h, fun _ _ e n => ⟨n, e⟩⟩
theorem Frm.trans {K : KW} {G : Ctx} {W W1 W2 : Wn} {H H1 H2 : Hp} (a : Frm K G W H W1 H1) (b : Frm K G W1 H1 W2 H2) : Frm K G W H W2 H2 := ⟨fun v d h => b.dt v d (a.dt v d h), fun x o e n => b.fx x o (a.fx x o e n).2 (a.fx x o e n).1⟩
theorem Frm.stp {K : KW} {G : Ctx} {W : Wn} {H H' : Hp} (s : Stp (Fo G W) H H') : Frm K G W H W H' := ⟨fun v d h => h.stp s, fun a o e n => ⟨n, s a o e (.inl n)⟩⟩
def Post (K : KW) (G : Ctx) (W : Wn) (H : Hp) (sd' : Sd) (Z : Ends) : Fl → Prop
  | .nx => ∀ W' σ' H', Rel K G W' σ' H' sd' → Frm K G W H W' H' → Z.nx σ' H'
  | .bk => ∀ W' σ' H', Rel K G W' σ' H' sd' → Frm K G W H W' H' → Z.bk σ' H'
  | .ct => ∀ W' σ' H', Rel K G W' σ' H' sd' → Frm K G W H W' H' → Z.ct σ' H'
  | .rt d => ∀ W' σ' H' v, Rel K G W' σ' H' sd' → Frm K G W H W' H' → Dt K (Fo G W') H' v d → Z.rt v H'
  | .rn d => ∀ W' σ' H' a, Rel K G W' σ' H' sd' → Frm K G W H W' H' → G.H0 a = none → ¬ Fo G G.br a → OwnAt K (fun b => Fo G G.br b ∨ b = a) H' a d → Z.rt (.ref a) H'
theorem Post.pre {K : KW} {G : Ctx} {W W1 : Wn} {H H1 : Hp} {sd' : Sd} {Z : Ends} {fl : Fl} (P : Post K G W H sd' Z fl) (f : Frm K G W H W1 H1) : Post K G W1 H1 sd' Z fl := by
  cases fl with
  | nx => exact fun W' σ' H' R f' => P W' σ' H' R (f.trans f')
  | bk => exact fun W' σ' H' R f' => P W' σ' H' R (f.trans f')
  | ct => exact fun W' σ' H' R f' => P W' σ' H' R (f.trans f')
  | rt d => exact fun W' σ' H' v R f' h => P W' σ' H' v R (f.trans f') h
  | rn d => exact fun W' σ' H' a R f' n nf h => P W' σ' H' a R (f.trans f') n nf h
def SemS (K : KW) (t : TS) (m : Xv) : Prop := ∀ (G : Ctx) W σ H sd, Rel K G W σ H sd → ∀ fl sd', m sd = some (fl, sd') → ∀ Z : Ends, Post K G W H sd' Z fl → t Z σ H

def wset (W : Wn) (i : Nat) (w : Option Addr) : Wn := fun j => if j = i then w else W j
theorem wset_same {W : Wn} {i : Nat} {w : Option Addr} : wset W i w i = w := if_pos rfl
theorem wset_ne {W : Wn} {i j : Nat} {w : Option Addr} (h : j ≠ i) : wset W i w j = W j := if_neg h
theorem fo_none {G : Ctx} {W : Wn} {i : Nat} {b : Addr} (h : Fo G (wset W i none) b) : Fo G W b := by
  rcases h with h | ⟨j, h⟩
  · exact .inl h
  · by_cases e : j = i
    · rw [e, wset_same] at h; cases h
    · rw [wset_ne e] at h; exact .inr ⟨j, h⟩
theorem fo_some {G : Ctx} {W : Wn} {i : Nat} {a b : Addr} (h : Fo G (wset W i (some a)) b) : Fo G W b ∨ b = a := by
  rcases h with h | ⟨j, h⟩
  · exact .inl (.inl h)
  · by_cases e : j = i
    · rw [e, wset_same] at h; cases h; exact .inr rfl
    · rw [wset_ne e] at h; exact .inl (.inr ⟨j, h⟩)
/-- what stands in the heap stands apart from a new address -/
theorem SlotOk.mv {K : KW} {F F' : Addr → Prop} {H H' : Hp} {ov : Option V} {w br : Option Addr} {s : Slot} (q : SlotOk K F H ov w br s) (st : Stp F H H') (hF : ∀ b, F' b → F b) (hw : ∀ a, w = some a → ∀ o, H a = some o → H' a = some o) : SlotOk K F' H' ov w br s := by
  cases s with
  | un => exact q
  | fz d => obtain ⟨h1, h2, v, h3, h4⟩ := q; exact ⟨h1, h2, v, h3, h4.mv st hF⟩
  | ow d => obtain ⟨h1, a, h2, h3, h4⟩ := q; exact ⟨h1, a, h2, h3, h4.mv st hF (hw a h2)⟩
  | rf d => obtain ⟨a, h1, h2, h3, h4⟩ := q; exact ⟨a, h1, h2, h3, h4.mv st hF (hw a h2)⟩
  | sc ns => obtain ⟨h1, h2, a, h3, h4⟩ := q; exact ⟨h1, h2, a, h3, h4.mv st (hF a)⟩
section
variable {K : KW} {F : Addr → Prop} {H : Hp} {p : Addr}
theorem SlotOk.apart {ov : Option V} {w br : Option Addr} {s : Slot} (q : SlotOk K F H ov w br s) (hp : H p = none) : SlotOk K (fun b => F b ∨ b = p) H ov w br s := by
  cases s with
  | un => exact q
  | fz d => obtain ⟨h1, h2, v, h3, h4⟩ := q; exact ⟨h1, h2, v, h3, h4.apart hp⟩
  | ow d => obtain ⟨h1, a, h2, h3, h4⟩ := q; exact ⟨h1, a, h2, h3, h4.apart hp⟩
  | rf d => obtain ⟨a, h1, h2, h3, h4⟩ := q; exact ⟨a, h1, h2, h3, h4.apart hp⟩
  | sc ns =>
    obtain ⟨h1, h2, a, h3, h4⟩ := q
    refine ⟨h1, h2, a, h3, ?_⟩
    rcases h4 with ⟨⟨o, e⟩, n⟩ | h4
    · exact .inl ⟨⟨o, e⟩, fun z => z.elim n (ne_of_none e hp)⟩
    · exact .inr h4
end

def isRf : Slot → Bool
  | .rf _ => true
  | _ => false
/-- a name is bound to what is frozen -/
def setF (i : Nat) (d : D) (sd : Sd) : Option Sd := match sd[i]? with
  | some s => if isRf s = true then none else some (sd.set i (.fz d))
  | none => none
def setO (i : Nat) (d : D) (sd : Sd) : Option Sd := match sd[i]? with
  | some s => if isRf s = true then none else some (sd.set i (.ow d))
  | none => none
section
variable {K : KW} {G : Ctx} {W : Wn} {σ : St'} {H H' : Hp} {sd sd' : Sd} {i : Nat} {d : D} {v : V}
theorem set_getD {σ : St'} {i j : Nat} {v : Option V} (h : i < σ.length) : ((σ.set i v)[j]?).getD none = if j = i then v else (σ[j]?).getD none := by
  by_cases e : j = i
  · rw [if_pos e, e, List.getElem?_set_self h]; rfl
  · rw [if_neg e, List.getElem?_set_ne (Ne.symm e)]
theorem Rel.lt (R : Rel K G W σ H sd) {s : Slot} (h : sd[i]? = some s) : i < σ.length := by
  rw [R.len]; exact (List.getElem?_eq_some_iff.mp h).1
theorem Rel.notRf (R : Rel K G W σ H sd) {s : Slot} (h : sd[i]? = some s) (n : isRf s = false) : G.br i = none := by
  have q := R.slot i s h
  cases s with
  | un => exact q.2
  | fz d => exact q.2.1
  | ow d => exact q.1
  | rf d => cases n
  | sc ns => exact q.2.1
theorem setF_some (e : setF i d sd = some sd') : ∃ s, sd[i]? = some s ∧ isRf s = false ∧ sd' = sd.set i (.fz d) := by
  unfold setF at e
  split at e
  · rename_i s hs
    split at e
    · cases e
    · rename_i n
      cases e
      exact ⟨s, hs, by simpa using n, rfl⟩
  · cases e
theorem setO_some (e : setO i d sd = some sd') : ∃ s, sd[i]? = some s ∧ isRf s = false ∧ sd' = sd.set i (.ow d) := by
  unfold setO at e
  split at e
  · rename_i s hs
    split at e
    · cases e
    · rename_i n
      cases e
      exact ⟨s, hs, by simpa using n, rfl⟩
  · cases e
theorem Rel.wst {i : Nat} (R : Rel K G W σ H sd) {s : Slot} (hs : sd[i]? = some s) (hn : isRf s = false) (v : Option V) (s' : Slot) (w : Option Addr)
    (hq : SlotOk K (Fo G (wset W i w)) H v w none s') (hF : ∀ j x, j ≠ i → sd[j]? = some x → SlotOk K (Fo G (wset W i w)) H ((σ[j]?).getD none) (W j) (G.br j) x)
    (hw : ∀ a, w = some a → ¬ Fo G W a ∧ G.H0 a = none) : Rel K G (wset W i w) (σ.set i v) H (sd.set i s') := by
  have hi := R.lt hs
  have hi' : i < sd.length := by rw [← R.len]; exact hi
  refine ⟨by rw [List.length_set, List.length_set]; exact R.len, fun j x e => ?_, fun j hj => ?_, fun j l a e1 e2 => ?_, fun j a e => ?_, fun j a e => ?_, R.keep, R.fix⟩
  · rw [set_getD hi]
    by_cases ej : j = i
    · subst ej
      rw [List.getElem?_set_self hi'] at e
      cases e
      rw [if_pos rfl, wset_same, R.notRf hs hn]
      exact hq
    · rw [List.getElem?_set_ne (Ne.symm ej)] at e
      rw [if_neg ej, wset_ne ej]
      exact hF j x ej e
  · rw [List.length_set] at hj
    rw [wset_ne (by omega)]
    exact R.out j hj
  · by_cases ej : j = i
    · by_cases el : l = i
      · exact ej.trans el.symm
      · rw [ej, wset_same] at e1
        rw [wset_ne el] at e2
        exact absurd (.inr ⟨l, e2⟩) (hw a e1).1
    · rw [wset_ne ej] at e1
      by_cases el : l = i
      · rw [el, wset_same] at e2
        exact absurd (.inr ⟨j, e1⟩) (hw a e2).1
      · rw [wset_ne el] at e2
        exact R.inj j l a e1 e2
  · by_cases ej : j = i
    · rw [ej, wset_same] at e
      exact Classical.byContradiction fun z => (hw a e).1 (.inl z)
    · rw [wset_ne ej] at e
      exact R.wM j a e
  · by_cases ej : j = i
    · rw [ej, wset_same] at e
      exact .inr (hw a e).2
    · rw [wset_ne ej] at e
      exact R.new j a e
theorem Rel.setF (R : Rel K G W σ H sd) (e : setF i d sd = some sd') (h : Dt K (Fo G W) H v d) : Rel K G (wset W i none) (σ.set i (some v)) H sd' ∧ Frm K G W H (wset W i none) H := by
  obtain ⟨s, hs, hn, rfl⟩ := setF_some e
  refine ⟨R.wst hs hn _ _ none ⟨rfl, rfl, v, rfl, h.anti fun _ => fo_none⟩ (fun j x ej q => ?_) (fun a z => nomatch z), ⟨fun v d h => h.anti fun _ => fo_none, fun a o e n => ⟨fun z => n (fo_none z), e⟩⟩⟩
  exact (R.slot j x q).mv (Stp.refl _ _) (fun _ => fo_none) fun _ _ _ z => z
/-- H: ahead of the making; nothing but a has come -/
theorem Rel.setO {a : Addr} (R : Rel K G W σ H sd) (e : setO i d sd = some sd') (s : Same H H') (n : H a = none) (o : OwnAt K (fun b => Fo G W b ∨ b = a) H' a d) : Rel K G (wset W i (some a)) (σ.set i (some (.ref a))) H' sd' ∧ Frm K G W H (wset W i (some a)) H' := by
  obtain ⟨x, hs, hn, rfl⟩ := setO_some e
  have h0 : G.H0 a = none := by
    cases q : G.H0 a with
    | none => rfl
    | some z =>
      by_cases hb : ∃ i, G.br i = some a
      · obtain ⟨j, hb⟩ := hb
        have hj : W j = some a := by
          have hl : j < sd.length := Nat.lt_of_not_le fun z => by rw [(R.out j z).2] at hb; cases hb
          have q := R.slot j _ (List.getElem?_eq_getElem hl)
          cases hx : sd[j] with
          | un => rw [hx] at q; rw [q.2] at hb; cases hb
          | fz d => rw [hx] at q; rw [q.2.1] at hb; cases hb
          | ow d => rw [hx] at q; rw [q.1] at hb; cases hb
          | rf d => rw [hx] at q; obtain ⟨b, h1, h2, _⟩ := q; rw [h1] at hb; cases hb; exact h2
          | sc d => rw [hx] at q; rw [q.2.1] at hb; cases hb
        exact absurd n (R.fdom (.inr ⟨j, hj⟩))
      · have := R.keep a z q fun j z => hb ⟨j, z⟩
        rw [n] at this; cases this
  have nf : ¬ Fo G W a := fun z => R.fdom z n
  have FF : ∀ b, Fo G (wset W i (some a)) b → Fo G W b ∨ b = a := fun b => fo_some
  have st : Stp (fun b => Fo G W b ∨ b = a) H H' := Stp.of_same s
  have R' := R.same s
  refine ⟨R'.wst hs hn _ _ (some a) ⟨rfl, a, rfl, rfl, ?_⟩ (fun j x ej q => ?_) (fun b z => ?_), ⟨fun v d h => (h.apart n).mv st FF, fun b o e nn => ⟨fun z => (FF b z).elim nn fun q => (by rw [q, n] at e; cases e), s _ _ e⟩⟩⟩
  · exact o.mv (Stp.refl _ _) FF fun _ z => z
  · exact ((R.slot j x q).apart n).mv st FF fun _ _ _ z => s _ _ z
  · cases z; exact ⟨nf, h0⟩
end

section
variable {K : KW}
theorem Rel.brW {G : Ctx} {W : Wn} {σ : St'} {H : Hp} {sd : Sd} (R : Rel K G W σ H sd) {i : Nat} {a : Addr} (h : G.br i = some a) : W i = some a := by
  have hl : i < sd.length := Nat.lt_of_not_le fun z => by rw [(R.out i z).2] at h; cases h
  have q := R.slot i _ (List.getElem?_eq_getElem hl)
  cases hx : sd[i] with
  | un => rw [hx] at q; rw [q.2] at h; cases h
  | fz d => rw [hx] at q; rw [q.2.1] at h; cases h
  | ow d => rw [hx] at q; rw [q.1] at h; cases h
  | rf d => rw [hx] at q; obtain ⟨b, h1, h2, _⟩ := q; rw [h1] at h; cases h; exact h2
  | sc d => rw [hx] at q; rw [q.2.1] at h; cases h
theorem Rel.brN {G : Ctx} {W : Wn} {σ : St'} {H : Hp} {sd : Sd} (R : Rel K G W σ H sd) {a : Addr} (n : H a = none) (i : Nat) : G.br i ≠ some a := fun z => R.fdom (.inr ⟨i, R.brW z⟩) n
theorem Rel.h0N {G : Ctx} {W : Wn} {σ : St'} {H : Hp} {sd : Sd} (R : Rel K G W σ H sd) {a : Addr} (n : H a = none) : G.H0 a = none := by
  cases q : G.H0 a with
  | none => rfl
  | some z =>
    have := R.keep a z q (R.brN n)
    rw [n] at this; cases this
end
section
variable {K : KW} {k : Kd} {p p2 p3 : Bool} {te tl : TE} {tt : TT} {t u : TS} {fe fl : Ev} {ft : Tv} {m n : Xv} {i : Nat}
def xNext : Xv := fun sd => some (.nx, sd)
def xBreak : Xv := fun sd => some (.bk, sd)
def xCont : Xv := fun sd => some (.ct, sd)
def xSeq (a b : Xv) : Xv := fun sd => (a sd).bind fun r => match r.1 with
  | .nx => b r.2
  | f => some (f, r.2)
def xRet (e : Ev) : Xv := fun sd => (e sd).map fun r => (.rt r.1, r.2)
def xRetN : Xv := fun sd => some (.rt .non, sd)
def xSetF (i : Nat) (e : Ev) : Xv := fun sd => (e sd).bind fun r => (setF i r.1 r.2).map fun s => (.nx, s)
def xSetO (i : Nat) (e : Ev) : Xv := fun sd => (e sd).bind fun r => (setO i r.1 r.2).map fun s => (.nx, s)
def xDrop (e : Ev) : Xv := fun sd => (e sd).map fun r => (.nx, r.2)
def xIf (c : Tv) (a b : Xv) : Xv := fun sd => (c sd).bind fun r => if r.1 = true then a r.2 else b r.2
theorem ss_next : SemS K tNext xNext := by
  intro G W σ H sd R fl sd' e Z q
  cases e
  exact q W σ H R Frm.refl
theorem ss_break : SemS K tBreak xBreak := by
  intro G W σ H sd R fl sd' e Z q
  cases e
  exact q W σ H R Frm.refl
theorem ss_cont : SemS K tCont xCont := by
  intro G W σ H sd R fl sd' e Z q
  cases e
  exact q W σ H R Frm.refl
theorem ss_seq (h1 : SemS K t m) (h2 : SemS K u n) : SemS K (tSeq t u) (xSeq m n) := by
  intro G W σ H sd R fl sd' e Z q
  obtain ⟨⟨f1, sd1⟩, e1, e⟩ := Option.bind_eq_some_iff.mp e
  refine h1 G W σ H sd R f1 sd1 e1 _ ?_
  cases f1 with
  | nx =>
    intro W1 σ1 H1 R1 f
    exact h2 G W1 σ1 H1 sd1 R1 fl sd' e Z (q.pre f)
  | bk => cases e; exact q
  | ct => cases e; exact q
  | rt d => cases e; exact q
  | rn d => cases e; exact q
theorem ss_ret (h : SemE K .E p te fe) : SemS K (tRet te) (xRet fe) := by
  intro G W σ H sd R fl sd' e Z q
  obtain ⟨⟨d, sd1⟩, e1, e⟩ := Option.map_eq_some_iff.mp e
  cases e
  exact h G W σ H sd R d _ e1 _ fun v H' s R' _ r => q W σ H' v R' (Frm.stp s) r
def xRetO (e : Ev) : Xv := fun sd => (e sd).map fun r => (.rn r.1, r.2)
theorem fo_br {G : Ctx} {W : Wn} {σ : St'} {H : Hp} {sd : Sd} (R : Rel K G W σ H sd) : ∀ b, Fo G G.br b → Fo G W b := fun b z => z.imp id fun ⟨i, z⟩ => ⟨i, R.brW z⟩
/-- return of what is new -/
theorem ss_retO (h : SemE K .N p te fe) : SemS K (tRet te) (xRetO fe) := by
  intro G W σ H sd R fl sd' e Z q
  obtain ⟨⟨d, sd1⟩, e1, e⟩ := Option.map_eq_some_iff.mp e
  cases e
  refine h G W σ H sd R d _ e1 _ fun v H' s R' _ r => ?_
  obtain ⟨a, rfl, n, o⟩ := r
  exact q W σ H' a R' (Frm.stp s) (R.h0N n) (fun z => R.fdom (fo_br R _ z) n) (o.mv (Stp.refl _ _) (fun b z => z.imp (fo_br R b) id) fun _ z => z)
/-- return of an own object -/
def xRetV (i : Nat) : Xv := fun sd => match sd[i]? with
  | some (.ow d) => some (.rn d, sd)
  | _ => none
theorem ss_retV {i : Nat} : SemS K (tRet (tVar i)) (xRetV i) := by
  intro G W σ H sd R fl sd' e Z q
  unfold xRetV at e
  split at e
  · rename_i d hs
    cases e
    obtain ⟨hb, a, hw, hv, o⟩ := R.slot i _ hs
    refine ⟨_, DL.getσ hv, q W σ H a R Frm.refl ?_ (fun z => ?_) (o.mv (Stp.refl _ _) (fun b z => z.elim (fo_br R b) fun z => z ▸ .inr ⟨i, hw⟩) fun _ z => z)⟩
    · rcases R.new i a hw with z | z
      · rw [hb] at z; cases z
      · exact z
    · rcases z with z | ⟨j, z⟩
      · exact z (R.wM i a hw)
      · have := R.inj j i a (R.brW z) hw
        subst this
        rw [hb] at z; cases z
  · cases e
theorem ss_retN : SemS K tRetN xRetN := by
  intro G W σ H sd R fl sd' e Z q
  cases e
  exact q W σ H .non R Frm.refl .non
theorem ss_drop (h : SemE K k p te fe) : SemS K (tDrop te) (xDrop fe) := by
  intro G W σ H sd R fl sd' e Z q
  obtain ⟨⟨d, sd1⟩, e1, e⟩ := Option.map_eq_some_iff.mp e
  cases e
  exact h G W σ H sd R d _ e1 _ fun v H' s R' _ r => q W σ H' R' (Frm.stp s)
theorem ss_if (hc : SemT K p tt ft) (h1 : SemS K t m) (h2 : SemS K u n) : SemS K (tIfS tt t u) (xIf ft m n) := by
  intro G W σ H sd R fl sd' e Z q
  obtain ⟨⟨b1, sd1⟩, e1, e⟩ := Option.bind_eq_some_iff.mp e
  refine hc G W σ H sd R b1 sd1 e1 _ fun H1 s1 R1 _ => ?_
  simp only at e
  split at e
  · rename_i hb
    rw [if_pos hb]
    exact h1 G W σ H1 sd1 R1 fl sd' e Z (q.pre (Frm.stp s1))
  · rename_i hb
    rw [if_neg hb]
    exact h2 G W σ H1 sd1 R1 fl sd' e Z (q.pre (Frm.stp s1))
/-- x = e, frozen -/
theorem ss_setF (h : SemE K .E p te fe) : SemS K (tAsg te (gName i)) (xSetF i fe) := by
  intro G W σ H sd R fl sd' e Z q
  obtain ⟨⟨d, sd1⟩, e1, e⟩ := Option.bind_eq_some_iff.mp e
  obtain ⟨sd2, e2, e⟩ := Option.map_eq_some_iff.mp e
  cases e
  refine h G W σ H sd R d sd1 e1 _ fun v H' s R' _ r => ?_
  obtain ⟨R2, f2⟩ := R'.setF e2 r
  exact q _ _ H' R2 ((Frm.stp s).trans f2)
/-- x = e, a new object of the frame's own -/
theorem ss_setO (h : SemE K .N true te fe) : SemS K (tAsg te (gName i)) (xSetO i fe) := by
  intro G W σ H sd R fl sd' e Z q
  obtain ⟨⟨d, sd1⟩, e1, e⟩ := Option.bind_eq_some_iff.mp e
  obtain ⟨sd2, e2, e⟩ := Option.map_eq_some_iff.mp e
  cases e
  refine h G W σ H sd R d sd1 e1 _ fun v H' s R' pp r => ?_
  obtain ⟨e3, s3⟩ := pp rfl
  have e3 : sd1 = sd := e3
  subst e3
  obtain ⟨a, rfl, n, o⟩ := r
  obtain ⟨R2, f2⟩ := R.setO e2 s3 n o
  exact q _ _ H' R2 f2

/-! ### own objects become frozen ones (nothing runs) -/
def fz1 (i : Nat) (sd : Sd) : Sd := match sd[i]? with
  | some (.ow d) => sd.set i (.fz d)
  | _ => sd
def xFz (is : List Nat) (m : Xv) : Xv := fun sd => m (is.foldl (fun s i => fz1 i s) sd)
theorem Rel.fz {G : Ctx} {W : Wn} {σ : St'} {H : Hp} {sd : Sd} (R : Rel K G W σ H sd) (i : Nat) : ∃ W', Rel K G W' σ H (fz1 i sd) ∧ Frm K G W H W' H := by
  unfold fz1
  split
  · rename_i d hs
    obtain ⟨hb, a, hw, hv, o⟩ := R.slot i _ hs
    have hi := R.lt hs
    have eσ : σ.set i (some (.ref a)) = σ := by
      refine List.ext_getElem? fun j => ?_
      by_cases ej : j = i
      · subst ej
        rw [List.getElem?_set_self hi, DL.getσ hv]
      · rw [List.getElem?_set_ne (Ne.symm ej)]
    have nfa : ¬ Fo G (wset W i none) a := fun z => by
      rcases z with z | ⟨j, z⟩
      · exact z (R.wM i a hw)
      · by_cases ej : j = i
        · rw [ej, wset_same] at z; cases z
        · rw [wset_ne ej] at z; exact ej (R.inj j i a z hw)
    have h := R.wst hs rfl (some (.ref a)) (.fz d) none ⟨rfl, rfl, _, rfl, (o.mv (Stp.refl _ _) (fun _ => fo_none) fun _ z => z).dt nfa⟩ (fun j x ej q => (R.slot j x q).mv (Stp.refl _ _) (fun _ => fo_none) fun _ _ _ z => z) (fun a z => nomatch z)
    rw [eσ] at h
    exact ⟨_, h, ⟨fun v d h => h.anti fun _ => fo_none, fun a o e n => ⟨fun z => n (fo_none z), e⟩⟩⟩
  · exact ⟨W, R, Frm.refl⟩
theorem Rel.fzs {G : Ctx} {H : Hp} {σ : St'} (is : List Nat) : ∀ {W : Wn} {sd : Sd}, Rel K G W σ H sd → ∃ W', Rel K G W' σ H (is.foldl (fun s i => fz1 i s) sd) ∧ Frm K G W H W' H := by
  induction is with
  | nil => exact fun R => ⟨_, R, Frm.refl⟩
  | cons i r ih =>
    intro W sd R
    obtain ⟨W1, R1, f1⟩ := R.fz i
    obtain ⟨W2, R2, f2⟩ := ih R1
    exact ⟨W2, R2, f1.trans f2⟩
theorem ss_fz (is : List Nat) (h : SemS K t m) : SemS K t (xFz is m) := by
  intro G W σ H sd R fl sd' e Z q
  obtain ⟨W1, R1, f1⟩ := R.fzs is
  exact h G W1 σ H _ R1 fl sd' e Z (q.pre f1)

/-! ### while -/
def xWhile (c : Tv) (b : Xv) : Nat → Xv
  | 0, _ => none
  | n + 1, sd => (c sd).bind fun r => if r.1 = true then ((b r.2).bind fun q => match q.1 with
    | .nx => xWhile c b n q.2
    | .ct => xWhile c b n q.2
    | .bk => some (.nx, q.2)
    | .rt d => some (.rt d, q.2)
    | .rn d => some (.rn d, q.2)) else some (.nx, r.2)
theorem ss_while (N : Nat) (hc : SemT K p tt ft) (h : SemS K t m) : SemS K (tWhile tt t) (xWhile ft m N) := by
  intro G W σ H sd R fl sd' e Z q
  refine ⟨fun n σ1 H1 => ∃ W1 sd1, Rel K G W1 σ1 H1 sd1 ∧ Frm K G W H W1 H1 ∧ xWhile ft m n sd1 = some (fl, sd'), ⟨N, W, sd, R, Frm.refl, e⟩, ?_⟩
  rintro n σ1 H1 ⟨W1, sd1, R1, f1, e1⟩
  cases n with
  | zero => cases e1
  | succ n =>
    obtain ⟨⟨b, sd2⟩, e2, e1⟩ := Option.bind_eq_some_iff.mp e1
    refine hc G W1 σ1 H1 sd1 R1 b sd2 e2 _ fun H2 s2 R2 _ => ?_
    have f2 := f1.trans (Frm.stp s2)
    simp only at e1
    split at e1
    · rename_i hb
      rw [if_pos hb]
      obtain ⟨⟨f3, sd3⟩, e3, e1⟩ := Option.bind_eq_some_iff.mp e1
      refine ⟨fun σ' H' => ∃ W1 sd1, Rel K G W1 σ' H' sd1 ∧ Frm K G W H W1 H' ∧ xWhile ft m n sd1 = some (fl, sd'), fun σ' H' hN => ⟨n, Nat.lt_succ_self n, hN⟩, ?_⟩
      refine h G W1 σ1 H2 sd2 R2 f3 sd3 e3 _ ?_
      cases f3 with
      | nx => exact fun W' σ' H' R' f' => ⟨W', sd3, R', f2.trans f', e1⟩
      | ct => exact fun W' σ' H' R' f' => ⟨W', sd3, R', f2.trans f', e1⟩
      | bk => cases e1; exact fun W' σ' H' R' f' => q W' σ' H' R' (f2.trans f')
      | rt d => cases e1; exact fun W' σ' H' v R' f' h' => q W' σ' H' v R' (f2.trans f') h'
      | rn d => cases e1; exact fun W' σ' H' a R' f' n nf h' => q W' σ' H' a R' (f2.trans f') n nf h'
    · rename_i hb
      rw [if_neg hb]
      cases e1
      exact q W1 σ1 H2 R2 f2

/-! ### targets -/
abbrev Gv := D → Sd → Option Sd
abbrev Gvs := List D → Sd → Option Sd
def SemG (K : KW) (tg : TG) (g : Gv) : Prop := ∀ (G : Ctx) W σ H sd, Rel K G W σ H sd → ∀ x d sd', Dt K (Fo G W) H x d → g d sd = some sd' → ∀ Q : St' → Hp → Prop,
  (∀ W' σ', Rel K G W' σ' H sd' → Frm K G W H W' H → Q σ' H) → tg x σ H Q
def SemGs (K : KW) (tg : TGs) (g : Gvs) : Prop := ∀ (G : Ctx) W σ H sd, Rel K G W σ H sd → ∀ xs ds sd', DtL K (Fo G W) H xs ds → g ds sd = some sd' → ∀ Q : St' → Hp → Prop,
  (∀ W' σ', Rel K G W' σ' H sd' → Frm K G W H W' H → Q σ' H) → tg xs σ H Q
def gsNil : Gvs := fun ds sd => match ds with
  | [] => some sd
  | _ => none
def gsCons (g : Gv) (r : Gvs) : Gvs := fun ds sd => match ds with
  | d :: ds => (g d sd).bind (r ds)
  | [] => none
def gTupD (n : Nat) (g : Gvs) : Gv := fun d sd => match d with
  | .tup ds => if ds.length = n then g ds sd else none
  | _ => none
theorem sg_name : SemG K (gName i) (setF i) := by
  intro G W σ H sd R x d sd' h e Q q
  obtain ⟨R2, f2⟩ := R.setF e h
  exact q _ _ R2 f2
theorem sgs_nil : SemGs K gNil gsNil := by
  intro G W σ H sd R xs ds sd' h e Q q
  cases h with
  | nil => cases e; exact ⟨rfl, q W σ R Frm.refl⟩
  | cons _ _ => cases e
theorem sgs_cons {tg : TG} {tgs : TGs} {g : Gv} {gs : Gvs} (h1 : SemG K tg g) (h2 : SemGs K tgs gs) : SemGs K (gCons tg tgs) (gsCons g gs) := by
  intro G W σ H sd R xs ds sd' h e Q q
  cases h with
  | nil => cases e
  | cons hx hr =>
    obtain ⟨sd1, e1, e⟩ := Option.bind_eq_some_iff.mp e
    refine ⟨_, _, rfl, h1 G W σ H sd R _ _ sd1 hx e1 _ fun W1 σ1 R1 f1 => ?_⟩
    have key : ∀ {vs : List V} {ds : List D}, DtL K (Fo G W) H vs ds → DtL K (Fo G W1) H vs ds := fun {vs ds} r => by
      have go : ∀ {vs : List V} {ds : List D}, DtL K (Fo G W) H vs ds → DtL K (Fo G W1) H vs ds := by
        intro vs
        induction vs with
        | nil => intro ds r; cases r; exact .nil
        | cons v vs ih => intro ds r; cases r with | cons a b => exact .cons (f1.dt _ _ a) (ih b)
      exact go r
    exact h2 G W1 σ1 H sd1 R1 _ _ sd' (key hr) e Q fun W2 σ2 R2 f2 => q W2 σ2 R2 (f1.trans f2)
theorem sg_tup {tgs : TGs} {gs : Gvs} {n : Nat} (h : SemGs K tgs gs) : SemG K (gTup K.f n tgs) (gTupD n gs) := by
  intro G W σ H sd R x d sd' hd e Q q
  cases hd with
  | tup hx hr =>
    have e' : (if _ = n then gs _ sd else none) = some sd' := e
    split at e'
    · rename_i hl
      exact ⟨_, _, rfl, hx.sq, by rw [hr.length]; exact hl, h G W σ H sd R _ _ sd' hr e' Q q⟩
    · cases e'
  | _ => cases e
/-- a, b = e -/
def xAsg (e : Ev) (g : Gv) : Xv := fun sd => (e sd).bind fun r => (g r.1 r.2).map fun s => (.nx, s)
theorem ss_asg {tg : TG} {g : Gv} (h : SemE K .E p te fe) (hg : SemG K tg g) : SemS K (tAsg te tg) (xAsg fe g) := by
  intro G W σ H sd R fl sd' e Z q
  obtain ⟨⟨d, sd1⟩, e1, e⟩ := Option.bind_eq_some_iff.mp e
  obtain ⟨sd2, e2, e⟩ := Option.map_eq_some_iff.mp e
  cases e
  refine h G W σ H sd R d sd1 e1 _ fun v H' s R' _ r => ?_
  exact hg G W σ H' sd1 R' v d _ r e2 _ fun W2 σ2 R2 f2 => q W2 σ2 H' R2 ((Frm.stp s).trans f2)

/-! ### for -/
abbrev Iv := Sd → Option (List D × Sd)
/-- the walked thing J yields ds, wherever what was frozen at (W, H) is frozen -/
structure IterOk (K : KW) (G : Ctx) (W : Wn) (H : Hp) (J : It) (ds : List D) : Prop where
  go : ∀ W' H' i, Frm K G W H W' H' → i < ds.length → J.go i H' ∧ ∀ x H2, J.yld i H' x H2 → Same H' H2 ∧ (∀ a, Fo G W' a → H' a ≠ none) → ∃ d, ds[i]? = some d ∧ Dt K (Fo G W') H2 x d
  same : ∀ W' H' i x H2, Frm K G W H W' H' → i < ds.length → J.yld i H' x H2 → Same H' H2
  stop : ∀ W' H' i, Frm K G W H W' H' → ds.length ≤ i → J.stop i H'
def SemI (K : KW) (p : Bool) (t : TI) (f : Iv) : Prop := ∀ (G : Ctx) W σ H sd, Rel K G W σ H sd → ∀ ds sd', f sd = some (ds, sd') → ∀ Q : It → Hp → Prop,
  (∀ J H', Stp (Fo G W) H H' → Rel K G W σ H' sd' → (p = true → sd' = sd ∧ Same H H') → IterOk K G W H' J ds → Q J H') → t σ H Q
def xLoop (g : Gv) (b : Xv) : List D → Xv
  | [], sd => some (.nx, sd)
  | d :: r, sd => (g d sd).bind fun s => (b s).bind fun q => match q.1 with
    | .nx => xLoop g b r q.2
    | .ct => xLoop g b r q.2
    | .bk => some (.nx, q.2)
    | .rt d => some (.rt d, q.2)
    | .rn d => some (.rn d, q.2)
def xFor (i : Iv) (g : Gv) (b : Xv) : Xv := fun sd => (i sd).bind fun r => xLoop g b r.1 r.2
theorem ss_for {ti : TI} {fi : Iv} {tg : TG} {g : Gv} (hi : SemI K p ti fi) (hg : SemG K tg g) (h : SemS K t m) : SemS K (tFor ti tg t) (xFor fi g m) := by
  intro G W σ H sd R fl sd' e Z q
  obtain ⟨⟨ds, sd0⟩, e0, e⟩ := Option.bind_eq_some_iff.mp e
  refine hi G W σ H sd R ds sd0 e0 _ fun J H0 s0 R0 _ io => ?_
  refine ⟨fun i n σ1 H1 => n = ds.length - i ∧ i ≤ ds.length ∧ ∃ W1 sd1, Rel K G W1 σ1 H1 sd1 ∧ Frm K G W H0 W1 H1 ∧ xLoop g m (ds.drop i) sd1 = some (fl, sd'), ⟨ds.length, by omega, Nat.zero_le _, W, sd0, R0, Frm.refl, e⟩, ?_⟩
  rintro i n σ1 H1 ⟨rfl, hi, W1, sd1, R1, f1, e1⟩
  by_cases hl : i < ds.length
  · obtain ⟨go, yl⟩ := io.go W1 H1 i f1 hl
    refine .inr ⟨go, fun σ' H' => ∃ W1 sd1, Rel K G W1 σ' H' sd1 ∧ Frm K G W H0 W1 H' ∧ xLoop g m (ds.drop (i + 1)) sd1 = some (fl, sd'), fun σ' H' hN => ⟨ds.length - (i + 1), by omega, rfl, hl, hN⟩, fun x H2 y => ?_⟩
    have sm := io.same W1 H1 i x H2 f1 hl y
    obtain ⟨d, hd, hx⟩ := yl x H2 y ⟨sm, fun a z => R1.fdom z⟩
    have ed : ds.drop i = d :: ds.drop (i + 1) := by
      rw [List.drop_eq_getElem_cons hl]
      rw [List.getElem?_eq_getElem hl] at hd
      cases hd; rfl
    rw [ed] at e1
    obtain ⟨sd2, e2, e1⟩ := Option.bind_eq_some_iff.mp e1
    obtain ⟨⟨f3, sd3⟩, e3, e1⟩ := Option.bind_eq_some_iff.mp e1
    have R2 := R1.same sm
    have fs : Frm K G W H0 W1 H2 := f1.trans (Frm.stp (Stp.of_same sm))
    refine hg G W1 σ1 H2 sd1 R2 x d sd2 hx e2 _ fun W2 σ2 R3 f2 => ?_
    have f3' := fs.trans f2
    refine h G W2 σ2 H2 sd2 R3 f3 sd3 e3 _ ?_
    have back : Frm K G W H W H0 := Frm.stp s0
    cases f3 with
    | nx => exact fun W' σ' H' R' f' => ⟨W', sd3, R', f3'.trans f', e1⟩
    | ct => exact fun W' σ' H' R' f' => ⟨W', sd3, R', f3'.trans f', e1⟩
    | bk => cases e1; exact fun W' σ' H' R' f' => q W' σ' H' R' (back.trans (f3'.trans f'))
    | rt d => cases e1; exact fun W' σ' H' v R' f' h' => q W' σ' H' v R' (back.trans (f3'.trans f')) h'
    | rn d => cases e1; exact fun W' σ' H' a R' f' n nf h' => q W' σ' H' a R' (back.trans (f3'.trans f')) n nf h'
  · have ei : i = ds.length := by omega
    subst ei
    rw [List.drop_length] at e1
    cases e1
    exact .inl ⟨io.stop W1 H1 _ f1 (Nat.le_refl _), q W1 σ1 H1 R1 ((Frm.stp s0).trans f1)⟩
end
end DL

set_option Elab.async false
set_option linter.all false
set_option autoImplicit false
set_option maxRecDepth 100000
set_option maxHeartbeats 4000000
namespace DL
open PySem PySem.Spec PyProof.Rows L2

/-! ### what is walked -/
section
variable {X : Cx} {tg : Expr}
/-- a list or a tuple -/
def iAny (K : PySem.W.Frag) (tl : TE) : TI := fun σ H R => tl σ H fun x H1 => (∃ a, x = .ref a ∧ (∃ xs, SqL K H1 a xs) ∧ R (Itl K a) H1) ∨ ∃ a, x = .ref a ∧ (∃ xs, SqT K H1 a xs) ∧ R (Itt K a) H1
theorem pi_any {l : Expr} {tl : TE} (hl : PE X l tl) : PI X tg l (iAny X.K tl) := by
  refine ⟨fun pins s σ H R I h => ?_⟩
  refine thn (hl.run pins s σ H _ I h) fun v s1 ⟨x, H1, I1, r1, q1⟩ => ?_
  rcases q1 with ⟨a, e, ⟨xs, hq⟩, q⟩ | ⟨a, e, ⟨xs, hq⟩, q⟩
  · subst e
    cases r1
    obtain ⟨its, rv, p, hz⟩ := I1.list hq
    refine wpAny_pyIter_list p.isList ?_
    refine ⟨s1.heap.objs.size, [s1.heap.objs.size], _, _, H1, rfl, I1.kept (t' := s1.toks) fun b o e => Heap.get?_push_of_some _ e, turn_list a _, ⟨_, Heap.get?_push_size _ rfl, rfl, rfl⟩, fun b hb => ?_, q⟩
    have e : b = s1.heap.objs.size := by simpa using hb
    subst e
    exact I1.fpOk (Nat.le_refl _) (I1.hok.fresh (Nat.le_refl _))
  · subst e
    cases r1
    obtain ⟨its, rv, p, hz⟩ := I1.tuple hq
    refine wpAny_pyIter_tuple (show s1.heap.IsTuple a its.toArray from p) ?_
    refine ⟨s1.heap.objs.size, [s1.heap.objs.size], _, _, H1, rfl, I1.kept (t' := s1.toks) fun b o e => Heap.get?_push_of_some _ e, turn_tuple a _, ⟨_, Heap.get?_push_size _ rfl, rfl, rfl⟩, fun b hb => ?_, q⟩
    have e : b = s1.heap.objs.size := by simpa using hb
    subst e
    exact I1.fpOk (Nat.le_refl _) (I1.hok.fresh (Nat.le_refl _))
end
section
variable {K : KW} {k : Kd} {p p2 : Bool} {te : TE} {fe : Ev}
def seqD : D → Option (List D)
  | .lst ds => some ds
  | .tup ds => some ds
  | _ => none
def iSeq (e : Ev) : Iv := fun sd => (e sd).bind fun r => (seqD r.1).map fun ds => (ds, r.2)
theorem si_any (h : SemE K .E p te fe) : SemI K p (iAny K.f te) (iSeq fe) := by
  intro G W σ H sd R ds sd' e Q q
  obtain ⟨⟨d, sd1⟩, e1, e⟩ := Option.bind_eq_some_iff.mp e
  obtain ⟨ds', e2, e⟩ := Option.map_eq_some_iff.mp e
  cases e
  refine h G W σ H sd R d _ e1 _ fun v H' s R' pp r => ?_
  have r' : Dt K (Fo G W) H' v d := r
  cases r' with
  | lst n hx hr =>
    cases e2
    refine .inl ⟨_, rfl, ⟨_, .inl (.inl hx)⟩, q _ H' s R' pp ⟨fun W' H2 i f hi => ?_, fun W' H2 i x H3 f hi y => ?_, fun W' H2 i f hi => ?_⟩⟩
    · have r2 := f.dt _ _ r
      cases r2 with
      | lst _ hx2 hr2 =>
        obtain ⟨v, hv, hd⟩ := hr2.get (List.getElem?_eq_getElem hi)
        refine ⟨⟨_, v, .inl (.inl hx2), hv⟩, fun x H3 y _ => ?_⟩
        obtain ⟨e, y⟩ := y
        subst e
        have := y _ (.inl (.inl hx2))
        rw [hv] at this
        cases this
        exact ⟨_, List.getElem?_eq_getElem hi, hd⟩
    · obtain ⟨e, _⟩ := y
      rw [e]
      exact Same.refl _
    · have r2 := f.dt _ _ r
      cases r2 with
      | lst _ hx2 hr2 => exact ⟨_, .inl (.inl hx2), by rw [hr2.length]; exact hi⟩
  | tup hx hr =>
    cases e2
    refine .inr ⟨_, rfl, ⟨_, hx.sq⟩, q _ H' s R' pp ⟨fun W' H2 i f hi => ?_, fun W' H2 i x H3 f hi y => ?_, fun W' H2 i f hi => ?_⟩⟩
    · have r2 := f.dt _ _ r
      cases r2 with
      | tup hx2 hr2 =>
        obtain ⟨v, hv, hd⟩ := hr2.get (List.getElem?_eq_getElem hi)
        refine ⟨⟨_, v, hx2.sq, hv⟩, fun x H3 y _ => ?_⟩
        obtain ⟨e, y⟩ := y
        subst e
        have := y _ hx2.sq
        rw [hv] at this
        cases this
        exact ⟨_, List.getElem?_eq_getElem hi, hd⟩
    · obtain ⟨e, _⟩ := y
      rw [e]
      exact Same.refl _
    · have r2 := f.dt _ _ r
      cases r2 with
      | tup hx2 hr2 => exact ⟨_, hx2.sq, by rw [hr2.length]; exact hi⟩
  | _ => cases e2
def rangeD (lo : Int) (n : Nat) : List D := (List.range n).map fun k : Nat => .int (lo + (k : Int))
theorem rangeD_get {lo : Int} {n i : Nat} (h : i < n) : (rangeD lo n)[i]? = some (.int (lo + i)) := by
  unfold rangeD
  rw [List.getElem?_map, List.getElem?_range h]
  rfl
theorem rangeD_len {lo : Int} {n : Nat} : (rangeD lo n).length = n := by
  unfold rangeD
  rw [List.length_map, List.length_range]
theorem iter_range {G : Ctx} {W : Wn} {H : Hp} {lo : Int} {n : Nat} : IterOk K G W H (Itr lo n) (rangeD lo n) := by
  refine ⟨fun W' H' i f hi => ?_, fun W' H' i x H2 f hi y => ?_, fun W' H' i f hi => ?_⟩
  · rw [rangeD_len] at hi
    refine ⟨hi, fun x H2 y _ => ?_⟩
    obtain ⟨e1, e2⟩ := y
    subst e1 e2
    exact ⟨_, rangeD_get hi, .int _⟩
  · obtain ⟨e, _⟩ := y
    rw [e]
    exact Same.refl _
  · rw [rangeD_len] at hi
    exact hi
def big (j : Int) : Bool := decide (-(2 ^ 62) ≤ j ∧ j < 2 ^ 62)
def iRange1 (a : Av) : Iv := fun sd => (a sd).bind fun r => match r.1 with
  | [.int j] => if big j = true then some (rangeD 0 j.toNat, r.2) else none
  | _ => none
def iRange2 (a : Av) : Iv := fun sd => (a sd).bind fun r => match r.1 with
  | [.int i, .int j] => if (big i && big j) = true then some (rangeD i (j - i).toNat, r.2) else none
  | _ => none
theorem si_range1 {ta : TA} {fa : Av} (h : SemA K p ta fa) : SemI K p (iRng1 ta) (iRange1 fa) := by
  intro G W σ H sd R ds sd' e Q q
  obtain ⟨⟨d, sd1⟩, e1, e⟩ := Option.bind_eq_some_iff.mp e
  simp only at e
  split at e
  · rename_i j
    split at e
    · rename_i hb
      cases e
      refine h G W σ H sd R _ _ e1 _ fun vs H' s R' pp r => ?_
      cases r with
      | cons r0 r1 =>
        cases r1
        cases r0
        have hb' := of_decide_eq_true hb
        exact ⟨j, rfl, hb'.1, hb'.2, q _ H' s R' pp iter_range⟩
    · cases e
  · cases e
theorem si_range2 {ta : TA} {fa : Av} (h : SemA K p ta fa) : SemI K p (iRng2 ta) (iRange2 fa) := by
  intro G W σ H sd R ds sd' e Q q
  obtain ⟨⟨d, sd1⟩, e1, e⟩ := Option.bind_eq_some_iff.mp e
  simp only at e
  split at e
  · rename_i i j
    split at e
    · rename_i hb
      cases e
      refine h G W σ H sd R _ _ e1 _ fun vs H' s R' pp r => ?_
      cases r with
      | cons r0 r1 =>
        cases r1 with
        | cons r1 r2 =>
          cases r2
          cases r0
          cases r1
          rw [Bool.and_eq_true] at hb
          have hb1 := of_decide_eq_true hb.1
          have hb2 := of_decide_eq_true hb.2
          exact ⟨i, j, rfl, ⟨hb1.1, hb1.2, hb2.1, hb2.2⟩, q _ H' s R' pp iter_range⟩
    · cases e
  · cases e
/-- zip of two sequences, unpacked in the target -/
def zipD (xs ys : List D) : List D := (xs.zip ys).map fun p => .tup [p.1, p.2]

/-! ### comprehensions -/
def unD (vs : List Nat) (sd : Sd) : Sd := vs.foldr (fun v s => s.set v .un) sd
def isOwn : Slot → Bool
  | .ow _ => true
  | .rf _ => true
  | _ => false
/-- the comprehension's own names are no own objects -/
def compOk (vs : List Nat) (sd : Sd) : Bool := vs.all fun v => match sd[v]? with
  | some s => !isOwn s
  | none => false
theorem Rel.unset {G : Ctx} {W : Wn} {σ : St'} {H : Hp} {sd : Sd} (R : Rel K G W σ H sd) {v : Nat} {s : Slot} (hs : sd[v]? = some s) (hn : isOwn s = false) : Rel K G W (σ.set v none) H (sd.set v .un) := by
  have hW : W v = none ∧ isRf s = false := by
    have q := R.slot v s hs
    cases s with
    | un => exact ⟨q.1, rfl⟩
    | fz d => exact ⟨q.1, rfl⟩
    | ow d => cases hn
    | rf d => cases hn
    | sc ns => exact ⟨q.1, rfl⟩
  have h := R.wst hs hW.2 none .un none ⟨rfl, rfl⟩ (fun j x ej q => (R.slot j x q).mv (Stp.refl _ _) (fun _ => fo_none) fun _ _ _ z => z) (fun a z => nomatch z)
  have eW : wset W v none = W := by
    funext j
    by_cases e : j = v
    · rw [e, wset_same, hW.1]
    · exact wset_ne e
  rw [eW] at h
  exact h
theorem Rel.wipe {G : Ctx} {W : Wn} {σ : St'} {H : Hp} {sd : Sd} (R : Rel K G W σ H sd) : ∀ {vs : List Nat}, compOk vs sd = true → Rel K G W (wipe σ vs) H (unD vs sd)
  | [], _ => R
  | v :: vs, h => by
    unfold compOk at h
    rw [List.all_cons, Bool.and_eq_true] at h
    have R1 := Rel.wipe R (vs := vs) h.2
    obtain ⟨s, hs, hn⟩ : ∃ s, (unD vs sd)[v]? = some s ∧ isOwn s = false := by
      cases e : sd[v]? with
      | none => rw [e] at h; cases h.1
      | some s =>
        rw [e] at h
        have hn : isOwn s = false := by simpa using h.1
        have go : ∀ us : List Nat, ∃ s, (unD us sd)[v]? = some s ∧ isOwn s = false := by
          intro us
          induction us with
          | nil => exact ⟨s, e, hn⟩
          | cons u us ih =>
            obtain ⟨s', e', n'⟩ := ih
            by_cases q : u = v
            · subst q
              refine ⟨.un, ?_, rfl⟩
              show ((unD us sd).set u .un)[u]? = _
              rw [List.getElem?_set_self (List.getElem?_eq_some_iff.mp e').1]
            · refine ⟨s', ?_, n'⟩
              show ((unD us sd).set u .un)[v]? = _
              rw [List.getElem?_set_ne q]
              exact e'
        exact go vs
    exact R1.unset hs hn

/-- one more object stands fixed -/
def Ctx.fixed (G : Ctx) (a : Addr) (o : HO) (h : ∀ i, G.br i ≠ some a) : Ctx :=
  ⟨fun b => if b = a then some o else G.fx b, G.br, G.H0, fun i b e => (if_neg (fun (z : b = a) => h i (z ▸ e))).trans (G.bM i b e)⟩
theorem fo_fixed {G : Ctx} {W : Wn} {a b : Addr} {o : HO} {h : ∀ i, G.br i ≠ some a} : Fo (G.fixed a o h) W b ↔ Fo G W b ∨ b = a := by
  unfold Fo Ctx.fixed
  by_cases e : b = a
  · simp [e]
  · simp [e]
theorem Rel.fixed {G : Ctx} {W : Wn} {σ : St'} {H : Hp} {sd : Sd} (R : Rel K G W σ H sd) {a : Addr} (n : H a = none) (o : HO) : Rel K (G.fixed a o (R.brN n)) W σ (upd H a o) sd := by
  have FF : ∀ b, Fo (G.fixed a o (R.brN n)) W b → Fo G W b ∨ b = a := fun b => fo_fixed.mp
  have sm : Same H (upd H a o) := same_upd n
  refine ⟨R.len, fun i s e => ?_, R.out, R.inj, fun i b e => ?_, R.new, fun b x e hb => sm _ _ (R.keep b x e hb), fun b x e => ?_⟩
  · exact ((R.slot i s e).apart n).mv (Stp.of_same sm) FF fun _ _ _ z => sm _ _ z
  · have nb : b ≠ a := fun z => R.fdom (.inr ⟨i, e⟩) (z ▸ n)
    show (if b = a then some o else G.fx b) = none
    rw [if_neg nb]
    exact R.wM i b e
  · have e : (if b = a then some o else G.fx b) = some x := e
    by_cases hb : b = a
    · rw [if_pos hb] at e
      cases e
      rw [hb, upd_same]
    · rw [if_neg hb] at e
      exact sm _ _ (R.fix b x e)
theorem Rel.refix {G : Ctx} {W : Wn} {σ : St'} {H : Hp} {sd : Sd} {a : Addr} {o o' : HO} {h : ∀ i, G.br i ≠ some a} (R : Rel K (G.fixed a o h) W σ H sd) (n0 : G.H0 a = none) (nt : ∀ xs, o ≠ .tup xs) : Rel K (G.fixed a o' h) W σ (upd H a o') sd ∧ Stp (Fo (G.fixed a o h) W) H (upd H a o') := by
  have ha : H a = some o := R.fix a o (if_pos rfl)
  have st : Stp (Fo (G.fixed a o h) W) H (upd H a o') := fun b x e q => by
    have nb : b ≠ a := fun z => by
      subst z
      rw [ha] at e
      cases e
      rcases q with q | ⟨xs, q⟩
      · exact q (fo_fixed.mpr (.inr rfl))
      · exact nt xs q
    rw [upd_ne nb]
    exact e
  have FF : ∀ b, Fo (G.fixed a o' h) W b → Fo (G.fixed a o h) W b := fun b z => fo_fixed.mpr (fo_fixed.mp z)
  refine ⟨⟨R.len, fun i s e => ?_, R.out, R.inj, fun i b e => ?_, R.new, fun b x e hb => ?_, fun b x e => ?_⟩, st⟩
  · refine (R.slot i s e).mv st FF fun b hw x z => ?_
    have nb : b ≠ a := fun q => by
      have := R.wM i b hw
      rw [q] at this
      have this : (if a = a then some o else G.fx a) = none := this
      rw [if_pos rfl] at this
      cases this
    rw [upd_ne nb]
    exact z
  · have q : (if b = a then some o else G.fx b) = none := R.wM i b e
    show (if b = a then some o' else G.fx b) = none
    by_cases hb : b = a
    · rw [if_pos hb] at q; cases q
    · rw [if_neg hb] at q ⊢; exact q
  · have e : G.H0 b = some x := e
    have nb : b ≠ a := fun z => by rw [z, n0] at e; cases e
    rw [upd_ne nb]
    exact R.keep b x e hb
  · have e : (if b = a then some o' else G.fx b) = some x := e
    by_cases hb : b = a
    · rw [if_pos hb] at e
      cases e
      rw [hb, upd_same]
    · rw [if_neg hb] at e
      rw [upd_ne hb]
      exact R.fix b x (by show (if b = a then some o else G.fx b) = some x; rw [if_neg hb]; exact e)
theorem Rel.unfix {G : Ctx} {W : Wn} {σ : St'} {H : Hp} {sd : Sd} {a : Addr} {o : HO} {h : ∀ i, G.br i ≠ some a} (R : Rel K (G.fixed a o h) W σ H sd) (nf : G.fx a = none) : Rel K G W σ H sd := by
  have FF : ∀ b, Fo G W b → Fo (G.fixed a o h) W b := fun b z => fo_fixed.mpr (.inl z)
  refine ⟨R.len, fun i s e => (R.slot i s e).mv (Stp.refl _ _) FF fun _ _ _ z => z, R.out, R.inj, fun i b e => ?_, R.new, R.keep, fun b x e => ?_⟩
  · have q : (if b = a then some o else G.fx b) = none := R.wM i b e
    by_cases hb : b = a
    · rw [if_pos hb] at q; cases q
    · rw [if_neg hb] at q; exact q
  · have hb : b ≠ a := fun z => by rw [z, nf] at e; cases e
    exact R.fix b x (by show (if b = a then some o else G.fx b) = some x; rw [if_neg hb]; exact e)

/-- a comprehension's target: it sets the names vs alone -/
def OutEq (vs : List Nat) (σ σ' : St') : Prop := σ'.length = σ.length ∧ ∀ i, i ∉ vs → σ'[i]? = σ[i]?
theorem OutEq.refl {vs : List Nat} {σ : St'} : OutEq vs σ σ := ⟨rfl, fun _ _ => rfl⟩
theorem OutEq.trans {vs : List Nat} {σ σ1 σ2 : St'} (a : OutEq vs σ σ1) (b : OutEq vs σ1 σ2) : OutEq vs σ σ2 := ⟨b.1.trans a.1, fun i h => (b.2 i h).trans (a.2 i h)⟩
theorem wipe_get {σ : St'} {i : Nat} : ∀ {vs : List Nat}, (wipe σ vs)[i]? = if i ∈ vs ∧ i < σ.length then some none else σ[i]?
  | [] => by simp [wipe]
  | v :: vs => by
    unfold wipe
    by_cases e : v = i
    · subst e
      by_cases h : v < σ.length
      · rw [List.getElem?_set_self (by rw [wipe_length]; exact h), if_pos ⟨List.mem_cons_self, h⟩]
      · rw [if_neg (fun z => h z.2), List.getElem?_eq_none (by rw [List.length_set, wipe_length]; omega), List.getElem?_eq_none (by omega)]
    · rw [List.getElem?_set_ne e, wipe_get (vs := vs)]
      have : (i ∈ v :: vs) ↔ i ∈ vs := by simp [Ne.symm e]
      simp only [this]
theorem OutEq.wipe {vs : List Nat} {σ σ' : St'} (h : OutEq vs σ σ') : wipe σ' vs = wipe σ vs := by
  refine List.ext_getElem? fun i => ?_
  rw [wipe_get, wipe_get, h.1]
  by_cases e : i ∈ vs
  · by_cases hl : i < σ.length
    · rw [if_pos ⟨e, hl⟩, if_pos ⟨e, hl⟩]
    · rw [if_neg (fun z => hl z.2), if_neg (fun z => hl z.2), List.getElem?_eq_none (by rw [h.1]; omega), List.getElem?_eq_none (by omega)]
  · rw [if_neg (fun z => e z.1), if_neg (fun z => e z.1), h.2 i e]
theorem wipe_wipe {vs : List Nat} {σ : St'} : wipe (wipe σ vs) vs = wipe σ vs := (OutEq.wipe ⟨by rw [wipe_length], fun i h => by rw [wipe_get, if_neg (fun z => h z.1)]⟩ : wipe (wipe σ vs) vs = wipe σ vs)
theorem unD_len {vs : List Nat} {sd : Sd} : (unD vs sd).length = sd.length := by
  induction vs with
  | nil => rfl
  | cons v vs ih =>
    show ((unD vs sd).set v .un).length = _
    rw [List.length_set, ih]
theorem unD_get {sd : Sd} {i : Nat} : ∀ {vs : List Nat}, (unD vs sd)[i]? = if i ∈ vs ∧ i < sd.length then some .un else sd[i]?
  | [] => by simp [unD]
  | v :: vs => by
    show ((unD vs sd).set v .un)[i]? = _
    by_cases e : v = i
    · subst e
      by_cases h : v < sd.length
      · rw [List.getElem?_set_self (by rw [unD_len]; exact h), if_pos ⟨List.mem_cons_self, h⟩]
      · rw [if_neg (fun z => h z.2), List.getElem?_eq_none (by rw [List.length_set, unD_len]; omega), List.getElem?_eq_none (by omega)]
    · rw [List.getElem?_set_ne e, unD_get (vs := vs)]
      have : (i ∈ v :: vs) ↔ i ∈ vs := by simp [Ne.symm e]
      simp only [this]
theorem compOk_un {vs : List Nat} {sd : Sd} (h : compOk vs sd = true) : compOk vs (unD vs sd) = true := by
  refine List.all_eq_true.mpr fun v hv => ?_
  have z := List.all_eq_true.mp h v hv
  by_cases c : v ∈ vs ∧ v < sd.length
  · rw [unD_get, if_pos c]
    rfl
  · rw [unD_get, if_neg c]
    exact z
/-- data states that differ at vs alone -/
def DOut (vs : List Nat) (sd sd' : Sd) : Prop := sd'.length = sd.length ∧ ∀ i, i ∉ vs → sd'[i]? = sd[i]?
theorem DOut.refl {vs : List Nat} {sd : Sd} : DOut vs sd sd := ⟨rfl, fun _ _ => rfl⟩
theorem DOut.trans {vs : List Nat} {σ σ1 σ2 : Sd} (a : DOut vs σ σ1) (b : DOut vs σ1 σ2) : DOut vs σ σ2 := ⟨b.1.trans a.1, fun i h => (b.2 i h).trans (a.2 i h)⟩
theorem DOut.un {vs : List Nat} {sd sd' : Sd} (h : DOut vs sd sd') : unD vs sd' = unD vs sd := by
  refine List.ext_getElem? fun i => ?_
  rw [unD_get, unD_get, h.1]
  by_cases e : i ∈ vs
  · by_cases hl : i < sd.length
    · rw [if_pos ⟨e, hl⟩, if_pos ⟨e, hl⟩]
    · rw [if_neg (fun z => hl z.2), if_neg (fun z => hl z.2), List.getElem?_eq_none (by rw [h.1]; omega), List.getElem?_eq_none (by omega)]
  · rw [if_neg (fun z => e z.1), if_neg (fun z => e z.1), h.2 i e]
theorem un_un {vs : List Nat} {sd : Sd} : unD vs (unD vs sd) = unD vs sd := (DOut.un ⟨unD_len, fun i h => by rw [unD_get, if_neg (fun z => h z.1)]⟩ : _)
def SemC (K : KW) (vs : List Nat) (tg : TG) (g : Gv) : Prop := ∀ (G : Ctx) W σ H sd, Rel K G W σ H sd → compOk vs sd = true → ∀ x d sd', Dt K (Fo G W) H x d → g d sd = some sd' → ∀ Q : St' → Hp → Prop,
  (∀ σ', Rel K G W σ' H sd' → OutEq vs σ σ' → DOut vs sd sd' → compOk vs sd' = true → Q σ' H) → tg x σ H Q
def SemCs (K : KW) (vs : List Nat) (tg : TGs) (g : Gvs) : Prop := ∀ (G : Ctx) W σ H sd, Rel K G W σ H sd → compOk vs sd = true → ∀ xs ds sd', DtL K (Fo G W) H xs ds → g ds sd = some sd' → ∀ Q : St' → Hp → Prop,
  (∀ σ', Rel K G W σ' H sd' → OutEq vs σ σ' → DOut vs sd sd' → compOk vs sd' = true → Q σ' H) → tg xs σ H Q
theorem sc_name {vs : List Nat} {i : Nat} (hi : i ∈ vs) : SemC K vs (gName i) (setF i) := by
  intro G W σ H sd R hc x d sd' h e Q q
  obtain ⟨R2, f2⟩ := R.setF e h
  obtain ⟨s, hs, hn, rfl⟩ := setF_some e
  have hW : wset W i none = W := by
    have z := List.all_eq_true.mp hc i hi
    rw [hs] at z
    have z : isOwn s = false := by simpa using z
    funext j
    by_cases ej : j = i
    · rw [ej, wset_same]
      have q := R.slot i s hs
      cases s with
      | un => exact q.1.symm
      | fz d => exact q.1.symm
      | ow d => cases z
      | rf d => cases z
      | sc ns => exact q.1.symm
    · exact wset_ne ej
  rw [hW] at R2
  refine q _ R2 ⟨List.length_set, fun j hj => List.getElem?_set_ne (fun z => hj (by rw [← z]; exact hi))⟩ ⟨List.length_set, fun j hj => List.getElem?_set_ne (fun z => hj (by rw [← z]; exact hi))⟩ (List.all_eq_true.mpr fun v hv => ?_)
  by_cases ev : v = i
  · subst ev
    rw [List.getElem?_set_self (List.getElem?_eq_some_iff.mp hs).1]
    rfl
  · rw [List.getElem?_set_ne (Ne.symm ev)]
    exact List.all_eq_true.mp hc v hv
theorem scs_nil {vs : List Nat} : SemCs K vs gNil gsNil := by
  intro G W σ H sd R hc xs ds sd' h e Q q
  cases h with
  | nil => cases e; exact ⟨rfl, q σ R OutEq.refl DOut.refl hc⟩
  | cons _ _ => cases e
theorem scs_cons {vs : List Nat} {tg : TG} {tgs : TGs} {g : Gv} {gs : Gvs} (h1 : SemC K vs tg g) (h2 : SemCs K vs tgs gs) : SemCs K vs (gCons tg tgs) (gsCons g gs) := by
  intro G W σ H sd R hc xs ds sd' h e Q q
  cases h with
  | nil => cases e
  | cons hx hr =>
    obtain ⟨sd1, e1, e⟩ := Option.bind_eq_some_iff.mp e
    refine ⟨_, _, rfl, h1 G W σ H sd R hc _ _ sd1 hx e1 _ fun σ1 R1 o1 d1 c1 => ?_⟩
    exact h2 G W σ1 H sd1 R1 c1 _ _ sd' hr e Q fun σ2 R2 o2 d2 c2 => q σ2 R2 (o1.trans o2) (d1.trans d2) c2
theorem sc_tup {vs : List Nat} {tgs : TGs} {gs : Gvs} {n : Nat} (h : SemCs K vs tgs gs) : SemC K vs (gTup K.f n tgs) (gTupD n gs) := by
  intro G W σ H sd R hc x d sd' hd e Q q
  cases hd with
  | tup hx hr =>
    have e' : (if _ = n then gs _ sd else none) = some sd' := e
    split at e'
    · rename_i hl
      exact ⟨_, _, rfl, hx.sq, by rw [hr.length]; exact hl, h G W σ H sd R hc _ _ sd' hr e' Q q⟩
    · cases e'
  | _ => cases e

def cLoop (vs : List Nat) (g : Gv) (tt : Tv) (te : Ev) : List D → List D → Sd → Option (List D × Sd)
  | [], acc, sd => some (acc, sd)
  | d :: r, acc, sd => (g d sd).bind fun s => (tt s).bind fun b =>
    if b.1 = true then (te b.2).bind fun y => if acc.length ≤ szl ∧ compOk vs y.2 = true then cLoop vs g tt te r (acc ++ [y.1]) (unD vs y.2) else none
    else if compOk vs b.2 = true then cLoop vs g tt te r acc (unD vs b.2) else none
/-- the comprehension's own names as they were -/
def restoreD (vs : List Nat) (sd sd' : Sd) : Sd := vs.foldr (fun v s => s.set v ((sd[v]?).getD .un)) sd'
def eComp (vs : List Nat) (i : Iv) (g : Gv) (tt : Tv) (te : Ev) : Ev := fun sd => (i sd).bind fun r =>
  if compOk vs r.2 = true then (cLoop vs g tt te r.1 [] (unD vs r.2)).map fun q => (.lst q.1, restoreD vs r.2 q.2) else none
theorem restoreD_len {vs : List Nat} {sd sd' : Sd} : (restoreD vs sd sd').length = sd'.length := by
  induction vs with
  | nil => rfl
  | cons v vs ih =>
    show ((restoreD vs sd sd').set v _).length = _
    rw [List.length_set, ih]
theorem restoreD_get {sd sd' : Sd} {i : Nat} : ∀ {vs : List Nat}, (restoreD vs sd sd')[i]? = if i ∈ vs ∧ i < sd'.length then some ((sd[i]?).getD .un) else sd'[i]?
  | [] => by simp [restoreD]
  | v :: vs => by
    show ((restoreD vs sd sd').set v _)[i]? = _
    by_cases e : v = i
    · subst e
      by_cases h : v < sd'.length
      · rw [List.getElem?_set_self (by rw [restoreD_len]; exact h), if_pos ⟨List.mem_cons_self, h⟩]
      · rw [if_neg (fun z => h z.2), List.getElem?_eq_none (by rw [List.length_set, restoreD_len]; omega), List.getElem?_eq_none (by omega)]
    · rw [List.getElem?_set_ne e, restoreD_get (vs := vs)]
      have : (i ∈ v :: vs) ↔ i ∈ vs := by simp [Ne.symm e]
      simp only [this]
theorem Rel.restore {G : Ctx} {W : Wn} {σ : St'} {H0 H1 : Hp} {sd sd1 : Sd} {vs : List Nat} (R0 : Rel K G W σ H0 sd) (R1 : Rel K G W (L2.wipe σ vs) H1 sd1) (hc : compOk vs sd = true) (st : Stp (Fo G W) H0 H1) : Rel K G W σ H1 (restoreD vs sd sd1) := by
  have el : sd1.length = sd.length := by rw [← R1.len, wipe_length, R0.len]
  refine ⟨by rw [restoreD_len, el]; exact R0.len, fun i s e => ?_, fun i hi => ?_, R1.inj, R1.wM, R1.new, R1.keep, R1.fix⟩
  · rw [restoreD_get] at e
    split at e
    · rename_i hv
      have hi : i < sd.length := by rw [← el]; exact hv.2
      rw [List.getElem?_eq_getElem hi] at e
      cases e
      have z := List.all_eq_true.mp hc i hv.1
      rw [List.getElem?_eq_getElem hi] at z
      have z : isOwn sd[i] = false := by simpa using z
      refine (R0.slot i _ (List.getElem?_eq_getElem hi)).mv st (fun _ z => z) fun a ha => ?_
      obtain ⟨d, _, hd, _⟩ := R0.own ha
      rw [List.getElem?_eq_getElem hi] at hd
      rcases hd with hd | hd
      · have hd : sd[i] = .ow d := Option.some.inj hd
        rw [hd] at z; cases z
      · have hd : sd[i] = .rf d := Option.some.inj hd
        rw [hd] at z; cases z
    · rename_i hv
      have q := R1.slot i s e
      have hi : i < sd1.length := (List.getElem?_eq_some_iff.mp e).1
      have e2 : (L2.wipe σ vs)[i]? = σ[i]? := by
        rw [wipe_get, if_neg (fun z => hv ⟨z.1, hi⟩)]
      rw [e2] at q
      exact q
  · rw [restoreD_len] at hi
    exact R1.out i hi
theorem restore_un {vs : List Nat} {sd : Sd} : restoreD vs sd (unD vs sd) = sd := by
  refine List.ext_getElem? fun i => ?_
  rw [restoreD_get, unD_get, unD_len]
  by_cases h : i ∈ vs ∧ i < sd.length
  · rw [if_pos h, List.getElem?_eq_getElem h.2]; rfl
  · rw [if_neg h, if_neg h]
theorem se_comp {vs : List Nat} {p3 : Bool} {wi : TI} {fi : Iv} {tg : TG} {g : Gv} {tt : TT} {ft : Tv} (hi : SemI K p wi fi) (hg : SemC K vs tg g) (ht : SemT K p2 tt ft) (he : SemE K .E p3 te fe) :
    SemE K .N (p && (p2 && p3)) (tLc wi tg tt te vs) (eComp vs fi g ft fe) := by
  intro G W σ H sd R d sd' e Q q
  obtain ⟨⟨ds, sd0⟩, e0, e⟩ := Option.bind_eq_some_iff.mp e
  simp only at e
  split at e
  · rename_i hc
    obtain ⟨⟨res, sdE⟩, e1, e⟩ := Option.map_eq_some_iff.mp e
    cases e
    refine hi G W σ H sd R ds sd0 e0 _ fun J H0 s0 R0 pp0 io Dd nD => ?_
    have nb := R0.brN nD
    have n0 : G.H0 Dd = none := R0.h0N nD
    have nfx : G.fx Dd = none := by
      cases z : G.fx Dd with
      | none => rfl
      | some o => have := R0.fix Dd o z; rw [nD] at this; cases this
    have Rw := R0.wipe hc
    have hWl : W σ.length = none := (R0.out σ.length (Nat.le_of_eq R0.len.symm)).1
    have hcu : compOk vs (unD vs sd0) = true := compOk_un hc
    have FW : ∀ (acc : List V) (b : Addr), Fo G (wset W σ.length (some Dd)) b ↔ Fo (G.fixed Dd (.lst acc) nb) W b := fun acc b => by
      rw [fo_fixed]
      constructor
      · exact fo_some
      · rintro (h | h)
        · rcases h with h | ⟨j, h⟩
          · exact .inl h
          · exact .inr ⟨j, by rw [wset_ne (fun z => by rw [z, hWl] at h; cases h)]; exact h⟩
        · exact .inr ⟨σ.length, by rw [wset_same, h]⟩
    refine ⟨fun i m H1 => m = ds.length - i ∧ i ≤ ds.length ∧ ∃ acc accD sdi, DtL K (Fo (G.fixed Dd (.lst acc) nb) W) H1 acc accD ∧ Rel K (G.fixed Dd (.lst acc) nb) W (L2.wipe σ vs) H1 sdi ∧ compOk vs sdi = true ∧
        Stp (Fo G W) H0 H1 ∧ Stp (fun b => Fo G W b ∨ b = Dd) H0 H1 ∧ cLoop vs g ft fe (ds.drop i) accD sdi = some (res, sdE) ∧ (((p2 && p3) = true) → sdi = unD vs sd0 ∧ ∀ b o, b ≠ Dd → H0 b = some o → H1 b = some o),
      ⟨ds.length, by omega, Nat.zero_le _, [], [], unD vs sd0, .nil, Rw.fixed nD _, hcu, Stp.of_same (same_upd nD), Stp.of_same (same_upd nD), e1, fun _ => ⟨rfl, fun b o nb e => by rw [upd_ne nb]; exact e⟩⟩, ?_⟩
    rintro i m H1 ⟨rfl, hil, acc, accD, sdi, hacc, Ri, ci, st1, st2, el, pur⟩
    have hD1 : H1 Dd = some (.lst acc) := Ri.fix Dd _ (if_pos rfl)
    have frm : Frm K G W H0 (wset W σ.length (some Dd)) H1 := ⟨fun v d h => (h.apart nD).mv st2 fun b => fo_some, fun b o e n => ⟨fun z => (fo_some z).elim n fun q => (by rw [q, nD] at e; cases e), st2 b o e (.inl fun z => z.elim n fun q => (by rw [q, nD] at e; cases e))⟩⟩
    by_cases hl : i < ds.length
    · obtain ⟨go, yl⟩ := io.go _ H1 i frm hl
      refine .inr ⟨go, fun H' => ∃ acc accD sdi, DtL K (Fo (G.fixed Dd (.lst acc) nb) W) H' acc accD ∧ Rel K (G.fixed Dd (.lst acc) nb) W (L2.wipe σ vs) H' sdi ∧ compOk vs sdi = true ∧
        Stp (Fo G W) H0 H' ∧ Stp (fun b => Fo G W b ∨ b = Dd) H0 H' ∧ cLoop vs g ft fe (ds.drop (i + 1)) accD sdi = some (res, sdE) ∧ (((p2 && p3) = true) → sdi = unD vs sd0 ∧ ∀ b o, b ≠ Dd → H0 b = some o → H' b = some o), fun H' hN => ⟨ds.length - (i + 1), by omega, rfl, hl, hN⟩, fun x H2 y => ?_⟩
      have sm := io.same _ H1 i x H2 frm hl y
      obtain ⟨d, hd, hx⟩ := yl x H2 y ⟨sm, fun a z => by
        rcases fo_some z with z | z
        · exact Ri.fdom (fo_fixed.mpr (.inl z))
        · rw [z, hD1]; exact fun z => nomatch z⟩
      have ed : ds.drop i = d :: ds.drop (i + 1) := by
        rw [List.drop_eq_getElem_cons hl]
        rw [List.getElem?_eq_getElem hl] at hd
        cases hd; rfl
      rw [ed] at el
      obtain ⟨sd2, e2, el⟩ := Option.bind_eq_some_iff.mp el
      obtain ⟨⟨b3, sd3⟩, e3, el⟩ := Option.bind_eq_some_iff.mp el
      have R2 := Ri.same sm
      refine hg _ W _ H2 sdi R2 ci x d sd2 (hx.anti fun b z => (FW acc b).mpr z) e2 _ fun σ2 R3 oe do2 c2 => ?_
      have ew : L2.wipe σ2 vs = L2.wipe σ vs := (OutEq.wipe oe).trans wipe_wipe
      refine ⟨ew, ?_⟩
      refine ht _ W σ2 H2 sd2 R3 b3 sd3 e3 _ fun H3 s3 R4 pp3 => ?_
      have F1 : ∀ b, (Fo G W b ∨ b = Dd) → Fo (G.fixed Dd (.lst acc) nb) W b := fun b z => fo_fixed.mpr z
      have F2 : ∀ b, Fo (G.fixed Dd (.lst acc) nb) W b → (Fo G W b ∨ b = Dd) := fun b z => fo_fixed.mp z
      have t1 : ∀ {A B : Hp}, Stp (Fo (G.fixed Dd (.lst acc) nb) W) A B → Stp (fun b => Fo G W b ∨ b = Dd) A B := fun h => h.anti F2
      -- a step that leaves all but Dd, seen from H0 (where Dd is not)
      have t2 : ∀ {B : Hp}, Stp (fun b => Fo G W b ∨ b = Dd) H0 B → Stp (Fo G W) H0 B := fun h b o e z => h b o e (z.imp (fun z q => q.elim z fun q => by rw [q, nD] at e; cases e) id)
      simp only at el
      split at el
      · rename_i hb
        rw [if_pos hb]
        obtain ⟨⟨y4, sd4⟩, e4, el⟩ := Option.bind_eq_some_iff.mp el
        simp only at el
        split at el
        · rename_i hz
          refine he _ W σ2 H3 sd3 R4 y4 sd4 e4 _ fun v4 H4 s4 R5 pp4 r4 => ?_
          have hD4 : H4 Dd = some (.lst acc) := R5.fix Dd _ (if_pos rfl)
          have r4 : Dt K (Fo (G.fixed Dd (.lst acc) nb) W) H4 v4 y4 := r4
          have hl4 := hacc.stp ((Stp.of_same sm).trans (s3.trans s4))
          refine ⟨acc, hD4, szl_lt (by rw [hacc.length]; exact hz.1), ?_⟩
          have R6 := R5.wipe hz.2
          rw [ew] at R6
          obtain ⟨R7, st7⟩ := R6.refix (o' := .lst (acc ++ [v4])) n0 (fun _ z => nomatch z)
          have F3 : ∀ b, Fo (G.fixed Dd (.lst (acc ++ [v4])) nb) W b → Fo (G.fixed Dd (.lst acc) nb) W b := fun b z => fo_fixed.mpr (fo_fixed.mp z)
          have cu : compOk vs (unD vs sd4) = true := compOk_un hz.2
          have s2' : Stp (fun b => Fo G W b ∨ b = Dd) H0 (upd H4 Dd (.lst (acc ++ [v4]))) := ((st2.trans (Stp.of_same sm)).trans ((t1 s3).trans (t1 s4))).trans (t1 st7)
          refine ⟨acc ++ [v4], accD ++ [y4], unD vs sd4, (hl4.append (.cons r4 .nil)).mv st7 F3, R7, cu, t2 s2', s2', el, fun pz => ?_⟩
          rw [Bool.and_eq_true] at pz
          obtain ⟨q1, q2⟩ := pur (by rw [Bool.and_eq_true]; exact pz)
          obtain ⟨q3, q4⟩ := pp3 pz.1
          obtain ⟨q5, q6⟩ := pp4 pz.2
          refine ⟨?_, fun b o nbd e => ?_⟩
          · rw [q5, q3, DOut.un do2, q1, un_un]
          · rw [upd_ne nbd]
            exact q6 _ _ (q4 _ _ (sm _ _ (q2 b o nbd e)))
        · cases el
      · rename_i hb
        rw [if_neg hb]
        split at el
        · rename_i hz
          have R6 := R4.wipe hz
          rw [ew] at R6
          have cu : compOk vs (unD vs sd3) = true := compOk_un hz
          have s2' : Stp (fun b => Fo G W b ∨ b = Dd) H0 H3 := (st2.trans (Stp.of_same sm)).trans (t1 s3)
          refine ⟨acc, accD, unD vs sd3, hacc.stp ((Stp.of_same sm).trans s3), R6, cu, t2 s2', s2', el, fun pz => ?_⟩
          rw [Bool.and_eq_true] at pz
          obtain ⟨q1, q2⟩ := pur (by rw [Bool.and_eq_true]; exact pz)
          obtain ⟨q3, q4⟩ := pp3 pz.1
          refine ⟨?_, fun b o nbd e => ?_⟩
          · rw [q3, DOut.un do2, q1, un_un]
          · exact q4 _ _ (sm _ _ (q2 b o nbd e))
        · cases el
    · have ei : i = ds.length := by omega
      subst ei
      rw [List.drop_length] at el
      cases el
      refine .inl ⟨io.stop _ H1 _ frm (Nat.le_refl _), ?_⟩
      refine q _ H1 (s0.trans st1) (R0.restore (Ri.unfix nfx) hc st1) (fun pz => ?_) ⟨Dd, rfl, ?_, acc, hD1, hacc.anti fun b z => fo_fixed.mpr z⟩
      · rw [Bool.and_eq_true] at pz
        obtain ⟨q1, q2⟩ := pur pz.2
        obtain ⟨q3, q4⟩ := pp0 pz.1
        have q3 : sd0 = sd := q3
        refine ⟨?_, fun b o e => ?_⟩
        · show restoreD vs sd0 _ = sd
          rw [q1, restore_un, q3]
        · have e0 := q4 _ _ e
          exact q2 b o (fun z => by rw [z, nD] at e0; cases e0) e0
      · exact Classical.byContradiction fun z => R0.dom s0 z nD
  · cases e
end
end DL

set_option Elab.async false
set_option linter.all false
set_option autoImplicit false
set_option maxRecDepth 100000
set_option maxHeartbeats 4000000
namespace DL
open PySem PySem.Spec PyProof.Rows L2

/-! ### a def's promise over data -/
abbrev Fn := List Slot → Option (D × List Slot)
/-- handed in: frozen, by reference, the script -/
def argOk : Slot → Bool
  | .fz _ => true
  | .rf _ => true
  | .sc _ => true
  | _ => false
def spD (K : KW) (m : Fn) : Sp := fun vs H Q _ => ∃ (G : Ctx) (ss ss' : List Slot) (d : D), G.H0 = H ∧ m ss = some (d, ss') ∧ Rel K G G.br (vs.map some) H ss ∧ ss.all argOk = true ∧
  ∀ v H', (∀ b o, H b = some o → (∀ i, G.br i ≠ some b) → H' b = some o) → (∀ i e, ss'[i]? = some (.rf e) → ∃ a, G.br i = some a ∧ OwnAt K (Fo G G.br) H' a e) → Dt K (Fo G G.br) H' v d → Q v H'
def mDef (n np : Nat) (body : Xv) : Fn := fun ss => if ss.length = np then (body (ss ++ List.replicate (n - np) .un)).bind fun r => match r.1 with
  | .rt d => some (d, r.2.take np)
  | .rn d => some (d, r.2.take np)
  | .nx => some (.non, r.2.take np)
  | _ => none else none
/-- a def that hands back what is new -/
def spN (K : KW) (m : Fn) : Sp := fun vs H Q _ => ∃ (G : Ctx) (ss ss' : List Slot) (d : D), G.H0 = H ∧ m ss = some (d, ss') ∧ Rel K G G.br (vs.map some) H ss ∧ ss.all argOk = true ∧
  ∀ a H', (∀ b o, H b = some o → (∀ i, G.br i ≠ some b) → H' b = some o) → (∀ i e, ss'[i]? = some (.rf e) → ∃ a, G.br i = some a ∧ OwnAt K (Fo G G.br) H' a e) → H a = none → OwnAt K (fun b => Fo G G.br b ∨ b = a) H' a d → Q (.ref a) H'
def mDefN (n np : Nat) (body : Xv) : Fn := fun ss => if ss.length = np then (body (ss ++ List.replicate (n - np) .un)).bind fun r => match r.1 with
  | .rn d => some (d, r.2.take np)
  | _ => none else none
section
variable {K : KW} {mg : Str → Option Value} {base : Heap} {k : Nat} {f : Addr} {fd : FuncData} {ps N : List Str} {x qual : Str} {params : Arguments} {body : List Stmt} {scope : Scope} {m : Xv}
theorem start_rel {G : Ctx} {vs : List V} {H : Hp} {ss : List Slot} {n : Nat} (R : Rel K G G.br (vs.map some) H ss) : Rel K G G.br (vs.map some ++ List.replicate n none) H (ss ++ List.replicate n .un) := by
  have el : (vs.map some).length = ss.length := R.len
  refine ⟨by rw [List.length_append, List.length_append, el, List.length_replicate, List.length_replicate], fun i s e => ?_, fun i hi => ?_, R.inj, R.wM, R.new, R.keep, R.fix⟩
  · by_cases h : i < ss.length
    · rw [List.getElem?_append_left h] at e
      rw [List.getElem?_append_left (by rw [el]; exact h)]
      exact R.slot i s e
    · rw [List.getElem?_append_right (by omega)] at e
      have := R.out i (by omega)
      rw [List.getElem?_replicate] at e
      split at e
      · cases e
        exact ⟨this.1, this.1⟩
      · cases e
  · rw [List.length_append] at hi
    exact R.out i (by omega)
theorem fn_ok (F : FunD K.f x qual params body scope [] [] f fd) (S : FnScope N ps scope)
    (hbody : ∀ (cdv : Value) (A : Around) (outer : List Env) (s : Shared) (H : Hp) (E : XK), Room k (A.deeper (envOfC qual scope s.heap.objs.size f cdv)) →
      ∃ t, PSs (cxOf CX0 K.P K.w K.f mg base N qual scope f cdv A outer s H E).nox body t ∧ SemS K t m) : FnOk K.P K.w K.f mg base CX0 (k + 1) f fd ps (spD K (mDef N.length ps.length m)) := by
  have len : ∀ vs H Q E, spD K (mDef N.length ps.length m) vs H Q E → vs.length = ps.length := by
    rintro vs H Q E ⟨G, ss, ss', d, _, e, R, _⟩
    have el : vs.length = ss.length := by rw [← R.len, List.length_map]
    unfold mDef at e
    split at e
    · rename_i h
      rw [el, h]
    · cases e
  refine F.ok S len (fun cdv A outer s H vs Q E hr hsp => ?_)
  obtain ⟨t, h1, h2⟩ := hbody cdv A outer s H E hr
  refine ⟨t, h1.nox, ?_⟩
  obtain ⟨G, ss, ss', d, eH, e, R, ha, q⟩ := hsp
  have el : vs.length = ss.length := by rw [← R.len, List.length_map]
  unfold mDef at e
  split at e
  · rename_i hl
    obtain ⟨⟨fl, sd'⟩, e1, e⟩ := Option.bind_eq_some_iff.mp e
    have R0 := start_rel (n := N.length - ps.length) R
    have es : L2.start N vs = vs.map some ++ List.replicate (N.length - ps.length) none := by
      unfold L2.start
      rw [el, hl]
    rw [es]
    refine h2 G G.br _ H _ R0 fl sd' e1 _ ?_
    have fin : ∀ (v : V) (d' : D) (W' : Wn) (σ' : St') (H' : Hp), Rel K G W' σ' H' sd' → Dt K (Fo G W') H' v d' → (d', sd'.take ps.length) = (d, ss') → Q v H' := by
      intro v d' W' σ' H' R' hd ee
      cases ee
      have FF : ∀ b, Fo G G.br b → Fo G W' b := fun b z => z.imp id fun ⟨i, z⟩ => ⟨i, R'.brW z⟩
      refine q v H' (fun b o e n => R'.keep b o (by rw [eH]; exact e) n) (fun i e he => ?_) (hd.anti FF)
      have he' : sd'[i]? = some (.rf e) := by
        rw [List.getElem?_take] at he
        split at he
        · exact he
        · cases he
      obtain ⟨a, h1, _, _, h4⟩ := R'.slot i _ he'
      exact ⟨a, h1, h4.mv (Stp.refl _ _) FF fun _ z => z⟩
    have finN : ∀ (a : Addr) (d' : D) (W' : Wn) (σ' : St') (H' : Hp), Rel K G W' σ' H' sd' → ¬ Fo G G.br a → OwnAt K (fun b => Fo G G.br b ∨ b = a) H' a d' → (d', sd'.take ps.length) = (d, ss') → Q (.ref a) H' := by
      intro a d' W' σ' H' R' nf hd ee
      cases ee
      have FF : ∀ b, Fo G G.br b → Fo G W' b := fun b z => z.imp id fun ⟨i, z⟩ => ⟨i, R'.brW z⟩
      refine q (.ref a) H' (fun b o e n => R'.keep b o (by rw [eH]; exact e) n) (fun i e he => ?_) ((hd.mv (Stp.refl _ _) (fun _ z => .inl z) fun _ z => z).dt nf)
      have he' : sd'[i]? = some (.rf e) := by
        rw [List.getElem?_take] at he
        split at he
        · exact he
        · cases he
      obtain ⟨a, h1, _, _, h4⟩ := R'.slot i _ he'
      exact ⟨a, h1, h4.mv (Stp.refl _ _) FF fun _ z => z⟩
    cases fl with
    | nx =>
      have e : some (D.non, sd'.take ps.length) = some (d, ss') := e
      exact fun W' σ' H' R' _ => fin .non .non W' σ' H' R' .non (Option.some.inj e)
    | rt d0 =>
      have e : some (d0, sd'.take ps.length) = some (d, ss') := e
      exact fun W' σ' H' v R' _ h => fin v d0 W' σ' H' R' h (Option.some.inj e)
    | rn d0 =>
      have e : some (d0, sd'.take ps.length) = some (d, ss') := e
      exact fun W' σ' H' a R' _ _ nf h => finN a d0 W' σ' H' R' nf h (Option.some.inj e)
    | bk => cases e
    | ct => cases e
  · cases e
theorem fn_okN (F : FunD K.f x qual params body scope [] [] f fd) (S : FnScope N ps scope)
    (hbody : ∀ (cdv : Value) (A : Around) (outer : List Env) (s : Shared) (H : Hp) (E : XK), Room k (A.deeper (envOfC qual scope s.heap.objs.size f cdv)) →
      ∃ t, PSs (cxOf CX0 K.P K.w K.f mg base N qual scope f cdv A outer s H E).nox body t ∧ SemS K t m) : FnOk K.P K.w K.f mg base CX0 (k + 1) f fd ps (spN K (mDefN N.length ps.length m)) := by
  have len : ∀ vs H Q E, spN K (mDefN N.length ps.length m) vs H Q E → vs.length = ps.length := by
    rintro vs H Q E ⟨G, ss, ss', d, _, e, R, _⟩
    have el : vs.length = ss.length := by rw [← R.len, List.length_map]
    unfold mDefN at e
    split at e
    · rename_i h
      rw [el, h]
    · cases e
  refine F.ok S len (fun cdv A outer s H vs Q E hr hsp => ?_)
  obtain ⟨t, h1, h2⟩ := hbody cdv A outer s H E hr
  refine ⟨t, h1.nox, ?_⟩
  obtain ⟨G, ss, ss', d, eH, e, R, ha, q⟩ := hsp
  have el : vs.length = ss.length := by rw [← R.len, List.length_map]
  unfold mDefN at e
  split at e
  · rename_i hl
    obtain ⟨⟨fl, sd'⟩, e1, e⟩ := Option.bind_eq_some_iff.mp e
    have R0 := start_rel (n := N.length - ps.length) R
    have es : L2.start N vs = vs.map some ++ List.replicate (N.length - ps.length) none := by
      unfold L2.start
      rw [el, hl]
    rw [es]
    refine h2 G G.br _ H _ R0 fl sd' e1 _ ?_
    cases fl with
    | rn d0 =>
      have e : some (d0, sd'.take ps.length) = some (d, ss') := e
      cases e
      intro W' σ' H' a R' _ n0 nf hd
      have FF : ∀ b, Fo G G.br b → Fo G W' b := fun b z => z.imp id fun ⟨i, z⟩ => ⟨i, R'.brW z⟩
      refine q a H' (fun b o e n => R'.keep b o (by rw [eH]; exact e) n) (fun i e he => ?_) (by rw [← eH]; exact n0) hd
      have he' : sd'[i]? = some (.rf e) := by
        rw [List.getElem?_take] at he
        split at he
        · exact he
        · cases he
      obtain ⟨a, h1, _, _, h4⟩ := R'.slot i _ he'
      exact ⟨a, h1, h4.mv (Stp.refl _ _) FF fun _ z => z⟩
    | nx => cases e
    | rt d0 => cases e
    | bk => cases e
    | ct => cases e
  · cases e
end

/-! ### calls -/
section
variable {K : KW} {k : Kd} {p : Bool} {te : TE} {fe : Ev} {ta : TA} {fa : Av} {m : Fn} {E : XK}
def eCall (m : Fn) (a : Av) : Ev := fun sd => (a sd).bind fun r => (m (r.1.map .fz)).map fun q => (q.1, r.2)
/-- the callee's context: all that stands apart here stands fixed there, but what is handed over -/
noncomputable def calleeCtx (F : Addr → Prop) (H : Hp) (br : Nat → Option Addr) : Ctx where
  fx := fun a => @ite _ (F a ∧ ∀ i, br i ≠ some a) (Classical.propDecidable _) (H a) none
  br := br
  H0 := H
  bM := fun i a e => if_neg fun z => z.2 i e
theorem fo_callee {F : Addr → Prop} {H : Hp} {br : Nat → Option Addr} (hd : ∀ a, F a → H a ≠ none) (hb : ∀ i a, br i = some a → F a) {b : Addr} : Fo (calleeCtx F H br) br b ↔ F b := by
  unfold Fo calleeCtx
  constructor
  · rintro (h | ⟨i, h⟩)
    · by_cases c : F b ∧ ∀ i, br i ≠ some b
      · exact c.1
      · simp only [] at h
        rw [if_neg c] at h
        exact absurd rfl h
    · exact hb i b h
  · intro h
    by_cases c : ∃ i, br i = some b
    · exact .inr c
    · refine .inl ?_
      simp only []
      rw [if_pos ⟨h, fun i z => c ⟨i, z⟩⟩]
      exact hd b h
theorem callee_rel {F : Addr → Prop} {H : Hp} {br : Nat → Option Addr} {vs : List V} {ss : List Slot} (hd : ∀ a, F a → H a ≠ none) (hb : ∀ i a, br i = some a → F a) (hl : vs.length = ss.length) (hn : ∀ i, ss.length ≤ i → br i = none)
    (inj : ∀ i j a, br i = some a → br j = some a → i = j) (hs : ∀ i s, ss[i]? = some s → SlotOk K F H (vs[i]?) (br i) (br i) s) : Rel K (calleeCtx F H br) br (vs.map some) H ss := by
  refine ⟨by rw [List.length_map]; exact hl, fun i s e => ?_, fun i hi => ⟨hn i hi, hn i hi⟩, inj, fun i a e => if_neg fun z => z.2 i e, fun i a e => .inl e, fun b o e _ => e, fun a o e => ?_⟩
  · have q := hs i s e
    have ev : ((vs.map some)[i]?).getD none = vs[i]? := by
      rw [List.getElem?_map]
      cases vs[i]? <;> rfl
    rw [ev]
    exact q.mv (Stp.refl _ _) (fun b z => (fo_callee hd hb).mp z) fun _ _ _ z => z
  · by_cases c : F a ∧ ∀ i, br i ≠ some a
    · have e : (@ite _ (F a ∧ ∀ i, br i ≠ some a) (Classical.propDecidable _) (H a) none) = some o := e
      rw [if_pos c] at e
      exact e
    · have e : (@ite _ (F a ∧ ∀ i, br i ≠ some a) (Classical.propDecidable _) (H a) none) = some o := e
      rw [if_neg c] at e
      cases e
/-- f(e, ..), all by value -/
theorem se_call (h : SemA K p ta fa) : SemE K .E p (tCall (spD K m) [] E ta) (eCall m fa) := by
  intro G W σ H sd R d sd' e Q q
  obtain ⟨⟨ds, sd1⟩, e1, e⟩ := Option.bind_eq_some_iff.mp e
  obtain ⟨⟨d2, ss'⟩, e2, e⟩ := Option.map_eq_some_iff.mp e
  cases e
  refine h G W σ H sd R ds _ e1 _ fun vs H1 s1 R1 pp1 x1 => ?_
  rw [List.append_nil]
  have hd : ∀ a, Fo G W a → H1 a ≠ none := fun a z => R1.fdom z
  have hb : ∀ (i : Nat) (a : Addr), (fun _ => none : Nat → Option Addr) i = some a → Fo G W a := fun i a z => nomatch z
  refine ⟨calleeCtx (Fo G W) H1 fun _ => none, ds.map .fz, ss', _, rfl, e2, callee_rel hd hb (by rw [List.length_map]; exact x1.length) (fun _ _ => rfl) (fun _ _ _ z => nomatch z) (fun i s es => ?_), ?_, fun v H' k1 k2 hv => ?_⟩
  · rw [List.getElem?_map] at es
    obtain ⟨d', e', rfl⟩ := Option.map_eq_some_iff.mp es
    obtain ⟨v, hv, hx⟩ := x1.get e'
    exact ⟨rfl, rfl, v, hv, hx⟩
  · rw [List.all_map]
    exact List.all_eq_true.mpr fun _ _ => rfl
  · have sm : Same H1 H' := fun b o e => k1 b o e fun _ z => nomatch z
    exact q v H' (s1.trans (Stp.of_same sm)) (R1.same sm) (fun z => ⟨(pp1 z).1, (pp1 z).2.trans sm⟩) (hv.anti fun b z => (fo_callee hd hb).mpr z)
/-- a value that is lent: frozen, or an own object -/
def Lent (K : KW) (G : Ctx) (W : Wn) (H : Hp) (v : V) (d : D) : Prop := Dt K (Fo G W) H v d ∨ ∃ j a, W j = some a ∧ v = .ref a ∧ OwnAt K (Fo G W) H a d
/-- arguments that may be the frame's own objects (lent), in order; nothing changes -/
def SemB (K : KW) (t : TA) (f : Av) : Prop := ∀ (G : Ctx) W σ H sd, Rel K G W σ H sd → ∀ ds sd', f sd = some (ds, sd') → ∀ Q : List V → Hp → Prop,
  (∀ (vs : List V) (H' : Hp), Rel K G W σ H' sd → sd' = sd → Same H H' → vs.length = ds.length → (∀ (i : Nat) (d : D), ds[i]? = some d → ∃ v, vs[i]? = some v ∧ Lent K G W H' v d) → Q vs H') → t σ H Q
theorem Lent.same {G : Ctx} {W : Wn} {H H' : Hp} {v : V} {d : D} (h : Lent K G W H v d) (s : Same H H') : Lent K G W H' v d := by
  rcases h with h | ⟨j, a, e, ev, o⟩
  · exact .inl (h.stp (Stp.of_same s))
  · exact .inr ⟨j, a, e, ev, o.mv (Stp.of_same s) (fun _ z => z) fun o z => s _ _ z⟩
theorem sb_nil : SemB K tNil aNil := by
  intro G W σ H sd R d sd' e Q q
  cases e
  exact q [] H R rfl (Same.refl _) rfl fun i d z => by simp at z
theorem sb_cons {te : TE} {tr : TA} {fe : Ev} {fr : Av} (he : SemE K .E true te fe) (hr : SemB K tr fr) : SemB K (tCons te tr) (aCons fe fr) := by
  intro G W σ H sd R d sd' e Q q
  obtain ⟨⟨d1, sd1⟩, e1, e⟩ := Option.bind_eq_some_iff.mp e
  obtain ⟨⟨d2, sd2⟩, e2, e⟩ := Option.map_eq_some_iff.mp e
  cases e
  refine he G W σ H sd R d1 sd1 e1 _ fun x H1 s1 R1 pp1 x1 => ?_
  obtain ⟨es, sm⟩ := pp1 rfl
  have es : sd1 = sd := es
  subst es
  refine hr G W σ H1 sd1 R1 d2 _ e2 _ fun xs H2 R2 e3 s2 l2 x2 => ?_
  refine q (x :: xs) H2 R2 e3 (sm.trans s2) (by rw [List.length_cons, List.length_cons, l2]) fun i d z => ?_
  cases i with
  | zero => cases z; exact ⟨x, rfl, .inl (Dt.stp (Stp.of_same s2) x1)⟩
  | succ i => exact x2 i d z
def eOwn (i : Nat) : Ev := fun sd => match sd[i]? with
  | some (.ow d) => some (d, sd)
  | some (.rf d) => some (d, sd)
  | _ => none
theorem sb_own {j : Nat} {tr : TA} {fr : Av} (hr : SemB K tr fr) : SemB K (tCons (tVar j) tr) (aCons (eOwn j) fr) := by
  intro G W σ H sd R d sd' e Q q
  obtain ⟨⟨d1, sd1⟩, e1, e⟩ := Option.bind_eq_some_iff.mp e
  obtain ⟨⟨d2, sd2⟩, e2, e⟩ := Option.map_eq_some_iff.mp e
  cases e
  have key : ∃ a, W j = some a ∧ σ[j]? = some (some (.ref a)) ∧ OwnAt K (Fo G W) H a d1 ∧ sd1 = sd := by
    unfold eOwn at e1
    split at e1
    · rename_i d' hs
      cases e1
      obtain ⟨_, a, hw, h1, h2⟩ := R.slot j _ hs
      exact ⟨a, hw, DL.getσ h1, h2, rfl⟩
    · rename_i d' hs
      cases e1
      obtain ⟨a, _, hw, h1, h2⟩ := R.slot j _ hs
      exact ⟨a, hw, DL.getσ h1, h2, rfl⟩
    · cases e1
  obtain ⟨a, hw, hv, o, es⟩ := key
  subst es
  refine ⟨_, hv, hr G W σ H sd1 R d2 _ e2 _ fun xs H2 R2 e3 s2 l2 x2 => ?_⟩
  refine q (_ :: xs) H2 R2 e3 s2 (by rw [List.length_cons, List.length_cons, l2]) fun i d z => ?_
  cases i with
  | zero => cases z; exact ⟨_, rfl, Lent.same (.inr ⟨j, a, hw, rfl, o⟩) s2⟩
  | succ i => exact x2 i d z
def eCallB (m : Fn) (a : Av) : Ev := fun sd => (a sd).bind fun r => (m (r.1.map .fz)).bind fun q => if flat q.1 = true then some (q.1, r.2) else none
theorem se_callB (h : SemB K ta fa) : SemE K .E true (tCall (spD K m) [] E ta) (eCallB m fa) := by
  intro G W σ H sd R d sd' e Q q
  obtain ⟨⟨ds, sd1⟩, e1, e⟩ := Option.bind_eq_some_iff.mp e
  obtain ⟨⟨d2, ss'⟩, e2, e⟩ := Option.bind_eq_some_iff.mp e
  simp only at e
  split at e
  · rename_i hfl
    cases e
    refine h G W σ H sd R ds _ e1 _ fun vs H1 R1 es s1 l1 x1 => ?_
    rw [List.append_nil]
    let F' : Addr → Prop := fun a => Fo G W a ∧ V.ref a ∉ vs
    have FF : ∀ b, F' b → Fo G W b := fun b z => z.1
    have hd : ∀ a, F' a → H1 a ≠ none := fun a z => R1.fdom z.1
    have hb : ∀ (i : Nat) (a : Addr), (fun _ => none : Nat → Option Addr) i = some a → F' a := fun i a z => nomatch z
    refine ⟨calleeCtx F' H1 fun _ => none, ds.map .fz, ss', _, rfl, e2, callee_rel hd hb (by rw [List.length_map]; exact l1) (fun _ _ => rfl) (fun _ _ _ z => nomatch z) (fun i s es => ?_), ?_, fun v H' k1 k2 hv => ?_⟩
    · rw [List.getElem?_map] at es
      obtain ⟨d', e', rfl⟩ := Option.map_eq_some_iff.mp es
      obtain ⟨v, hv, hx⟩ := x1 i d' e'
      refine ⟨rfl, rfl, v, hv, ?_⟩
      rcases hx with hx | ⟨j, a, hw, rfl, o⟩
      · exact hx.anti FF
      · exact (o.mv (Stp.refl _ _) FF fun _ z => z).dt fun z => z.2 (List.mem_of_getElem? hv)
    · rw [List.all_map]
      exact List.all_eq_true.mpr fun _ _ => rfl
    · have sm : Same H1 H' := fun b o e => k1 b o e fun _ z => nomatch z
      exact q v H' (Stp.of_same (s1.trans sm)) (es ▸ R1.same sm) (fun z => ⟨es, s1.trans sm⟩) (hv.flat (Stp.refl _ _) hfl)
  · cases e

/-! ### a call that changes one own object, handed in by reference -/
abbrev Av2 := Sd → Option ((List D × List D) × Sd)
def SemAR (K : KW) (i : Nat) (t : TA) (f : Av2) : Prop := ∀ (G : Ctx) W σ H sd, Rel K G W σ H sd → ∀ ds es sd', f sd = some ((ds, es), sd') → ∀ Q : List V → Hp → Prop,
  (∀ (vs ws : List V) (a : Addr) (H' : Hp), Stp (Fo G W) H H' → Rel K G W σ H' sd' → W i = some a → DtL K (Fo G W) H' vs ds → DtL K (Fo G W) H' ws es → Q (vs ++ .ref a :: ws) H') → t σ H Q
def arHead (i : Nat) (r : Av) : Av2 := fun sd => match sd[i]? with
  | some s => if isOwn s = true then (r sd).map fun q => (([], q.1), q.2) else none
  | none => none
def arCons (e : Ev) (r : Av2) : Av2 := fun sd => (e sd).bind fun x => (r x.2).map fun q => ((x.1 :: q.1.1, q.1.2), q.2)
theorem sar_head {i : Nat} {tr : TA} {fr : Av} (hr : SemA K p tr fr) : SemAR K i (tCons (tVar i) tr) (arHead i fr) := by
  intro G W σ H sd R ds es sd' e Q q
  unfold arHead at e
  split at e
  · rename_i s hs
    split at e
    · rename_i ho
      obtain ⟨⟨d2, sd2⟩, e2, e⟩ := Option.map_eq_some_iff.mp e
      cases e
      have key : ∃ a, W i = some a ∧ σ[i]? = some (some (.ref a)) := by
        have z := R.slot i s hs
        cases s with
        | ow d => obtain ⟨_, a, hw, h1, _⟩ := z; exact ⟨a, hw, DL.getσ h1⟩
        | rf d => obtain ⟨a, _, hw, h1, _⟩ := z; exact ⟨a, hw, DL.getσ h1⟩
        | _ => cases ho
      obtain ⟨a, hw, hv⟩ := key
      refine ⟨_, hv, hr G W σ H sd R d2 _ e2 _ fun xs H2 s2 R2 pp2 x2 => ?_⟩
      exact q [] xs a H2 s2 R2 hw .nil x2
    · cases e
  · cases e
theorem sar_cons {i : Nat} {tr : TA} {fr : Av2} (he : SemE K .E p te fe) (hr : SemAR K i tr fr) : SemAR K i (tCons te tr) (arCons fe fr) := by
  intro G W σ H sd R ds es sd' e Q q
  obtain ⟨⟨d1, sd1⟩, e1, e⟩ := Option.bind_eq_some_iff.mp e
  obtain ⟨⟨⟨d2, d3⟩, sd2⟩, e2, e⟩ := Option.map_eq_some_iff.mp e
  cases e
  refine he G W σ H sd R d1 sd1 e1 _ fun x H1 s1 R1 pp1 x1 => ?_
  refine hr G W σ H1 sd1 R1 d2 _ _ e2 _ fun vs ws a H2 s2 R2 hw x2 x3 => ?_
  exact q (x :: vs) ws a H2 (s1.trans s2) R2 hw (.cons (Dt.stp s2 x1) x2) x3
/-- the own object's content after the call -/
def slotD : Slot → Option D
  | .ow d => some d
  | .rf d => some d
  | _ => none
def putD (s : Slot) (d : D) : Slot := match s with
  | .ow _ => .ow d
  | .rf _ => .rf d
  | s => s
def eCallR (m : Fn) (i : Nat) (a : Av2) : Ev := fun sd => (a sd).bind fun r => (r.2[i]?).bind fun s => (slotD s).bind fun c =>
  (m (r.1.1.map .fz ++ .rf c :: r.1.2.map .fz)).bind fun q => match q.2[r.1.1.length]? with
    | some (.rf c') => some (q.1, r.2.set i (putD s c'))
    | _ => none
theorem se_callR {i : Nat} {far : Av2} (h : SemAR K i ta far) : SemE K .E false (tCall (spD K m) [] E ta) (eCallR m i far) := by
  intro G W σ H sd R d sd' e Q q
  obtain ⟨⟨⟨ds, es⟩, sd1⟩, e1, e⟩ := Option.bind_eq_some_iff.mp e
  obtain ⟨s, es1, e⟩ := Option.bind_eq_some_iff.mp e
  obtain ⟨c, ec, e⟩ := Option.bind_eq_some_iff.mp e
  obtain ⟨⟨d2, ss'⟩, e2, e⟩ := Option.bind_eq_some_iff.mp e
  simp only at e e2 es1
  split at e
  · rename_i c' hc'
    cases e
    refine h G W σ H sd R ds es sd1 e1 _ fun vs ws a H1 s1 R1 hw x1 x2 => ?_
    rw [List.append_nil]
    have own : OwnAt K (Fo G W) H1 a c := by
      have z := R1.slot i s es1
      cases s with
      | ow d => cases ec; obtain ⟨_, b, hw', _, o⟩ := z; rw [hw] at hw'; cases hw'; exact o
      | rf d => cases ec; obtain ⟨b, _, hw', _, o⟩ := z; rw [hw] at hw'; cases hw'; exact o
      | _ => cases ec
    let br : Nat → Option Addr := fun j => if j = ds.length then some a else none
    have bra : ∀ j b, br j = some b → j = ds.length ∧ b = a := fun j b z => by
      have z : (if j = ds.length then some a else none) = some b := z
      split at z
      · rename_i h; cases z; exact ⟨h, rfl⟩
      · cases z
    have hd : ∀ a, Fo G W a → H1 a ≠ none := fun a z => R1.fdom z
    have hb : ∀ (i : Nat) (b : Addr), br i = some b → Fo G W b := fun i' b z => by rw [(bra i' b z).2]; exact .inr ⟨i, hw⟩
    have lv : vs.length = ds.length := x1.length
    have lw : ws.length = es.length := x2.length
    refine ⟨calleeCtx (Fo G W) H1 br, ds.map .fz ++ .rf c :: es.map .fz, ss', _, rfl, e2, callee_rel hd hb (by simp [lv, lw]) (fun j hj => ?_) (fun j l b z1 z2 => (bra j b z1).1.trans (bra l b z2).1.symm) (fun j s' e' => ?_), ?_, fun v H' k1 k2 hv => ?_⟩
    · show (if j = ds.length then some a else none) = none
      rw [if_neg]
      simp at hj
      omega
    · by_cases hj : j < ds.length
      · rw [List.getElem?_append_left (by rw [List.length_map]; exact hj), List.getElem?_map] at e'
        obtain ⟨d', e'', rfl⟩ := Option.map_eq_some_iff.mp e'
        obtain ⟨v, hv, hx⟩ := x1.get e''
        have hn : br j = none := if_neg (by omega)
        exact ⟨hn, hn, v, by rw [List.getElem?_append_left (by omega)]; exact hv, hx⟩
      · by_cases hj2 : j = ds.length
        · subst hj2
          rw [List.getElem?_append_right (by rw [List.length_map]; exact Nat.le_refl _), List.length_map, Nat.sub_self] at e'
          cases e'
          have hn : br ds.length = some a := if_pos rfl
          exact ⟨a, hn, hn, by rw [List.getElem?_append_right (by omega), lv, Nat.sub_self]; rfl, own⟩
        · rw [List.getElem?_append_right (by rw [List.length_map]; omega), List.length_map] at e'
          obtain ⟨n, hn⟩ : ∃ n, j - ds.length = n + 1 := ⟨j - ds.length - 1, by omega⟩
          rw [hn, List.getElem?_cons_succ, List.getElem?_map] at e'
          obtain ⟨d', e'', rfl⟩ := Option.map_eq_some_iff.mp e'
          obtain ⟨v, hv, hx⟩ := x2.get e''
          have hnn : br j = none := if_neg hj2
          exact ⟨hnn, hnn, v, by rw [List.getElem?_append_right (by omega), lv, hn, List.getElem?_cons_succ]; exact hv, hx⟩
    · simp only [List.all_append, List.all_map, List.all_cons, Bool.and_eq_true]
      exact ⟨List.all_eq_true.mpr fun _ _ => rfl, rfl, List.all_eq_true.mpr fun _ _ => rfl⟩
    · obtain ⟨b, hb', ho⟩ := k2 _ _ hc'
      obtain ⟨_, rfl⟩ := bra _ _ hb'
      have FF : ∀ x, Fo G W x → Fo (calleeCtx (Fo G W) H1 br) br x := fun x z => (fo_callee hd hb).mpr z
      have keep : ∀ x o, H1 x = some o → x ≠ b → H' x = some o := fun x o e nx => k1 x o e fun j z => nx (bra j x z).2
      obtain ⟨ob, hob, nt⟩ := own.there
      have st : Stp (Fo G W) H1 H' := fun x o e z => by
        refine keep x o e fun ex => ?_
        subst ex
        rw [hob] at e
        cases e
        rcases z with z | ⟨xs, z⟩
        · exact z (.inr ⟨i, hw⟩)
        · exact nt xs z
      have hi : i < sd1.length := (List.getElem?_eq_some_iff.mp es1).1
      refine q v H' (s1.trans st) ⟨by rw [List.length_set]; exact R1.len, fun j x e => ?_, fun j hj => R1.out j (by rw [List.length_set] at hj; exact hj), R1.inj, R1.wM, R1.new, fun x o e hbx => ?_, fun x o e => ?_⟩ (fun z => nomatch z) (hv.anti FF)
      · by_cases ej : j = i
        · subst ej
          rw [List.getElem?_set_self hi] at e
          cases e
          have z := R1.slot j s es1
          cases s with
          | ow d => obtain ⟨h1, b', hw', h3, o⟩ := z; rw [hw] at hw'; cases hw'; exact ⟨h1, b, hw, h3, ho.mv (Stp.refl _ _) FF fun _ z => z⟩
          | rf d => obtain ⟨b', h1, hw', h3, o⟩ := z; rw [hw] at hw'; cases hw'; exact ⟨b, h1, hw, h3, ho.mv (Stp.refl _ _) FF fun _ z => z⟩
          | _ => cases ec
        · rw [List.getElem?_set_ne (Ne.symm ej)] at e
          refine (R1.slot j x e).mv st (fun _ z => z) fun y hy o eo => keep y o eo fun ey => ?_
          subst ey
          exact ej (R1.inj j i _ hy hw)
      · have := R1.keep x o e hbx
        refine keep x o this fun ex => ?_
        subst ex
        rcases R1.new i _ hw with z | z
        · exact hbx i z
        · rw [z] at e; cases e
      · refine keep x o (R1.fix x o e) fun ex => ?_
        subst ex
        rw [R1.wM i _ hw] at e
        cases e
  · cases e

/-- the script handed on; what comes back is new -/
def eCallS (m : Fn) (i : Nat) : Ev := fun sd => match sd[i]? with
  | some (.sc ns) => (m [.sc ns]).map fun q => (q.1, sd)
  | _ => none
theorem se_callS {i : Nat} : SemE K .N true (tCall (spN K m) [] E (tCons (tVar i) tNil)) (eCallS m i) := by
  intro G W σ H sd R d sd' e Q q
  unfold eCallS at e
  split at e
  · rename_i ns hs
    obtain ⟨⟨d2, ss'⟩, e2, e⟩ := Option.map_eq_some_iff.mp e
    cases e
    obtain ⟨h1, h2, a, hv, hsc⟩ := R.slot i _ hs
    refine ⟨.ref a, DL.getσ hv, ?_⟩
    have hd : ∀ a, Fo G W a → H a ≠ none := fun a z => R.fdom z
    have hb : ∀ (i : Nat) (a : Addr), (fun _ => none : Nat → Option Addr) i = some a → Fo G W a := fun i a z => nomatch z
    refine ⟨calleeCtx (Fo G W) H fun _ => none, [.sc ns], ss', _, rfl, e2, callee_rel hd hb rfl (fun _ _ => rfl) (fun _ _ _ z => nomatch z) (fun i s es => ?_), rfl, fun b H' k1 k2 nb hv => ?_⟩
    · cases i with
      | zero => cases es; exact ⟨rfl, rfl, a, rfl, hsc⟩
      | succ i => simp at es
    · have sm : Same H H' := fun b o e => k1 b o e fun _ z => nomatch z
      exact q _ H' (Stp.of_same sm) (R.same sm) (fun _ => ⟨rfl, sm⟩) ⟨b, rfl, nb, hv.mv (Stp.refl _ _) (fun x z => z.imp (fun z => (fo_callee hd hb).mpr z) id) fun _ z => z⟩
  · cases e
end
end DL

set_option Elab.async false
set_option linter.all false
set_option autoImplicit false
set_option maxRecDepth 100000
set_option maxHeartbeats 4000000
namespace DL
open PySem PySem.Spec PyProof.Rows L2

/-! ### operators by data -/
theorem OpR.or {X : Cx} {f : Value → Value → Sem Value} {r r' : R2} (h : OpR X f r) (h' : OpR X f r') : OpR X f (fun x y H Q => r x y H Q ∨ r' x y H Q) := by
  intro pins s σ H x y v u Q I rx ry q
  rcases q with q | q
  · exact h pins s σ H x y v u Q I rx ry q
  · exact h' pins s σ H x y v u Q I rx ry q
theorem CallR.or {X : Cx} {f : Value} {r r' : List V → Hp → VK → Prop} (h : CallR X f r) (h' : CallR X f r') : CallR X f (fun x H Q => r x H Q ∨ r' x H Q) := by
  intro pins s σ H xs us Q I rx q
  rcases q with q | q
  · exact h pins s σ H xs us Q I rx q
  · exact h' pins s σ H xs us Q I rx q
section
variable {K : KW} {F : Addr → Prop} {H : Hp} {x y : V}
theorem dr_int {i : Int} (h : Dr K F H x (.int i)) : x = .int i := by
  have h : Dt K F H x (.int i) := h
  cases h; rfl
theorem dr_bl {i : Bool} (h : Dr K F H x (.bl i)) : x = .bl i := by
  have h : Dt K F H x (.bl i) := h
  cases h; rfl
theorem dr_str {i : Str} (h : Dr K F H x (.str i)) : x = .str i := by
  have h : Dt K F H x (.str i) := h
  cases h; rfl
theorem dr_non (h : Dr K F H x .non) : x = .non := by
  have h : Dt K F H x .non := h
  cases h; rfl
theorem dr_tup {ds : List D} (h : Dr K F H x (.tup ds)) : ∃ a xs, x = .ref a ∧ TpAt K H a xs ∧ DtL K F H xs ds := by
  have h : Dt K F H x (.tup ds) := h
  cases h with
  | tup h1 r => exact ⟨_, _, rfl, h1, r⟩
end
def iI (g : Int → Int → Option D) : D → D → Option D := fun d e => match d, e with
  | .int i, .int j => g i j
  | _, _ => none
def addD : D → D → Option D
  | .int i, .int j => some (.int (i + j))
  | .str x, .str y => if x.length + y.length ≤ szl then some (.str (x ++ y)) else none
  | .tup xs, .tup ys => if xs.length + ys.length ≤ szl then some (.tup (xs ++ ys)) else none
  | .lst xs, .lst ys => if xs.length + ys.length ≤ szl then some (.lst (xs ++ ys)) else none
  | _, _ => none
def rAddD (K : PySem.W.Frag) : R2 := fun x y H Q => (rI0 (fun i j => .int (i + j)) x y H Q ∨ ∃ i j, x = .str i ∧ y = .str j ∧ i.length + j.length ≤ sizeLine ∧ Q (.str (i ++ j)) H) ∨ (rCatA K x y H Q ∨ rCat x y H Q)
section
variable {X : Cx}
theorem opx_add : OpR X (binaryOp .Add) (rAddD X.K) := (op_add.or op_add_str).or (op_catA.or op_cat)
end
section
variable {K : KW}
theorem od_add : OpD K .E (rAddD K.f) addD := by
  intro F H x y d e out hf hx hy hg Q q
  unfold addD at hg
  split at hg
  · cases hg
    rw [dr_int hx, dr_int hy]
    exact .inl (.inl ⟨_, _, rfl, rfl, q _ H (Same.refl _) (Dt.int _)⟩)
  · split at hg
    · rename_i hl
      cases hg
      rw [dr_str hx, dr_str hy]
      exact .inl (.inr ⟨_, _, rfl, rfl, szl_le hl, q _ H (Same.refl _) (Dt.str _)⟩)
    · cases hg
  · split at hg
    · rename_i hl
      cases hg
      obtain ⟨a, xs, rfl, hx, rx⟩ := dr_tup hx
      obtain ⟨b, ys, rfl, hy, ry⟩ := dr_tup hy
      refine .inr (.inl ⟨a, b, xs, ys, rfl, rfl, hx.sq, hy.sq, szl_le (by rw [rx.length, ry.length]; exact hl), ?_⟩)
      refine ⟨fun e => ?_, fun e1 e2 => ?_, fun e1 e2 p hp => ?_⟩
      · subst e
        cases rx
        exact q _ H (Same.refl _) (Dt.tup hy ry)
      · subst e2
        cases ry
        rw [List.append_nil] at q
        exact q _ H (Same.refl _) (Dt.tup hx rx)
      · exact q _ _ (same_upd hp) (Dt.tup (.inl upd_same) ((rx.append ry).stp (Stp.of_same (same_upd hp))))
    · cases hg
  · split at hg
    · rename_i hl
      cases hg
      obtain ⟨a, xs, rfl, hx, rx⟩ := hx
      obtain ⟨b, ys, rfl, hy, ry⟩ := hy
      refine .inr (.inr ⟨a, b, xs, ys, rfl, rfl, hx, hy, szl_le (by rw [rx.length, ry.length]; exact hl), fun p hp => ?_⟩)
      refine q _ _ (same_upd hp) ?_
      exact Dt.lst (fun z => hf _ z hp) upd_same ((rx.append ry).stp (Stp.of_same (same_upd hp)))
    · cases hg
  · cases hg
def rCatN : R2 := rCat
def catD : D → D → Option D
  | .lst xs, .lst ys => if xs.length + ys.length ≤ szl then some (.lst (xs ++ ys)) else none
  | _, _ => none
theorem od_cat : OpD K .N rCat catD := by
  intro F H x y d e out hf hx hy hg Q q
  unfold catD at hg
  split at hg
  · split at hg
    · rename_i hl
      cases hg
      obtain ⟨a, xs, rfl, hx, rx⟩ := hx
      obtain ⟨b, ys, rfl, hy, ry⟩ := hy
      refine ⟨a, b, xs, ys, rfl, rfl, hx, hy, szl_le (by rw [rx.length, ry.length]; exact hl), fun p hp => ?_⟩
      exact q _ _ (same_upd hp) ⟨p, rfl, hp, OwnAt.newL hp (rx.append ry)⟩
    · cases hg
  · cases hg
/-- ints in, a flat value out -/
theorem od_int {C : Int → Int → Prop} {g : Int → Int → V} {gd : Int → Int → Option D} (h : ∀ i j o, gd i j = some o → C i j ∧ ∀ F H, Dt K F H (g i j) o) : OpD K .E (rI C g) (iI gd) := by
  intro F H x y d e out hf hx hy hg Q q
  unfold iI at hg
  split at hg
  · rw [dr_int hx, dr_int hy]
    obtain ⟨h1, h2⟩ := h _ _ _ hg
    exact ⟨_, _, rfl, rfl, h1, q _ H (Same.refl _) (h2 _ _)⟩
  · cases hg
theorem od_int0 {g : Int → Int → V} {gd : Int → Int → Option D} (h : ∀ i j o, gd i j = some o → ∀ F H, Dt K F H (g i j) o) : OpD K .E (rI0 g) (iI gd) := by
  intro F H x y d e out hf hx hy hg Q q
  unfold iI at hg
  split at hg
  · rw [dr_int hx, dr_int hy]
    exact ⟨_, _, rfl, rfl, q _ H (Same.refl _) (h _ _ _ hg _ _)⟩
  · cases hg
def subD : D → D → Option D := iI fun i j => some (.int (i - j))
def mulOk (i j : Int) : Bool := decide ((-(2 ^ 64) < i ∧ i < 2 ^ 64) ∨ (-(2 ^ 64) < j ∧ j < 2 ^ 64))
def mulD : D → D → Option D := iI fun i j => if mulOk i j = true then some (.int (i * j)) else none
def modD : D → D → Option D := iI fun i j => if 0 < j then some (.int (i % j)) else none
def fdivD : D → D → Option D := iI fun i j => if 0 < j ∧ j < 1073741824 then some (.int (i / j)) else none
def powD : D → D → Option D := iI fun i j => if 0 ≤ j ∧ j ≤ 1000000 ∧ i.natAbs < 2 ^ 64 then some (.int (i ^ j.toNat)) else none
theorem od_sub : OpD K .E (rI0 fun i j => .int (i - j)) subD := od_int0 fun i j o e F H => by cases e; exact .int _
theorem od_mul : OpD K .E (rI CMul fun i j => .int (i * j)) mulD := od_int fun i j o e => by
  split at e
  · rename_i h
    cases e
    exact ⟨by unfold mulOk at h; unfold CMul; exact of_decide_eq_true h, fun F H => .int _⟩
  · cases e
theorem od_mod : OpD K .E (rI (fun _ j => 0 < j) fun i j => .int (i % j)) modD := od_int fun i j o e => by
  split at e
  · rename_i h
    cases e
    exact ⟨h, fun F H => .int _⟩
  · cases e
theorem od_fdiv : OpD K .E (rI CDiv fun i j => .int (i / j)) fdivD := od_int fun i j o e => by
  split at e
  · rename_i h
    cases e
    exact ⟨h, fun F H => .int _⟩
  · cases e
theorem od_pow : OpD K .E (rI CPow fun i j => .int (i ^ j.toNat)) powD := od_int fun i j o e => by
  split at e
  · rename_i h
    cases e
    exact ⟨h, fun F H => .int _⟩
  · cases e
def ltD : D → D → Option D := iI fun i j => some (.bl (decide (i < j)))
def leD : D → D → Option D := iI fun i j => some (.bl (decide (i ≤ j)))
def gtD : D → D → Option D := iI fun i j => some (.bl (decide (j < i)))
def geD : D → D → Option D := iI fun i j => some (.bl (decide (j ≤ i)))
theorem od_lt : OpD K .E (rI0 fun i j => .bl (decide (i < j))) ltD := od_int0 fun i j o e F H => by cases e; exact .bl _
theorem od_le : OpD K .E (rI0 fun i j => .bl (decide (i ≤ j))) leD := od_int0 fun i j o e F H => by cases e; exact .bl _
theorem od_gt : OpD K .E (rI0 fun i j => .bl (decide (j < i))) gtD := od_int0 fun i j o e F H => by cases e; exact .bl _
theorem od_ge : OpD K .E (rI0 fun i j => .bl (decide (j ≤ i))) geD := od_int0 fun i j o e F H => by cases e; exact .bl _
def negD : D → Option D
  | .int i => some (.int (-i))
  | _ => none
theorem ud_neg : UnD K .E (rU fun i => .int (-i)) negD := by
  intro F H x d out hf hx hg Q q
  unfold negD at hg
  split at hg
  · cases hg
    rw [dr_int hx]
    exact ⟨_, rfl, q _ H (Same.refl _) (Dt.int _)⟩
  · cases hg

/-! ### is None -/
def isNoneD : D → Bool
  | .non => true
  | _ => false
theorem dr_isNone {F : Addr → Prop} {H : Hp} {x : V} {d : D} (h : Dr K F H x d) : decide (x = V.non) = isNoneD d := by
  cases d with
  | lst ds => obtain ⟨a, xs, rfl, _⟩ := h; rfl
  | dic ds => obtain ⟨a, rfl, _⟩ := h; rfl
  | set ds => obtain ⟨a, rfl, _⟩ := h; rfl
  | tup ds => obtain ⟨a, xs, rfl, _⟩ := dr_tup h; rfl
  | non => rw [dr_non h]; rfl
  | bl b => rw [dr_bl h]; rfl
  | int i => rw [dr_int h]; rfl
  | str x => rw [dr_str h]; rfl
def rIsN : R2 := fun x y H Q => y = .non ∧ Q (.bl (decide (x = .non))) H
def rNotN : R2 := fun x y H Q => y = .non ∧ Q (.bl (!decide (x = .non))) H
def isND (d e : D) : Option D := match e with
  | .non => some (.bl (isNoneD d))
  | _ => none
def notND (d e : D) : Option D := match e with
  | .non => some (.bl (!isNoneD d))
  | _ => none
theorem od_isN : OpD K .E rIsN isND := by
  intro F H x y d e out hf hx hy hg Q q
  unfold isND at hg
  split at hg
  · cases hg
    refine ⟨dr_non hy, ?_⟩
    rw [dr_isNone hx]
    exact q _ H (Same.refl _) (Dt.bl _)
  · cases hg
theorem od_notN : OpD K .E rNotN notND := by
  intro F H x y d e out hf hx hy hg Q q
  unfold notND at hg
  split at hg
  · cases hg
    refine ⟨dr_non hy, ?_⟩
    rw [dr_isNone hx]
    exact q _ H (Same.refl _) (Dt.bl _)
  · cases hg

/-! ### == and != of data -/
mutual
def toP : D → PyData
  | .non => .none
  | .bl b => .bool b
  | .int i => .int i
  | .str x => .str x
  | .tup xs => .tuple (toPL xs)
  | .lst xs => .list (toPL xs)
  | .dic _ => .dict []
  | .set _ => .dict []
def toPL : List D → List PyData
  | [] => []
  | d :: r => toP d :: toPL r
end
mutual
theorem Dt.dp {F : Addr → Prop} {H : Hp} : ∀ {v : V} {d : D}, Dt K F H v d → PyData.canLay0 (toP d) = true → Dp K.f H v (toP d)
  | _, _, .non, _ => .non
  | _, _, .bl b, _ => .bl b
  | _, _, .int i, _ => .int i
  | _, _, .str x, _ => .str x
  | _, _, .tup h r, c => .tup h.sq (DtL.dp r (by simpa [toP, PyData.canLay0] using c))
  | _, _, .lst _ h r, c => .lst (.inl (.inl h)) (DtL.dp r (by simpa [toP, PyData.canLay0] using c))
  | _, _, .dK _ _ _ _ _, c => by simp [toP, PyData.canLay0] at c
  | _, _, .dT _ _ _ _, c => by simp [toP, PyData.canLay0] at c
  | _, _, .set _ _, c => by simp [toP, PyData.canLay0] at c
theorem DtL.dp {F : Addr → Prop} {H : Hp} : ∀ {vs : List V} {ds : List D}, DtL K F H vs ds → PyData.canLayAll0 (toPL ds) = true → DpAll K.f H vs (toPL ds)
  | _, _, .nil, _ => .nil
  | _, _, .cons h r, c => by
    rw [toPL, PyData.canLayAll0, Bool.and_eq_true] at c
    exact .cons (Dt.dp h c.1) (DtL.dp r c.2)
end
theorem Dr.dp {F : Addr → Prop} {H : Hp} {v : V} {d : D} (h : Dr K F H v d) (c : PyData.canLay0 (toP d) = true) : Dp K.f H v (toP d) := by
  cases d with
  | lst ds => obtain ⟨a, xs, rfl, hx, r⟩ := h; exact .lst (.inl (.inl hx)) (r.dp (by simpa [toP, PyData.canLay0] using c))
  | dic ds => simp [toP, PyData.canLay0] at c
  | set ds => simp [toP, PyData.canLay0] at c
  | tup ds => exact Dt.dp h c
  | non => exact Dt.dp h c
  | bl b => exact Dt.dp h c
  | int i => exact Dt.dp h c
  | str x => exact Dt.dp h c
def shp (d : D) : Bool := SeqAt.shaped (toP d)
theorem shp_lay {d : D} (h : shp d = true) : PyData.canLay0 (toP d) = true := SeqAt.canLay_of_shaped h
def eqB (d e : D) : Bool := PyData.eqv (toP d) (toP e)
def eqD (d e : D) : Option D := if (shp d && shp e) = true then some (.bl (eqB d e)) else none
def neD (d e : D) : Option D := if (shp d && shp e) = true then some (.bl (!eqB d e)) else none
theorem od_eq : OpD K .E (rEqD K.f) eqD := by
  intro F H x y d e out hf hx hy hg Q q
  unfold eqD at hg
  split at hg
  · rename_i hs
    rw [Bool.and_eq_true] at hs
    cases hg
    exact ⟨_, _, hx.dp (shp_lay hs.1), hy.dp (shp_lay hs.2), hs.1, hs.2, q _ H (Same.refl _) (Dt.bl _)⟩
  · cases hg
theorem od_ne : OpD K .E (rNeD K.f) neD := by
  intro F H x y d e out hf hx hy hg Q q
  unfold neD at hg
  split at hg
  · rename_i hs
    rw [Bool.and_eq_true] at hs
    cases hg
    exact ⟨_, _, hx.dp (shp_lay hs.1), hy.dp (shp_lay hs.2), hs.1, hs.2, q _ H (Same.refl _) (Dt.bl _)⟩
  · cases hg

/-! ### in -/
def rInT (K : PySem.W.Frag) (neg : Bool) : R2 := fun x y H Q => ∃ d ds, Dp K H x d ∧ Dp K H y (.tuple ds) ∧ SeqAt.shaped d = true ∧ SeqAt.shaped (.tuple ds) = true ∧ Q (.bl (if neg then !ds.any (fun z => PyData.eqv z d) else ds.any fun z => PyData.eqv z d)) H
end
section
variable {X : Cx}
theorem op_inT (hu : X.A.units + 65 < cLine) : OpR X (compareOp .In) (rInT X.K false) := by
  intro pins s σ H x y v u Q I rx ry h
  obtain ⟨d, ds, hd, he, sd, se, q⟩ := h
  obtain ⟨as, r1⟩ := Dp.reads I d x v hd rx
  obtain ⟨bs, r2⟩ := Dp.reads I (.tuple ds) y u he ry
  exact SeqAt.in_tuple_reads r2 r1 (SeqAt.canLay_of_shaped se) (SeqAt.canLay_of_shaped sd) (room_in_shaped sd hu) ⟨.bl _, H, I, rfl, q⟩
theorem op_notInT (hu : X.A.units + 65 < cLine) : OpR X (compareOp .NotIn) (rInT X.K true) := by
  intro pins s σ H x y v u Q I rx ry h
  obtain ⟨d, ds, hd, he, sd, se, q⟩ := h
  obtain ⟨as, r1⟩ := Dp.reads I d x v hd rx
  obtain ⟨bs, r2⟩ := Dp.reads I (.tuple ds) y u he ry
  exact SeqAt.notIn_tuple_reads r2 r1 (SeqAt.canLay_of_shaped se) (SeqAt.canLay_of_shaped sd) (room_in_shaped sd hu) ⟨.bl _, H, I, rfl, q⟩
end
end DL

set_option Elab.async false
set_option linter.all false
set_option autoImplicit false
set_option maxRecDepth 100000
set_option maxHeartbeats 4000000
namespace DL
open PySem PySem.Spec PyProof.Rows L2

abbrev kwOf (X : Cx) : KW := ⟨X.K, X.prog, X.w⟩
/-! ### keys -/
def keyL : D → Option Key
  | .int i => some (.inl i)
  | .str x => some (.inr x)
  | _ => none
theorem keyL_kD (k : Key) : keyL (kD k) = some k := by cases k <;> rfl
theorem keyL_eq {d : D} {k : Key} (h : keyL d = some k) : d = kD k := by
  unfold keyL at h
  split at h
  · cases h; rfl
  · cases h; rfl
  · cases h
theorem nkT_kD (k : Key) : nkT (kD k) = none := by cases k <;> rfl
theorem nkT_tup {d : D} {k : NestedKey} (h : nkT d = some k) : ∃ ds, d = .tup ds ∧ nkOf (.tup ds) = some k ∧ k.depth ≤ 8 := by
  unfold nkT at h
  split at h
  · obtain ⟨k', e, h⟩ := Option.bind_eq_some_iff.mp h
    split at h
    · rename_i hd
      cases h
      exact ⟨_, rfl, e, hd⟩
    · cases h
  · cases h
theorem keyL_nk {d : D} {k : NestedKey} (h : nkT d = some k) : keyL d = none := by
  obtain ⟨ds, rfl, _⟩ := nkT_tup h
  rfl
section
variable {X : Cx} {F : Addr → Prop} {pins : List (Addr × Obj)} {σ : St'} {H : Hp} {s : Shared}
mutual
theorem Dt.nested (I : Inv X pins σ H s) : ∀ {d : D} {v : V} {k : NestedKey} {u : Value}, Dt (kwOf X) F H v d → RelV v u → nkOf d = some k → NestedIs s.heap k u
  | .non, _, _, _, h, r, e => by
    cases h; cases r
    rw [nkOf] at e; cases e
    exact .none
  | .bl b, _, _, _, h, r, e => by
    cases h; cases r
    rw [nkOf] at e; cases e
    exact .bool rfl
  | .int i, _, _, _, h, r, e => by
    cases h; obtain ⟨t, rfl⟩ := r
    rw [nkOf] at e; cases e
    exact .int i t
  | .str x, _, _, _, h, r, e => by
    cases h; obtain ⟨t, rfl⟩ := r
    rw [nkOf] at e; cases e
    exact .text x t
  | .tup ds, _, _, _, h, r, e => by
    cases h with
    | tup hx hr =>
      cases r
      rw [nkOf] at e
      obtain ⟨ks, e1, e2⟩ := Option.map_eq_some_iff.mp e
      cases e2
      obtain ⟨its, rv, ⟨o, ho, hc, n, hd⟩, _⟩ := I.tuple hx.sq
      exact .tup ho hc hd (DtL.nested I hr rv e1)
  | .lst _, _, _, _, _, _, e => by rw [nkOf] at e; cases e
  | .dic _, _, _, _, _, _, e => by rw [nkOf] at e; cases e
  | .set _, _, _, _, _, _, e => by rw [nkOf] at e; cases e
theorem DtL.nested (I : Inv X pins σ H s) : ∀ {ds : List D} {vs : List V} {ks : List NestedKey} {us : List Value}, DtL (kwOf X) F H vs ds → Vals vs us → nkAll ds = some ks → NestedAll s.heap ks us
  | [], _, _, _, h, r, e => by
    cases h; cases r
    rw [nkAll] at e; cases e
    exact .nil
  | d :: ds, _, _, _, h, r, e => by
    cases h with
    | cons h1 h2 =>
      cases r with
      | cons r1 r2 =>
        rw [nkAll] at e
        obtain ⟨k, e1, e⟩ := Option.bind_eq_some_iff.mp e
        obtain ⟨ks, e2, e⟩ := Option.map_eq_some_iff.mp e
        cases e
        exact .cons (Dt.nested I h1 r1 e1) (DtL.nested I h2 r2 e2)
end
theorem raw_at {a : Addr} {es : Array DictEntry} {ep : Nat} (I : Inv X pins σ H s) (h : H a = some (rawO a es ep)) : s.heap.DictRaw a es ep := (I.hok a _ h).1
theorem leaf_of {a : Addr} {es : Array DictEntry} {ep : Nat} {vs : List (Key × Value)} (I : Inv X pins σ H s) (h : H a = some (rawO a es ep)) (l : LeafOk (kwOf X) a es vs) : s.heap.DictOf (mixKind X.prog X.w) a vs := by
  obtain ⟨o, ho, hc, hd⟩ := raw_at I h
  exact ⟨o, es, ep, ho, hc, hd, l.2.2.1, l.2.2.2.1, l.2.2.2.2⟩
theorem nest_is (I : Inv X pins σ H s) : ∀ {xs : List (NestedKey × Addr × Value)} {ds : List (D × D)}, DtT (kwOf X) F H xs ds → ∀ x ∈ xs, (nestedKind X.prog X.w).is s.heap x.1 x.2.1
  | _, _, .nil => fun x hx => by cases hx
  | _, _, .cons e hk hv hd r => fun x hx => by
    rcases List.mem_cons.mp hx with rfl | hx
    · obtain ⟨ds', rfl, e1, e2⟩ := nkT_tup e
      exact ⟨Dt.nested I hk rfl e1, e2⟩
    · exact nest_is I r x hx
theorem nest_of {a : Addr} {es : Array DictEntry} {ep : Nat} {xs : List (NestedKey × Addr × Value)} {ds : List (D × D)} (I : Inv X pins σ H s) (h : H a = some (rawO a es ep)) (l : NestOk (kwOf X) a es xs) (r : DtT (kwOf X) F H xs ds) : s.heap.DictOfH (nestedKind X.prog X.w) a xs := by
  obtain ⟨o, ho, hc, hd⟩ := raw_at I h
  exact ⟨o, es, ep, ho, hc, hd, l.2.2.1, nest_is I r, l.2.2.2⟩
end
section
variable {K : KW} {F : Addr → Prop} {H : Hp} {a : Addr} {ds : List (D × D)}
theorem dtk_nil {xs : List (Key × V)} (r : DtK K F H xs []) : xs = [] := by cases r; rfl
theorem dtt_nil {xs : List (NestedKey × Addr × Value)} (r : DtT K F H xs []) : xs = [] := by cases r; rfl
/-- all keys ints and texts -/
theorem DicC.leaf (h : DicC K F H a ds) (c : ds.all (fun p => (keyL p.1).isSome) = true) : ∃ es ep vs kvs, H a = some (rawO a es ep) ∧ LeafOk K a es vs ∧ KV kvs vs ∧ DtK K F H kvs ds := by
  obtain ⟨es, ep, q, h⟩ := h
  rcases h with ⟨vs, kvs, l, k, r⟩ | ⟨xs, l, r⟩
  · exact ⟨es, ep, vs, kvs, q, l, k, r⟩
  · cases r with
    | nil =>
      have e : es = #[] := by
        have := l.2.2.1
        simpa using this
      subst e
      exact ⟨_, ep, [], [], q, ⟨l.1, Nat.zero_le _, fun e he => by simp at he, .nil, List.nodup_nil⟩, .nil, .nil⟩
    | cons e hk hv hd r =>
      rw [List.all_cons, Bool.and_eq_true] at c
      rw [keyL_nk e] at c
      cases c.1
/-- all keys tuples -/
theorem DicC.nest (h : DicC K F H a ds) (c : ds.all (fun p => (nkT p.1).isSome) = true) : ∃ es ep xs, H a = some (rawO a es ep) ∧ NestOk K a es xs ∧ DtT K F H xs ds := by
  obtain ⟨es, ep, q, h⟩ := h
  rcases h with ⟨vs, kvs, l, k, r⟩ | ⟨xs, l, r⟩
  · cases r with
    | nil =>
      cases k
      have e : es = #[] := by
        have := l.2.2.2.1
        generalize he : es.toList = ls at this
        cases this
        simpa using he
      subst e
      exact ⟨_, ep, [], q, ⟨l.1, Nat.zero_le _, rfl, List.nodup_nil⟩, .nil⟩
    | cons h r =>
      rw [List.all_cons, Bool.and_eq_true] at c
      rw [nkT_kD] at c
      cases c.1
  · exact ⟨es, ep, xs, q, l, r⟩
def isK (k : Key) (p : D × D) : Bool := decide (keyL p.1 = some k)
def isN (k : NestedKey) (p : D × D) : Bool := decide (nkT p.1 = some k)
/-- what the pairs hold at a key -/
def dicGet (kvs : List (D × D)) (d : D) : Option (Option D) := match keyL d with
  | some k => if kvs.all (fun p => (keyL p.1).isSome) = true then some ((kvs.find? (isK k)).map (·.2)) else none
  | none => match nkT d with
    | some k => if kvs.all (fun p => (nkT p.1).isSome) = true then some ((kvs.find? (isN k)).map (·.2)) else none
    | none => none
theorem valueAt_cons {κ : Type} [DecidableEq κ] {p : κ × Value} {r : List (κ × Value)} {k : κ} : valueAt (p :: r) k = if p.1 = k then some p.2 else valueAt r k := by
  unfold valueAt
  by_cases c : p.1 = k
  · rw [List.find?_cons_of_pos (by simp [c]), if_pos c]; rfl
  · rw [List.find?_cons_of_neg (by simp [c]), if_neg c]
theorem leaf_find {k : Key} : ∀ {kvs : List (Key × V)} {vs : List (Key × Value)} {ds : List (D × D)}, KV kvs vs → DtK K F H kvs ds →
    match ds.find? (isK k) with
    | some p => ∃ v u, valueAt vs k = some u ∧ RelV v u ∧ Dt K F H v p.2
    | none => valueAt vs k = none
  | _, _, _, .nil, .nil => rfl
  | (k', v') :: _, _, _, .cons e r, .cons (d := d') h r' => by
    have ih := leaf_find (k := k) r r'
    rw [valueAt_cons]
    by_cases c : k' = k
    · subst c
      rw [List.find?_cons_of_pos (by simp [isK, keyL_kD]), if_pos e.1.symm]
      exact ⟨_, _, rfl, e.2, h⟩
    · rw [List.find?_cons_of_neg (by simp [isK, keyL_kD, c]), if_neg (fun z => c (e.1.trans z))]
      exact ih
theorem atKey_cons {p : NestedKey × Addr × Value} {r : List (NestedKey × Addr × Value)} {k : NestedKey} : atKey (p :: r) k = if p.1 = k then some p.2 else atKey r k := by
  unfold atKey
  by_cases c : p.1 = k
  · rw [List.find?_cons_of_pos (by simp [c]), if_pos c]; rfl
  · rw [List.find?_cons_of_neg (by simp [c]), if_neg c]
theorem nest_find {k : NestedKey} : ∀ {xs : List (NestedKey × Addr × Value)} {ds : List (D × D)}, DtT K F H xs ds →
    match ds.find? (isN k) with
    | some p => ∃ v q, atKey xs k = some q ∧ RelV v q.2 ∧ Dt K F H v p.2
    | none => atKey xs k = none
  | _, _, .nil => rfl
  | _, _, .cons (k := k') e hk hv hd r => by
    have ih := nest_find (k := k) r
    rw [atKey_cons]
    by_cases c : k' = k
    · subst c
      rw [List.find?_cons_of_pos (by simp [isN, e]), if_pos rfl]
      exact ⟨_, _, rfl, hv, hd⟩
    · rw [List.find?_cons_of_neg (by simp [isN, e, c]), if_neg c]
      exact ih
end
/-! ### d[k], k in d, d.get -/
section
variable {X : Cx} {pins : List (Addr × Obj)} {σ : St'} {H : Hp} {s : Shared} {a : Addr} {A : Around} {E : Value → Shared → Prop} {F F' : Addr → Prop} {kvs : List (D × D)} {y : V} {d : D} {u : Value} {o : Option D}
/-- what a look-up in the dict at a gives -/
inductive Look2 (X : Cx) (F : Addr → Prop) (H : Hp) (s : Shared) (a : Addr) (u : Value) (o : Option D) : Prop where
  | leaf {k : Key} {vs : List (Key × Value)} : s.heap.DictOf (mixKind X.prog X.w) a vs → (a == sysModules) = false → vs.length ≤ sizeLine → keyIs k u = true →
      (match o with
        | some d => ∃ v q, valueAt vs k = some q ∧ RelV v q ∧ Dt (kwOf X) F H v d
        | none => valueAt vs k = none) → Look2 X F H s a u o
  | nest {k : NestedKey} {xs : List (NestedKey × Addr × Value)} {b : Addr} : s.heap.DictOfH (nestedKind X.prog X.w) a xs → (a == sysModules) = false → xs.length ≤ sizeLine → u = .ref b → (nestedKind X.prog X.w).is s.heap k b →
      (match o with
        | some d => ∃ v q, atKey xs k = some q ∧ RelV v q.2 ∧ Dt (kwOf X) F H v d
        | none => atKey xs k = none) → Look2 X F H s a u o
theorem look2 (I : Inv X pins σ H s) (hc : DicC (kwOf X) F H a kvs) (hy : Dt (kwOf X) F' H y d) (ry : RelV y u) (e : dicGet kvs d = some o) : Look2 X F H s a u o := by
  unfold dicGet at e
  split at e
  · rename_i k hk
    split at e
    · rename_i c
      cases e
      obtain ⟨es, ep, vs, kv, q, l, r1, r2⟩ := hc.leaf c
      have ed := keyL_eq hk
      subst ed
      have ku : keyIs k u = true := by
        cases k with
        | inl i => cases hy; obtain ⟨t, rfl⟩ := ry; exact keyIs_int i t
        | inr x => cases hy; obtain ⟨t, rfl⟩ := ry; exact keyIs_str x t
      refine .leaf (leaf_of I q l) l.1 l.2.1 ku ?_
      have z := leaf_find (k := k) r1 r2
      cases f : kvs.find? (isK k) with
      | none => rw [f] at z; exact z
      | some p => rw [f] at z; exact z
    · cases e
  · split at e
    · rename_i k hk
      split at e
      · rename_i c
        cases e
        obtain ⟨es, ep, xs, q, l, r⟩ := hc.nest c
        obtain ⟨ds, rfl, e1, e2⟩ := nkT_tup hk
        cases hy with
        | tup hx hr =>
          cases ry
          refine .nest (nest_of I q l r) l.1 l.2.1 rfl ⟨Dt.nested I (.tup hx hr) rfl e1, e2⟩ ?_
          have z := nest_find (k := k) r
          cases f : kvs.find? (isN k) with
          | none => rw [f] at z; exact z
          | some p => rw [f] at z; exact z
      · cases e
    · cases e
end
end DL

set_option Elab.async false
set_option linter.all false
set_option autoImplicit false
set_option maxRecDepth 100000
set_option maxHeartbeats 4000000
namespace DL
open PySem PySem.Spec PyProof.Rows L2

/-! ### x[i] -/
def rIxDic (K : KW) : R2 := fun x y H Q => ∃ (F F' : Addr → Prop) (a : Addr) (kvs : List (D × D)) (d dv : D), x = .ref a ∧ DicC K F H a kvs ∧ Dt K F' H y d ∧ dicGet kvs d = some (some dv) ∧ ∀ v, Dt K F H v dv → Q v H
section
variable {X : Cx}
theorem ix_dic (hu : X.A.units + 1 + 8 < cLine) : IxR X (rIxDic (kwOf X)) := by
  intro value slice pins s σ H x y v u Q I rx ry h hs
  obtain ⟨F, F', a, kvs, d, dv, rfl, hc, hy, hg, q⟩ := h
  obtain rfl : v = Value.ref a := rx
  have l := look2 I hc hy ry hg
  have ty : s.TypeIs (.ref a) "dict" := by
    obtain ⟨es, ep, e, _⟩ := hc
    exact (raw_at I e).typeIs
  cases l with
  | leaf dd hsy hz ku z =>
    obtain ⟨v, q1, e, r, hd⟩ := z
    exact subscriptTail_builtinR (x := q1) ty PySem.F.slot_dict_getitem.lookup (wpAny_getItem_of (knd := mixKind X.prog X.w) ku dd.mapOf e ⟨rfl, v, H, I.tok _, r, q v hd⟩) hs
  | nest dd hsy hz eu ku z =>
    subst eu
    obtain ⟨v, q1, e, r, hd⟩ := z
    exact subscriptTail_builtinR (x := q1.2) ty PySem.F.slot_dict_getitem.lookup (wpAny_getItem_heap (knd := nestedKind X.prog X.w) hu ku dd e ⟨rfl, v, H, I.tok _, r, q v hd⟩) hs
def rIxX (K : KW) : R2 := fun x y H Q => rIx K.f x y H Q ∨ rIxDic K x y H Q
theorem ix_any (hu : X.A.units + 1 + 8 < cLine) : IxR X (rIxX (kwOf X)) := ix_seq.or (ix_dic hu)
/-- k in d -/
def rInDic (K : KW) (neg : Bool) : R2 := fun y x H Q => ∃ (F F' : Addr → Prop) (a : Addr) (kvs : List (D × D)) (d : D) (o : Option D), x = .ref a ∧ DicC K F H a kvs ∧ Dt K F' H y d ∧ dicGet kvs d = some o ∧ Q (.bl (if neg then !o.isSome else o.isSome)) H
theorem look2_isSome {F : Addr → Prop} {H : Hp} {vs : List (Key × Value)} {k : Key} {o : Option D} (z : match o with
        | some d => ∃ v q, valueAt vs k = some q ∧ RelV v q ∧ Dt (kwOf X) F H v d
        | none => valueAt vs k = none) : (valueAt vs k).isSome = o.isSome := by
  cases o with
  | none => rw [z]; rfl
  | some d => obtain ⟨v, q, e, _⟩ := z; rw [e]; rfl
theorem look2_isSomeH {F : Addr → Prop} {H : Hp} {vs : List (NestedKey × Addr × Value)} {k : NestedKey} {o : Option D} (z : match o with
        | some d => ∃ v q, atKey vs k = some q ∧ RelV v q.2 ∧ Dt (kwOf X) F H v d
        | none => atKey vs k = none) : (atKey vs k).isSome = o.isSome := by
  cases o with
  | none => rw [z]; rfl
  | some d => obtain ⟨v, q, e, _⟩ := z; rw [e]; rfl
theorem op_inDic (hu : X.A.units + 1 + 8 < cLine) : OpR X (compareOp .In) (rInDic (kwOf X) false) := by
  intro pins s σ H y x u v Q I ry rx h
  obtain ⟨F, F', a, kvs, d, o, rfl, hc, hy, hg, q⟩ := h
  obtain rfl : v = Value.ref a := rx
  cases look2 I hc hy ry hg with
  | leaf dd hsy hz ku z =>
    exact wpAny_in_of (knd := mixKind X.prog X.w) ku hsy dd.mapOf (by rw [look2_isSome z]; exact ⟨.bl _, H, I.tok _, rfl, q⟩)
  | nest dd hsy hz eu ku z =>
    subst eu
    exact wpAny_in_heap (knd := nestedKind X.prog X.w) hu ku hsy dd (by rw [look2_isSomeH z]; exact ⟨.bl _, H, I.tok _, rfl, q⟩)
theorem op_notInDic (hu : X.A.units + 1 + 8 < cLine) : OpR X (compareOp .NotIn) (rInDic (kwOf X) true) := by
  intro pins s σ H y x u v Q I ry rx h
  obtain ⟨F, F', a, kvs, d, o, rfl, hc, hy, hg, q⟩ := h
  obtain rfl : v = Value.ref a := rx
  cases look2 I hc hy ry hg with
  | leaf dd hsy hz ku z =>
    exact wpAny_notIn_of (knd := mixKind X.prog X.w) ku hsy dd.mapOf (by rw [look2_isSome z]; exact ⟨.bl _, H, I.tok _, rfl, q⟩)
  | nest dd hsy hz eu ku z =>
    subst eu
    exact wpAny_notIn_heap (knd := nestedKind X.prog X.w) hu ku hsy dd (by rw [look2_isSomeH z]; exact ⟨.bl _, H, I.tok _, rfl, q⟩)
def rInStr (neg : Bool) : R2 := fun x y H Q => ∃ i j, x = .str i ∧ y = .str j ∧ Q (.bl (if neg then !(!(Builtin.Str.occurrences j i 0 j.length 1).isEmpty) else !(Builtin.Str.occurrences j i 0 j.length 1).isEmpty)) H
def rInL (K : PySem.W.Frag) (neg : Bool) : R2 := fun x y H Q => ∃ d ds, Dp K H x d ∧ Dp K H y (.list ds) ∧ SeqAt.shaped d = true ∧ SeqAt.shaped (.list ds) = true ∧ Q (.bl (if neg then !ds.any (fun z => PyData.eqv z d) else ds.any fun z => PyData.eqv z d)) H
def rInX (K : KW) (neg : Bool) : R2 := fun x y H Q => (rInL K.f neg x y H Q ∨ rInT K.f neg x y H Q) ∨ (rInDic K neg x y H Q ∨ rInStr neg x y H Q)
theorem opx_in (hu : X.A.units + 65 < cLine) : OpR X (compareOp .In) (rInX (kwOf X) false) := ((show OpR X _ (rInL X.K false) from op_inD hu).or (op_inT hu)).or ((op_inDic (by omega)).or (show OpR X _ (rInStr false) from op_in_str))
theorem opx_notIn (hu : X.A.units + 65 < cLine) : OpR X (compareOp .NotIn) (rInX (kwOf X) true) := ((show OpR X _ (rInL X.K true) from op_notInD hu).or (op_notInT hu)).or ((op_notInDic (by omega)).or (show OpR X _ (rInStr true) from op_notin_str))
end
section
variable {K : KW}
theorem DtL.atI {F : Addr → Prop} {H : Hp} {vs : List V} {ds : List D} {i : Int} {d : D} (r : DtL K F H vs ds) (e : L2.atI ds i = some d) : ∃ v, L2.atI vs i = some v ∧ Dt K F H v d := by
  unfold L2.atI at e ⊢
  rw [r.length]
  obtain ⟨j, hj, e⟩ := Option.bind_eq_some_iff.mp e
  obtain ⟨v, hv, hd⟩ := r.get e
  exact ⟨v, by rw [hj]; exact hv, hd⟩
theorem dr_key {F : Addr → Prop} {H : Hp} {x : V} {d : D} {kvs : List (D × D)} {o : Option D} (h : Dr K F H x d) (e : dicGet kvs d = some o) : Dt K F H x d := by
  cases d with
  | lst ds => simp [dicGet, keyL, nkT] at e
  | dic ds => simp [dicGet, keyL, nkT] at e
  | set ds => simp [dicGet, keyL, nkT] at e
  | _ => exact h
def ixD : D → D → Option D
  | .lst ds, .int i => L2.atI ds i
  | .tup ds, .int i => L2.atI ds i
  | .str z, .int i => if z.length ≤ szl then (L2.atI z.cps.toList i).map fun c => .str ⟨#[c]⟩ else none
  | .dic kvs, d => (dicGet kvs d).bind id
  | _, _ => none
theorem od_ix : OpD K .E (rIxX K) ixD := by
  intro F H x y d e out hf hx hy hg Q q
  unfold ixD at hg
  split at hg
  · obtain ⟨a, xs, rfl, hx, r⟩ := hx
    rw [dr_int hy]
    obtain ⟨v, hv, hd⟩ := r.atI hg
    exact .inl (.inl ⟨a, xs, _, v, rfl, rfl, .inl (.inl hx), hv, q v H (Same.refl _) hd⟩)
  · obtain ⟨a, xs, rfl, hx, r⟩ := dr_tup hx
    rw [dr_int hy]
    obtain ⟨v, hv, hd⟩ := r.atI hg
    exact .inl (.inr (.inl ⟨a, xs, _, v, rfl, rfl, hx.sq, hv, q v H (Same.refl _) hd⟩))
  · split at hg
    · rename_i hl
      obtain ⟨c, hc, e⟩ := Option.map_eq_some_iff.mp hg
      cases e
      rw [dr_str hx, dr_int hy]
      exact .inl (.inr (.inr ⟨_, _, c, rfl, rfl, szl_le hl, hc, q _ H (Same.refl _) (Dt.str _)⟩))
    · cases hg
  · obtain ⟨o, e, h⟩ := Option.bind_eq_some_iff.mp hg
    have ho : o = some out := h
    subst ho
    obtain ⟨a, rfl, hc⟩ := hx
    exact .inr ⟨F, F, a, _, _, out, rfl, hc, dr_key hy e, e, fun v hv => q v H (Same.refl _) hv⟩
  · cases hg
def hasSub (x y : Str) : Bool := !(Builtin.Str.occurrences y x 0 y.length 1).isEmpty
def inB (d : D) : D → Option Bool
  | .lst ds => if (shp d && shp (.lst ds)) = true then some ((toPL ds).any fun z => PyData.eqv z (toP d)) else none
  | .tup ds => if (shp d && shp (.tup ds)) = true then some ((toPL ds).any fun z => PyData.eqv z (toP d)) else none
  | .dic kvs => (dicGet kvs d).map fun o => o.isSome
  | .str y => match d with
    | .str x => some (hasSub x y)
    | _ => none
  | _ => none
def inD (d e : D) : Option D := (inB d e).map .bl
def notInD (d e : D) : Option D := (inB d e).map fun b => .bl (!b)
theorem in_any {F : Addr → Prop} {H : Hp} {x y : V} {d e : D} {b neg : Bool} {Q : VK} (hx : Dr K F H x d) (hy : Dr K F H y e) (h : inB d e = some b) (q : Q (.bl (if neg then !b else b)) H) : rInX K neg x y H Q := by
  unfold inB at h
  split at h
  · split at h
    · rename_i hs
      rw [Bool.and_eq_true] at hs
      cases h
      have h2 := hy.dp (shp_lay hs.2)
      rw [toP] at h2
      refine .inl (.inl ⟨_, _, hx.dp (shp_lay hs.1), h2, hs.1, ?_, q⟩)
      have := hs.2
      unfold shp at this
      rw [toP] at this
      exact this
    · cases h
  · split at h
    · rename_i hs
      rw [Bool.and_eq_true] at hs
      cases h
      have h2 := hy.dp (shp_lay hs.2)
      rw [toP] at h2
      refine .inl (.inr ⟨_, _, hx.dp (shp_lay hs.1), h2, hs.1, ?_, q⟩)
      have := hs.2
      unfold shp at this
      rw [toP] at this
      exact this
    · cases h
  · obtain ⟨o, e, e'⟩ := Option.map_eq_some_iff.mp h
    cases e'
    obtain ⟨a, rfl, hc⟩ := hy
    exact .inr (.inl ⟨F, F, a, _, _, o, rfl, hc, dr_key hx e, e, q⟩)
  · split at h
    · cases h
      rw [dr_str hx, dr_str hy]
      exact .inr (.inr ⟨_, _, rfl, rfl, q⟩)
    · cases h
  · cases h
theorem od_in : OpD K .E (rInX K false) inD := by
  intro F H x y d e out hf hx hy hg Q q
  obtain ⟨b, hb, e⟩ := Option.map_eq_some_iff.mp hg
  cases e
  exact in_any hx hy hb (q _ H (Same.refl _) (Dt.bl _))
theorem od_notIn : OpD K .E (rInX K true) notInD := by
  intro F H x y d e out hf hx hy hg Q q
  obtain ⟨b, hb, e⟩ := Option.map_eq_some_iff.mp hg
  cases e
  exact in_any hx hy hb (q _ H (Same.refl _) (Dt.bl _))

/-! ### slices -/
def SemO (K : KW) (p : Bool) (t : TO) (f : Sd → Option (Option Int × Sd)) : Prop := ∀ (G : Ctx) W σ H sd, Rel K G W σ H sd → ∀ o sd', f sd = some (o, sd') → ∀ Q : Option Int → Hp → Prop,
  (∀ H', Stp (Fo G W) H H' → Rel K G W σ H' sd' → (p = true → sd' = sd ∧ Same H H') → Q o H') → t σ H Q
def oNone : Sd → Option (Option Int × Sd) := fun sd => some (none, sd)
def oSome (e : Ev) : Sd → Option (Option Int × Sd) := fun sd => (e sd).bind fun r => match r.1 with
  | .int i => some (some i, r.2)
  | _ => none
theorem so_none : SemO K true tNoPart oNone := by
  intro G W σ H sd R o sd' e Q q
  cases e
  exact q H (Stp.refl _ _) R fun _ => ⟨rfl, Same.refl _⟩
theorem so_some {k : Kd} {p : Bool} {te : TE} {fe : Ev} (h : SemE K k p te fe) : SemO K p (tPart te) (oSome fe) := by
  intro G W σ H sd R o sd' e Q q
  obtain ⟨⟨d, sd1⟩, e1, e⟩ := Option.bind_eq_some_iff.mp e
  simp only at e
  split at e
  · cases e
    exact h G W σ H sd R _ _ e1 _ fun v H' s R' pp r => ⟨_, dr_int r.dr, q H' s R' pp⟩
  · cases e
def cutD (ds : List D) (lo hi : Option Int) : List D := (ds.drop (HT.sIx ds.length 0 lo)).take (HT.sIx ds.length ds.length hi - HT.sIx ds.length 0 lo)
theorem DtL.cut {F : Addr → Prop} {H : Hp} {vs : List V} {ds : List D} {lo hi : Option Int} (r : DtL K F H vs ds) : DtL K F H (cutV vs lo hi) (cutD ds lo hi) := by
  unfold cutV cutD
  rw [r.length]
  exact (r.drop _).take _
def rSlX (K : PySem.W.Frag) : V → Option Int → Option Int → Hp → VK → Prop := fun x lo hi H Q => (rSlL K x lo hi H Q ∨ rSlA K x lo hi H Q) ∨ rSlS x lo hi H Q
def slD (d : D) (lo hi : Option Int) : Option D := match d with
  | .lst ds => some (.lst (cutD ds lo hi))
  | .tup ds => some (.tup (cutD ds lo hi))
  | .str z => if z.length ≤ szl then some (.str (cutS z lo hi)) else none
  | _ => none
def eSl (e : Ev) (l h : Sd → Option (Option Int × Sd)) : Ev := fun sd => (e sd).bind fun r => (l r.2).bind fun a => (h a.2).bind fun b => (slD r.1 a.1 b.1).map fun d => (d, b.2)
def eSlN (e : Ev) (l h : Sd → Option (Option Int × Sd)) : Ev := fun sd => (e sd).bind fun r => (l r.2).bind fun a => (h a.2).bind fun b => match r.1 with
  | .lst ds => some (.lst (cutD ds a.1 b.1), b.2)
  | _ => none
theorem sl_whole {ds : List D} {lo hi : Option Int} (h : HT.sIx ds.length 0 lo = 0 ∧ HT.sIx ds.length ds.length hi = ds.length) : cutD ds lo hi = ds := by
  unfold cutD
  rw [h.1, h.2]
  simp
section
variable {k : Kd} {p p2 p3 : Bool} {te : TE} {fe : Ev} {tl th : TO} {fl fh : Sd → Option (Option Int × Sd)}
theorem se_sl (c1 : Carry k p2) (c2 : Carry k p3) (he : SemE K k p te fe) (hl : SemO K p2 tl fl) (hh : SemO K p3 th fh) : SemE K .E (p && (p2 && p3)) (tSl (rSlX K.f) te tl th) (eSl fe fl fh) := by
  intro G W σ H sd R d sd' e Q q
  obtain ⟨⟨d1, sd1⟩, e1, e⟩ := Option.bind_eq_some_iff.mp e
  obtain ⟨⟨lo, sd2⟩, e2, e⟩ := Option.bind_eq_some_iff.mp e
  obtain ⟨⟨hi, sd3⟩, e3, e⟩ := Option.bind_eq_some_iff.mp e
  obtain ⟨d4, e4, e⟩ := Option.map_eq_some_iff.mp e
  cases e
  refine he G W σ H sd R d1 sd1 e1 _ fun x H1 s1 R1 pp1 x1 => ?_
  refine hl G W σ H1 sd1 R1 lo sd2 e2 _ fun H2 s2 R2 pp2 => ?_
  refine hh G W σ H2 sd2 R2 hi _ e3 _ fun H3 s3 R3 pp3 => ?_
  have x3 : Dr K (Fo G W) H3 x d1 := by
    have y2 := x1.carry c1 s2 fun z => (pp2 z).2
    rcases c2 with rfl | rfl
    · rcases c1 with _ | _
      · exact Dt.dr (Dt.stp (s2.trans s3) x1)
      · exact Dt.dr (Dt.stp (s2.trans s3) x1)
    · exact y2.same (pp3 rfl).2
  have pur : (p && (p2 && p3)) = true → sd3 = sd ∧ Same H H3 := fun z => by
    rw [Bool.and_eq_true, Bool.and_eq_true] at z
    exact ⟨(pp3 z.2.2).1.trans ((pp2 z.2.1).1.trans (pp1 z.1).1), ((pp1 z.1).2.trans (pp2 z.2.1).2).trans (pp3 z.2.2).2⟩
  have st := (s1.trans s2).trans s3
  have e4 : slD d1 lo hi = some d := e4
  unfold slD at e4
  split at e4
  · cases e4
    obtain ⟨a, xs, rfl, hx, r⟩ := x3
    refine .inl (.inl ⟨a, xs, rfl, .inl (.inl hx), fun b hb => ?_⟩)
    exact q _ _ (st.trans (Stp.of_same (same_upd hb))) (R3.same (same_upd hb)) (fun z => ⟨(pur z).1, (pur z).2.trans (same_upd hb)⟩) (Dt.lst (fun z => R3.fdom z hb) upd_same (r.cut.stp (Stp.of_same (same_upd hb))))
  · cases e4
    obtain ⟨a, xs, rfl, hx, r⟩ := dr_tup x3
    refine .inl (.inr ⟨a, xs, rfl, hx.sq, fun hw => ?_, fun hw b hb => ?_⟩)
    · rw [r.length] at hw
      rw [sl_whole hw] at q
      exact q _ H3 st R3 pur (Dt.tup hx r)
    · exact q _ _ (st.trans (Stp.of_same (same_upd hb))) (R3.same (same_upd hb)) (fun z => ⟨(pur z).1, (pur z).2.trans (same_upd hb)⟩) (Dt.tup (.inl upd_same) (r.cut.stp (Stp.of_same (same_upd hb))))
  · split at e4
    · rename_i hl
      cases e4
      rw [dr_str x3]
      exact .inr ⟨_, rfl, szl_le hl, q _ H3 st R3 pur (Dt.str _)⟩
    · cases e4
  · cases e4
/-- .. of a list: a new one -/
theorem se_slN (c1 : Carry k p2) (c2 : Carry k p3) (he : SemE K k p te fe) (hl : SemO K p2 tl fl) (hh : SemO K p3 th fh) : SemE K .N (p && (p2 && p3)) (tSl (rSlL K.f) te tl th) (eSlN fe fl fh) := by
  intro G W σ H sd R d sd' e Q q
  obtain ⟨⟨d1, sd1⟩, e1, e⟩ := Option.bind_eq_some_iff.mp e
  obtain ⟨⟨lo, sd2⟩, e2, e⟩ := Option.bind_eq_some_iff.mp e
  obtain ⟨⟨hi, sd3⟩, e3, e⟩ := Option.bind_eq_some_iff.mp e
  refine he G W σ H sd R d1 sd1 e1 _ fun x H1 s1 R1 pp1 x1 => ?_
  refine hl G W σ H1 sd1 R1 lo sd2 e2 _ fun H2 s2 R2 pp2 => ?_
  refine hh G W σ H2 sd2 R2 hi _ e3 _ fun H3 s3 R3 pp3 => ?_
  have x3 : Dr K (Fo G W) H3 x d1 := by
    have y2 := x1.carry c1 s2 fun z => (pp2 z).2
    rcases c2 with rfl | rfl
    · exact Dt.dr (Dt.stp (s2.trans s3) x1)
    · exact y2.same (pp3 rfl).2
  have pur : (p && (p2 && p3)) = true → sd3 = sd ∧ Same H H3 := fun z => by
    rw [Bool.and_eq_true, Bool.and_eq_true] at z
    exact ⟨(pp3 z.2.2).1.trans ((pp2 z.2.1).1.trans (pp1 z.1).1), ((pp1 z.1).2.trans (pp2 z.2.1).2).trans (pp3 z.2.2).2⟩
  have st := (s1.trans s2).trans s3
  simp only at e
  split at e
  · cases e
    obtain ⟨a, xs, rfl, hx, r⟩ := x3
    refine ⟨a, xs, rfl, .inl (.inl hx), fun b hb => ?_⟩
    refine q _ _ (st.trans (Stp.of_same (same_upd hb))) (R3.same (same_upd hb)) (fun z => ⟨(pur z).1, (pur z).2.trans (same_upd hb)⟩) ⟨b, rfl, ?_, OwnAt.newL hb r.cut⟩
    exact Classical.byContradiction fun z => R3.dom s3 (R2.dom s2 (R1.dom s1 z)) hb
  · cases e
/-- a slice of the script -/
def eSlS (i : Nat) (l h : Sd → Option (Option Int × Sd)) : Ev := fun sd => match sd[i]? with
  | some (.sc ns) => (l sd).bind fun a => (h a.2).bind fun b => some (.lst (cutD (ns.map D.int) a.1 b.1), b.2)
  | _ => none
theorem se_slS {i : Nat} (hl : SemO K true tl fl) (hh : SemO K true th fh) : SemE K .N true (tSl (rSlL K.f) (tVar i) tl th) (eSlS i fl fh) := by
  intro G W σ H sd R d sd' e Q q
  unfold eSlS at e
  split at e
  · rename_i ns hs
    obtain ⟨⟨lo, sd2⟩, e2, e⟩ := Option.bind_eq_some_iff.mp e
    obtain ⟨⟨hi, sd3⟩, e3, e⟩ := Option.bind_eq_some_iff.mp e
    cases e
    obtain ⟨h1, h2, a, hv, hsc⟩ := R.slot i _ hs
    refine ⟨.ref a, DL.getσ hv, hl G W σ H sd R lo sd2 e2 _ fun H2 s2 R2 pp2 => ?_⟩
    refine hh G W σ H2 sd2 R2 hi _ e3 _ fun H3 s3 R3 pp3 => ?_
    obtain ⟨q1, q2⟩ := pp2 rfl
    obtain ⟨q3, q4⟩ := pp3 rfl
    have sm := q2.trans q4
    refine ⟨a, _, rfl, (hsc.mv (Stp.of_same sm) fun z => z).sq, fun b hb => ?_⟩
    refine q _ _ (Stp.of_same (sm.trans (same_upd hb))) (R3.same (same_upd hb)) (fun z => ⟨q3.trans q1, sm.trans (same_upd hb)⟩) ⟨b, rfl, ?_, OwnAt.newL hb (DtL.cut (DtL.of_ints ns))⟩
    exact Classical.byContradiction fun z => R3.dom (Stp.of_same sm) z hb
  · cases e
end

/-! ### built-ins of one value -/
def C1D (K : KW) (k : Kd) (r : List V → Hp → VK → Prop) (g : D → Option D) : Prop := ∀ (F : Addr → Prop) (H : Hp) (x : V) (d out : D), (∀ a, F a → H a ≠ none) → Dr K F H x d → g d = some out → ∀ Q : VK,
  (∀ v H', Same H H' → Res k K F H H' v out → Q v H') → r [x] H Q
def C2D (K : KW) (k : Kd) (r : List V → Hp → VK → Prop) (g : D → D → Option D) : Prop := ∀ (F : Addr → Prop) (H : Hp) (x y : V) (d e out : D), (∀ a, F a → H a ≠ none) → Dr K F H x d → Dr K F H y e → g d e = some out → ∀ Q : VK,
  (∀ v H', Same H H' → Res k K F H H' v out → Q v H') → r [x, y] H Q
section
variable {k k1 k2 : Kd} {p p2 : Bool} {te tf : TE} {fe ff : Ev}
theorem se_c1 {r : List V → Hp → VK → Prop} {g : D → Option D} (hc : C1D K k r g) (h : SemE K k1 p te fe) : SemE K k p (tCB r (tCons te tNil)) (eUn g fe) := by
  intro G W σ H sd R d sd' e Q q
  obtain ⟨⟨d1, sd1⟩, e1, e⟩ := Option.bind_eq_some_iff.mp e
  obtain ⟨d3, e3, e⟩ := Option.map_eq_some_iff.mp e
  cases e
  refine h G W σ H sd R d1 _ e1 _ fun x H1 s1 R1 pp1 x1 => ?_
  refine hc (Fo G W) H1 x d1 _ (fun a z => R1.fdom z) x1.dr e3 Q fun v H3 s3 r3 => ?_
  exact q v H3 (s1.trans (Stp.of_same s3)) (R1.same s3) (fun z => ⟨(pp1 z).1, (pp1 z).2.trans s3⟩) (r3.older fun a z => R1.dom s1 z)
theorem se_c2 {r : List V → Hp → VK → Prop} {g : D → D → Option D} (c : Carry k1 p2) (hc : C2D K k r g) (h : SemE K k1 p te fe) (h2 : SemE K k2 p2 tf ff) : SemE K k (p && p2) (tCB r (tCons te (tCons tf tNil))) (eOp g fe ff) := by
  intro G W σ H sd R d sd' e Q q
  obtain ⟨⟨d1, sd1⟩, e1, e⟩ := Option.bind_eq_some_iff.mp e
  obtain ⟨⟨d2, sd2⟩, e2, e⟩ := Option.bind_eq_some_iff.mp e
  obtain ⟨d3, e3, e⟩ := Option.map_eq_some_iff.mp e
  cases e
  refine h G W σ H sd R d1 _ e1 _ fun x H1 s1 R1 pp1 x1 => ?_
  refine h2 G W σ H1 sd1 R1 d2 _ e2 _ fun y H2 s2 R2 pp2 x2 => ?_
  refine hc (Fo G W) H2 x y d1 d2 _ (fun a z => R2.fdom z) (x1.carry c s2 fun z => (pp2 z).2) x2.dr e3 Q fun v H3 s3 r3 => ?_
  refine q v H3 ((s1.trans s2).trans (Stp.of_same s3)) (R2.same s3) (fun z => ?_) (r3.older fun a z => R2.dom s2 (R1.dom s1 z))
  rw [Bool.and_eq_true] at z
  exact ⟨(pp2 z.2).1.trans (pp1 z.1).1, ((pp1 z.1).2.trans (pp2 z.2).2).trans s3⟩
end
def rLenD (K : PySem.W.Frag) : List V → Hp → VK → Prop := fun xs H Q => ∃ x n, xs = [x] ∧ LenV K x H n ∧ Q (.int n) H
def lenD : D → Option D
  | .lst ds => some (.int ds.length)
  | .tup ds => some (.int ds.length)
  | .str z => if z.length ≤ szl then some (.int z.length) else none
  | _ => none
theorem cd_len : C1D K .E (rLenD K.f) lenD := by
  intro F H x d out hf hx hg Q q
  unfold lenD at hg
  split at hg
  · cases hg
    obtain ⟨a, xs, rfl, hx, r⟩ := hx
    rw [← r.length] at q
    exact ⟨_, _, rfl, .inl ⟨xs, .inl (.inl hx), rfl⟩, q _ H (Same.refl _) (Dt.int _)⟩
  · cases hg
    obtain ⟨a, xs, rfl, hx, r⟩ := dr_tup hx
    rw [← r.length] at q
    exact ⟨_, _, rfl, .inr ⟨xs, hx.sq, rfl⟩, q _ H (Same.refl _) (Dt.int _)⟩
  · split at hg
    · rename_i hl
      cases hg
      rw [dr_str hx]
      exact ⟨_, _, rfl, ⟨szl_le hl, rfl⟩, q _ H (Same.refl _) (Dt.int _)⟩
    · cases hg
  · cases hg
def rTupleD (K : PySem.W.Frag) : List V → Hp → VK → Prop := fun xs H Q => ∃ p ys, xs = [.ref p] ∧ ((SqL K H p ys ∧ ∀ l, H l = none → Q (.ref l) (upd H l (.tup ys))) ∨ (SqT K H p ys ∧ Q (.ref p) H))
def tupleD : D → Option D
  | .lst ds => some (.tup ds)
  | .tup ds => some (.tup ds)
  | _ => none
theorem cd_tuple : C1D K .E (rTupleD K.f) tupleD := by
  intro F H x d out hf hx hg Q q
  unfold tupleD at hg
  split at hg
  · cases hg
    obtain ⟨a, xs, rfl, hx, r⟩ := hx
    exact ⟨a, xs, rfl, .inl ⟨.inl (.inl hx), fun l hl => q _ _ (same_upd hl) (Dt.tup (.inl upd_same) (r.stp (Stp.of_same (same_upd hl))))⟩⟩
  · cases hg
    obtain ⟨a, xs, rfl, hx, r⟩ := dr_tup hx
    exact ⟨a, xs, rfl, .inr ⟨hx.sq, q _ H (Same.refl _) (Dt.tup hx r)⟩⟩
  · cases hg
def rListD' (K : PySem.W.Frag) : List V → Hp → VK → Prop := fun xs H Q => ∃ p ys, xs = [.ref p] ∧ (SqL K H p ys ∨ SqT K H p ys) ∧ ∀ l, H l = none → Q (.ref l) (upd H l (.lst ys))
def listD : D → Option D
  | .lst ds => some (.lst ds)
  | .tup ds => some (.lst ds)
  | _ => none
theorem cd_list : C1D K .N (rListD' K.f) listD := by
  intro F H x d out hf hx hg Q q
  unfold listD at hg
  split at hg
  · cases hg
    obtain ⟨a, xs, rfl, hx, r⟩ := hx
    exact ⟨a, xs, rfl, .inl (.inl (.inl hx)), fun l hl => q _ _ (same_upd hl) ⟨l, rfl, hl, OwnAt.newL hl r⟩⟩
  · cases hg
    obtain ⟨a, xs, rfl, hx, r⟩ := dr_tup hx
    exact ⟨a, xs, rfl, .inr hx.sq, fun l hl => q _ _ (same_upd hl) ⟨l, rfl, hl, OwnAt.newL hl r⟩⟩
  · cases hg
/-- list(script) -/
def eListS (i : Nat) : Ev := fun sd => match sd[i]? with
  | some (.sc ns) => some (.lst (ns.map D.int), sd)
  | _ => none
theorem se_listS {i : Nat} : SemE K .N true (tCB (rListD' K.f) (tCons (tVar i) tNil)) (eListS i) := by
  intro G W σ H sd R d sd' e Q q
  unfold eListS at e
  split at e
  · rename_i ns hs
    cases e
    obtain ⟨h1, h2, a, hv, hsc⟩ := R.slot i _ hs
    refine ⟨.ref a, DL.getσ hv, a, _, rfl, .inl hsc.sq, fun l hl => ?_⟩
    exact q _ _ (Stp.of_same (same_upd hl)) (R.same (same_upd hl)) (fun _ => ⟨rfl, same_upd hl⟩) ⟨l, rfl, hl, OwnAt.newL hl (DtL.of_ints ns)⟩
  · cases e
def intsD : List D → Option (List Int)
  | [] => some []
  | d :: r => match d with
    | .int i => (intsD r).map fun is => i :: is
    | _ => none
theorem intsD_eq : ∀ {ds : List D} {is : List Int}, intsD ds = some is → ds = is.map D.int
  | [], is, h => by cases h; rfl
  | d :: r, is, h => by
    unfold intsD at h
    split at h
    · obtain ⟨is', e, e'⟩ := Option.map_eq_some_iff.mp h
      cases e'
      rw [intsD_eq e]
      rfl
    · cases h
theorem intsD_of : ∀ is : List Int, intsD (is.map D.int) = some is
  | [] => rfl
  | i :: r => by rw [List.map_cons, intsD, intsD_of r]; rfl
def sumD : D → Option D
  | .lst ds => (intsD ds).map fun is => .int is.sum
  | _ => none
theorem cd_sum : C1D K .E (rSum K.f) sumD := by
  intro F H x d out hf hx hg Q q
  unfold sumD at hg
  split at hg
  · obtain ⟨is, e, e'⟩ := Option.map_eq_some_iff.mp hg
    cases e'
    obtain ⟨a, xs, rfl, hx, r⟩ := hx
    rw [intsD_eq e] at r
    have ex := r.ints
    subst ex
    exact ⟨a, is, rfl, .inl (.inl hx), q _ H (Same.refl _) (Dt.int _)⟩
  · cases hg
def minI : List Int → Int
  | [] => 0
  | [i] => i
  | i :: r => min i (minI r)
def maxI : List Int → Int
  | [] => 0
  | [i] => i
  | i :: r => max i (maxI r)
theorem minI_spec : ∀ {is : List Int}, is ≠ [] → minI is ∈ is ∧ ∀ j ∈ is, minI is ≤ j
  | [], h => absurd rfl h
  | [i], _ => ⟨by simp [minI], fun j hj => by simp at hj; simp [minI, hj]⟩
  | i :: j :: r, _ => by
    obtain ⟨h1, h2⟩ := minI_spec (is := j :: r) (by simp)
    have e : minI (i :: j :: r) = min i (minI (j :: r)) := rfl
    rw [e]
    refine ⟨?_, fun x hx => ?_⟩
    · rcases Int.le_total i (minI (j :: r)) with c | c
      · rw [Int.min_eq_left c]; exact List.mem_cons_self
      · rw [Int.min_eq_right c]; exact List.mem_cons_of_mem _ h1
    · rcases List.mem_cons.mp hx with rfl | hx
      · exact Int.min_le_left _ _
      · exact Int.le_trans (Int.min_le_right _ _) (h2 x hx)
theorem maxI_spec : ∀ {is : List Int}, is ≠ [] → maxI is ∈ is ∧ ∀ j ∈ is, j ≤ maxI is
  | [], h => absurd rfl h
  | [i], _ => ⟨by simp [maxI], fun j hj => by simp at hj; simp [maxI, hj]⟩
  | i :: j :: r, _ => by
    obtain ⟨h1, h2⟩ := maxI_spec (is := j :: r) (by simp)
    have e : maxI (i :: j :: r) = max i (maxI (j :: r)) := rfl
    rw [e]
    refine ⟨?_, fun x hx => ?_⟩
    · rcases Int.le_total i (maxI (j :: r)) with c | c
      · rw [Int.max_eq_right c]; exact List.mem_cons_of_mem _ h1
      · rw [Int.max_eq_left c]; exact List.mem_cons_self
    · rcases List.mem_cons.mp hx with rfl | hx
      · exact Int.le_max_left _ _
      · exact Int.le_trans (h2 x hx) (Int.le_max_right _ _)
def minD : D → Option D
  | .lst ds => (intsD ds).bind fun is => if is = [] then none else some (.int (minI is))
  | _ => none
def maxD : D → Option D
  | .lst ds => (intsD ds).bind fun is => if is = [] then none else some (.int (maxI is))
  | _ => none
theorem cd_min : C1D K .E (rMin K.f) minD := by
  intro F H x d out hf hx hg Q q
  unfold minD at hg
  split at hg
  · obtain ⟨is, e, e'⟩ := Option.bind_eq_some_iff.mp hg
    split at e'
    · cases e'
    · rename_i hne
      cases e'
      obtain ⟨a, xs, rfl, hx, r⟩ := hx
      rw [intsD_eq e] at r
      have ex := r.ints
      subst ex
      refine ⟨a, is, rfl, .inl (.inl hx), List.length_pos_iff.mpr hne, fun m hm hle => ?_⟩
      obtain ⟨h1, h2⟩ := minI_spec hne
      have em : m = minI is := Int.le_antisymm (hle _ h1) (h2 _ hm)
      rw [em]
      exact q _ H (Same.refl _) (Dt.int _)
  · cases hg
theorem cd_max : C1D K .E (rMax K.f) maxD := by
  intro F H x d out hf hx hg Q q
  unfold maxD at hg
  split at hg
  · obtain ⟨is, e, e'⟩ := Option.bind_eq_some_iff.mp hg
    split at e'
    · cases e'
    · rename_i hne
      cases e'
      obtain ⟨a, xs, rfl, hx, r⟩ := hx
      rw [intsD_eq e] at r
      have ex := r.ints
      subst ex
      refine ⟨a, is, rfl, .inl (.inl hx), List.length_pos_iff.mpr hne, fun m hm hle => ?_⟩
      obtain ⟨h1, h2⟩ := maxI_spec hne
      have em : m = maxI is := Int.le_antisymm (h2 _ hm) (hle _ h1)
      rw [em]
      exact q _ H (Same.refl _) (Dt.int _)
  · cases hg
def rMin2 : List V → Hp → VK → Prop := fun xs H Q => ∃ i j, xs = [.int i, .int j] ∧ Q (.int (if j < i then j else i)) H
def rMax2' : List V → Hp → VK → Prop := fun xs H Q => ∃ i j, xs = [.int i, .int j] ∧ Q (.int (if j > i then j else i)) H
def min2D : D → D → Option D := iI fun i j => some (.int (min i j))
def max2D : D → D → Option D := iI fun i j => some (.int (max i j))
theorem cd_min2 : C2D K .E rMin2 min2D := by
  intro F H x y d e out hf hx hy hg Q q
  unfold min2D iI at hg
  split at hg
  · cases hg
    rw [dr_int hx, dr_int hy]
    refine ⟨_, _, rfl, ?_⟩
    rename_i i j
    have e : (if j < i then j else i) = min i j := by
      split
      · rw [Int.min_eq_right (by omega)]
      · rw [Int.min_eq_left (by omega)]
    rw [e]
    exact q _ H (Same.refl _) (Dt.int _)
  · cases hg
theorem cd_max2 : C2D K .E rMax2' max2D := by
  intro F H x y d e out hf hx hy hg Q q
  unfold max2D iI at hg
  split at hg
  · cases hg
    rw [dr_int hx, dr_int hy]
    refine ⟨_, _, rfl, ?_⟩
    rename_i i j
    have e : (if j > i then j else i) = max i j := by
      split
      · rw [Int.max_eq_right (by omega)]
      · rw [Int.max_eq_left (by omega)]
    rw [e]
    exact q _ H (Same.refl _) (Dt.int _)
  · cases hg
def rAbs : List V → Hp → VK → Prop := fun xs H Q => ∃ i, xs = [.int i] ∧ Q (.int (if i < 0 then -i else i)) H
def absD : D → Option D
  | .int i => some (.int (if i < 0 then -i else i))
  | _ => none
theorem cd_abs : C1D K .E rAbs absD := by
  intro F H x d out hf hx hg Q q
  unfold absD at hg
  split at hg
  · cases hg
    rw [dr_int hx]
    exact ⟨_, rfl, q _ H (Same.refl _) (Dt.int _)⟩
  · cases hg
def rInt1 : List V → Hp → VK → Prop := fun xs H Q => (∃ i, xs = [.int i] ∧ Q (.int i) H) ∨ ∃ k, xs = [.bl k] ∧ Q (.int (if k then 1 else 0)) H
def intD : D → Option D
  | .int i => some (.int i)
  | .bl b => some (.int (if b = true then 1 else 0))
  | _ => none
theorem cd_int : C1D K .E rInt1 intD := by
  intro F H x d out hf hx hg Q q
  unfold intD at hg
  split at hg
  · cases hg
    rw [dr_int hx]
    exact .inl ⟨_, rfl, q _ H (Same.refl _) (Dt.int _)⟩
  · cases hg
    rw [dr_bl hx]
    exact .inr ⟨_, rfl, q _ H (Same.refl _) (Dt.int _)⟩
  · cases hg
def blsD : List D → Option (List Bool)
  | [] => some []
  | d :: r => match d with
    | .bl i => (blsD r).map fun is => i :: is
    | _ => none
theorem blsD_eq : ∀ {ds : List D} {is : List Bool}, blsD ds = some is → ds = is.map D.bl
  | [], is, h => by cases h; rfl
  | d :: r, is, h => by
    unfold blsD at h
    split at h
    · obtain ⟨is', e, e'⟩ := Option.map_eq_some_iff.mp h
      cases e'
      rw [blsD_eq e]
      rfl
    · cases h
theorem blsD_of : ∀ is : List Bool, blsD (is.map D.bl) = some is
  | [] => rfl
  | i :: r => by rw [List.map_cons, blsD, blsD_of r]; rfl
def allD : D → Option D
  | .lst ds => (blsD ds).map fun is => .bl (is.all id)
  | _ => none
def anyD : D → Option D
  | .lst ds => (blsD ds).map fun is => .bl (is.any id)
  | _ => none
theorem cd_all : C1D K .E (rAll K.f) allD := by
  intro F H x d out hf hx hg Q q
  unfold allD at hg
  split at hg
  · obtain ⟨is, e, e'⟩ := Option.map_eq_some_iff.mp hg
    cases e'
    obtain ⟨a, xs, rfl, hx, r⟩ := hx
    rw [blsD_eq e] at r
    have ex := r.bls
    subst ex
    exact ⟨a, is, rfl, .inl (.inl hx), q _ H (Same.refl _) (Dt.bl _)⟩
  · cases hg
theorem cd_any : C1D K .E (rAny K.f) anyD := by
  intro F H x d out hf hx hg Q q
  unfold anyD at hg
  split at hg
  · obtain ⟨is, e, e'⟩ := Option.map_eq_some_iff.mp hg
    cases e'
    obtain ⟨a, xs, rfl, hx, r⟩ := hx
    rw [blsD_eq e] at r
    have ex := r.bls
    subst ex
    exact ⟨a, is, rfl, .inl (.inl hx), q _ H (Same.refl _) (Dt.bl _)⟩
  · cases hg
end
end DL

set_option Elab.async false
set_option linter.all false
set_option autoImplicit false
set_option maxRecDepth 100000
set_option maxHeartbeats 4000000
namespace DL
open PySem PySem.Spec PyProof.Rows L2

/-! ### own objects are changed -/
section
variable {K : KW} {G : Ctx} {W : Wn} {σ : St'} {H : Hp} {sd : Sd} {i : Nat} {s : Slot} {a : Addr} {d : D} {o : HO}
theorem Rel.put (R : Rel K G W σ H sd) (hs : sd[i]? = some s) (ho : isOwn s = true) (hw : W i = some a) (hd : OwnAt K (Fo G W) (upd H a o) a d) : Rel K G W σ (upd H a o) (sd.set i (putD s d)) ∧ Stp (Fo G W) H (upd H a o) := by
  have keep : ∀ x u, H x = some u → x ≠ a → (upd H a o) x = some u := fun x u e nx => by rw [upd_ne nx]; exact e
  obtain ⟨d0, own, _, _⟩ := R.own hw
  obtain ⟨ob, hob, nt⟩ := own.there
  have st : Stp (Fo G W) H (upd H a o) := fun x u e z => by
    refine keep x u e fun ex => ?_
    subst ex
    rw [hob] at e
    cases e
    rcases z with z | ⟨xs, z⟩
    · exact z (.inr ⟨i, hw⟩)
    · exact nt xs z
  have hi : i < sd.length := (List.getElem?_eq_some_iff.mp hs).1
  refine ⟨⟨by rw [List.length_set]; exact R.len, fun j x e => ?_, fun j hj => R.out j (by rw [List.length_set] at hj; exact hj), R.inj, R.wM, R.new, fun x u e hbx => ?_, fun x u e => ?_⟩, st⟩
  · by_cases ej : j = i
    · subst ej
      rw [List.getElem?_set_self hi] at e
      cases e
      have z := R.slot j s hs
      cases s with
      | ow d => obtain ⟨h1, b', hw', h3, _⟩ := z; rw [hw] at hw'; cases hw'; exact ⟨h1, a, hw, h3, hd⟩
      | rf d => obtain ⟨b', h1, hw', h3, _⟩ := z; rw [hw] at hw'; cases hw'; exact ⟨a, h1, hw, h3, hd⟩
      | _ => cases ho
    · rw [List.getElem?_set_ne (Ne.symm ej)] at e
      refine (R.slot j x e).mv st (fun _ z => z) fun y hy u eo => keep y u eo fun ey => ?_
      subst ey
      exact ej (R.inj j i _ hy hw)
  · have := R.keep x u e hbx
    refine keep x u this fun ex => ?_
    subst ex
    rcases R.new i _ hw with z | z
    · exact hbx i z
    · rw [z] at e; cases e
  · refine keep x u (R.fix x u e) fun ex => ?_
    subst ex
    rw [R.wM i _ hw] at e
    cases e
theorem Rel.ownOf (R : Rel K G W σ H sd) (hs : sd[i]? = some s) {c : D} (hc : slotD s = some c) : ∃ a, W i = some a ∧ σ[i]? = some (some (.ref a)) ∧ OwnAt K (Fo G W) H a c ∧ isOwn s = true := by
  have z := R.slot i s hs
  cases s with
  | ow d => cases hc; obtain ⟨_, a, hw, h1, h2⟩ := z; exact ⟨a, hw, DL.getσ h1, h2, rfl⟩
  | rf d => cases hc; obtain ⟨a, _, hw, h1, h2⟩ := z; exact ⟨a, hw, DL.getσ h1, h2, rfl⟩
  | _ => cases hc
end
section
variable {K : KW} {k : Kd} {p p2 : Bool} {te ti : TE} {fe fi : Ev} {i : Nat}
/-- the own object in slot i, changed by g -/
def upSlot (i : Nat) (g : D → Option D) (sd : Sd) : Option Sd := (sd[i]?).bind fun s => (slotD s).bind fun c => (g c).map fun c' => sd.set i (putD s c')
def isLst : D → Bool
  | .lst _ => true
  | _ => false
def ownLst (i : Nat) (sd : Sd) : Bool := match sd[i]? with
  | some s => (match slotD s with
    | some c => isLst c
    | none => false)
  | none => false
def appD (x : D) : D → Option D
  | .lst ds => if ds.length ≤ szl then some (.lst (ds ++ [x])) else none
  | _ => none
def extD (x : D) : D → Option D
  | .lst ds => match x with
    | .lst es => if ds.length + es.length ≤ szl then some (.lst (ds ++ es)) else none
    | _ => none
  | _ => none
def xApp (i : Nat) (e : Ev) : Xv := fun sd => if ownLst i sd = true then (e sd).bind fun r => (upSlot i (appD r.1) r.2).map fun s => (.nx, s) else none
def xExt (i : Nat) (e : Ev) : Xv := fun sd => if ownLst i sd = true then (e sd).bind fun r => (upSlot i (extD r.1) r.2).map fun s => (.nx, s) else none
theorem ownLst_at {G : Ctx} {W : Wn} {σ : St'} {H : Hp} {sd : Sd} (R : Rel K G W σ H sd) (h : ownLst i sd = true) : ∃ a xs, W i = some a ∧ σ[i]? = some (some (.ref a)) ∧ H a = some (.lst xs) := by
  unfold ownLst at h
  split at h
  · rename_i s hs
    split at h
    · rename_i c hc
      obtain ⟨a, hw, hv, o, _⟩ := R.ownOf hs hc
      cases c with
      | lst ds => obtain ⟨xs, e, _⟩ := o; exact ⟨a, xs, hw, hv, e⟩
      | _ => cases h
    · cases h
  · cases h
theorem ss_app (h : SemE K .E p te fe) : SemS K (tDrop (tBM K.f "list" rAppend (tVar i) (tCons te tNil))) (xApp i fe) := by
  intro G W σ H sd R fl sd' e Z q
  unfold xApp at e
  split at e
  · rename_i ho
    obtain ⟨a, xs0, hw, hv, hx0⟩ := ownLst_at R ho
    obtain ⟨⟨d, sd1⟩, e1, e⟩ := Option.bind_eq_some_iff.mp e
    obtain ⟨sd2, e2, e⟩ := Option.map_eq_some_iff.mp e
    cases e
    refine ⟨_, hv, .inl ⟨rfl, xs0, .inl (.inl hx0)⟩, h G W σ H sd R d sd1 e1 _ fun v H' st R' _ r => ?_⟩
    obtain ⟨s, hs, e2⟩ := Option.bind_eq_some_iff.mp e2
    obtain ⟨c, hc, e2⟩ := Option.bind_eq_some_iff.mp e2
    obtain ⟨c', hc', e2⟩ := Option.map_eq_some_iff.mp e2
    cases e2
    obtain ⟨b, hw', hv', o, io⟩ := R'.ownOf hs hc
    rw [hw] at hw'
    cases hw'
    unfold appD at hc'
    split at hc'
    · split at hc'
      · rename_i hl
        cases hc'
        obtain ⟨xs, hx, rx⟩ := o
        have r : Dt K (Fo G W) H' v d := r
        refine ⟨a, xs, v, rfl, rfl, hx, szl_lt (by rw [rx.length]; exact hl), ?_⟩
        have nt : Stp (Fo G W) H' (upd H' a (.lst (xs ++ [v]))) := fun x u e z => by
          rw [upd_ne fun ex => ?_]
          · exact e
          · subst ex
            rw [hx] at e
            cases e
            rcases z with z | ⟨_, z⟩
            · exact z (.inr ⟨i, hw⟩)
            · cases z
        obtain ⟨R2, s2⟩ := R'.put (o := .lst (xs ++ [v])) (d := .lst _) hs io hw ⟨_, upd_same, (rx.append (.cons r .nil)).stp nt⟩
        exact q W σ _ R2 (Frm.stp (st.trans s2))
      · cases hc'
    · cases hc'
  · cases e
theorem ss_ext (h : SemE K k p te fe) : SemS K (tDrop (tBM K.f "list" rExtend (tVar i) (tCons te tNil))) (xExt i fe) := by
  intro G W σ H sd R fl sd' e Z q
  unfold xExt at e
  split at e
  · rename_i ho
    obtain ⟨a, xs0, hw, hv, hx0⟩ := ownLst_at R ho
    obtain ⟨⟨d, sd1⟩, e1, e⟩ := Option.bind_eq_some_iff.mp e
    obtain ⟨sd2, e2, e⟩ := Option.map_eq_some_iff.mp e
    cases e
    refine ⟨_, hv, .inl ⟨rfl, xs0, .inl (.inl hx0)⟩, h G W σ H sd R d sd1 e1 _ fun v H' st R' _ r => ?_⟩
    obtain ⟨s, hs, e2⟩ := Option.bind_eq_some_iff.mp e2
    obtain ⟨c, hc, e2⟩ := Option.bind_eq_some_iff.mp e2
    obtain ⟨c', hc', e2⟩ := Option.map_eq_some_iff.mp e2
    cases e2
    obtain ⟨b, hw', hv', o, io⟩ := R'.ownOf hs hc
    rw [hw] at hw'
    cases hw'
    have r : Dr K (Fo G W) H' v d := r.dr
    have hc' : extD d c = some c' := hc'
    unfold extD at hc'
    split at hc'
    · split at hc'
      · split at hc'
        · rename_i hl
          cases hc'
          obtain ⟨xs, hx, rx⟩ := o
          obtain ⟨b, ys, rfl, hy, ry⟩ := r
          refine ⟨a, b, xs, ys, rfl, rfl, hx, hy, szl_le (by rw [rx.length, ry.length]; exact hl), ?_⟩
          have nt : Stp (Fo G W) H' (upd H' a (.lst (xs ++ ys))) := fun x u e z => by
            rw [upd_ne fun ex => ?_]
            · exact e
            · subst ex
              rw [hx] at e
              cases e
              rcases z with z | ⟨_, z⟩
              · exact z (.inr ⟨i, hw⟩)
              · cases z
          obtain ⟨R2, s2⟩ := R'.put (o := .lst (xs ++ ys)) (d := .lst _) hs io hw ⟨_, upd_same, (rx.append ry).stp nt⟩
          exact q W σ _ R2 (Frm.stp (st.trans s2))
        · cases hc'
      · cases hc'
    · cases hc'
  · cases e
end

/-! ### x[i] = v, d[k] = v -/
def putBy (t : D × D → Bool) (kvs : List (D × D)) (d dv : D) : List (D × D) := if kvs.any t = true then kvs.map (fun p => if t p = true then (p.1, dv) else p) else kvs ++ [(d, dv)]
def dicPut (kvs : List (D × D)) (d dv : D) : Option (List (D × D)) := if kvs.length ≤ szl then (match keyL d with
  | some k => if kvs.all (fun p => (keyL p.1).isSome) = true then some (putBy (isK k) kvs d dv) else none
  | none => match nkT d with
    | some k => if kvs.all (fun p => (nkT p.1).isSome) = true then some (putBy (isN k) kvs d dv) else none
    | none => none) else none
def rSetDic (K : KW) : TSet := fun o y v H Q => ∃ (F : Addr → Prop) (a : Addr) (kvs kvs' : List (D × D)) (d dv : D), o = .ref a ∧ F a ∧ DicC K F H a kvs ∧ Dt K F H y d ∧ Dt K F H v dv ∧ dicPut kvs d dv = some kvs' ∧
  ∀ es ep, DicC K F (upd H a (rawO a es ep)) a kvs' → Q (upd H a (rawO a es ep))
section
variable {K : KW} {F : Addr → Prop} {H : Hp}
theorem dtk_len : ∀ {kvs : List (Key × V)} {ds : List (D × D)}, DtK K F H kvs ds → kvs.length = ds.length
  | _, _, .nil => rfl
  | _, _, .cons h r => by rw [List.length_cons, List.length_cons, dtk_len r]
theorem dtt_len : ∀ {xs : List (NestedKey × Addr × Value)} {ds : List (D × D)}, DtT K F H xs ds → xs.length = ds.length
  | _, _, .nil => rfl
  | _, _, .cons _ _ _ h r => by rw [List.length_cons, List.length_cons, dtt_len r]
theorem dtk_app {k : Key} {v : V} {d : D} (h : Dt K F H v d) : ∀ {kvs : List (Key × V)} {ds : List (D × D)}, DtK K F H kvs ds → DtK K F H (kvs ++ [(k, v)]) (ds ++ [(kD k, d)])
  | _, _, .nil => .cons h .nil
  | _, _, .cons h' r => .cons h' (dtk_app h r)
theorem kv_app {k : Key} {v : V} {u : Value} (h : RelV v u) : ∀ {kvs : List (Key × V)} {vs : List (Key × Value)}, KV kvs vs → KV (kvs ++ [(k, v)]) (vs ++ [(k, u)])
  | _, _, .nil => .cons ⟨rfl, h⟩ .nil
  | _, _, .cons h' r => .cons h' (kv_app h r)
theorem dtk_any {k : Key} : ∀ {kvs : List (Key × V)} {vs : List (Key × Value)} {ds : List (D × D)}, KV kvs vs → DtK K F H kvs ds → ds.any (isK k) = vs.any (fun kv => decide (kv.1 = k))
  | _, _, _, .nil, .nil => rfl
  | (k', v') :: _, _, _, .cons e r, .cons h r' => by
    rw [List.any_cons, List.any_cons, dtk_any r r', ← e.1]
    simp [isK, keyL_kD]
theorem dtk_map {k : Key} {v : V} {d : D} (h : Dt K F H v d) : ∀ {kvs : List (Key × V)} {ds : List (D × D)}, DtK K F H kvs ds → DtK K F H (kvs.map fun p => if p.1 = k then (p.1, v) else p) (ds.map fun p => if isK k p = true then (p.1, d) else p)
  | _, _, .nil => .nil
  | (k', v') :: _, _, .cons h' r => by
    rw [List.map_cons, List.map_cons]
    by_cases c : k' = k
    · rw [if_pos c, if_pos (by simp [isK, keyL_kD, c])]
      exact .cons h (dtk_map h r)
    · rw [if_neg c, if_neg (by simp [isK, keyL_kD, c])]
      exact .cons h' (dtk_map h r)
theorem kv_map {k : Key} {v : V} {u : Value} (h : RelV v u) : ∀ {kvs : List (Key × V)} {vs : List (Key × Value)}, KV kvs vs → KV (kvs.map fun p => if p.1 = k then (p.1, v) else p) (vs.map fun p => if p.1 = k then (p.1, u) else p)
  | _, _, .nil => .nil
  | (k', v') :: _, (k2, u2) :: _, .cons e r => by
    rw [List.map_cons, List.map_cons]
    have e1 : k' = k2 := e.1
    subst e1
    by_cases c : k' = k
    · rw [if_pos c, if_pos c]
      exact .cons ⟨rfl, h⟩ (kv_map h r)
    · rw [if_neg c, if_neg c]
      exact .cons e (kv_map h r)
theorem leaf_put {k : Key} {v : V} {u : Value} {d : D} (rv : RelV v u) (h : Dt K F H v d) {kvs : List (Key × V)} {vs : List (Key × Value)} {ds : List (D × D)} (r : KV kvs vs) (r' : DtK K F H kvs ds) :
    ∃ kvs', KV kvs' (stored vs k u) ∧ DtK K F H kvs' (putBy (isK k) ds (kD k) d) := by
  unfold stored putBy
  rw [dtk_any r r']
  split
  · exact ⟨_, kv_map rv r, dtk_map h r'⟩
  · exact ⟨_, kv_app rv r, dtk_app h r'⟩
theorem dtt_app {k : NestedKey} {b : Addr} {u : Value} {v : V} {kd d : D} (e : nkT kd = some k) (hk : Dt K F H (.ref b) kd) (rv : RelV v u) (h : Dt K F H v d) : ∀ {xs : List (NestedKey × Addr × Value)} {ds : List (D × D)}, DtT K F H xs ds → DtT K F H (xs ++ [(k, b, u)]) (ds ++ [(kd, d)])
  | _, _, .nil => .cons e hk rv h .nil
  | _, _, .cons e1 h1 r1 h2 r => .cons e1 h1 r1 h2 (dtt_app e hk rv h r)
theorem dtt_any {k : NestedKey} : ∀ {xs : List (NestedKey × Addr × Value)} {ds : List (D × D)}, DtT K F H xs ds → ds.any (isN k) = (atKey xs k).isSome
  | _, _, .nil => rfl
  | (k', b', u') :: xs, _, .cons e hk rv h r => by
    rw [List.any_cons, dtt_any r, atKey_cons]
    by_cases c : k' = k
    · rw [if_pos c]; simp [isN, e, c]
    · rw [if_neg c]; simp [isN, e, c]
theorem dtt_map {k : NestedKey} {u : Value} {v : V} {d : D} (rv : RelV v u) (h : Dt K F H v d) : ∀ {xs : List (NestedKey × Addr × Value)} {ds : List (D × D)}, DtT K F H xs ds → DtT K F H (xs.map (putAt k u)) (ds.map fun p => if isN k p = true then (p.1, d) else p)
  | _, _, .nil => .nil
  | (k', b', u') :: _, _, .cons e hk rv' h' r => by
    rw [List.map_cons, List.map_cons]
    unfold putAt
    by_cases c : k' = k
    · rw [if_pos c, if_pos (by simp [isN, e, c])]
      exact .cons e hk rv h (dtt_map rv h r)
    · rw [if_neg c, if_neg (by simp [isN, e, c])]
      exact .cons e hk rv' h' (dtt_map rv h r)
theorem nest_put {k : NestedKey} {b : Addr} {u : Value} {v : V} {kd d : D} (e : nkT kd = some k) (hk : Dt K F H (.ref b) kd) (rv : RelV v u) (h : Dt K F H v d) {xs : List (NestedKey × Addr × Value)} {ds : List (D × D)} (r : DtT K F H xs ds) :
    DtT K F H (storedH xs k b u) (putBy (isN k) ds kd d) := by
  unfold storedH putBy
  rw [dtt_any r]
  split
  · exact dtt_map rv h r
  · exact dtt_app e hk rv h r
end
section
variable {X : Cx}
theorem set_dic (hu : X.A.units + 1 + 8 < cLine) : PSet X (rSetDic (kwOf X)) := by
  intro pins s σ H o y v ov iv u Q I ro ry rv h
  obtain ⟨F, a, kvs, kvs', d, dv, rfl, fa, hc, hy, hv, hp, q⟩ := h
  obtain rfl : ov = Value.ref a := ro
  have st : ∀ es ep, Stp F H (upd H a (rawO a es ep)) := fun es ep x w e z => by
    obtain ⟨es0, ep0, e0, _⟩ := hc
    rw [upd_ne fun ex => ?_]
    · exact e
    · subst ex
      rw [e0] at e
      cases e
      rcases z with z | ⟨_, z⟩
      · exact z fa
      · cases z
  have mu : Mut (H a) := by
    obtain ⟨es0, ep0, e0, _⟩ := hc
    rw [e0]; exact True.intro
  unfold dicPut at hp
  split at hp
  · rename_i hsz
    split at hp
    · rename_i k hk
      split at hp
      · rename_i c
        cases hp
        obtain ⟨es, ep, vs, kv, e, l, r1, r2⟩ := hc.leaf c
        have ed := keyL_eq hk
        subst ed
        have ku : keyIs k iv = true := by
          cases k with
          | inl i => cases hy; obtain ⟨t, rfl⟩ := ry; exact keyIs_int i t
          | inr x => cases hy; obtain ⟨t, rfl⟩ := ry; exact keyIs_str x t
        refine wpAny_setItem_pairs (knd := mixKind X.prog X.w) (hsz := l.2.1) ku (leaf_of I e l) fun h' dd' hs => ?_
        obtain ⟨o', es', ep', ho, h1, h2, h3, h4, h5⟩ := dd'
        obtain ⟨kv', r3, r4⟩ := leaf_put (k := k) rv hv r1 r2
        have hlen : (stored vs k u).length ≤ sizeLine := by
          rw [← Paired.length r3, dtk_len r4]
          unfold putBy
          split
          · rw [List.length_map]; exact szl_le hsz
          · rw [List.length_append, List.length_singleton]; exact szl_lt hsz
        have raw : h'.DictRaw a es' ep' := ⟨o', ho, h1, h2⟩
        refine ⟨upd H a (rawO a es' ep'), I.write (x := a) (e := a) (t' := s.toks + 1) mu (.inl rfl) (fun b w hb z => (hs.2 b hb).trans z) ⟨o', ho⟩ ⟨raw, ⟨o', ho⟩, fun h1 h2 p k => Heap.DictRaw.at p k⟩, ?_⟩
        exact q es' ep' ⟨es', ep', upd_same, .inl ⟨_, kv', ⟨l.1, hlen, h3, h4, h5⟩, r3, r4.stp (st es' ep')⟩⟩
      · cases hp
    · split at hp
      · rename_i k hk
        split at hp
        · rename_i c
          cases hp
          obtain ⟨es, ep, xs, e, l, r⟩ := hc.nest c
          obtain ⟨ds, rfl, e1, e2⟩ := nkT_tup hk
          cases hy with
          | tup hx hr =>
            cases ry
            rename_i b _
            refine wpAny_setItem_heap (knd := nestedKind X.prog X.w) (hsz := l.2.1) hu ⟨Dt.nested I (.tup hx hr) rfl e1, e2⟩ (nest_of I e l r) fun h' dd' hs => ?_
            obtain ⟨o', es', ep', ho, h1, h2, h3, h4, h5⟩ := dd'
            have r4 := nest_put hk (.tup hx hr) rv hv r
            have hlen : (storedH xs k b u).length ≤ sizeLine := by
              rw [dtt_len r4]
              unfold putBy
              split
              · rw [List.length_map]; exact szl_le hsz
              · rw [List.length_append, List.length_singleton]; exact szl_lt hsz
            have raw : h'.DictRaw a es' ep' := ⟨o', ho, h1, h2⟩
            refine ⟨upd H a (rawO a es' ep'), I.write (x := a) (e := a) (t' := _) mu (.inl rfl) (fun b w hb z => (hs.2 b hb).trans z) ⟨o', ho⟩ ⟨raw, ⟨o', ho⟩, fun h1 h2 p k => Heap.DictRaw.at p k⟩, ?_⟩
            exact q es' ep' ⟨es', ep', upd_same, .inr ⟨_, ⟨l.1, hlen, h3, h5⟩, r4.stp (st es' ep')⟩⟩
        · cases hp
      · cases hp
  · cases hp
def rSetX (K : KW) : TSet := fun o i v H Q => rSetL o i v H Q ∨ rSetDic K o i v H Q
theorem set_any (hu : X.A.units + 1 + 8 < cLine) : PSet X (rSetX (kwOf X)) := by
  intro pins s σ H o y v ov iv u Q I ro ry rv h
  rcases h with h | h
  · exact set_list pins s σ H o y v ov iv u Q I ro ry rv h
  · exact set_dic hu pins s σ H o y v ov iv u Q I ro ry rv h
end
section
variable {K : KW} {k : Kd} {p p2 : Bool} {te ti : TE} {fe fi : Ev} {i : Nat}
def setD (x v : D) : D → Option D
  | .lst ds => match x with
    | .int j => (ixN ds.length j).map fun n => .lst (ds.set n v)
    | _ => none
  | .dic kvs => (dicPut kvs x v).map .dic
  | _ => none
def ownAny (i : Nat) (sd : Sd) : Bool := match sd[i]? with
  | some s => isOwn s
  | none => false
theorem ownAny_at {G : Ctx} {W : Wn} {σ : St'} {H : Hp} {sd : Sd} (R : Rel K G W σ H sd) (h : ownAny i sd = true) : ∃ a, W i = some a ∧ σ[i]? = some (some (.ref a)) := by
  unfold ownAny at h
  split at h
  · rename_i s hs
    have z := R.slot i s hs
    cases s with
    | ow d => obtain ⟨_, a, hw, h1, h2⟩ := z; exact ⟨a, hw, DL.getσ h1⟩
    | rf d => obtain ⟨a, _, hw, h1, h2⟩ := z; exact ⟨a, hw, DL.getσ h1⟩
    | _ => cases h
  · cases h
/-- x[j] = e: e first -/
def xSub (i : Nat) (j e : Ev) : Xv := fun sd => (e sd).bind fun r => if ownAny i r.2 = true then (j r.2).bind fun x => (upSlot i (setD x.1 r.1) x.2).map fun s => (.nx, s) else none
theorem ss_sub (he : SemE K .E p te fe) (hi : SemE K .E p2 ti fi) : SemS K (tAsg te (gSub (tVar i) ti (rSetX K))) (xSub i fi fe) := by
  intro G W σ H sd R fl sd' e Z q
  obtain ⟨⟨d, sd1⟩, e1, e⟩ := Option.bind_eq_some_iff.mp e
  simp only at e
  split at e
  · rename_i ho
    obtain ⟨⟨x, sd2⟩, e2, e⟩ := Option.bind_eq_some_iff.mp e
    obtain ⟨sd3, e3, e⟩ := Option.map_eq_some_iff.mp e
    cases e
    refine he G W σ H sd R d sd1 e1 _ fun v H1 s1 R1 _ r1 => ?_
    obtain ⟨s, hs, e3⟩ := Option.bind_eq_some_iff.mp e3
    obtain ⟨c, hc, e3⟩ := Option.bind_eq_some_iff.mp e3
    obtain ⟨c', hc', e3⟩ := Option.map_eq_some_iff.mp e3
    cases e3
    have r1 : Dt K (Fo G W) H1 v d := r1
    obtain ⟨a, hw, hv⟩ := ownAny_at R1 ho
    refine ⟨_, hv, hi G W σ H1 sd1 R1 x sd2 e2 _ fun y H2 s2 R2 _ r2 => ?_⟩
    have r2 : Dt K (Fo G W) H2 y x := r2
    have r1 : Dt K (Fo G W) H2 v d := r1.stp s2
    obtain ⟨b, hw', _, o, io⟩ := R2.ownOf hs hc
    rw [hw] at hw'
    cases hw'
    have hc' : setD x d c = some c' := hc'
    unfold setD at hc'
    split at hc'
    · split at hc'
      · obtain ⟨n, hn, e'⟩ := Option.map_eq_some_iff.mp hc'
        cases e'
        obtain ⟨xs, hx, rx⟩ := o
        cases r2
        refine .inl ⟨a, xs, _, n, rfl, rfl, hx, by rw [rx.length]; exact hn, ?_⟩
        have nt : Stp (Fo G W) H2 (upd H2 a (.lst (xs.set n v))) := fun x u e z => by
          rw [upd_ne fun ex => ?_]
          · exact e
          · subst ex
            rw [hx] at e
            cases e
            rcases z with z | ⟨_, z⟩
            · exact z (.inr ⟨i, hw⟩)
            · cases z
        obtain ⟨R3, s3⟩ := R2.put (o := .lst (xs.set n v)) (d := .lst _) hs io hw ⟨_, upd_same, (rx.set r1 n).stp nt⟩
        exact q W σ _ R3 (Frm.stp ((s1.trans s2).trans s3))
      · cases hc'
    · obtain ⟨kvs', hk, e'⟩ := Option.map_eq_some_iff.mp hc'
      cases e'
      refine .inr ⟨Fo G W, a, _, kvs', x, d, rfl, .inr ⟨i, hw⟩, o, r2, r1, hk, fun es ep hc2 => ?_⟩
      obtain ⟨R3, s3⟩ := R2.put (o := rawO a es ep) (d := .dic _) hs io hw hc2
      exact q W σ _ R3 (Frm.stp ((s1.trans s2).trans s3))
    · cases hc'
  · cases e

/-! ### a pure expression that reads own objects; what it gives is flat -/
def fzs (is : List Nat) (sd : Sd) : Sd := is.foldl (fun s i => fz1 i s) sd
def eLend (is : List Nat) (f : Ev) : Ev := fun sd => (f (fzs is sd)).bind fun r => if flat r.1 = true then some (r.1, sd) else none
def flat1 : D → Bool
  | .lst ds => flatL ds
  | _ => false
def eLendN (is : List Nat) (f : Ev) : Ev := fun sd => (f (fzs is sd)).bind fun r => if flat1 r.1 = true then some (r.1, sd) else none
def tLend (is : List Nat) (f : Tv) : Tv := fun sd => (f (fzs is sd)).map fun r => (r.1, sd)
variable {tt : TT} {ft : Tv}
theorem se_lend (is : List Nat) (h : SemE K .E true te fe) : SemE K .E true te (eLend is fe) := by
  intro G W σ H sd R d sd' e Q q
  obtain ⟨⟨d1, sd1⟩, e1, e⟩ := Option.bind_eq_some_iff.mp e
  simp only at e
  split at e
  · rename_i hf
    cases e
    obtain ⟨W', R', f'⟩ := R.fzs is
    refine h G W' σ H _ R' _ _ e1 _ fun v H' s R1 pp r => ?_
    have sm := (pp rfl).2
    exact q v H' (Stp.of_same sm) (R.same sm) (fun _ => ⟨rfl, sm⟩) (Dt.flat (Stp.refl _ _) r hf)
  · cases e
theorem se_lendN (is : List Nat) (h : SemE K .N true te fe) : SemE K .N true te (eLendN is fe) := by
  intro G W σ H sd R d sd' e Q q
  obtain ⟨⟨d1, sd1⟩, e1, e⟩ := Option.bind_eq_some_iff.mp e
  simp only at e
  split at e
  · rename_i hf
    cases e
    obtain ⟨W', R', f'⟩ := R.fzs is
    refine h G W' σ H _ R' _ _ e1 _ fun v H' s R1 pp r => ?_
    have sm := (pp rfl).2
    obtain ⟨a, rfl, n, o⟩ := r
    cases d with
    | lst ds =>
      obtain ⟨xs, e, r⟩ := o
      exact q _ H' (Stp.of_same sm) (R.same sm) (fun _ => ⟨rfl, sm⟩) ⟨a, rfl, n, xs, e, DtL.flat (Stp.refl _ _) r hf⟩
    | _ => cases hf
  · cases e
theorem st_lend (is : List Nat) (h : SemT K true tt ft) : SemT K true tt (tLend is ft) := by
  intro G W σ H sd R b sd' e Q q
  obtain ⟨⟨b1, sd1⟩, e1, e⟩ := Option.map_eq_some_iff.mp e
  cases e
  obtain ⟨W', R', f'⟩ := R.fzs is
  refine h G W' σ H _ R' _ _ e1 _ fun H' s R1 pp => ?_
  have sm := (pp rfl).2
  exact q H' (Stp.of_same sm) (R.same sm) fun _ => ⟨rfl, sm⟩
/-- what is flat, or a list of what is flat, new: a call's answer -/
def eFlatN (m : Fn) (a : Av) : Ev := fun sd => (a sd).bind fun r => if flatL r.1 = true then (m (r.1.map .fz)).bind fun q => if flat1 q.1 = true then some (q.1, r.2) else none else none
theorem se_callN {ta : TA} {fa : Av} {m : Fn} {E : XK} (h : SemA K p ta fa) : SemE K .N p (tCall (spD K m) [] E ta) (eFlatN m fa) := by
  intro G W σ H sd R d sd' e Q q
  obtain ⟨⟨ds, sd1⟩, e1, e⟩ := Option.bind_eq_some_iff.mp e
  simp only at e
  split at e
  · rename_i hfa
    obtain ⟨⟨d2, ss'⟩, e2, e⟩ := Option.bind_eq_some_iff.mp e
    simp only at e
    split at e
    · rename_i hfo
      cases e
      refine h G W σ H sd R ds _ e1 _ fun vs H1 s1 R1 pp1 x1 => ?_
      rw [List.append_nil]
      have hd : ∀ a, (fun a => H1 a ≠ none) a → H1 a ≠ none := fun a z => z
      have hb : ∀ (i : Nat) (a : Addr), (fun _ => none : Nat → Option Addr) i = some a → (fun a => H1 a ≠ none) a := fun i a z => nomatch z
      have x2 : DtL K (fun a => H1 a ≠ none) H1 vs ds := DtL.flat (Stp.refl _ _) x1 hfa
      refine ⟨calleeCtx (fun a => H1 a ≠ none) H1 fun _ => none, ds.map .fz, ss', _, rfl, e2, callee_rel hd hb (by rw [List.length_map]; exact x1.length) (fun _ _ => rfl) (fun _ _ _ z => nomatch z) (fun i s es => ?_), ?_, fun v H' k1 k2 hv => ?_⟩
      · rw [List.getElem?_map] at es
        obtain ⟨d', e', rfl⟩ := Option.map_eq_some_iff.mp es
        obtain ⟨v, hv, hx⟩ := x2.get e'
        exact ⟨rfl, rfl, v, hv, hx⟩
      · rw [List.all_map]
        exact List.all_eq_true.mpr fun _ _ => rfl
      · have sm : Same H1 H' := fun b o e => k1 b o e fun _ z => nomatch z
        have hv2 := hv.anti fun b z => (fo_callee hd hb).mpr z
        cases hv2 with
        | lst n hx hr =>
          refine q _ H' (s1.trans (Stp.of_same sm)) (R1.same sm) (fun z => ⟨(pp1 z).1, (pp1 z).2.trans sm⟩) ⟨_, rfl, Classical.byContradiction fun z => n (R1.dom s1 z), _, hx, DtL.flat (Stp.refl _ _) hr hfo⟩
        | _ => cases hfo
    · cases e
  · cases e

/-! ### the module's constants -/
theorem pe_gint {X : Cx} {x : Str} {i : Int} {pos : Pos} (hg : Gl X x) (hm : ∃ t, X.mg x = some (.int i t)) (hd : (x == ("__debug__" : Str)) = false := by decide) : PE X (.Name x pos) (tC (.int i)) := by
  obtain ⟨t, e⟩ := hm
  exact pe_glob hg e ⟨t, rfl⟩ hd
theorem pe_gstr {X : Cx} {x z : Str} {pos : Pos} (hg : Gl X x) (hm : ∃ t, X.mg x = some (.str z t)) (hd : (x == ("__debug__" : Str)) = false := by decide) : PE X (.Name x pos) (tC (.str z)) := by
  obtain ⟨t, e⟩ := hm
  exact pe_glob hg e ⟨t, rfl⟩ hd
end
end DL

set_option Elab.async false
set_option linter.all false
set_option autoImplicit false
set_option maxRecDepth 100000
set_option maxHeartbeats 4000000
namespace DL
open PySem PySem.Spec PyProof.Rows L2

/-! ### isinstance -/
inductive Ty where
  | int | bool | str | tuple | list | dict
def Ty.n : Ty → String
  | .int => "int"
  | .bool => "bool"
  | .str => "str"
  | .tuple => "tuple"
  | .list => "list"
  | .dict => "dict"
def isB (T : Ty) : D → Bool
  | .int _ => match T with
    | .int => true
    | _ => false
  | .bl _ => match T with
    | .int => true
    | .bool => true
    | _ => false
  | .str _ => match T with
    | .str => true
    | _ => false
  | .tup _ => match T with
    | .tuple => true
    | _ => false
  | .lst _ => match T with
    | .list => true
    | _ => false
  | .dic _ => match T with
    | .dict => true
    | _ => false
  | .non => false
  | .set _ => false
def tyN : D → String
  | .int _ => "int"
  | .bl _ => "bool"
  | .str _ => "str"
  | .tup _ => "tuple"
  | .lst _ => "list"
  | .dic _ => "dict"
  | .non => "NoneType"
  | .set _ => "set"
theorem kit_isB (T : Ty) (d : D) : kitB (tyN d) T.n = some (isB T d) := by
  cases d <;> cases T <;> simp only [tyN, isB, Ty.n] <;> decide +kernel
def rIsiD (T : String) : List V → Hp → VK → Prop := fun xs H Q => ∃ a es ep b, xs = [.ref a, .ty T] ∧ H a = some (rawO a es ep) ∧ kitB "dict" T = some b ∧ Q (.bl b) H
section
variable {X : Cx}
theorem call_isiD {T : String} : CallR X (.builtin "isinstance") (rIsiD T) := by
  intro pins s σ H xs us Q I r h
  obtain ⟨a, es, ep, b, rfl, ha, hk, q⟩ := h
  obtain ⟨u, w', rfl, rx, rc⟩ := vals2 r
  obtain rfl : u = Value.ref a := rx
  obtain rfl : w' = Value.type T := rc
  obtain ⟨o, ho, hc, hd⟩ := raw_at I ha
  exact PySem.W.kia_one PySem.W.kitx_dict I.kIn ⟨o, ho, hc.1⟩ (kit_ty hk) (fun z => nomatch z) fun tk => ⟨.bl b, H, I.tok _, rfl, q⟩
def rIsiX (K : PySem.W.Frag) (T : String) : List V → Hp → VK → Prop := fun xs H Q => rIsi K xs H Q ∨ rIsiD T xs H Q
theorem call_isiX {T : String} : CallR X (.builtin "isinstance") (rIsiX X.K T) := call_isi.or call_isiD
end
section
variable {K : KW} {k : Kd} {p : Bool} {te : TE} {fe : Ev}
def isSet : D → Bool
  | .set _ => true
  | _ => false
def isD (T : Ty) (d : D) : Option D := if isSet d = true then none else some (.bl (isB T d))
theorem se_isi (T : Ty) (h : SemE K k p te fe) : SemE K .E p (tCB (rIsiX K.f T.n) (tCons te (tCons (tC (.ty T.n)) tNil))) (eUn (isD T) fe) := by
  intro G W σ H sd R d sd' e Q q
  obtain ⟨⟨d1, sd1⟩, e1, e⟩ := Option.bind_eq_some_iff.mp e
  obtain ⟨d3, e3, e⟩ := Option.map_eq_some_iff.mp e
  cases e
  have e3 : (if isSet d1 = true then none else some (D.bl (isB T d1))) = some _ := e3
  split at e3
  · cases e3
  rename_i ns
  cases e3
  refine h G W σ H sd R d1 _ e1 _ fun x H1 s1 R1 pp1 x1 => ?_
  have q' := q (.bl (isB T d1)) H1 s1 R1 pp1 (Dt.bl _)
  have x2 : Dr K (Fo G W) H1 x d1 := x1.dr
  have go : ∀ {t : Value}, TyX K.f H1 x t → t = .type (tyN d1) → rIsiX K.f T.n [x, .ty T.n] H1 Q := fun {t} ht et => by
    subst et
    exact .inl ⟨x, _, _, _, _, rfl, .ty T.n, ht, kit_ty (kit_isB T d1), q'⟩
  show rIsiX K.f T.n [x, .ty T.n] H1 Q
  cases d1 with
  | non => rw [dr_non x2] at go ⊢; exact go (.base .non) rfl
  | bl b => rw [dr_bl x2] at go ⊢; exact go (.base (.bl b)) rfl
  | int i => rw [dr_int x2] at go ⊢; exact go (.base (.int i)) rfl
  | str i => rw [dr_str x2] at go ⊢; exact go (.base (.str i)) rfl
  | tup ds =>
    obtain ⟨a, xs, rfl, hx, _⟩ := dr_tup x2
    rcases hx with hx | ⟨o, its, n, hx, hc, _⟩
    · exact go (.base (.tup hx)) rfl
    · exact go (.kTuple hx hc) rfl
  | lst ds =>
    obtain ⟨a, xs, rfl, hx, _⟩ := x2
    exact go (.base (.lst hx)) rfl
  | set ds =>
    exact absurd rfl ns
  | dic ds =>
    obtain ⟨a, rfl, es, ep, hx, _⟩ := x2
    exact .inr ⟨a, es, ep, _, rfl, hx, kit_isB T (.dic ds), q'⟩
end
end DL

set_option Elab.async false
set_option linter.all false
set_option autoImplicit false
set_option maxRecDepth 100000
set_option maxHeartbeats 4000000
namespace DL
open PySem PySem.Spec PyProof.Rows L2
section
variable {X : Cx}
theorem slx_any : SlR X (rSlX X.K) := (sl_list.or sl_tupA).or sl_str
end
def tYesD : Tv := fun sd => some (true, sd)
theorem st_yes {K : KW} : SemT K true tYes tYesD := by
  intro G W σ H sd R b sd' e Q q
  cases e
  exact q H (Stp.refl _ _) R fun _ => ⟨rfl, Same.refl _⟩
theorem _root_.L2.Room.u64 {k : Nat} {A : Around} (r : Room k A) : A.units + 64 < cLine := by have := r.un; omega
theorem _root_.L2.Room.u65 {k : Nat} {A : Around} (r : Room k A) : A.units + 65 < cLine := by have := r.un; omega
theorem _root_.L2.Room.u9 {k : Nat} {A : Around} (r : Room k A) : A.units + 1 + 8 < cLine := by have := r.un; omega
/-- a def by name, its promise kept -/
structure Cal (K : KW) (mg : Str → Option Value) (base : Heap) (k : Nat) (x : Str) (ps : List Str) (sp : Sp) where
  f : Addr
  fd : FuncData
  g : mg x = some (.ref f)
  ok : FnOk K.P K.w K.f mg base CX0 k f fd ps sp
  kp : PySem.W.keepIn K.f (.ref f) = true
  b : Binds K.f fd ps []
section
variable {K : KW} {mg : Str → Option Value} {base : Heap} {k : Nat} {f : Addr} {fd : FuncData} {ps N : List Str} {x qual : Str} {params : Arguments} {body : List Stmt} {scope : Scope}
theorem fn_no (F : FunD K.f x qual params body scope [] [] f fd) (S : FnScope N ps scope) : FnOk K.P K.w K.f mg base CX0 (k + 1) f fd ps (spD K fun _ => none) := by
  refine F.ok S (fun vs H Q E h => ?_) (fun cdv A outer s H vs Q E hr h => ?_)
  · obtain ⟨G, ss, ss', d, _, e, _⟩ := h
    cases e
  · obtain ⟨G, ss, ss', d, _, e, _⟩ := h
    cases e
end
end DL

set_option Elab.async false
set_option linter.all false
set_option autoImplicit false
set_option maxRecDepth 100000
set_option maxHeartbeats 4000000
namespace PySem.SeqAt
open PySem PyProof.Rows
section
variable {A : Around} {s : Shared}
theorem call_tuple_lt {prog : Program} {w : World} {E : Value → Shared → Prop} {Q : Value → Shared → Prop} {l b : Addr} {items items2 : Array Value} {e r : Nat → Bool} (hl : s.heap.IsTuple l items) (hb : s.heap.IsTuple b items2)
    (he : ∀ j (h1 : j < items.size) (h2 : j < items2.size), EqAt A.in1 s items[j] items2[j] (e j)) (hr : ∀ j (h1 : j < items.size) (h2 : j < items2.size), e j = false → RcLt A.in1 s items[j] items2[j] (r j))
    (h : Q (.bool (firstLt e r (decide (items.size < items2.size)) (List.range (min items.size items2.size)))) s) : wpAny (model prog w) A (call (.builtin "tuple.__lt__") [.ref l, .ref b]) Q E s := by
  obtain ⟨⟨cls, dd, data, sl⟩, ho, hc, n, hd⟩ := id hl
  obtain ⟨⟨cls2, dd2, data2, sl2⟩, ho2, hc2, n2, hd2⟩ := id hb
  simp only at hc hd hc2 hd2
  subst hc hd hc2 hd2
  exact call_meets F.slot_tuple_lt ⟨_, ho, rfl⟩ F.entry_tuple_lt (F.args_tuple_lt_2 _ _) (tuple_ltAt l b items items2 n n2 dd dd2 sl sl2 e r) ⟨ho, ho2, he, hr, h⟩
end
end PySem.SeqAt
namespace PySem.W
open PySem PySem.Calls PyProof.Rows
section
variable {prog : Program} {w : World} {A : Around} {E : Value → Shared → Prop} {s : Shared}
/-- one tuple against another, both told to be of one type -/
theorem oneLt_tups {xs ys : List PyData} {a b : Value} {as bs : List Addr} {Q : Bool → Shared → Prop} (ra : Reads s.heap a (.tuple xs) as) (rb : Reads s.heap b (.tuple ys) bs) (hal : alikeAll xs ys = true)
    (hu : A.units + min (PyData.tuple xs).depth (PyData.tuple ys).depth < cLine) (hq : Q (dataLt (.tuple xs) (.tuple ys)) s) : wpAny (model prog w) A (oneLt' true a b) Q E s := by
  cases ra with
  | @tuple l o vs n _ as₁ h1 h2 h3 h4 =>
    cases rb with
    | @tuple l' o' vs' n' _ bs₁ k1 k2 k3 k4 =>
      have n1 : vs.size = xs.length := by simpa using SeqAt.ReadsAll.length _ _ _ h4
      have n2 : vs'.size = ys.length := by simpa using SeqAt.ReadsAll.length _ _ _ k4
      rw [dataLt_tuple, ← firstLt_toks xs ys hal, ← n1, ← n2] at hq
      rw [oneLt'_eq]
      simp only [if_true]
      refine wpAny_bind (wpAny_cRoomFor (SeqAt.room_here hu) ?_)
      refine wpAny_bind (wpAny_callSpecialIfBound?_slot (T := "tuple") ⟨_, h1, h2⟩ F.slot_tuple_lt (SeqAt.call_tuple_lt (e := SeqAt.pairEq xs ys) (r := fun j => dataLt (xs.getD j .none) (ys.getD j .none)) ⟨_, h1, h2, _, h3⟩ ⟨_, k1, k2, _, k3⟩ (fun j j1 j2 => ?_) (fun j j1 j2 hj => ?_) ?_))
      · have := eqAt_alikeAll xs ys A.in1 s vs.toList vs'.toList _ _ h4 k4 hal (SeqAt.room_in hu) j (by simpa using j1) (by simpa using j2)
        simpa using this
      · have := rcLt_alikeAll xs ys A.in1 s vs.toList vs'.toList _ _ h4 k4 hal (SeqAt.room_in hu) j (by simpa using j1) (by simpa using j2) hj
        simpa using this
      · exact wpAny_truthy_bool hq
/-- tuples, their first items told -/
theorem firsts_any {vs : List Value} : ∀ {ds : List PyData} {Q : List (Option Value) → Shared → Prop}, EachIs (fun v d => ∃ as, Reads s.heap v d as) vs ds → (∀ d, d ∈ ds → ∃ xs, d = .tuple xs) →
    (∀ fs : List (Option Value), fs.length = ds.length → (∀ (i : Nat) (f : Option Value) (xs : List PyData), fs[i]? = some f → ds[i]? = some (.tuple xs) → (f = none ↔ xs = [])) → Q fs s) → wpAny (model prog w) A (vs.mapM firstOfTuple') Q E s := by
  induction vs with
  | nil =>
    intro ds Q e ht h
    cases e
    rw [List.mapM_nil]
    exact wpAny_pure (h [] rfl fun i f xs e => by simp at e)
  | cons v vs ih =>
    intro ds Q e ht h
    cases e with
    | @cons _ d _ ds r t =>
      obtain ⟨as, r⟩ := r
      obtain ⟨ys, rfl⟩ := ht d List.mem_cons_self
      cases r with
      | @tuple a o xs n _ _ ho hc hd hr =>
        rw [List.mapM_cons]
        refine wpAny_bind ?_
        rw [kas_first_eq]
        refine wpAny_bind (Looks.here (show Looks _ s.heap (typeOf (.ref a)) o.cls from (Looks.ld ho).andThen .now) ?_)
        rw [hc, if_neg (by first | decide | simp)]
        refine wpAny_bind (listItems_at ho hd (wpAny_pure ?_))
        refine wpAny_bind (ih t (fun d hd => ht d (List.mem_cons_of_mem _ hd)) fun fs hl hf => wpAny_pure (h (xs[0]? :: fs) (by rw [List.length_cons, List.length_cons, hl]) fun i f zs e1 e2 => ?_))
        cases i with
        | succ i => exact hf i f zs e1 e2
        | zero =>
          have e1 : some xs[0]? = some f := e1
          have e2 : some (PyData.tuple ys) = some (PyData.tuple zs) := e2
          cases e1
          cases e2
          have n1 : xs.size = ys.length := by simpa using SeqAt.ReadsAll.length _ _ _ hr
          constructor
          · intro z
            have : xs.size = 0 := by
              rcases Nat.eq_zero_or_pos xs.size with q | q
              · exact q
              · rw [Array.getElem?_eq_getElem q] at z
                cases z
            exact List.eq_nil_of_length_eq_zero (by omega)
          · intro z
            subst z
            have : xs.size = 0 := n1
            exact Array.getElem?_eq_none (by omega)
/-- tuples, an empty one with them -/
theorem SortsAt.tups {vs : List Value} {ds : List PyData} (e : EachIs (fun v d => ∃ as, Reads s.heap v d as) vs ds) (hal : AllAlike ds) (hk : ∀ d, d ∈ ds → ∃ xs, d = .tuple xs) (hne : PyData.tuple [] ∈ ds) (hu : ∀ d, d ∈ ds → A.units + d.depth < cLine) : SortsAt prog w A s (dataKind s.heap ds) vs := by
  have room : ∀ {d d' : PyData}, d ∈ ds → A.units + min d.depth d'.depth < cLine := fun {d d'} hd => Nat.lt_of_le_of_lt (Nat.add_le_add_left (Nat.min_le_left _ _) _) (hu d hd)
  refine ⟨fun v hv => ?_, ?_⟩
  · obtain ⟨d, hd, as, r⟩ := e.left v hv
    exact ⟨_, dataKind_some hal hd r⟩
  · cases ds with
    | nil => exact absurd hne (by simp)
    | cons d₀ ds₀ =>
      obtain ⟨x₀, e₀⟩ := hk d₀ List.mem_cons_self
      have hfi : ∀ fs : List (Option Value), fs.length = (d₀ :: ds₀).length → (∀ (i : Nat) (f : Option Value) (xs : List PyData), fs[i]? = some f → (d₀ :: ds₀)[i]? = some (.tuple xs) → (f = none ↔ xs = [])) → (fs.toArray.all fun x => x.isSome) = false ∧ (fs.toArray[0]?.bind id).isSome = !x₀.isEmpty := by
        intro fs hl hf
        constructor
        · obtain ⟨i, hi⟩ := List.getElem?_of_mem hne
          have hi2 : i < fs.length := by
            have := (List.getElem?_eq_some_iff.mp hi).1
            omega
          have z := (hf i fs[i] [] (List.getElem?_eq_getElem hi2) hi).mpr rfl
          rw [Bool.eq_false_iff]
          intro q
          rw [List.all_toArray, List.all_eq_true] at q
          have := q _ (List.getElem_mem hi2)
          rw [z] at this
          cases this
        · cases fs with
          | nil => cases hl
          | cons f fs =>
            have z := hf 0 f x₀ rfl (by rw [e₀]; rfl)
            show (f).isSome = _
            cases f with
            | none => rw [z.mp rfl]; rfl
            | some f =>
              cases x₀ with
              | nil => cases z.mpr rfl
              | cons _ _ => rfl
      cases hx : x₀ with
      | cons y0 yr =>
        refine ⟨general', ?_, fun h2 E Q hq => ?_⟩
        · intro E x y a b Q ha hb hq
          obtain ⟨d, as, hd, ra, rfl⟩ := dataKind_inv ha
          obtain ⟨d', as', hd', rb, rfl⟩ := dataKind_inv hb
          obtain ⟨x1, rfl⟩ := hk d hd
          exact oneLt_alike (f := false) (fun z => by cases z) ra rb (hal _ hd d' hd') (fun z => by cases z) (room hd) hq
        · rw [kat_kind_eq, List.mapM_toArray, map_eq_pure_bind]
          refine wpAny_bind (wpAny_bind (firsts_any e hk fun fs hl hf => wpAny_pure ?_))
          obtain ⟨f1, f2⟩ := hfi fs hl hf
          rw [if_neg (by rw [f1]; exact Bool.false_ne_true), if_pos (by rw [f2, hx]; rfl)]
          exact wpAny_pure hq
      | nil =>
        refine ⟨oneType', ?_, fun h2 E Q hq => ?_⟩
        · intro E x y a b Q ha hb hq
          obtain ⟨d, as, hd, ra, rfl⟩ := dataKind_inv ha
          obtain ⟨d', as', hd', rb, rfl⟩ := dataKind_inv hb
          obtain ⟨x1, rfl⟩ := hk d hd
          obtain ⟨x2, rfl⟩ := hk d' hd'
          rw [keyLt'_oneType]
          exact oneLt_tups ra rb (by simpa [alike] using hal _ hd _ hd') (room hd) hq
        · rw [kat_kind_eq, List.mapM_toArray, map_eq_pure_bind]
          refine wpAny_bind (wpAny_bind (firsts_any e hk fun fs hl hf => wpAny_pure ?_))
          obtain ⟨f1, f2⟩ := hfi fs hl hf
          rw [if_neg (by rw [f1]; exact Bool.false_ne_true), if_neg (by rw [f2, hx]; exact Bool.false_ne_true)]
          rw [oneTypeOnly'_eq, List.mapM_toArray, map_eq_pure_bind]
          refine wpAny_bind (wpAny_bind (wpAny_bind (kas_mapM (r := Value.type "tuple") vs (fun v hv Q' hq => ?_) (wpAny_pure ?_))))
          · obtain ⟨d, hd, as, r⟩ := e.left v hv
            obtain ⟨xs, rfl⟩ := hk d hd
            exact (looks_reads r).here hq
          · have hall2 : ((List.map (fun _ => Value.type "tuple") vs).toArray.all fun x => x == Value.type "tuple") = true := by
              simp only [List.all_toArray, List.all_map, List.all_eq_true]
              intro _ _
              rfl
            cases vs with
            | nil => exact absurd h2 (by simp)
            | cons v vs =>
              show wpAny _ _ _ _ _ _
              dsimp only [List.map]
              rw [show (Value.type "tuple" :: List.map (fun _ => Value.type "tuple") vs).toArray[0]? = some (Value.type "tuple") from rfl]
              dsimp only
              rw [if_pos (by simpa using hall2)]
              exact wpAny_pure (show wpAny _ _ (pure oneType') _ _ _ from wpAny_pure hq)
end
end PySem.W

namespace PySem.W
open PySem PySem.Calls PyProof.Rows
section
variable {prog : Program} {w : World} {A : Around} {E : Value → Shared → Prop} {s : Shared} {β : Type} {R : Value → β → Prop} {enc : β → PyData} {vs : List Value} {bs : List β}
def SortableE (ds : List PyData) : Prop := Sortable ds ∨ ((∀ d, d ∈ ds → ∃ xs, d = .tuple xs) ∧ PyData.tuple [] ∈ ds)
theorem SortsAt.dataE {vs : List Value} {ds : List PyData} (e : EachIs (fun v d => ∃ as, Reads s.heap v d as) vs ds) (hal : AllAlike ds) (hk : SortableE ds) (hu : ∀ d, d ∈ ds → A.units + d.depth < cLine) : SortsAt prog w A s (dataKind s.heap ds) vs := by
  rcases hk with hk | ⟨h1, h2⟩
  · exact SortsAt.data e hal hk hu
  · exact SortsAt.tups e hal h1 h2 hu
theorem bound_map' {n : Nat} (h : ∀ b, b ∈ bs → n + (enc b).depth < cLine) : ∀ d, d ∈ bs.map enc → n + d.depth < cLine := by
  intro d hd
  obtain ⟨b, hb, rfl⟩ := List.mem_map.mp hd
  exact h b hb
theorem sorted_dataE {l : Addr} {Q : Value → Shared → Prop} (hl : s.heap.IsList l vs.toArray) (e : EachIs R vs bs) (er : EachIs (fun v b => ∃ as, Reads s.heap v (enc b) as) vs bs) (hal : AllAlike (bs.map enc)) (hk : SortableE (bs.map enc)) (hL : bs.length ≤ sizeLine)
    (hu : ∀ b, b ∈ bs → A.units + 2 + (enc b).depth < cLine) (h : ∀ out, out.length = bs.length → EachIs R out (bs.mergeSort (dataLe false enc)) → Q (.ref (s.heap.objs.size + 1)) { s with heap := sortedAll s.heap vs (List.toArray out) }) :
    wpAny (model prog w) A (call (.builtin "sorted") [.ref l]) Q E s := by
  have er' : EachIs (fun v b => ∃ as, Reads (sortingHeap (copyHeap s.heap vs) (s.heap.objs.size + 1) vs) v (enc b) as) vs bs := er.mono fun _ _ ⟨as, r⟩ => ⟨as, PyProof.Rows.Reads.keeps (fun _ _ => sorting_copy_old) r⟩
  exact sorted_vals hl (SortsAt.dataE (s := { s with heap := sortingHeap (copyHeap s.heap vs) (s.heap.objs.size + 1) vs }) (each_map (R := fun v d => ∃ as, Reads (sortingHeap (copyHeap s.heap vs) (s.heap.objs.size + 1) vs) v d as) enc er') hal hk (bound_map' (n := A.in1.in1.units) hu)) (by rw [e.length]; exact hL)
    (h _ (by rw [sortVals_length false rfl]; exact e.length) (sortVals_data false e er' hal))
theorem collect_tuple {l : Addr} {vs : List Value} {Q : List Value → Shared → Prop} (hl : s.heap.IsTuple l vs.toArray)
    (h : Q vs { s with heap := (s.heap.push (seqObj "list" #[] 0)).update s.heap.objs.size (Obj.mapSeq (· ++ vs.toArray)) }) (hsz : vs.length ≤ sizeLine) :
    wpAny (model prog w) A (collect (.ref l)) Q E s := by
  obtain ⟨o, ho, hc, n, hd⟩ := id hl
  unfold collect
  refine wpAny_bind (wpAny_runValue (codeAny_builtin entry_proto_collect' ?_))
  show wpAny _ _ (do again (.builtin "list.__iadd__" ⟨[← newList [], .ref l], []⟩)) _ _ s
  refine wpAny_bind (wpAny_newList (wpAny_pure ⟨Code.quiet_builtin _ (by decide +kernel), codeAny_builtin entry_list_iadd' ?_⟩))
  show wpAny _ _ (Builtin.List.listExtendWith (.ref s.heap.objs.size) (.ref l) (.ref s.heap.objs.size)) _ _ { s with heap := s.heap.push (seqObj "list" #[] 0) }
  unfold Builtin.List.listExtendWith
  have ho' : (s.heap.push (seqObj "list" #[] 0)).get? l = some o := Heap.get?_push_of_some _ ho
  refine wpAny_bind (wpAny_typeOf (T := "tuple") ⟨o, ho', hc⟩ ?_)
  have ht : (Value.type "tuple" == Value.type "tuple") = true := by rfl
  rw [if_pos (by rw [ht]; simp)]
  refine wpAny_bind (listItems_at ho' hd ?_)
  refine wpAny_bind (listItems_at (xs := #[]) (n := 0) (Heap.get?_push_size _ rfl) rfl ?_)
  rw [if_neg (by simp)]
  refine wpAny_bind (listUpdate_at (xs := #[]) (n := 0) (Heap.get?_push_size _ rfl) rfl ?_ (Nat.zero_le _) (by show (#[] ++ vs.toArray).size ≤ sizeLine + 1; simp only [Array.size_append, List.size_toArray, List.length_nil]; omega))
  refine wpAny_pure ?_
  show wpAny (model prog w) A (do
      let o ← load s.heap.objs.size
      match o.data with
      | .seq xs _ => pure xs.toList
      | _ => unsupported "internal:collect") Q E { s with heap := (s.heap.push (seqObj "list" #[] 0)).update s.heap.objs.size (Obj.mapSeq (· ++ vs.toArray)) }
  refine wpAny_bind (wpAny_load (get?_update_seq (Heap.get?_push_size _ rfl) _) ?_)
  show wpAny _ _ (pure ((#[] : Array Value) ++ vs.toArray).toList) Q E _
  rw [show ((#[] : Array Value) ++ vs.toArray).toList = vs by simp]
  exact wpAny_pure h
/-- sorted(t), t a tuple -/
theorem sortedT_dataE {l : Addr} {Q : Value → Shared → Prop} (hl : s.heap.IsTuple l vs.toArray) (e : EachIs R vs bs) (er : EachIs (fun v b => ∃ as, Reads s.heap v (enc b) as) vs bs) (hal : AllAlike (bs.map enc)) (hk : SortableE (bs.map enc)) (hL : bs.length ≤ sizeLine)
    (hu : ∀ b, b ∈ bs → A.units + 2 + (enc b).depth < cLine) (h : ∀ out, out.length = bs.length → EachIs R out (bs.mergeSort (dataLe false enc)) → Q (.ref (s.heap.objs.size + 1)) { s with heap := sortedAll s.heap vs (List.toArray out) }) :
    wpAny (model prog w) A (call (.builtin "sorted") [.ref l]) Q E s := by
  have er' : EachIs (fun v b => ∃ as, Reads (sortingHeap (copyHeap s.heap vs) (s.heap.objs.size + 1) vs) v (enc b) as) vs bs := er.mono fun _ _ ⟨as, r⟩ => ⟨as, PyProof.Rows.Reads.keeps (fun _ _ => sorting_copy_old) r⟩
  have hL2 : vs.length ≤ sizeLine := by rw [e.length]; exact hL
  have S : SortsAt prog w A.in1.in1 { s with heap := sortingHeap (copyHeap s.heap vs) (s.heap.objs.size + 1) vs } (dataKind (sortingHeap (copyHeap s.heap vs) (s.heap.objs.size + 1) vs) (bs.map enc)) vs :=
    SortsAt.dataE (s := { s with heap := sortingHeap (copyHeap s.heap vs) (s.heap.objs.size + 1) vs }) (each_map (R := fun v d => ∃ as, Reads (sortingHeap (copyHeap s.heap vs) (s.heap.objs.size + 1) vs) v d as) enc er') hal hk (bound_map' (n := A.in1.in1.units) hu)
  refine call_function_entry_kw kind_sorted plain_sorted entry_sorted (args_sorted1 _) ?_
  unfold Builtin.«sorted»
  refine wpAny_bind (m := checkCount "sorted" 1 1 _) (wpAny_pure ?_)
  refine wpAny_bind (collect_tuple hl ?_ hL2)
  refine wpAny_bind (wpAny_newList ?_ hL2)
  have hsz : ((s.heap.push (seqObj "list" #[] 0)).update s.heap.objs.size (Obj.mapSeq (· ++ vs.toArray))).objs.size = s.heap.objs.size + 1 := by
    rw [Heap.size_update, size_push']
  show wpAny _ _ _ _ _ { s with heap := copyHeap s.heap vs }
  rw [hsz]
  refine wpAny_bind (wpAny_holding (wpAny_call_entry_kw slot_list_sort ⟨_, copyHeap_at s.heap vs, rfl⟩ entry_list_sort ?body (args_list_sort _)))
  case body =>
    show wpAny (model prog w) A.in1.in1 (Builtin.«list.sort» ⟨[.ref (s.heap.objs.size + 1)], []⟩) _ _ _
    refine wpAny_mono (list_sort_vals (P := fun f s' => f = .done (.ret .none) ∧ Q (.ref (s.heap.objs.size + 1)) s') (s := { s with heap := copyHeap s.heap vs }) (copyHeap_at s.heap vs) S hL2 ⟨rfl, h _ (by rw [sortVals_length false rfl]; exact e.length) (sortVals_data false e er' hal)⟩) (fun f s' hf => ?_) fun _ _ e => e
    obtain ⟨rfl, hq⟩ := hf
    exact ⟨_, rfl, wpAny_pure ⟨_, rfl, hq⟩⟩
end
end PySem.W

namespace DL
open PySem PySem.Spec PyProof.Rows L2
open PySem.W (EachIs)
def isTupD : D → Bool
  | .tup _ => true
  | _ => false
def isNonD : D → Bool
  | .non => true
  | _ => false
/-- the items can be sorted -/
def sortOk (ds : List D) : Bool := (ds.all fun a => ds.all fun b => PySem.W.alike (toP a) (toP b)) && (ds.all isTupD || ds.all fun d => !isTupD d && !isNonD d) && (ds.all fun d => PyData.canLay0 (toP d) && decide ((toP d).depth ≤ 60))
def ordD (a b : D) : Bool := !PySem.W.dataLt (toP b) (toP a)
def sortL (ds : List D) : List D := ds.mergeSort ordD
def sortD : D → Option D
  | .lst ds => if sortOk ds = true then some (.lst (sortL ds)) else none
  | .tup ds => if sortOk ds = true then some (.lst (sortL ds)) else none
  | _ => none
theorem toPL_map : ∀ ds : List D, toPL ds = ds.map toP
  | [] => rfl
  | d :: r => by rw [toPL, toPL_map r]; rfl
theorem isTupD_toP {d : D} (h : isTupD d = true) : ∃ xs, toP d = .tuple xs := by
  cases d <;> first | exact absurd h (by decide) | exact ⟨_, by rw [toP]⟩ | cases h
theorem toP_tup {d : D} {xs : List PyData} (h : toP d = .tuple xs) : isTupD d = true := by
  cases d <;> simp [toP] at h ⊢ <;> rfl
theorem toP_non {d : D} (h : toP d = .none) : isNonD d = true := by
  cases d <;> simp [toP] at h ⊢ <;> rfl
theorem sortable_of {α : Type} {g : α → D} {ps : List α} (h : sortOk (ps.map g) = true) : PySem.W.AllAlike (ps.map fun p => toP (g p)) ∧ PySem.W.SortableE (ps.map fun p => toP (g p)) ∧ ∀ p ∈ ps, PyData.canLay0 (toP (g p)) = true ∧ (toP (g p)).depth ≤ 60 := by
  unfold sortOk at h
  rw [Bool.and_eq_true, Bool.and_eq_true, Bool.or_eq_true] at h
  obtain ⟨⟨h1, h2⟩, h3⟩ := h
  refine ⟨fun d hd d' hd' => ?_, ?_, fun p hp => ?_⟩
  · obtain ⟨p, hp, rfl⟩ := List.mem_map.mp hd
    obtain ⟨q, hq, rfl⟩ := List.mem_map.mp hd'
    exact List.all_eq_true.mp (List.all_eq_true.mp h1 _ (List.mem_map_of_mem hp)) _ (List.mem_map_of_mem hq)
  · rcases h2 with h2 | h2
    · have ht : ∀ d, d ∈ (ps.map fun p => toP (g p)) → ∃ xs, d = .tuple xs := fun d hd => by
        obtain ⟨p, hp, rfl⟩ := List.mem_map.mp hd
        exact isTupD_toP (List.all_eq_true.mp h2 _ (List.mem_map_of_mem hp))
      by_cases c : PyData.tuple [] ∈ (ps.map fun p => toP (g p))
      · exact .inr ⟨ht, c⟩
      · refine .inl (.inl fun d hd => ?_)
        obtain ⟨xs, rfl⟩ := ht d hd
        cases xs with
        | nil => exact absurd hd c
        | cons x r => exact ⟨x, r, rfl⟩
    · refine .inl (.inr fun d hd => ?_)
      obtain ⟨p, hp, rfl⟩ := List.mem_map.mp hd
      have z := List.all_eq_true.mp h2 _ (List.mem_map_of_mem hp)
      rw [Bool.and_eq_true] at z
      refine ⟨fun e => ?_, fun xs e => ?_⟩
      · have := toP_non e
        rw [this] at z
        exact absurd z.2 (by decide)
      · have := toP_tup e
        rw [this] at z
        exact absurd z.1 (by decide)
  · have z := List.all_eq_true.mp h3 _ (List.mem_map_of_mem hp)
    rw [Bool.and_eq_true] at z
    exact ⟨z.1, of_decide_eq_true z.2⟩
/-- sorted(xs), xs a list or a tuple of data -/
def rSortD (K : PySem.W.Frag) : List V → Hp → VK → Prop := fun vs H Q => ∃ (a : Addr) (ps : List (V × D)), vs = [.ref a] ∧ (SqL K H a (ps.map (·.1)) ∨ SqT K H a (ps.map (·.1))) ∧ sortOk (ps.map (·.2)) = true ∧ (∀ p ∈ ps, Dp K H p.1 (toP p.2)) ∧
  ∀ b, H b = none → Q (.ref b) (upd H b (.lst ((ps.mergeSort fun x y => ordD x.2 y.2).map (·.1))))
theorem each_vals {its : List Value} : ∀ {ps : List (V × D)}, Vals (ps.map (·.1)) its → EachIs (fun u (p : V × D) => RelV p.1 u) its ps := by
  induction its with
  | nil =>
    intro ps r
    cases ps with
    | nil => exact .nil
    | cons p ps => cases r
  | cons u us ih =>
    intro ps r
    cases ps with
    | nil => cases r
    | cons p ps =>
      cases r with
      | cons h t => exact .cons h (ih t)
theorem each_toVals {out : List Value} : ∀ {ps : List (V × D)}, EachIs (fun u (p : V × D) => RelV p.1 u) out ps → Vals (ps.map (·.1)) out := by
  induction out with
  | nil =>
    intro ps r
    cases r
    exact .nil
  | cons u us ih =>
    intro ps r
    cases r with
    | cons h t => exact .cons h (ih t)
section
variable {X : Cx}
theorem cr_sortedD (hu : X.A.units + 64 < cLine) : CallR X (.builtin "sorted") (rSortD X.K) := by
  intro pins s σ H vs us Q I r h
  obtain ⟨a, ps, rfl, hs, hok, hp, q⟩ := h
  obtain ⟨h1, h2, h3⟩ := sortable_of (g := fun p : V × D => p.2) hok
  rw [Vals.ref1 r]
  have key : ∀ its : List Value, Vals (ps.map (·.1)) its → (ps.map (·.1)).length ≤ sizeLine → EachIs (fun u (p : V × D) => RelV p.1 u) its ps ∧ EachIs (fun u (p : V × D) => ∃ as, Reads s.heap u (toP p.2) as) its ps ∧ ps.length ≤ sizeLine ∧
      ∀ out, out.length = ps.length → EachIs (fun u (p : V × D) => RelV p.1 u) out (ps.mergeSort (PySem.W.dataLe false fun p : V × D => toP p.2)) → EP X pins σ Q (.ref (s.heap.objs.size + 1)) { s with heap := sortedAll s.heap its (List.toArray out) } := by
    intro its rv hz
    have e := each_vals rv
    refine ⟨e, ?_, by simpa using hz, fun out ho eo => ?_⟩
    · exact (PySem.W.each_mem e).mono fun u p ⟨hr, hm⟩ => Dp.reads I _ p.1 u (hp p hm) hr
    · have hv : Vals ((ps.mergeSort fun x y => ordD x.2 y.2).map (·.1)) out := each_toVals eo
      obtain ⟨ep, he'⟩ := PyProof.Rows.sortedAll_at s.heap its out.toArray
      have hlen : ((ps.mergeSort fun x y => ordD x.2 y.2).map (·.1)).length ≤ sizeLine := by
        rw [List.length_map, List.length_mergeSort]
        simpa using hz
      exact ⟨.ref _, upd H (s.heap.objs.size + 1) (.lst ((ps.mergeSort fun x y => ordD x.2 y.2).map (·.1))), I.laid (t' := s.toks) (fun _ _ => PyProof.Rows.sortedAll_old) (Nat.le_succ _) ⟨hlen, out, ep, hv, he'⟩, rfl, q _ (I.hok.fresh (Nat.le_succ _))⟩
  have room : ∀ b, b ∈ ps → X.A.units + 2 + (toP b.2).depth < cLine := fun b hb => by
    have := (h3 b hb).2
    omega
  rcases hs with hs | hs
  · obtain ⟨its, rv, hl, hz⟩ := I.list hs
    obtain ⟨k1, k2, k3, k4⟩ := key its rv hz
    exact PySem.W.sorted_dataE hl.isList k1 k2 h1 h2 k3 room k4
  · obtain ⟨its, rv, hl, hz⟩ := I.tuple hs
    obtain ⟨k1, k2, k3, k4⟩ := key its rv hz
    exact PySem.W.sortedT_dataE hl k1 k2 h1 h2 k3 room k4
end
section
variable {K : KW} {F : Addr → Prop} {H : Hp}
theorem DtL.zip : ∀ {vs : List V} {ds : List D}, DtL K F H vs ds → ∃ ps : List (V × D), ps.map (·.1) = vs ∧ ps.map (·.2) = ds ∧ ∀ p ∈ ps, Dt K F H p.1 p.2
  | _, _, .nil => ⟨[], rfl, rfl, fun p h => by cases h⟩
  | _, _, .cons (v := v) (d := d) h t => by
    obtain ⟨ps, rfl, rfl, h3⟩ := DtL.zip t
    exact ⟨(v, d) :: ps, rfl, rfl, fun p hp => by
      rcases List.mem_cons.mp hp with rfl | hp
      · exact h
      · exact h3 p hp⟩
theorem DtL.unzip : ∀ {ps : List (V × D)}, (∀ p ∈ ps, Dt K F H p.1 p.2) → DtL K F H (ps.map (·.1)) (ps.map (·.2))
  | [], _ => .nil
  | p :: ps, h => .cons (h p List.mem_cons_self) (DtL.unzip fun q hq => h q (List.mem_cons_of_mem _ hq))
theorem DtL.sorted {ps : List (V × D)} (h : ∀ p ∈ ps, Dt K F H p.1 p.2) : DtL K F H ((ps.mergeSort fun x y => ordD x.2 y.2).map (·.1)) (sortL (ps.map (·.2))) := by
  have e : sortL (ps.map (·.2)) = (ps.mergeSort fun x y => ordD x.2 y.2).map (·.2) := (List.map_mergeSort (f := fun p : V × D => p.2) (r := fun (x y : V × D) => ordD x.2 y.2) (s := ordD) (l := ps) fun _ _ _ _ => rfl).symm
  rw [e]
  exact DtL.unzip fun p hp => h p ((List.mergeSort_perm ps _).mem_iff.mp hp)
theorem cd_sorted : C1D K .N (rSortD K.f) sortD := by
  intro F H x d out hf hx hg Q q
  have go : ∀ (a : Addr) (xs : List V) (ds : List D), (SqL K.f H a xs ∨ SqT K.f H a xs) → DtL K F H xs ds → (if sortOk ds = true then some (D.lst (sortL ds)) else none) = some out → rSortD K.f [.ref a] H Q := by
    intro a xs ds hs r e
    split at e
    · rename_i hok
      cases e
      obtain ⟨ps, rfl, rfl, hd⟩ := DtL.zip r
      have h3 := (sortable_of (g := fun p : V × D => p.2) hok).2.2
      exact ⟨a, ps, rfl, hs, hok, fun p hp => (hd p hp).dp (h3 p hp).1, fun b hb => q _ _ (same_upd hb) ⟨b, rfl, hb, OwnAt.newL hb (DtL.sorted hd)⟩⟩
    · cases e
  unfold sortD at hg
  split at hg
  · obtain ⟨a, xs, rfl, hx, r⟩ := hx
    exact go a xs _ (.inl (.inl (.inl hx))) r hg
  · obtain ⟨a, xs, rfl, hx, r⟩ := dr_tup hx
    exact go a xs _ (.inr hx.sq) r hg
  · cases hg
end
end DL

set_option Elab.async false
set_option linter.all false
set_option autoImplicit false
set_option maxRecDepth 100000
set_option maxHeartbeats 4000000
namespace L2
open PySem PySem.Spec PyProof.Rows
section
variable {P : Program} {w : World} {A : Around} {E : Value → Shared → Prop} {s : Shared}
set_option maxRecDepth 100000 in
set_option maxHeartbeats 3200000 in
theorem call_set_listI {l : Addr} {items : Array Value} (ns : List Int) {Q : Value → Shared → Prop} (hh : A.handled = none) (hl : s.heap.IsList l items) (hit : IntsAre items.toList ns) (hb : ns.length + 1 < scanBound)
    (h : ∀ (h' : Heap) (tk c : Nat), SetR w h' s.heap.objs.size (fun j => decide (j ∈ ns)) c → c ≤ ns.length → (∀ b o, s.heap.get? b = some o → h'.get? b = some o) → Q (.ref s.heap.objs.size) { s with heap := h', toks := tk }) :
    wpAny (model P w) A (call (.type "set") [.ref l]) Q E s := by
  have hisz : items.size = ns.length := by
    have q := IntsAre.length hit
    rw [Array.length_toList] at q
    exact q
  obtain ⟨c, tl, hmro⟩ := F.called_set.mro
  have hmade := F.called_set.made
  have hsub := F.called_set.sub
  refine wpAny_call (codeAny_of_tree ?_)
  show wpAny _ _ (callAny (.type "set") _) _ _ _
  refine wpAny_pure ⟨Code.quiet_builtin _ (by decide +kernel), codeAny_builtin F.entry_type_call ?_⟩
  rw [Around.under_plain (weight_type_call_type "set" [.ref l] []) rfl]
  have h1 := F.called_set.notType
  have h2 := F.called_set.canCreate
  have hct := F.typeCall_set_1 (.ref l)
  repeat (any_goals (first | assumption | wp_step))

  refine codeAny_mono (code_set_led1 (.ref l) (E := E) (Q₁ := fun obj s₁ => obj = .ref s.heap.objs.size ∧ s₁ = { s with heap := s.heap.push { cls := .type "set", dict := none, data := .set #[] 0 (.fresh 0 0 (!w.params.followText "set-order")) } }) ⟨rfl, rfl⟩) fun r s₁ hr => ?_
  cases r with
  | error e => exact hr
  | ok fl =>
    cases fl with
    | ret obj =>
      obtain ⟨rfl, rfl⟩ := hr
      have hS : (s.heap.push { cls := .type "set", dict := none, data := .set #[] 0 (.fresh 0 0 (!w.params.followText "set-order")) }).get? s.heap.objs.size = some { cls := .type "set", dict := none, data := .set #[] 0 (.fresh 0 0 (!w.params.followText "set-order")) } := Heap.get?_push_size _ rfl
      have hT : Shared.TypeIs { s with heap := s.heap.push { cls := .type "set", dict := none, data := .set #[] 0 (.fresh 0 0 (!w.params.followText "set-order")) } } (.ref s.heap.objs.size) "set" := ⟨_, hS, rfl⟩
      have hli := F.called_set.init.lookup
      have hbi := F.called_set.init.bind (.ref s.heap.objs.size)
      repeat (any_goals (first | assumption | wp_step))

      refine codeAny_mono (codeAny_call_builtin (R := wants (fun r s₂ => r = .none ∧ ∃ h' tk c, s₂ = { s with heap := h', toks := tk } ∧ SetR w h' s.heap.objs.size (fun j => decide (j ∈ ns)) c ∧ c ≤ ns.length ∧
          (∀ b o, s.heap.get? b = some o → h'.get? b = some o)) E) F.called_set.init.plain F.entry_set_init (check_set_init_1 hT ?_)) fun r₂ s₂ hr₂ => ?_
      · obtain ⟨ol, hol, hcl, nl, hdl⟩ := hl
        obtain ⟨ocls, odict, odata, oslots⟩ := ol
        simp only at hcl hdl
        subst hcl; subst hdl
        have hol' : (s.heap.push { cls := .type "set", dict := none, data := .set #[] 0 (.fresh 0 0 (!w.params.followText "set-order")) }).get? l = some { cls := .type "list", dict := odict, data := .seq items nl, slots := oslots } := Heap.get?_push_of_some _ hol
        have hsls := F.sub_list_set
        have hslf := F.sub_list_frozenset
        have hne : (Value.type "list" == Value.type "dict") = false := by decide
        have hl1 : (s.heap.push { cls := .type "set", dict := none, data := .set #[] 0 (.fresh 0 0 (!w.params.followText "set-order")) }).IsList l items := ⟨_, hol', rfl, nl, rfl⟩
        unfold Builtin.«set.__init__» noKeywords Builtin.Frozenset.updateFrom
        generalize hPI : pyIter = PI
        wp_walk
        subst hPI

        refine wpAny_pyIter_list hl1 ?_
        refine wpAny_bind (wpAny_runValue ?_)
        have hlS : l < s.heap.objs.size := Heap.lt_size hol
        have hh3 : A.in1.in1.in1.handled = none := by simp [hh]
        have hz1 : (s.heap.push { cls := .type "set", dict := none, data := .set #[] 0 (.fresh 0 0 (!w.params.followText "set-order")) }).objs.size = s.heap.objs.size + 1 := Heap.size_push ..
        have hneI : l ≠ (s.heap.push { cls := .type "set", dict := none, data := .set #[] 0 (.fresh 0 0 (!w.params.followText "set-order")) }).objs.size := by
          rw [Heap.size_push]; exact Nat.ne_of_lt (Nat.lt_succ_of_lt hlS)
        have hSf : s.heap.objs.size ∉ [(s.heap.push { cls := .type "set", dict := none, data := .set #[] 0 (.fresh 0 0 (!w.params.followText "set-order")) }).objs.size, l] := by
          rw [Heap.size_push]; simp only [List.mem_cons, List.mem_singleton, List.not_mem_nil, or_false, not_or]
          exact ⟨Nat.ne_of_lt (Nat.lt_succ_self _), Nat.ne_of_gt hlS⟩
        have hval : ∀ (i : Nat) (v : Value), items[i]? = some v → ∃ k t, ns[i]? = some k ∧ v = .int k t := fun i v hv => by
          have hi : i < ns.length := by rw [← hisz]; exact (Array.getElem?_eq_some_iff.mp hv).1
          obtain ⟨t, e⟩ := PyProof.Rows.IntsAre.int_at hit i v (by rw [Array.getElem?_toList]; exact hv)
          refine ⟨ns[i], t, List.getElem?_eq_getElem hi, ?_⟩
          rw [e, List.getD_eq_getElem?_getD, List.getElem?_eq_getElem hi] <;> rfl
        refine set_update_ints ((Walks.list hh3 _ l hneI items).toS) s.heap.objs.size
          hSf ns hisz hb hval (items.size - 0) 0 _ (by omega) (Nat.zero_le _)
          ⟨⟨_, Heap.get?_push_size _ rfl, rfl, rfl⟩, (hl1.push _)⟩ ?hS0 ?hR
        case hS0 =>
          have hget : ((s.heap.push { cls := .type "set", dict := none, data := .set #[] 0 (.fresh 0 0 (!w.params.followText "set-order")) }).push { cls := .type "list_iterator", data := .fields #[.ref l, .int 0 0] }).get? s.heap.objs.size
              = some { cls := .type "set", dict := none, data := .set #[] 0 (.fresh 0 0 (!w.params.followText "set-order")) } := Heap.get?_push_of_some _ hS
          exact ⟨0, Nat.le_refl 0, setR_new_at hget⟩
        case hR =>
          intro s' c' hm hc' hS'
          obtain ⟨h', g2, d', tk', os'⟩ := s'
          have eg : g2 = s.gens := hm.gens
          have ed : d' = s.drawn := hm.drawn
          have eo : os' = s.os := hm.os
          subst eg; subst ed; subst eo
          show wpAny _ _ _ _ _ _
          refine wpAny_pure ?_
          show wpAny _ _ (ret Value.none) _ _ _
          rw [hisz] at hc'
          refine wpAny_pure ⟨rfl, h', tk', c', rfl, hS', hc', fun b o e => ?_⟩
          have hb0 : b < s.heap.objs.size := Heap.lt_size e
          have hb1 : b ≠ s.heap.objs.size := Nat.ne_of_lt hb0
          have hb2 : b ≠ (s.heap.push { cls := .type "set", dict := none, data := .set #[] 0 (.fresh 0 0 (!w.params.followText "set-order")) }).objs.size := by
            rw [Heap.size_push]; exact Nat.ne_of_lt (Nat.lt_succ_of_lt hb0)
          exact hm.heap b o (by simp only [List.mem_cons, List.mem_singleton, List.not_mem_nil, or_false, not_or]; exact ⟨hb1, hb2⟩) (Heap.get?_push_of_some _ (Heap.get?_push_of_some _ e))

      · cases r₂ with
        | error e => exact hr₂
        | ok fl₂ =>
          cases fl₂ with
          | ret r =>
            obtain ⟨rfl, h', tk, c', rfl, hS', hc', hk'⟩ := hr₂
            repeat (any_goals (first | assumption | wp_step))
            exact h _ _ _ hS' hc' hk'
          | _ => exact hr₂.elim
    | _ => exact hr.elim

end
end L2
namespace L2
open PySem PySem.Spec PyProof.Rows Srt
section
variable {P : Program} {w : World} {A : Around} {E : Value → Shared → Prop} {s : Shared} {a : Addr}
/-- sorted(a set of ints), any number -/
theorem sorted_setA {S : Int → Bool} {n : Nat} {Q : Value → Shared → Prop} (R : SetR w s.heap a S n) (hh : A.handled = none)
    (hQ : ∀ s' p (out : List Value) (c : Nat) (ns : List Int), (∀ b o, s.heap.get? b = some o → s'.heap.get? b = some o) → s'.gens = s.gens → s'.os = s.os → s.heap.objs.size ≤ p →
      s'.heap.get? p = some (seqObj "list" out.toArray c) → IntsAre out ns → ns.Pairwise (· < ·) → (∀ k, k ∈ ns ↔ S k = true) → ns.length = n → Q (.ref p) s') :
    wpAny (model P w) A (call (.builtin "sorted") [.ref a]) Q E s := by
  obtain ⟨o, es, ep, t, ho, hex, hd, g, nd, hm, hb, hf, hn, hr, hl⟩ := R
  refine Calls.call_function_entry kind_sorted plain_sorted entry_sorted (args_sorted1 _) ?_
  unfold Builtin.«sorted»
  refine wpAny_bind (m := checkCount "sorted" 1 1 _) (wpAny_pure ?_)
  refine wpAny_bind (collect_set (A := A.in1) hh ⟨o, ho, hex.1, hd⟩ hf hb hr hl fun s1 vs k1 hz g1 o1 pm => ?_)
  have hvl : vs.length = n := by rw [pm.length_eq, List.length_map, Array.length_toList]; exact hn
  have hI : IntsAre vs (vs.map Builtin.Re.reRawOf) := ints_of vs fun v hv => by
    obtain ⟨e, he, q⟩ := List.mem_map.mp (pm.mem_iff.mp hv)
    obtain ⟨k, tk, h1, _⟩ := g e he
    exact ⟨k, tk, by rw [← q]; exact h1⟩
  have pk : (vs.map Builtin.Re.reRawOf).Perm (es.toList.map keyOf) := by
    have q := pm.map Builtin.Re.reRawOf
    rw [List.map_map] at q
    exact q
  have hz1 : vs.length ≤ sizeLine := by
    rw [hvl, ← hn]
    exact fits_of_scanBound hb
  refine wpAny_bind (wpAny_newList ?_ hz1)
  have hoL : (s1.heap.push (seqObj "list" vs.toArray 0)).get? s1.heap.objs.size = some (seqObj "list" vs.toArray 0) := Heap.get?_push_size _ rfl
  refine wpAny_bind (wpAny_holding (wpAny_call_entry slot_list_sort ⟨_, hoL, rfl⟩ entry_list_sort (SrtO.list_sort_ord SrtO.swo_int hoL hz1 (fun h2 => SrtO.ints_sortable hI h2) fun out h1 h2 => ⟨_, rfl, ?_⟩) (args_list_sort _)))
  obtain ⟨a1, a2, a3⟩ := SrtO.ints_out hI h1 h2
  obtain ⟨c, hc⟩ := sortedHeap_at (vs := vs) (out := out.toArray) hoL
  have pn : (out.map SrtO.iv).Perm (es.toList.map keyOf) := a2.trans pk
  refine wpAny_pure ⟨_, rfl, hQ _ s1.heap.objs.size out c (out.map SrtO.iv) (fun b u e => ?_) g1 o1 hz hc a1 (lt_of_le_nodup _ a3 (pn.nodup_iff.mpr nd)) (fun k => by rw [pn.mem_iff, ← hm k]) ?_⟩
  · have q := k1 b u e
    have hlt := Heap.lt_size q
    show (sortedHeap (s1.heap.push (seqObj "list" vs.toArray 0)) s1.heap.objs.size vs out.toArray).get? b = some u
    rw [sortedHeap_old (Nat.ne_of_lt hlt) (by rw [size_push']; exact Nat.lt_succ_of_lt hlt)]
    exact Heap.get?_push_of_some _ q
  · rw [pn.length_eq, List.length_map, Array.length_toList]; exact hn
end
end L2
namespace DL
open PySem PySem.Spec PyProof.Rows L2
/-! ### sets of ints -/
def ddI : List Int → List Int
  | [] => []
  | x :: r => if x ∈ r then ddI r else x :: ddI r
theorem mem_ddI {j : Int} : ∀ {is : List Int}, j ∈ ddI is ↔ j ∈ is
  | [] => Iff.rfl
  | x :: r => by
    unfold ddI
    split
    · rename_i h
      rw [mem_ddI (is := r), List.mem_cons]
      exact ⟨.inr, fun z => z.elim (fun e => e ▸ h) id⟩
    · rw [List.mem_cons, List.mem_cons, mem_ddI (is := r)]
theorem nodup_ddI : ∀ {is : List Int}, (ddI is).Nodup
  | [] => List.nodup_nil
  | x :: r => by
    unfold ddI
    split
    · exact nodup_ddI (is := r)
    · rename_i h
      exact List.nodup_cons.mpr ⟨fun z => h (mem_ddI.mp z), nodup_ddI (is := r)⟩
def rSetOf (K : KW) : List V → Hp → VK → Prop := fun xs H Q => ∃ (a : Addr) (is : List Int), xs = [.ref a] ∧ (SqL K.f H a (is.map V.int) ∨ SqT K.f H a (is.map V.int)) ∧ is.length + 1 < scanBound ∧
  ∀ (p : Addr), H p = none → Q (.ref p) (upd H p (SetO K.w p (fun j => decide (j ∈ is)) (ddI is).length))
section
variable {X : Cx}
theorem setR_count {w : World} {h : Heap} {a : Addr} {S : Int → Bool} {n : Nat} {is : List Int} (R : SetR w h a S n) (hn : is.Nodup) (hm : ∀ k, S k = true ↔ k ∈ is) : n = is.length := by
  obtain ⟨o, es, ep, t, ho, hex, hd, g, nd, hm', hb, hf, hn', hr, hl⟩ := R
  have p : (es.toList.map L2.keyOf).Perm is := (List.perm_ext_iff_of_nodup nd hn).mpr fun k => by rw [← hm', hm]
  have := p.length_eq
  rw [List.length_map, Array.length_toList, hn'] at this
  exact this
theorem call_setOf (hc : X.calm = true) : CallR X (.type "set") (rSetOf (kwOf X)) := by
  intro pins s σ H xs us Q I r h
  obtain ⟨a, is, rfl, hq, hb, q⟩ := h
  rw [Vals.ref1 r]
  have fin : ∀ (h' : Heap) (tk c : Nat), SetR X.w h' s.heap.objs.size (fun j => decide (j ∈ is)) c → c ≤ is.length → (∀ b o, s.heap.get? b = some o → h'.get? b = some o) → EP X pins σ Q (.ref s.heap.objs.size) { s with heap := h', toks := tk } := by
    intro h' tk c R _ kp
    have e : c = (ddI is).length := setR_count R nodup_ddI fun k => by rw [decide_eq_true_eq, mem_ddI]
    subst e
    exact ⟨.ref s.heap.objs.size, _, I.laid (t' := tk) kp (Nat.le_refl _) (setO_new R), rfl, q _ (I.hok.fresh (Nat.le_refl _))⟩
  rcases hq with hq | hq
  · obtain ⟨its, rv, hl, hz⟩ := I.list hq
    exact call_set_listI is (I.ok.hd hc) hl.isList (by simpa using rv.ints) hb fin
  · obtain ⟨its, rv, hl, hz⟩ := I.tuple hq
    exact call_set_tupI is (I.ok.hd hc) hl (by simpa using rv.ints) hb fin
end
def setOfD : D → Option D
  | .lst ds => (intsD ds).bind fun is => if is.length + 1 < scanBound then some (.set ((ddI is).map D.int)) else none
  | .tup ds => (intsD ds).bind fun is => if is.length + 1 < scanBound then some (.set ((ddI is).map D.int)) else none
  | _ => none
section
variable {K : KW} {F : Addr → Prop} {H : Hp}
theorem cd_set : C1D K .N (rSetOf K) setOfD := by
  intro F H x d out hf hx hg Q q
  have go : ∀ (a : Addr) (xs : List V) (ds : List D), (SqL K.f H a xs ∨ SqT K.f H a xs) → DtL K F H xs ds → ((intsD ds).bind fun is => if is.length + 1 < scanBound then some (D.set ((ddI is).map D.int)) else none) = some out → rSetOf K [.ref a] H Q := by
    intro a xs ds hs r e
    obtain ⟨is, e1, e2⟩ := Option.bind_eq_some_iff.mp e
    split at e2
    · rename_i hb
      cases e2
      rw [intsD_eq e1] at r
      have ex := r.ints
      subst ex
      exact ⟨a, is, rfl, hs, hb, fun b hb => q _ _ (same_upd hb) ⟨b, rfl, hb, _, upd_same, .inl ⟨_, _, ddI is, rfl, rfl, nodup_ddI, rfl, fun i => by rw [decide_eq_true_eq, mem_ddI]⟩⟩⟩
    · cases e2
  unfold setOfD at hg
  split at hg
  · obtain ⟨a, xs, rfl, hx, r⟩ := hx
    exact go a xs _ (.inl (.inl (.inl hx))) r hg
  · obtain ⟨a, xs, rfl, hx, r⟩ := dr_tup hx
    exact go a xs _ (.inr hx.sq) r hg
  · cases hg
end
/-! ### len, sorted of sets; len, list of dicts -/
def rSortSet (K : KW) : List V → Hp → VK → Prop := fun vs H Q => ∃ (a : Addr) (S : Int → Bool) (n : Nat), vs = [V.ref a] ∧ H a = some (SetO K.w a S n) ∧
  ∀ (ns : List Int) (p : Addr), ns.Pairwise (· < ·) → (∀ k : Int, k ∈ ns ↔ S k = true) → ns.length = n → H p = none → Q (.ref p) (upd H p (.lst (ns.map V.int)))
def rSortX (K : KW) : List V → Hp → VK → Prop := fun xs H Q => rSortD K.f xs H Q ∨ rSortSet K xs H Q
section
variable {X : Cx}
theorem cr_sortSet (hc : X.calm = true) : CallR X (.builtin "sorted") (rSortSet (kwOf X)) := by
  intro pins s σ H vs us Q I r h
  obtain ⟨a, S, n, rfl, ha, q⟩ := h
  have R := setO_get I ha
  rw [Vals.ref1 r]
  have hnz : n ≤ sizeLine := by
    obtain ⟨o, es, ep, t, ho, hex, hd, g, nd, hm', hb, hf, hn', hr, hl⟩ := R
    rw [← hn']
    exact fits_of_scanBound hb
  refine sorted_setA R (I.ok.hd hc) fun s' p out c ns k g o hp hg hi hs hm hl => ?_
  have hlen : (ns.map V.int).length ≤ sizeLine := by rw [List.length_map, hl]; exact hnz
  have hn : H p = none := I.hok.fresh hp
  have J : Inv X pins σ (upd H p (.lst (ns.map V.int))) { s with heap := s'.heap, gens := s'.gens, drawn := s'.drawn, toks := s'.toks } :=
    I.call (ch := []) (Un.laid k hp hn) (I.hok.laid k hp ⟨hlen, out, c, vals_of_ints hi, hg⟩) (by rw [g]; exact I.bare) (fun _ z => nomatch z)
  have e : s' = { s with heap := s'.heap, gens := s'.gens, drawn := s'.drawn, toks := s'.toks } := by
    cases s'
    cases s
    simp only at o
    rw [o]
  rw [e]
  exact ⟨.ref p, _, J, rfl, q ns p hs hm hl hn⟩
theorem cr_sortX (hc : X.calm = true) (hu : X.A.units + 64 < cLine) : CallR X (.builtin "sorted") (rSortX (kwOf X)) := (cr_sortedD hu).or (cr_sortSet hc)
end
def sortI (is : List Int) : List Int := is.mergeSort fun a b => decide (a ≤ b)
theorem sortI_unique {is ns : List Int} (hn : is.Nodup) (h1 : ns.Pairwise (· < ·)) (h2 : ∀ k, k ∈ ns ↔ k ∈ is) : ns = sortI is := by
  have p : ns.Perm is := (List.perm_ext_iff_of_nodup (h1.imp fun h => Int.ne_of_lt h) hn).mpr h2
  have p2 : ns.Perm (sortI is) := p.trans (List.mergeSort_perm is _).symm
  have s1 : ns.Pairwise (· ≤ ·) := h1.imp fun h => Int.le_of_lt h
  have s2 : (sortI is).Pairwise (· ≤ ·) := by
    have := List.pairwise_mergeSort (le := fun a b : Int => decide (a ≤ b)) (fun a b c h1 h2 => by simp only [decide_eq_true_eq] at *; omega) (fun a b => by simp only [Bool.or_eq_true, decide_eq_true_eq]; omega) is
    exact this.imp fun h => by simpa using h
  exact List.Perm.eq_of_pairwise (fun a b _ _ h1 h2 => Int.le_antisymm h1 h2) s1 s2 p2
def sortXD : D → Option D
  | .set ds => (intsD ds).map fun is => .lst ((sortI is).map D.int)
  | d => sortD d
section
variable {K : KW} {F : Addr → Prop} {H : Hp}
theorem intsD_map : ∀ is : List Int, intsD (is.map D.int) = some is
  | [] => rfl
  | i :: r => by rw [List.map_cons, intsD, intsD_map r]; rfl
theorem cd_sortX : C1D K .N (rSortX K) sortXD := by
  intro F H x d out hf hx hg Q q
  cases d with
  | set ds =>
    obtain ⟨is, e1, e2⟩ := Option.map_eq_some_iff.mp hg
    cases e2
    obtain ⟨a, rfl, o, ho, hs⟩ := hx
    rcases hs with ⟨S, n, is', rfl, rfl, nd, hl, hm⟩ | ⟨L, rfl, hne, ht, nd, rfl⟩
    · rw [intsD_map] at e1
      cases e1
      refine .inr ⟨a, S, n, rfl, ho, fun ns p h1 h2 h3 hp => ?_⟩
      have e : ns = sortI is := sortI_unique nd h1 fun k => by rw [h2, hm]
      rw [e]
      exact q _ _ (same_upd hp) ⟨p, rfl, hp, OwnAt.newL hp (DtL.of_ints _)⟩
    · cases L with
      | nil => exact absurd rfl hne
      | cons p L => cases e1
  | _ => exact .inl (cd_sorted F H x _ out hf hx hg Q q)
end
end DL

set_option Elab.async false
set_option linter.all false
set_option autoImplicit false
set_option maxRecDepth 100000
set_option maxHeartbeats 4000000
namespace DL
open PySem PySem.Spec PyProof.Rows L2
/-! ### methods of a dict told by its entries -/
def tBMD (r : V → List V → Hp → VK → Prop) (to : TE) (t : TA) : TE := fun σ H Q => to σ H fun x H1 => (∃ a es ep, x = .ref a ∧ H1 a = some (rawO a es ep)) ∧ t σ H1 fun xs H2 => r x xs H2 Q
section
variable {X : Cx} {pins : List (Addr × Obj)} {σ : St'} {H : Hp} {s : Shared}
variable {o e : Expr} {es : List Expr} {to : TE} {t : TA} {name : Str} {apos cpos : Pos} {id : String} {r : V → List V → Hp → VK → Prop}
theorem pe_bmD (pa : PlainAttrs "dict") (slot : PySem.Slot "dict" name id) (hty : typeOf (.builtin id) = pure (.type "method_descriptor")) (hm : MtR X id r) (ho : PE X o to) (ha : PA X (e :: es) t)
    (hbase : attributeBase o name X.env (eval o X.env) = eval o X.env := by rfl)
    (hfew : ((backTo cpos (starEach (e :: es) X.env)).all (fun x => !x.1) && (backToKw cpos (keywordEach [] X.env)).all (fun x => x.1.isSome)
      && decide ((e :: es).length + ([] : List Keyword).length + (if ([] : List Keyword).isEmpty then 0 else 1) < 30)) = true := by rfl)
    (hline : (apos.endLine == cpos.line) = true := by rfl) (hs : starEach (e :: es) X.env = (false, eval e X.env) :: starEach es X.env := by rfl) (hplain : (backTo cpos (starEach es X.env)).any (·.1) = false := by rfl) :
    PE X (.Call (.Attribute o name apos) (e :: es) [] cpos) (tBMD r to t) := by
  refine ⟨fun pins s σ H Q I h => ?_⟩
  refine wpAny_Call_method_late hbase hfew hline rfl (thn (ho.run pins s σ H _ I h) fun v s1 ⟨x, H1, I1, r1, ⟨a, es', ep, ex, hx⟩, q1⟩ => ?_)
  subst ex
  have r1' := r1
  obtain rfl : v = Value.ref a := r1
  obtain ⟨ob, e1, e2, _⟩ := raw_at I1 hx
  refine ⟨"dict", id, pa, slot, hty, ⟨ob, e1, e2.1⟩, fun b eb => ?_, ?_⟩
  · cases eb
    exact ⟨ob, e1, e2.2.1⟩
  have hA := ha.run cpos pins s1 σ H1 _ I1 q1
  rw [hs] at hA ⊢
  refine Calls.callWith_builtin (by show (false || (backTo cpos (starEach es X.env)).any (·.1)) = false; rw [hplain] <;> rfl) (Calls.evalArgs_plain ?_)
  exact thn hA fun us s2 ⟨vs, H2, I2, r2, q2⟩ => hm pins s2 σ H2 (.ref a) vs (.ref a) us Q I2 r1' r2 q2
/-- d.get(k), d.get(k, x) -/
def rGet1 (K : KW) : V → List V → Hp → VK → Prop := fun x xs H Q => ∃ (F F' : Addr → Prop) (a : Addr) (kvs : List (D × D)) (y : V) (d : D) (od : Option D), x = .ref a ∧ xs = [y] ∧ DicC K F H a kvs ∧ Dt K F' H y d ∧ dicGet kvs d = some od ∧
  (match od with
    | some dv => ∀ v, Dt K F H v dv → Q v H
    | none => Q .non H)
def rGet2 (K : KW) : V → List V → Hp → VK → Prop := fun x xs H Q => ∃ (F F' : Addr → Prop) (a : Addr) (kvs : List (D × D)) (y z : V) (d : D) (od : Option D), x = .ref a ∧ xs = [y, z] ∧ DicC K F H a kvs ∧ Dt K F' H y d ∧ dicGet kvs d = some od ∧
  (match od with
    | some dv => ∀ v, Dt K F H v dv → Q v H
    | none => Q z H)
theorem mt_get1 (hu : X.A.units + 1 + 8 < cLine) : MtR X "dict.get" (rGet1 (kwOf X)) := by
  intro pins s σ H x xs v us Q I rx rxs h
  obtain ⟨F, F', a, kvs, y, d, od, rfl, rfl, hc, hy, hg, q⟩ := h
  obtain rfl : v = Value.ref a := rx
  cases rxs with
  | cons ry rt =>
    rename_i u us
    cases rt
    cases look2 I hc hy ry hg with
    | leaf dd hsy hz ku z =>
      refine call_meetsIn PySem.F.slot_dict_get dd.typeIs PySem.F.entry_dict_get (PySem.F.args_dict_get_2 _ _) (meets_dict_get (mixKind X.prog X.w) a ku hsy) ⟨_, dd.mapOf, ?_⟩
      cases od with
      | none =>
        rw [show valueAt _ _ = none from z]
        exact ⟨.non, H, I.tok _, rfl, q⟩
      | some dv =>
        obtain ⟨v, q1, e, r, hd⟩ := z
        rw [e]
        exact ⟨v, H, I.tok _, r, q v hd⟩
    | nest dd hsy hz eu ku z =>
      subst eu
      refine call_meetsIn PySem.F.slot_dict_get dd.typeIs PySem.F.entry_dict_get (PySem.F.args_dict_get_2 _ _) (meetsH_dict_get (nestedKind X.prog X.w) a _ hsy) ⟨hu, _, _, ku, dd, ?_⟩
      cases od with
      | none =>
        rw [show atKey _ _ = none from z]
        exact ⟨.non, H, I.tok _, rfl, q⟩
      | some dv =>
        obtain ⟨v, q1, e, r, hd⟩ := z
        rw [e]
        exact ⟨v, H, I.tok _, r, q v hd⟩
theorem mt_get2 (hu : X.A.units + 1 + 8 < cLine) : MtR X "dict.get" (rGet2 (kwOf X)) := by
  intro pins s σ H x xs v us Q I rx rxs h
  obtain ⟨F, F', a, kvs, y, zz, d, od, rfl, rfl, hc, hy, hg, q⟩ := h
  obtain rfl : v = Value.ref a := rx
  obtain ⟨u, u2, rfl, ry, rz⟩ := rxs.two
  cases look2 I hc hy ry hg with
  | leaf dd hsy hz ku z =>
    refine call_meetsIn PySem.F.slot_dict_get dd.typeIs PySem.F.entry_dict_get (PySem.F.args_dict_get_3 _ _ _) (meets_dict_get_default (mixKind X.prog X.w) a ku hsy u2) ⟨_, dd.mapOf, ?_⟩
    cases od with
    | none =>
      rw [show valueAt _ _ = none from z]
      exact ⟨zz, H, I.tok _, rz, q⟩
    | some dv =>
      obtain ⟨v, q1, e, r, hd⟩ := z
      rw [e]
      exact ⟨v, H, I.tok _, r, q v hd⟩
  | nest dd hsy hz eu ku z =>
    subst eu
    refine call_meetsIn PySem.F.slot_dict_get dd.typeIs PySem.F.entry_dict_get (PySem.F.args_dict_get_3 _ _ _) (meetsH_dict_get_default (nestedKind X.prog X.w) a _ hsy u2) ⟨hu, _, _, ku, dd, ?_⟩
    cases od with
    | none =>
      rw [show atKey _ _ = none from z]
      exact ⟨zz, H, I.tok _, rz, q⟩
    | some dv =>
      obtain ⟨v, q1, e, r, hd⟩ := z
      rw [e]
      exact ⟨v, H, I.tok _, r, q v hd⟩
end
section
variable {K : KW} {k k1 k2 k3 : Kd} {p p1 p2 p3 : Bool} {ta tb tc : TE} {fa fb fc : Ev}
def getD1 (d e : D) : Option D := match d with
  | .dic kvs => (dicGet kvs e).map fun o => o.getD .non
  | _ => none
def getD2 (d e z : D) : Option D := match d with
  | .dic kvs => (dicGet kvs e).map fun o => o.getD z
  | _ => none
theorem se_get1 (c : Carry k1 p2) (ha : SemE K k1 p1 ta fa) (hb : SemE K .E p2 tb fb) : SemE K .E (p1 && p2) (tBMD (rGet1 K) ta (tCons tb tNil)) (eOp getD1 fa fb) := by
  intro G W σ H sd R d sd' e Q q
  obtain ⟨⟨d1, sd1⟩, e1, e⟩ := Option.bind_eq_some_iff.mp e
  obtain ⟨⟨d2, sd2⟩, e2, e⟩ := Option.bind_eq_some_iff.mp e
  obtain ⟨d3, e3, e⟩ := Option.map_eq_some_iff.mp e
  cases e
  have e3 : getD1 d1 d2 = some _ := e3
  unfold getD1 at e3
  cases d1 with
  | dic kvs =>
    obtain ⟨o, e3, e4⟩ := Option.map_eq_some_iff.mp e3
    refine ha G W σ H sd R _ sd1 e1 _ fun x H1 s1 R1 pp1 x1 => ?_
    refine ⟨?_, ?_⟩
    · obtain ⟨a, rfl, es, ep, hx, _⟩ := x1.dr
      exact ⟨a, es, ep, rfl, hx⟩
    refine hb G W σ H1 sd1 R1 d2 _ e2 _ fun y H2 s2 R2 pp2 x2 => ?_
    obtain ⟨a, rfl, hc⟩ := x1.carry c s2 fun z => (pp2 z).2
    have x2 : Dt K (Fo G W) H2 y d2 := x2
    have fin : ∀ v, Dt K (Fo G W) H2 v d → Q v H2 := fun v hv => q v H2 (s1.trans s2) R2 (fun z => by
      rw [Bool.and_eq_true] at z
      exact ⟨(pp2 z.2).1.trans (pp1 z.1).1, (pp1 z.1).2.trans (pp2 z.2).2⟩) hv
    refine ⟨_, _, a, kvs, y, d2, o, rfl, rfl, hc, x2, e3, ?_⟩
    cases o with
    | some dv =>
      cases e4
      exact fin
    | none =>
      cases e4
      exact fin _ .non
  | _ => cases e3
def eOp3 (g : D → D → D → Option D) (f1 f2 f3 : Ev) : Ev := fun sd => (f1 sd).bind fun x => (f2 x.2).bind fun y => (f3 y.2).bind fun z => (g x.1 y.1 z.1).map fun d => (d, z.2)
theorem se_get2 (c : Carry k1 (p2 && p3)) (ha : SemE K k1 p1 ta fa) (hb : SemE K .E p2 tb fb) (hd : SemE K .E p3 tc fc) : SemE K .E (p1 && (p2 && p3)) (tBMD (rGet2 K) ta (tCons tb (tCons tc tNil))) (eOp3 getD2 fa fb fc) := by
  intro G W σ H sd R d sd' e Q q
  obtain ⟨⟨d1, sd1⟩, e1, e⟩ := Option.bind_eq_some_iff.mp e
  obtain ⟨⟨d2, sd2⟩, e2, e⟩ := Option.bind_eq_some_iff.mp e
  obtain ⟨⟨d3, sd3⟩, e3, e⟩ := Option.bind_eq_some_iff.mp e
  obtain ⟨d4, e4, e⟩ := Option.map_eq_some_iff.mp e
  cases e
  have e4 : getD2 d1 d2 d3 = some _ := e4
  unfold getD2 at e4
  cases d1 with
  | dic kvs =>
    obtain ⟨o, e4, e5⟩ := Option.map_eq_some_iff.mp e4
    refine ha G W σ H sd R _ sd1 e1 _ fun x H1 s1 R1 pp1 x1 => ?_
    refine ⟨?_, ?_⟩
    · obtain ⟨a, rfl, es, ep, hx, _⟩ := x1.dr
      exact ⟨a, es, ep, rfl, hx⟩
    refine hb G W σ H1 sd1 R1 d2 _ e2 _ fun y H2 s2 R2 pp2 x2 => ?_
    refine hd G W σ H2 sd2 R2 d3 _ e3 _ fun z H3 s3 R3 pp3 x3 => ?_
    obtain ⟨a, rfl, hc⟩ := x1.carry c (s2.trans s3) fun z => by
      rw [Bool.and_eq_true] at z
      exact (pp2 z.1).2.trans (pp3 z.2).2
    have x2 : Dt K (Fo G W) H2 y d2 := x2
    have x3 : Dt K (Fo G W) H3 z d3 := x3
    have fin : ∀ v, Dt K (Fo G W) H3 v d → Q v H3 := fun v hv => q v H3 ((s1.trans s2).trans s3) R3 (fun z => by
      rw [Bool.and_eq_true, Bool.and_eq_true] at z
      exact ⟨(pp3 z.2.2).1.trans ((pp2 z.2.1).1.trans (pp1 z.1).1), ((pp1 z.1).2.trans (pp2 z.2.1).2).trans (pp3 z.2.2).2⟩) hv
    refine ⟨_, _, a, kvs, y, z, d2, o, rfl, rfl, hc, x2.stp s3, e4, ?_⟩
    cases o with
    | some dv =>
      cases e5
      exact fin
    | none =>
      cases e5
      exact fin _ x3
  | _ => cases e4
end
/-! ### len(d), list(d) -/
section
variable {K : KW} {F : Addr → Prop} {H : Hp} {a : Addr} {ds : List (D × D)}
theorem leaf_keys : ∀ {kvs : List (Key × V)} {vs : List (Key × Value)} {es : List DictEntry} {ds : List (D × D)}, Pairs (mixKind K.P K.w) es vs → KV kvs vs → DtK K F H kvs ds → Vals (kvs.map fun q => kV q.1) (es.map (·.key)) ∧ DtL K F H (kvs.map fun q => kV q.1) (ds.map (·.1))
  | _, _, _, _, .nil, .nil, .nil => ⟨.nil, .nil⟩
  | (k, v) :: _, (k2, u2) :: _, _, _, .cons h1 h2 r, .cons e r1, .cons h r2 => by
    obtain ⟨i1, i2⟩ := leaf_keys r r1 r2
    have e1 : k = k2 := e.1
    subst e1
    have h1 : keyIs k _ = true := h1
    refine ⟨.cons ?_ i1, .cons ?_ i2⟩
    · cases k with
      | inl i => exact Value.isInt_shape (by simpa [keyIs] using h1)
      | inr x => exact Value.isStrOf_shape (by simpa [keyIs] using h1)
    · cases k with
      | inl i => exact .int i
      | inr x => exact .str x
theorem nest_keys : ∀ {xs : List (NestedKey × Addr × Value)} {ds : List (D × D)}, DtT K F H xs ds → Vals (xs.map fun x => V.ref x.2.1) ((xs.map (entryOfKey (nestedKind K.P K.w))).map (·.key)) ∧ DtL K F H (xs.map fun x => V.ref x.2.1) (ds.map (·.1))
  | _, _, .nil => ⟨.nil, .nil⟩
  | _, _, .cons e hk hv hd r => by
    obtain ⟨i1, i2⟩ := nest_keys r
    exact ⟨.cons rfl i1, .cons hk i2⟩
theorem DicC.keys (h : DicC K F H a ds) : ∃ es ep kv, H a = some (rawO a es ep) ∧ (a == sysModules) = false ∧ es.size = ds.length ∧ es.size ≤ sizeLine ∧ Vals kv (es.toList.map (·.key)) ∧ DtL K F H kv (ds.map (·.1)) := by
  obtain ⟨es, ep, e, h⟩ := h
  rcases h with ⟨vs, kvs, l, k, r⟩ | ⟨xs, l, r⟩
  · obtain ⟨h1, h2⟩ := leaf_keys l.2.2.2.1 k r
    have hl : es.size = vs.length := by
      have := h1.length
      rw [List.length_map, List.length_map] at this
      rw [← Array.length_toList, ← this]
      exact Paired.length k
    refine ⟨es, ep, _, e, l.1, ?_, by rw [hl]; exact l.2.1, h1, h2⟩
    rw [hl, ← Paired.length k]
    exact dtk_len r
  · obtain ⟨h1, h2⟩ := nest_keys r
    rw [← l.2.2.1] at h1
    have hl : es.size = xs.length := by
      have := congrArg List.length l.2.2.1
      rwa [List.length_map, Array.length_toList] at this
    exact ⟨es, ep, _, e, l.1, by rw [hl]; exact dtt_len r, by rw [hl]; exact l.2.1, h1, h2⟩
end
def rLenDic (K : KW) : List V → Hp → VK → Prop := fun xs H Q => ∃ (F : Addr → Prop) (a : Addr) (kvs : List (D × D)), xs = [.ref a] ∧ DicC K F H a kvs ∧ Q (.int kvs.length) H
def rLenSet (K : KW) : List V → Hp → VK → Prop := fun xs H Q => ∃ (a : Addr) (S : Int → Bool) (n : Nat), xs = [.ref a] ∧ H a = some (SetO K.w a S n) ∧ Q (.int n) H
def rLenX (K : KW) : List V → Hp → VK → Prop := fun xs H Q => rLenD K.f xs H Q ∨ (rLenDic K xs H Q ∨ rLenSet K xs H Q)
def rListDic (K : KW) : List V → Hp → VK → Prop := fun xs H Q => ∃ (F : Addr → Prop) (a : Addr) (kvs : List (D × D)), xs = [.ref a] ∧ DicC K F H a kvs ∧ ∀ l ys, H l = none → DtL K F H ys (kvs.map (·.1)) → Q (.ref l) (upd H l (.lst ys))
def rListX (K : KW) : List V → Hp → VK → Prop := fun xs H Q => rListD' K.f xs H Q ∨ rListDic K xs H Q
section
variable {X : Cx}
theorem call_lenDic : CallR X (.builtin "len") (rLenDic (kwOf X)) := by
  intro pins s σ H xs us Q I r h
  obtain ⟨F, a, kvs, rfl, hc, q⟩ := h
  rw [Vals.ref1 r]
  obtain ⟨es, ep, e, h⟩ := hc
  rcases h with ⟨vs, kvs', l, k, r'⟩ | ⟨xs, l, r'⟩
  · have hl : vs.length = kvs.length := by rw [← Paired.length k]; exact dtk_len r'
    have hz := l.2.1
    rw [sizeLine_eq] at hz
    refine call_len_dict l.1 (leaf_of I e l) (by omega) ⟨.int kvs.length, H, I.tok _, ⟨_, by rw [hl]⟩, q⟩
  · have hl : xs.length = kvs.length := dtt_len r'
    have hz := l.2.1
    rw [sizeLine_eq] at hz
    exact call_len_dictH l.1 (nest_of I e l r') (by omega) ⟨.int kvs.length, H, I.tok _, ⟨_, by rw [hl]⟩, q⟩
theorem call_lenSet : CallR X (.builtin "len") (rLenSet (kwOf X)) := by
  intro pins s σ H xs us Q I r h
  obtain ⟨a, S, n, rfl, ha, q⟩ := h
  rw [Vals.ref1 r]
  obtain ⟨o, es, ep, t, ho, hex, hd, g, nd, hm', hb, hf, hn', hr, hl⟩ := setO_get I ha
  unfold scanBound at hb
  exact call_len_set ho hex hd hf (by omega) ⟨.int n, H, I.tok _, ⟨_, by rw [hn']⟩, q⟩
theorem call_lenX : CallR X (.builtin "len") (rLenX (kwOf X)) := call_len.or (call_lenDic.or call_lenSet)
theorem src_raw {P : Program} {w : World} {d : Addr} {es : Array DictEntry} {ep : Nat} (lo : (d == sysModules) = false) : PySem.W.KdlSrc P w "dict" d d es.size (fun i v => ∃ hi : i < es.size, v = es[i].key) (fun h => h.DictRaw d es ep) where
  type := fun _ hm => hm.typeIs
  there := fun _ hm => ⟨let ⟨_, ho, _⟩ := hm; Heap.lt_size ho, let ⟨_, ho, _⟩ := hm; Heap.lt_size ho⟩
  keep := fun _ _ hm hk => hm.at fun o e => hk d (.inl rfl) o e
  notList := by decide
  notTuple := by decide
  hint := fun _ _ _ _ hm hq => PySem.W.kdl_hint_dict hm.typeIs hq
  iter := fun _ s hh hm => ⟨_, _, (fun _ _ hq => wpAny_pyIter_dict_raw lo hm hq), Walks.rawKeys hh _ d (Nat.ne_of_lt (let ⟨_, ho, _⟩ := hm; Heap.lt_size ho)) es ep, ⟨⟨_, Heap.get?_push_size _ rfl, rfl, rfl⟩, hm.at fun o e => Heap.get?_push_of_some _ e⟩⟩
theorem items_keys {es : Array DictEntry} {acc : Array Value} (h : ItemsOf (fun i v => ∃ hi : i < es.size, v = es[i].key) acc es.size) : acc.toList = es.toList.map (·.key) := by
  refine List.ext_getElem? fun j => ?_
  rw [List.getElem?_map, Array.getElem?_toList, Array.getElem?_toList]
  by_cases hj : j < es.size
  · have hj' : j < acc.size := by rw [h.1]; exact hj
    obtain ⟨_, e⟩ := h.2 j _ (Array.getElem?_eq_getElem hj')
    rw [Array.getElem?_eq_getElem hj', Array.getElem?_eq_getElem hj, e]
    rfl
  · rw [Array.getElem?_eq_none (by rw [h.1]; omega), Array.getElem?_eq_none (by omega)]
    rfl
theorem call_listDic (hc : X.calm = true) : CallR X (.type "list") (rListDic (kwOf X)) := by
  intro pins s σ H xs us Q I r h
  obtain ⟨F, a, kvs, rfl, hd, q⟩ := h
  rw [Vals.ref1 r]
  obtain ⟨es, ep, kv, e, lo, hs, hz, rv, rd⟩ := hd.keys
  refine PySem.W.kdl_call (src_raw lo) (I.ok.hd hc) (raw_at I e) hz fun h' tk acc c' hk hD hacc => ?_
  have ea := items_keys hacc
  have hlen : kv.length ≤ sizeLine := by
    rw [rv.length, List.length_map, Array.length_toList]; exact hz
  exact ⟨.ref s.heap.objs.size, upd H s.heap.objs.size (.lst kv), I.laid (t' := tk) hk (Nat.le_refl _)
    (show ObjOk X.prog X.w _ _ _ (.lst kv) from ⟨hlen, acc.toList, c', by rw [ea]; exact rv, by rw [Array.toArray_toList]; exact hD⟩), rfl, q _ kv (I.hok.fresh (Nat.le_refl _)) rd⟩
theorem call_listX (hc : X.calm = true) : CallR X (.type "list") (rListX (kwOf X)) := call_list_of.or (call_listDic hc)
end
def lenXD : D → Option D
  | .dic kvs => some (.int kvs.length)
  | .set ds => (intsD ds).map fun is => .int is.length
  | d => lenD d
def listXD : D → Option D
  | .dic kvs => some (.lst (kvs.map (·.1)))
  | d => listD d
section
variable {K : KW}
theorem cd_lenX : C1D K .E (rLenX K) lenXD := by
  intro F H x d out hf hx hg Q q
  cases d with
  | dic kvs =>
    cases hg
    obtain ⟨a, rfl, hc⟩ := hx
    exact .inr (.inl ⟨F, a, kvs, rfl, hc, q _ H (Same.refl _) (Dt.int _)⟩)
  | set ds =>
    obtain ⟨is, e1, e2⟩ := Option.map_eq_some_iff.mp hg
    cases e2
    obtain ⟨a, rfl, o, ho, hs⟩ := hx
    rcases hs with ⟨S, n, is, rfl, rfl, nd, hl, hm⟩ | ⟨L, rfl, hne, ht, nd, rfl⟩
    · rw [intsD_map] at e1
      cases e1
      rw [hl] at q
      exact .inr (.inr ⟨a, S, n, rfl, ho, q _ H (Same.refl _) (Dt.int _)⟩)
    · cases L with
      | nil => exact absurd rfl hne
      | cons p L => cases e1
  | _ => exact .inl (cd_len F H x _ out hf hx hg Q q)
theorem cd_listX : C1D K .N (rListX K) listXD := by
  intro F H x d out hf hx hg Q q
  cases d with
  | dic kvs =>
    cases hg
    obtain ⟨a, rfl, hc⟩ := hx
    exact .inr ⟨F, a, kvs, rfl, hc, fun l ys hl hd => q _ _ (same_upd hl) ⟨l, rfl, hl, OwnAt.newL hl hd⟩⟩
  | _ => exact .inl (cd_list F H x _ out hf hx hg Q q)
end
end DL

set_option Elab.async false
set_option linter.all false
set_option autoImplicit false
set_option maxRecDepth 100000
set_option maxHeartbeats 4000000
namespace DL
open PySem PySem.Spec PyProof.Rows L2
/-! ### a walk over a dict's keys -/
def Itd (a : Addr) (es : Array DictEntry) (ep : Nat) (kv : List V) : It :=
  ⟨fun i H => H a = some (rawO a es ep) ∧ i < es.size, fun i H x H' => H' = H ∧ kv[i]? = some x, fun i H => H a = some (rawO a es ep) ∧ es.size ≤ i⟩
theorem turn_raw {P : Program} {w : World} {K : PySem.W.Frag} {tg : Expr} {a it : Addr} {es : Array DictEntry} {ep : Nat} {kv : List V} (hne : a ≠ it) (rv : Vals kv (es.toList.map (·.key))) :
    Turn P w K tg (Itd a es ep kv) [it] it (fun i h => h.IsKeyIter it a i es.size ep) where
  mem := by simp
  obj := fun i h st b hb => by
    have e : b = it := by simpa using hb
    subst e
    obtain ⟨o, e, c, d⟩ := st
    exact ⟨o, e, fun v z => by rw [d] at z; cases z⟩
  keep := fun i h h' st k => st.at fun o e => k it (by simp) o e
  item := by
    intro X hP hw hK hc i pins s σ H E I hf st hg
    subst hP hw hK
    obtain ⟨ha, hi⟩ := hg
    have hr := raw_at I ha
    have hu : (es.toList.map (·.key))[i]? = some es[i].key := by
      rw [List.getElem?_map, Array.getElem?_toList, Array.getElem?_eq_getElem hi]; rfl
    have hk : i < kv.length := by rw [rv.length, List.length_map, Array.length_toList]; exact hi
    obtain ⟨u, hu', ru⟩ := rv.get (List.getElem?_eq_getElem hk)
    rw [hu] at hu'
    cases hu'
    obtain ⟨f0, f1, f2, f3, f4, f5⟩ := hf it (by simp)
    refine wpAny_pyNext_keys_item_raw st hr hi fun h' st' sb => ?_
    have I1 : Inv X pins σ H { s with heap := h' } := I.turned (t' := s.toks) (fun b o hb e => (sb.2 b hb).trans e) f0 f1 f3 f4 f5
    obtain ⟨o, e, c, d⟩ := id st'
    exact ⟨_, rfl, go_of (s := { s with heap := h' }) e c d (by decide) ⟨_, H, I1, ru, ⟨rfl, List.getElem?_eq_getElem hk⟩, st', fun b hb => (hf b hb).1⟩⟩
  done := by
    intro X hP hw hK hc i pins s σ H E I hf st hg
    subst hP hw hK
    obtain ⟨ha, hi⟩ := hg
    have hr := raw_at I ha
    obtain ⟨f0, f1, f2, f3, f4, f5⟩ := hf it (by simp)
    exact wpAny_pyNext_keys_end_raw (I.ok.hd hc) st hr hi fun h' eb => ⟨rfl, I.turned (t' := s.toks) (fun b o hb e => eb b o hb e) f0 f1 f3 f4 f5⟩
  self := fun _ _ _ _ _ st hQ => wpAny_pyIter_keyiter st hQ
def iAnyX (K : PySem.W.Frag) (tl : TE) : TI := fun σ H R => tl σ H fun x H1 => (∃ a, x = .ref a ∧ (∃ xs, SqL K H1 a xs) ∧ R (Itl K a) H1) ∨ (∃ a, x = .ref a ∧ (∃ xs, SqT K H1 a xs) ∧ R (Itt K a) H1) ∨
  ∃ a es ep kv, x = .ref a ∧ H1 a = some (rawO a es ep) ∧ (a == sysModules) = false ∧ Vals kv (es.toList.map (·.key)) ∧ R (Itd a es ep kv) H1
theorem pi_anyX {X : Cx} {tg : Expr} {l : Expr} {tl : TE} (hl : PE X l tl) : PI X tg l (iAnyX X.K tl) := by
  refine ⟨fun pins s σ H R I h => ?_⟩
  refine thn (hl.run pins s σ H _ I h) fun v s1 ⟨x, H1, I1, r1, q1⟩ => ?_
  rcases q1 with ⟨a, e, ⟨xs, hq⟩, q⟩ | ⟨a, e, ⟨xs, hq⟩, q⟩ | ⟨a, es, ep, kv, e, hq, lo, rv, q⟩
  · subst e
    cases r1
    obtain ⟨its, rv, p, hz⟩ := I1.list hq
    refine wpAny_pyIter_list p.isList ?_
    refine ⟨s1.heap.objs.size, [s1.heap.objs.size], _, _, H1, rfl, I1.kept (t' := s1.toks) fun b o e => Heap.get?_push_of_some _ e, turn_list a _, ⟨_, Heap.get?_push_size _ rfl, rfl, rfl⟩, fun b hb => ?_, q⟩
    have e : b = s1.heap.objs.size := by simpa using hb
    subst e
    exact I1.fpOk (Nat.le_refl _) (I1.hok.fresh (Nat.le_refl _))
  · subst e
    cases r1
    obtain ⟨its, rv, p, hz⟩ := I1.tuple hq
    refine wpAny_pyIter_tuple (show s1.heap.IsTuple a its.toArray from p) ?_
    refine ⟨s1.heap.objs.size, [s1.heap.objs.size], _, _, H1, rfl, I1.kept (t' := s1.toks) fun b o e => Heap.get?_push_of_some _ e, turn_tuple a _, ⟨_, Heap.get?_push_size _ rfl, rfl, rfl⟩, fun b hb => ?_, q⟩
    have e : b = s1.heap.objs.size := by simpa using hb
    subst e
    exact I1.fpOk (Nat.le_refl _) (I1.hok.fresh (Nat.le_refl _))
  · subst e
    cases r1
    have hr := raw_at I1 hq
    have hlt : a < s1.heap.objs.size := let ⟨_, ho, _⟩ := hr; Heap.lt_size ho
    refine wpAny_pyIter_dict_raw lo hr ?_
    refine ⟨s1.heap.objs.size, [s1.heap.objs.size], _, _, H1, rfl, I1.kept (t' := s1.toks) fun b o e => Heap.get?_push_of_some _ e, turn_raw (Nat.ne_of_lt hlt) rv, ⟨_, Heap.get?_push_size _ rfl, rfl, rfl⟩, fun b hb => ?_, q⟩
    have e : b = s1.heap.objs.size := by simpa using hb
    subst e
    exact I1.fpOk (Nat.le_refl _) (I1.hok.fresh (Nat.le_refl _))
section
variable {K : KW} {k : Kd} {p p2 : Bool} {te : TE} {fe : Ev}
def seqX : D → Option (List D)
  | .dic kvs => some (kvs.map (·.1))
  | d => seqD d
def iSeqX (e : Ev) : Iv := fun sd => (e sd).bind fun r => (seqX r.1).map fun ds => (ds, r.2)
theorem Dt.dicC {F : Addr → Prop} {H : Hp} {v : V} {ds : List (D × D)} (h : Dt K F H v (.dic ds)) : ∃ a, v = .ref a ∧ ¬ F a ∧ DicC K F H a ds := by
  cases h with
  | dK n h l k r => exact ⟨_, rfl, n, _, _, h, .inl ⟨_, _, l, k, r⟩⟩
  | dT n h l r => exact ⟨_, rfl, n, _, _, h, .inr ⟨_, l, r⟩⟩
theorem iter_lst {G : Ctx} {W : Wn} {H : Hp} {a : Addr} {xs : List V} {ds : List D} (n : ¬ Fo G W a) (hx : H a = some (.lst xs)) (hr : DtL K (Fo G W) H xs ds) : IterOk K G W H (Itl K.f a) ds := by
  have r : Dt K (Fo G W) H (.ref a) (.lst ds) := .lst n hx hr
  refine ⟨fun W' H2 i f hi => ?_, fun W' H2 i x H3 f hi y => ?_, fun W' H2 i f hi => ?_⟩
  · have r2 := f.dt _ _ r
    cases r2 with
    | lst _ hx2 hr2 =>
      obtain ⟨v, hv, hd⟩ := hr2.get (List.getElem?_eq_getElem hi)
      refine ⟨⟨_, v, .inl (.inl hx2), hv⟩, fun x H3 y _ => ?_⟩
      obtain ⟨e, y⟩ := y
      subst e
      have := y _ (.inl (.inl hx2))
      rw [hv] at this
      cases this
      exact ⟨_, List.getElem?_eq_getElem hi, hd⟩
  · obtain ⟨e, _⟩ := y
    rw [e]
    exact Same.refl _
  · have r2 := f.dt _ _ r
    cases r2 with
    | lst _ hx2 hr2 => exact ⟨_, .inl (.inl hx2), by rw [hr2.length]; exact hi⟩
theorem iter_tup {G : Ctx} {W : Wn} {H : Hp} {a : Addr} {xs : List V} {ds : List D} (hx : TpAt K H a xs) (hr : DtL K (Fo G W) H xs ds) : IterOk K G W H (Itt K.f a) ds := by
  have r : Dt K (Fo G W) H (.ref a) (.tup ds) := .tup hx hr
  refine ⟨fun W' H2 i f hi => ?_, fun W' H2 i x H3 f hi y => ?_, fun W' H2 i f hi => ?_⟩
  · have r2 := f.dt _ _ r
    cases r2 with
    | tup hx2 hr2 =>
      obtain ⟨v, hv, hd⟩ := hr2.get (List.getElem?_eq_getElem hi)
      refine ⟨⟨_, v, hx2.sq, hv⟩, fun x H3 y _ => ?_⟩
      obtain ⟨e, y⟩ := y
      subst e
      have := y _ hx2.sq
      rw [hv] at this
      cases this
      exact ⟨_, List.getElem?_eq_getElem hi, hd⟩
  · obtain ⟨e, _⟩ := y
    rw [e]
    exact Same.refl _
  · have r2 := f.dt _ _ r
    cases r2 with
    | tup hx2 hr2 => exact ⟨_, hx2.sq, by rw [hr2.length]; exact hi⟩
/-- frozen rows in a later frame -/
theorem frm_all {G : Ctx} {W W' : Wn} {H H' : Hp} (f : Frm K G W H W' H') : ∀ {vs : List V} {ds : List D}, DtL K (Fo G W) H vs ds → DtL K (Fo G W') H' vs ds := by
  intro vs
  induction vs with
  | nil => intro ds r; cases r; exact .nil
  | cons v vs ih => intro ds r; cases r with | cons a b => exact .cons (f.dt _ _ a) (ih b)
theorem iter_dic {G : Ctx} {W : Wn} {H : Hp} {a : Addr} {es : Array DictEntry} {ep : Nat} {kv : List V} {ds : List D} (n : ¬ Fo G W a) (hx : H a = some (rawO a es ep)) (hl : es.size = ds.length) (hr : DtL K (Fo G W) H kv ds) : IterOk K G W H (Itd a es ep kv) ds := by
  refine ⟨fun W' H2 i f hi => ?_, fun W' H2 i x H3 f hi y => ?_, fun W' H2 i f hi => ?_⟩
  · refine ⟨⟨(f.fx _ _ hx n).2, by rw [hl]; exact hi⟩, fun x H3 y _ => ?_⟩
    obtain ⟨e, y⟩ := y
    subst e
    obtain ⟨v, hv, hd⟩ := (frm_all f hr).get (List.getElem?_eq_getElem hi)
    rw [hv] at y
    cases y
    exact ⟨_, List.getElem?_eq_getElem hi, hd⟩
  · obtain ⟨e, _⟩ := y
    rw [e]
    exact Same.refl _
  · exact ⟨(f.fx _ _ hx n).2, by rw [hl]; exact hi⟩
theorem si_anyX (h : SemE K .E p te fe) : SemI K p (iAnyX K.f te) (iSeqX fe) := by
  intro G W σ H sd R ds sd' e Q q
  obtain ⟨⟨d, sd1⟩, e1, e⟩ := Option.bind_eq_some_iff.mp e
  obtain ⟨ds', e2, e⟩ := Option.map_eq_some_iff.mp e
  cases e
  refine h G W σ H sd R d _ e1 _ fun v H' s R' pp r => ?_
  have r' : Dt K (Fo G W) H' v d := r
  cases d with
  | lst ds0 =>
    cases e2
    cases r' with
    | lst n hx hr => exact .inl ⟨_, rfl, ⟨_, .inl (.inl hx)⟩, q _ H' s R' pp (iter_lst n hx hr)⟩
  | tup ds0 =>
    cases e2
    cases r' with
    | tup hx hr => exact .inr (.inl ⟨_, rfl, ⟨_, hx.sq⟩, q _ H' s R' pp (iter_tup hx hr)⟩)
  | dic kvs =>
    cases e2
    obtain ⟨a, rfl, n, hc⟩ := r'.dicC
    obtain ⟨es, ep, kv, hx, lo, hl, hz, rv, rd⟩ := hc.keys
    exact .inr (.inr ⟨a, es, ep, kv, rfl, hx, lo, rv, q _ H' s R' pp (iter_dic n hx (by rw [List.length_map]; exact hl) rd)⟩)
  | _ => cases e2
end
end DL

set_option Elab.async false
set_option linter.all false
set_option autoImplicit false
set_option maxRecDepth 100000
set_option maxHeartbeats 4000000
namespace DL
open PySem PySem.Spec PyProof.Rows L2
theorem raw_new {P : Program} {w : World} {H : Hp} (h : Heap) : ObjOk P w H (h.push { cls := .type "dict", data := .dict #[] }) h.objs.size (rawO h.objs.size #[] 0) :=
  ⟨⟨_, Heap.get?_push_size _ rfl, ⟨rfl, rfl, rfl⟩, rfl⟩, ⟨_, Heap.get?_push_size _ rfl⟩, fun h1 h2 p k => Heap.DictRaw.at p k⟩
/-- the room a key takes, in the def's own turn -/
theorem d_dictSetX {X : Cx} {pins : List (Addr × Obj)} {σ : St'} {H : Hp} {s : Shared} {E : Value → Shared → Prop} {D : Addr} {y v : V} {iv u : Value} {Q : Unit → Shared → Prop} {Nx : Hp → Prop} (hu : X.A.units + 1 + 8 < cLine) (I : Inv X pins σ H s)
    (ry : RelV y iv) (rv : RelV v u) (h : rSetDic (kwOf X) (.ref D) y v H Nx) (hq : ∀ s' H', Inv X pins σ H' s' → Nx H' → Q () s') : wpAny (model X.prog X.w) X.A (dictSet D iv u) Q E s := by
  obtain ⟨F, a, kvs, kvs', d, dv, ea, fa, hc, hy, hv, hp, q⟩ := h
  cases ea
  have st : ∀ es ep, Stp F H (upd H D (rawO D es ep)) := fun es ep x w e z => by
    obtain ⟨es0, ep0, e0, _⟩ := hc
    rw [upd_ne fun ex => ?_]
    · exact e
    · subst ex
      rw [e0] at e
      cases e
      rcases z with z | ⟨_, z⟩
      · exact z fa
      · cases z
  have mu : Mut (H D) := by
    obtain ⟨es0, ep0, e0, _⟩ := hc
    rw [e0]; exact True.intro
  unfold dicPut at hp
  split at hp
  · rename_i hsz
    split at hp
    · rename_i k hk
      split at hp
      · rename_i c
        cases hp
        obtain ⟨es, ep, vs, kv, e, l, r1, r2⟩ := hc.leaf c
        have ed := keyL_eq hk
        subst ed
        have ku : keyIs k iv = true := by
          cases k with
          | inl i => cases hy; obtain ⟨t, rfl⟩ := ry; exact keyIs_int i t
          | inr x => cases hy; obtain ⟨t, rfl⟩ := ry; exact keyIs_str x t
        refine wpAny_dictSet_pairs (knd := mixKind X.prog X.w) (hsz := l.2.1) ku (leaf_of I e l) fun h' dd' hs => ?_
        obtain ⟨o', es', ep', ho, h1, h2, h3, h4, h5⟩ := dd'
        obtain ⟨kv', r3, r4⟩ := leaf_put (k := k) rv hv r1 r2
        have hlen : (stored vs k u).length ≤ sizeLine := by
          rw [← Paired.length r3, dtk_len r4]
          unfold putBy
          split
          · rw [List.length_map]; exact szl_le hsz
          · rw [List.length_append, List.length_singleton]; exact szl_lt hsz
        have raw : h'.DictRaw D es' ep' := ⟨o', ho, h1, h2⟩
        refine hq _ _ (I.write (x := D) (e := D) (t' := s.toks + 1) (o := rawO D es' ep') mu (.inl rfl) (fun b w hb z => (hs.2 b hb).trans z) ⟨o', ho⟩ ⟨raw, ⟨o', ho⟩, fun h1 h2 p k => Heap.DictRaw.at p k⟩) ?_
        exact q es' ep' ⟨es', ep', upd_same, .inl ⟨_, kv', ⟨l.1, hlen, h3, h4, h5⟩, r3, r4.stp (st es' ep')⟩⟩
      · cases hp
    · split at hp
      · rename_i k hk
        split at hp
        · rename_i c
          cases hp
          obtain ⟨es, ep, xs, e, l, r⟩ := hc.nest c
          obtain ⟨ds, rfl, e1, e2⟩ := nkT_tup hk
          cases hy with
          | tup hx hr =>
            cases ry
            rename_i b _
            refine wpAny_dictSet_heap (knd := nestedKind X.prog X.w) (hsz := l.2.1) (by show X.A.units + 8 < cLine; omega) ⟨Dt.nested I (.tup hx hr) rfl e1, e2⟩ (nest_of I e l r) fun h' dd' hs => ?_
            obtain ⟨o', es', ep', ho, h1, h2, h3, h4, h5⟩ := dd'
            have r4 := nest_put hk (.tup hx hr) rv hv r
            have hlen : (storedH xs k b u).length ≤ sizeLine := by
              rw [dtt_len r4]
              unfold putBy
              split
              · rw [List.length_map]; exact szl_le hsz
              · rw [List.length_append, List.length_singleton]; exact szl_lt hsz
            have raw : h'.DictRaw D es' ep' := ⟨o', ho, h1, h2⟩
            refine hq _ _ (I.write (x := D) (e := D) (t' := _) (o := rawO D es' ep') mu (.inl rfl) (fun b w hb z => (hs.2 b hb).trans z) ⟨o', ho⟩ ⟨raw, ⟨o', ho⟩, fun h1 h2 p k => Heap.DictRaw.at p k⟩) ?_
            exact q es' ep' ⟨es', ep', upd_same, .inr ⟨_, ⟨l.1, hlen, h3, h5⟩, r4.stp (st es' ep')⟩⟩
        · cases hp
      · cases hp
  · cases hp
section
variable {X : Cx}
/-- {k: v for target in iter if ..}, keys ints or texts: D the new dict -/
def tDcX (K : KW) (wi : TI) (g : TG) (tt : TT) (tk tv : TE) (vs : List Nat) : TE := fun σ H Q => wi σ H fun J H1 => ∀ D, H1 D = none → (D == sysModules) = false → ∃ W : Nat → Nat → Hp → Prop, (∃ m, W 0 m (upd H1 D (rawO D #[] 0))) ∧ ∀ i m H, W i m H →
  (J.stop i H ∧ Q (.ref D) H) ∨ (J.go i H ∧ ∃ Nx : Hp → Prop, (∀ H', Nx H' → ∃ m', m' < m ∧ W (i + 1) m' H') ∧ ∀ x H', J.yld i H x H' → g x (wipe σ vs) H' fun σ2 H2 => wipe σ2 vs = wipe σ vs ∧ tt σ2 H2 fun b H3 =>
    if b = true then tk σ2 H3 fun y H4 => tv σ2 H4 fun z H5 => rSetDic K (.ref D) y z H5 Nx else Nx H3)
theorem dcX_core {pins : List (Addr × Obj)} {s : Shared} {σ : L2.St} {H : Hp} {Q : VK} {kx vx tg iter : Expr} {ifs : List Expr} {scope : Scope} {own : List (Str × Nat)} {pos pos' : Pos} {wi : TI} {g : TG} {tt : TT} {tk tv : TE} {use : Option (Value → Sem Unit)} {Qf : Value → Shared → Prop}
    (hc : X.calm = true) (hN : X.N.Nodup) (I : Inv X pins σ H s) (hi : PI X tg iter wi) (ok : BlkOk X.N X.env.scope scope own)
    (hg : ∀ (s : Shared) (H : Hp) (C : Addr) (cl : List (Str × Addr)) (fp : List Addr), PG (X.blk s H scope (compEnvC scope cl C X.env) fp) tg g) (ht : ∀ (s : Shared) (H : Hp) (C : Addr) (cl : List (Str × Addr)) (fp : List Addr), PTs (X.blk s H scope (compEnvC scope cl C X.env) fp) ifs tt)
    (hk : ∀ (s : Shared) (H : Hp) (C : Addr) (cl : List (Str × Addr)) (fp : List Addr), PE (X.blk s H scope (compEnvC scope cl C X.env) fp) kx tk)
    (he : ∀ (s : Shared) (H : Hp) (C : Addr) (cl : List (Str × Addr)) (fp : List Addr), PE (X.blk s H scope (compEnvC scope cl C X.env) fp) vx tv) (hs : ∀ x, foldedSetIterable iter X.env x = pure x) (hroom : X.A.units + 1 + 8 < cLine)
    (h : tDcX (kwOf X) wi g tt tk tv (own.map (·.2)) σ H Q)
    (hRR : ∀ D C s' m H', Inv X pins σ H' s' → Q (.ref D) H' → s'.heap.Ns C m → FpOk X pins H' C → compPost (model X.prog X.w) X.A X.xe use Qf (.ref D) C (.ok .next) s') :
    wpAny (model X.prog X.w) X.A (comprehension (.DictComp kx vx [⟨tg, iter, ifs, 0⟩] scope pos) scope X.env pos' newDict false (eval iter X.env) use) Qf X.xe s := by
  have hfree : ∀ y ∈ scope.names, y.2 = .free → ∃ c, X.env.cells.lookup y.1 = some c := fun y hy e => by
    rcases ok.free y hy e with k | k
    · exact I.ok.has _ (.inl k)
    · exact I.ok.has _ (.inr k)
  refine wpAny_comprehension_free (use := use) rfl hs (closure_ok hfree) ok.kind (fun y hy e => by rw [ok.uniq y hy, e])
    (thn (hi.run pins s σ H _ I h) fun xv s1 hx => thn hx fun itv s2 h2 => ?_)
  obtain ⟨it, fp, tn, J, H2, e, I2, T, st2, f2, q⟩ := h2
  subst e
  refine wpAny_newObj_type (newEnv_comp ?_)
  generalize hD : s2.heap.objs.size = D
  have hDn : H2 D = none := I2.hok.fresh (Nat.le_of_eq hD)
  have hDs : (D == sysModules) = false := by rw [← hD]; exact beq_eq_false_iff_ne.mpr (Ne.symm (Nat.ne_of_lt I2.big))
  obtain ⟨W, ⟨m0, w0⟩, turn⟩ := q D hDn hDs
  -- the new list
  generalize hs3 : ({ s2 with heap := s2.heap.push { cls := .type "dict", data := .dict #[] } } : Shared) = s3
  have I3 : Inv X pins σ (upd H2 D (rawO D #[] 0)) s3 := by
    rw [← hs3]
    refine I2.laid (t' := s2.toks) (fun b o e => Heap.get?_push_of_some _ e) (Nat.le_of_eq hD) ?_
    rw [← hD]
    exact raw_new s2.heap
  have h3 : s3.heap = s2.heap.push { cls := .type "dict", data := .dict #[] } := by rw [← hs3]
  have sz : ∀ b ∈ fp, b < s2.heap.objs.size := fun b hb => by
    obtain ⟨o, e, _⟩ := T.obj _ _ st2 b hb
    exact Heap.lt_size e
  have f3 : ∀ b ∈ fp, FpOk X pins (upd H2 D (rawO D #[] 0)) b ∧ b < s3.heap.objs.size := fun b hb => by
    have hlt := sz b hb
    refine ⟨⟨?_, (f2 b hb).2⟩, by rw [h3, Heap.size_push]; exact Nat.lt_succ_of_lt hlt⟩
    rw [upd_ne (by rw [← hD]; exact Nat.ne_of_lt hlt)]
    exact (f2 b hb).1
  have st3 : tn 0 s3.heap := T.keep _ _ _ st2 fun b _ o e => by rw [h3]; exact Heap.get?_push_of_some _ e
  have I4 := block_start I3 ok hN f3
  have pg := hg s3 (upd H2 D (rawO D #[] 0)) s3.heap.objs.size (cellsFrom (s3.heap.objs.size + 1) scope.names (cloFrom X.env.cells scope.names [])) fp
  have pt := ht s3 (upd H2 D (rawO D #[] 0)) s3.heap.objs.size (cellsFrom (s3.heap.objs.size + 1) scope.names (cloFrom X.env.cells scope.names [])) fp
  have pk := hk s3 (upd H2 D (rawO D #[] 0)) s3.heap.objs.size (cellsFrom (s3.heap.objs.size + 1) scope.names (cloFrom X.env.cells scope.names [])) fp
  have pe := he s3 (upd H2 D (rawO D #[] 0)) s3.heap.objs.size (cellsFrom (s3.heap.objs.size + 1) scope.names (cloFrom X.env.cells scope.names [])) fp
  show codeAny _ _ (.compStart (.DictComp kx vx [⟨tg, iter, ifs, 0⟩] scope pos) 0 (.ref it) (.ref D) (compEnvC scope (cellsFrom (s3.heap.objs.size + 1) scope.names (cloFrom X.env.cells scope.names [])) s3.heap.objs.size X.env)) (compPost (model X.prog X.w) X.A X.xe use Qf (.ref D) s3.heap.objs.size) { s3 with heap := pushCells (s3.heap.push { cls := .type "dict", data := .dict #[] }) scope.names }
  have nfp : ∀ b ∈ fp, (upd H2 D (rawO D #[] 0)) b = none := fun b hb => (f3 b hb).1.1
  generalize hce : compEnvC scope (cellsFrom (s3.heap.objs.size + 1) scope.names (cloFrom X.env.cells scope.names [])) s3.heap.objs.size X.env = ce at I4 pg pt pk pe ⊢
  have cL : ce.locals = s3.heap.objs.size := by subst hce; rfl
  generalize hH3 : upd H2 D (rawO D #[] 0) = H3 at I3 I4 pg pt pk pe w0 nfp f3
  generalize hs4 : ({ s3 with heap := pushCells (s3.heap.push { cls := .type "dict", data := .dict #[] }) scope.names } : Shared) = s4 at I4 ⊢
  have st4 : tn 0 s4.heap := T.keep _ _ _ st3 fun b _ o e => by rw [← hs4]; exact pushCells_keeps _ _ _ _ (Heap.get?_push_of_some _ e)
  have stat : ∀ {σ' : L2.St} {H' : Hp} {s' : Shared}, Inv (X.blk s3 H3 scope ce fp) [] σ' H' s' → (∀ b ∈ fp, H' b = none) → ∀ b ∈ fp, FpOk (X.blk s3 H3 scope ce fp) [] H' b := fun {σ' H' s'} I' hn b hb =>
    ⟨hn b hb, (I'.ok.exf b hb).1, I'.ok.exfs b hb, .inl hb, fun x c e => (I'.ok.exf b hb).2 x c e, fun p hp => absurd (show p ∈ ([] : List (Addr × Obj)) ++ [] from hp) (by simp)⟩
  have loop : codeAny (model X.prog X.w) X.A (.compLoop (.DictComp kx vx [⟨tg, iter, ifs, 0⟩] scope pos) 0 (.ref it) (.ref D) ce) (compPost (model X.prog X.w) X.A X.xe use Qf (.ref D) s3.heap.objs.size) s4 := by
    refine compLoop_anyD (fun n s' => ∃ i H', Inv (X.blk s3 H3 scope ce fp) [] (wipe σ (own.map (·.2))) H' s' ∧ tn i s'.heap ∧ (∀ b ∈ fp, H' b = none) ∧ W i n H') ?_ m0 ⟨0, H3, I4, st4, nfp, w0⟩
    rintro n s5 ⟨i, H5, I5, st5, n5, w5⟩
    rcases turn i n H5 w5 with ⟨stop, qq⟩ | ⟨go, Nx, hNx, step⟩
    · have td := T.done (X.blk s3 H3 scope ce fp) rfl rfl rfl hc i [] s5 _ H5 (fun _ _ => False) I5 (stat I5 n5) st5 stop
      refine thnF td fun r s6 ⟨hr, I6⟩ => ?_
      subst hr
      -- back in the def's context
      have I7 : Inv X pins σ H5 s6 := I3.call' (ch := fp) I6.os I6.base I6.hok I6.bare fun b hb => ⟨(f3 b hb).1.2.2.2.1, (f3 b hb).1.2.1, (f3 b hb).1.2.2.2.2.1, (f3 b hb).1.2.2.2.2.2⟩
      have nC : H5 s3.heap.objs.size = none := by
        have z : H5 ce.locals = none := I6.free
        rw [cL] at z
        exact z
      obtain ⟨m, hn, _⟩ := I6.loc
      have hn : s6.heap.Ns ce.locals m := hn
      rw [cL] at hn
      exact hRR D s3.heap.objs.size s6 m H5 I7 qq hn (I3.fpOk (Nat.le_refl _) nC)
    · have ti := T.item (X.blk s3 H3 scope ce fp) rfl rfl rfl hc i [] s5 _ H5 (fun _ _ => False) I5 (stat I5 n5) st5 go
      refine thnF ti fun r s6 ⟨u, hr, h6⟩ => ?_
      subst hr
      refine thnF h6 fun _ s7 ⟨x, H7, I7, r7, y7, st7, n7⟩ => ?_
      have I7' := I7.pinned (stat I7 n7) (T.obj _ _ st7)
      refine thnF (pg.run _ s7 _ H7 x u _ I7' r7 (step x H7 y7)) fun _ s8 ⟨σ8, H8, I8, hw8, q8⟩ => ?_
      refine thnF (pt.run _ s8 σ8 H8 _ I8 q8) fun b s9 ⟨H9, I9, q9⟩ => ?_
      -- the turn's end
      have fin : ∀ {s' : Shared} {H' : Hp}, Inv (X.blk s3 H3 scope ce fp) ([] ++ pinsAt fp s7.heap) σ8 H' s' → Nx H' → ∃ m, m < n ∧ ∃ i H', Inv (X.blk s3 H3 scope ce fp) [] (wipe σ (own.map (·.2))) H' s' ∧ tn i s'.heap ∧ (∀ b ∈ fp, H' b = none) ∧ W i m H' := fun {s' H'} I' nx => by
        obtain ⟨m', hm, w'⟩ := hNx H' nx
        have pin' : ∀ b ∈ fp, ∀ o, s7.heap.get? b = some o → s'.heap.get? b = some o ∧ H' b = none := fun b hb o e =>
          let z := I'.pin (b, o) (List.mem_append_right _ (List.mem_append_right _ (mem_pinsAt hb e)))
          ⟨z.1, z.2.1⟩
        have hl : (wipe σ (own.map (·.2))).length = σ8.length := by rw [← hw8, wipe_length]
        refine ⟨m', hm, i + 1, H', (I'.unpinned (pins := [])).weak hl (fun j v e => ?_), T.keep _ _ _ st7 fun b hb o e => (pin' b hb o e).1, fun b hb => ?_, w'⟩
        · rw [← hw8] at e
          exact (wipe_some e).1
        · obtain ⟨o, e, _⟩ := T.obj _ _ st7 b hb
          exact (pin' b hb o e).2
      cases b with
      | false =>
        simp only [Bool.false_eq_true, if_false] at q9 ⊢
        exact fin I9 q9
      | true =>
        simp only [if_true] at q9 ⊢
        refine thnF (pk.run _ s9 σ8 H9 _ I9 q9) fun z s10 ⟨yk, H10, I10, r10, q10⟩ => ?_
        refine thnF (pe.run _ s10 σ8 H10 _ I10 q10) fun z2 s11 ⟨yv, H11, I11, r11, nx⟩ => ?_
        exact d_dictSetX (X := X.blk s3 H3 scope ce fp) hroom I11 r10 r11 nx fun s12 H12 I12 nx => fin I12 nx
  exact codeAny_compStart_dict loop (T.self X.A 0 _ _ _ st4 loop)
/-- as a value -/
theorem pe_dcX (hroom : X.A.units + 1 + 8 < cLine) {kx vx tg iter : Expr} {ifs : List Expr} {scope : Scope} {own : List (Str × Nat)} {pos : Pos} {wi : TI} {g : TG} {tt : TT} {tk tv : TE} (hc : X.calm = true) (hN : X.N.Nodup) (hi : PI X tg iter wi) (ok : BlkOk X.N X.env.scope scope own)
    (hg : ∀ (s : Shared) (H : Hp) (C : Addr) (cl : List (Str × Addr)) (fp : List Addr), PG (X.blk s H scope (compEnvC scope cl C X.env) fp) tg g) (ht : ∀ (s : Shared) (H : Hp) (C : Addr) (cl : List (Str × Addr)) (fp : List Addr), PTs (X.blk s H scope (compEnvC scope cl C X.env) fp) ifs tt)
    (hk : ∀ (s : Shared) (H : Hp) (C : Addr) (cl : List (Str × Addr)) (fp : List Addr), PE (X.blk s H scope (compEnvC scope cl C X.env) fp) kx tk)
    (he : ∀ (s : Shared) (H : Hp) (C : Addr) (cl : List (Str × Addr)) (fp : List Addr), PE (X.blk s H scope (compEnvC scope cl C X.env) fp) vx tv) (hs : ∀ x, foldedSetIterable iter X.env x = pure x := by intro _; rfl) :
    PE X (.DictComp kx vx [⟨tg, iter, ifs, 0⟩] scope pos) (tDcX (kwOf X) wi g tt tk tv (own.map (·.2))) := by
  refine ⟨fun pins s σ H Q I h => ?_⟩
  rw [arm_eval_DictComp]
  refine dcX_core hc hN I hi ok hg ht hk he hs hroom h fun D C s' m H' I' q hn f => ⟨m, hn, fun h'' sb => ?_⟩
  obtain ⟨f0, f1, f2, f3, f4, f5⟩ := f
  exact ⟨.ref D, H', I'.turned (t' := s'.toks) (fun b o hb e => (sb.2 b hb).trans e) f0 f1 f3 f4 f5, rfl, q⟩

end
/-! ### dict comprehensions, told -/
theorem dicC_nil {K : KW} {F : Addr → Prop} {H : Hp} {a : Addr} (hs : (a == sysModules) = false) (e : H a = some (rawO a #[] 0)) : DicC K F H a [] :=
  ⟨#[], 0, e, .inl ⟨[], [], ⟨hs, Nat.zero_le _, fun e he => by simp at he, .nil, List.nodup_nil⟩, .nil, .nil⟩⟩
def cLoopD (vs : List Nat) (g : Gv) (tt : Tv) (tk te : Ev) : List D → List (D × D) → Sd → Option (List (D × D) × Sd)
  | [], acc, sd => some (acc, sd)
  | d :: r, acc, sd => (g d sd).bind fun s => (tt s).bind fun b =>
    if b.1 = true then (tk b.2).bind fun y => (te y.2).bind fun z => (dicPut acc y.1 z.1).bind fun acc' => if compOk vs z.2 = true then cLoopD vs g tt tk te r acc' (unD vs z.2) else none
    else if compOk vs b.2 = true then cLoopD vs g tt tk te r acc (unD vs b.2) else none
def eCompD (vs : List Nat) (i : Iv) (g : Gv) (tt : Tv) (tk te : Ev) : Ev := fun sd => (i sd).bind fun r =>
  if compOk vs r.2 = true then (cLoopD vs g tt tk te r.1 [] (unD vs r.2)).map fun q => (.dic q.1, restoreD vs r.2 q.2) else none
section
variable {K : KW} {p p2 : Bool} {te tk : TE} {fe fk : Ev}
theorem se_compD {vs : List Nat} {p3 p4 : Bool} {wi : TI} {fi : Iv} {tg : TG} {g : Gv} {tt : TT} {ft : Tv} (hi : SemI K p wi fi) (hg : SemC K vs tg g) (ht : SemT K p2 tt ft) (hk : SemE K .E p3 tk fk) (he : SemE K .E p4 te fe) :
    SemE K .N (p && (p2 && (p3 && p4))) (tDcX K wi tg tt tk te vs) (eCompD vs fi g ft fk fe) := by
  intro G W σ H sd R d sd' e Q q
  obtain ⟨⟨ds, sd0⟩, e0, e⟩ := Option.bind_eq_some_iff.mp e
  simp only at e
  split at e
  · rename_i hc
    obtain ⟨⟨res, sdE⟩, e1, e⟩ := Option.map_eq_some_iff.mp e
    cases e
    refine hi G W σ H sd R ds sd0 e0 _ fun J H0 s0 R0 pp0 io Dd nD hDs => ?_
    have nb := R0.brN nD
    have n0 : G.H0 Dd = none := R0.h0N nD
    have nfx : G.fx Dd = none := by
      cases z : G.fx Dd with
      | none => rfl
      | some o => have := R0.fix Dd o z; rw [nD] at this; cases this
    have Rw := R0.wipe hc
    have hWl : W σ.length = none := (R0.out σ.length (Nat.le_of_eq R0.len.symm)).1
    have hcu : compOk vs (unD vs sd0) = true := compOk_un hc
    have FW : ∀ (ob : HO) (b : Addr), Fo G (wset W σ.length (some Dd)) b ↔ Fo (G.fixed Dd ob nb) W b := fun ob b => by
      rw [fo_fixed]
      constructor
      · exact fo_some
      · rintro (h | h)
        · rcases h with h | ⟨j, h⟩
          · exact .inl h
          · exact .inr ⟨j, by rw [wset_ne (fun z => by rw [z, hWl] at h; cases h)]; exact h⟩
        · exact .inr ⟨σ.length, by rw [wset_same, h]⟩
    refine ⟨fun i m H1 => m = ds.length - i ∧ i ≤ ds.length ∧ ∃ es ep accD sdi, DicC K (Fo (G.fixed Dd (rawO Dd es ep) nb) W) H1 Dd accD ∧ Rel K (G.fixed Dd (rawO Dd es ep) nb) W (L2.wipe σ vs) H1 sdi ∧ compOk vs sdi = true ∧
        Stp (Fo G W) H0 H1 ∧ Stp (fun b => Fo G W b ∨ b = Dd) H0 H1 ∧ cLoopD vs g ft fk fe (ds.drop i) accD sdi = some (res, sdE) ∧ (((p2 && (p3 && p4)) = true) → sdi = unD vs sd0 ∧ ∀ b o, b ≠ Dd → H0 b = some o → H1 b = some o),
      ⟨ds.length, by omega, Nat.zero_le _, #[], 0, [], unD vs sd0, dicC_nil hDs upd_same, Rw.fixed nD _, hcu, Stp.of_same (same_upd nD), Stp.of_same (same_upd nD), e1, fun _ => ⟨rfl, fun b o nb e => by rw [upd_ne nb]; exact e⟩⟩, ?_⟩
    rintro i m H1 ⟨rfl, hil, es, ep, accD, sdi, hacc, Ri, ci, st1, st2, el, pur⟩
    have hD1 : H1 Dd = some (rawO Dd es ep) := Ri.fix Dd _ (if_pos rfl)
    have frm : Frm K G W H0 (wset W σ.length (some Dd)) H1 := ⟨fun v d h => (h.apart nD).mv st2 fun b => fo_some, fun b o e n => ⟨fun z => (fo_some z).elim n fun q => (by rw [q, nD] at e; cases e), st2 b o e (.inl fun z => z.elim n fun q => (by rw [q, nD] at e; cases e))⟩⟩
    by_cases hl : i < ds.length
    · obtain ⟨go, yl⟩ := io.go _ H1 i frm hl
      refine .inr ⟨go, fun H' => ∃ es ep accD sdi, DicC K (Fo (G.fixed Dd (rawO Dd es ep) nb) W) H' Dd accD ∧ Rel K (G.fixed Dd (rawO Dd es ep) nb) W (L2.wipe σ vs) H' sdi ∧ compOk vs sdi = true ∧
        Stp (Fo G W) H0 H' ∧ Stp (fun b => Fo G W b ∨ b = Dd) H0 H' ∧ cLoopD vs g ft fk fe (ds.drop (i + 1)) accD sdi = some (res, sdE) ∧ (((p2 && (p3 && p4)) = true) → sdi = unD vs sd0 ∧ ∀ b o, b ≠ Dd → H0 b = some o → H' b = some o), fun H' hN => ⟨ds.length - (i + 1), by omega, rfl, hl, hN⟩, fun x H2 y => ?_⟩
      have sm := io.same _ H1 i x H2 frm hl y
      obtain ⟨d, hd, hx⟩ := yl x H2 y ⟨sm, fun a z => by
        rcases fo_some z with z | z
        · exact Ri.fdom (fo_fixed.mpr (.inl z))
        · rw [z, hD1]; exact fun z => nomatch z⟩
      have ed : ds.drop i = d :: ds.drop (i + 1) := by
        rw [List.drop_eq_getElem_cons hl]
        rw [List.getElem?_eq_getElem hl] at hd
        cases hd; rfl
      rw [ed] at el
      obtain ⟨sd2, e2, el⟩ := Option.bind_eq_some_iff.mp el
      obtain ⟨⟨b3, sd3⟩, e3, el⟩ := Option.bind_eq_some_iff.mp el
      have R2 := Ri.same sm
      refine hg _ W _ H2 sdi R2 ci x d sd2 (hx.anti fun b z => (FW (rawO Dd es ep) b).mpr z) e2 _ fun σ2 R3 oe do2 c2 => ?_
      have ew : L2.wipe σ2 vs = L2.wipe σ vs := (OutEq.wipe oe).trans wipe_wipe
      refine ⟨ew, ?_⟩
      refine ht _ W σ2 H2 sd2 R3 b3 sd3 e3 _ fun H3 s3 R4 pp3 => ?_
      have F1 : ∀ b, (Fo G W b ∨ b = Dd) → Fo (G.fixed Dd (rawO Dd es ep) nb) W b := fun b z => fo_fixed.mpr z
      have F2 : ∀ b, Fo (G.fixed Dd (rawO Dd es ep) nb) W b → (Fo G W b ∨ b = Dd) := fun b z => fo_fixed.mp z
      have t1 : ∀ {A B : Hp}, Stp (Fo (G.fixed Dd (rawO Dd es ep) nb) W) A B → Stp (fun b => Fo G W b ∨ b = Dd) A B := fun h => h.anti F2
      -- a step that leaves all but Dd, seen from H0 (where Dd is not)
      have t2 : ∀ {B : Hp}, Stp (fun b => Fo G W b ∨ b = Dd) H0 B → Stp (Fo G W) H0 B := fun h b o e z => h b o e (z.imp (fun z q => q.elim z fun q => by rw [q, nD] at e; cases e) id)
      simp only at el
      split at el
      · rename_i hb
        rw [if_pos hb]
        obtain ⟨⟨y4, sd4⟩, e4, el⟩ := Option.bind_eq_some_iff.mp el
        obtain ⟨⟨y5, sd5⟩, e5, el⟩ := Option.bind_eq_some_iff.mp el
        obtain ⟨acc', ea, el⟩ := Option.bind_eq_some_iff.mp el
        simp only at el
        split at el
        · rename_i hz
          refine hk _ W σ2 H3 sd3 R4 y4 sd4 e4 _ fun v4 H4 s4 R5 pp4 r4 => ?_
          refine he _ W σ2 H4 sd4 R5 y5 sd5 e5 _ fun v5 H5 s5 R5' pp5 r5 => ?_
          have hD4 : H5 Dd = some (rawO Dd es ep) := R5'.fix Dd _ (if_pos rfl)
          have r4 : Dt K (Fo (G.fixed Dd (rawO Dd es ep) nb) W) H5 v4 y4 := Dt.stp s5 r4
          have r5 : Dt K (Fo (G.fixed Dd (rawO Dd es ep) nb) W) H5 v5 y5 := r5
          have hl4 := hacc.mv' ((Stp.of_same sm).trans ((s3.trans s4).trans s5)) (fun _ z => z) (fun o z => by rw [hD1] at z; cases z; exact hD4)
          refine ⟨_, Dd, accD, acc', y4, y5, rfl, fo_fixed.mpr (.inr rfl), hl4, r4, r5, ea, fun es' ep' hc' => ?_⟩
          have R6 := R5'.wipe hz
          rw [ew] at R6
          obtain ⟨R7, st7⟩ := R6.refix (o' := rawO Dd es' ep') n0 (fun _ z => by cases z)
          have F3 : ∀ b, Fo (G.fixed Dd (rawO Dd es' ep') nb) W b → Fo (G.fixed Dd (rawO Dd es ep) nb) W b := fun b z => fo_fixed.mpr (fo_fixed.mp z)
          have cu : compOk vs (unD vs sd5) = true := compOk_un hz
          have s2' : Stp (fun b => Fo G W b ∨ b = Dd) H0 (upd H5 Dd (rawO Dd es' ep')) := ((st2.trans (Stp.of_same sm)).trans ((t1 s3).trans ((t1 s4).trans (t1 s5)))).trans (t1 st7)
          refine ⟨es', ep', acc', unD vs sd5, hc'.mv' (Stp.refl _ _) F3 fun _ z => z, R7, cu, t2 s2', s2', el, fun pz => ?_⟩
          rw [Bool.and_eq_true, Bool.and_eq_true] at pz
          obtain ⟨q1, q2⟩ := pur (by rw [Bool.and_eq_true, Bool.and_eq_true]; exact pz)
          obtain ⟨q3, q4⟩ := pp3 pz.1
          obtain ⟨q5, q6⟩ := pp4 pz.2.1
          obtain ⟨q7, q8⟩ := pp5 pz.2.2
          refine ⟨?_, fun b o nbd e => ?_⟩
          · rw [q7, q5, q3, DOut.un do2, q1, un_un]
          · rw [upd_ne nbd]
            exact q8 _ _ (q6 _ _ (q4 _ _ (sm _ _ (q2 b o nbd e))))
        · cases el
      · rename_i hb
        rw [if_neg hb]
        split at el
        · rename_i hz
          have R6 := R4.wipe hz
          rw [ew] at R6
          have cu : compOk vs (unD vs sd3) = true := compOk_un hz
          have s2' : Stp (fun b => Fo G W b ∨ b = Dd) H0 H3 := (st2.trans (Stp.of_same sm)).trans (t1 s3)
          refine ⟨es, ep, accD, unD vs sd3, hacc.mv' ((Stp.of_same sm).trans s3) (fun _ z => z) (fun o z => by rw [hD1] at z; cases z; exact R4.fix Dd _ (if_pos rfl)), R6, cu, t2 s2', s2', el, fun pz => ?_⟩
          rw [Bool.and_eq_true] at pz
          obtain ⟨q1, q2⟩ := pur (by rw [Bool.and_eq_true]; exact pz)
          obtain ⟨q3, q4⟩ := pp3 pz.1
          refine ⟨?_, fun b o nbd e => ?_⟩
          · rw [q3, DOut.un do2, q1, un_un]
          · exact q4 _ _ (sm _ _ (q2 b o nbd e))
        · cases el
    · have ei : i = ds.length := by omega
      subst ei
      rw [List.drop_length] at el
      cases el
      refine .inl ⟨io.stop _ H1 _ frm (Nat.le_refl _), ?_⟩
      refine q _ H1 (s0.trans st1) (R0.restore (Ri.unfix nfx) hc st1) (fun pz => ?_) ⟨Dd, rfl, ?_, hacc.mv' (Stp.refl _ _) (fun b z => fo_fixed.mpr z) fun _ z => z⟩
      · rw [Bool.and_eq_true] at pz
        obtain ⟨q1, q2⟩ := pur pz.2
        obtain ⟨q3, q4⟩ := pp0 pz.1
        have q3 : sd0 = sd := q3
        refine ⟨?_, fun b o e => ?_⟩
        · show restoreD vs sd0 _ = sd
          rw [q1, restore_un, q3]
        · have e0 := q4 _ _ e
          exact q2 b o (fun z => by rw [z, nD] at e0; cases e0) e0
      · exact Classical.byContradiction fun z => R0.dom s0 z nD
  · cases e
end
end DL

set_option Elab.async false
set_option linter.all false
set_option autoImplicit false
set_option maxRecDepth 100000
set_option maxHeartbeats 4000000
namespace DL
open PySem PySem.Spec PyProof.Rows L2
/-! ### {}, {k: v, ..} -/
def tDNewR : TE := fun _ H Q => ∀ p, H p = none → (p == sysModules) = false → Q (.ref p) (upd H p (rawO p #[] 0))
theorem not_sys {X : Cx} {pins : List (Addr × Obj)} {σ : L2.St} {H : Hp} {s : Shared} (I : Inv X pins σ H s) : (s.heap.objs.size == sysModules) = false := beq_eq_false_iff_ne.mpr (Ne.symm (Nat.ne_of_lt I.big))
theorem laid_raw {X : Cx} {pins : List (Addr × Obj)} {σ : L2.St} {H : Hp} {s : Shared} (I : Inv X pins σ H s) :
    Inv X pins σ (upd H s.heap.objs.size (rawO s.heap.objs.size #[] 0)) { s with heap := s.heap.push { cls := .type "dict", data := .dict #[] } } :=
  I.laid (a := s.heap.objs.size) (t' := s.toks) (fun _ _ q => Heap.get?_push_of_some _ q) (Nat.le_refl _) (raw_new s.heap)
theorem pe_dnewR {X : Cx} {pos : Pos} : PE X (.Dict [] [] pos) tDNewR := ⟨fun pins s σ H Q I h =>
  wpAny_Dict_empty ⟨.ref s.heap.objs.size, _, laid_raw I, rfl, h _ (I.hok.fresh (Nat.le_refl _)) (not_sys I)⟩⟩
def fillX (K : KW) (p : Addr) : List (V × V) → Hp → (Hp → Prop) → Prop
  | [], H, Q => Q H
  | (y, z) :: r, H, Q => rSetDic K (.ref p) y z H fun H' => fillX K p r H' Q
def tDispX (K : KW) (trs : List (TE × TE)) : TE := fun σ H Q => ∀ p, H p = none → (p == sysModules) = false → tPairs trs σ (upd H p (rawO p #[] 0)) fun ps H2 => fillX K p ps H2 fun H3 => Q (.ref p) H3
theorem fill_run {X : Cx} {pins : List (Addr × Obj)} {σ : L2.St} {p : Addr} {E : Value → Shared → Prop} (hu : X.A.units + 1 + 8 < cLine) : ∀ {ps : List (V × V)} {vs : List (Value × Value)} {H : Hp} {s : Shared} {Nx : Hp → Prop} {Q : PUnit → Shared → Prop}, VV ps vs → Inv X pins σ H s → fillX (kwOf X) p ps H Nx →
    (∀ s' H', Inv X pins σ H' s' → Nx H' → Q PUnit.unit s') → wpAny (model X.prog X.w) X.A (forIn vs PUnit.unit fun (x : Value × Value) (_ : PUnit) => (do dictSet p x.1 x.2; pure (ForInStep.yield PUnit.unit) : Sem (ForInStep PUnit))) Q E s
  | _, _, H, s, Nx, Q, .nil, I, h, hq => by
    rw [List.forIn_nil]
    exact wpAny_pure (hq s H I h)
  | (y, z) :: ps, (u, w) :: vs, H, s, Nx, Q, .cons r t, I, h, hq => by
    rw [List.forIn_cons]
    exact wpAny_bind (wpAny_bind (d_dictSetX hu I r.1 r.2 h fun s' H' I' n => wpAny_pure (fill_run hu t I' n hq)))
theorem pe_dispX {X : Cx} {pos : Pos} {keys : List (Option Expr)} {values : List Expr} {trs : List (TE × TE)} (hu : X.A.units + 1 + 8 < cLine) (h : PPs X pos keys values trs) (hall : keys.all (·.isSome) = true) (hl : keys.length = values.length) (h0 : keys ≠ [])
    (h15 : keys.length ≤ 15) : PE X (.Dict keys values pos) (tDispX (kwOf X) trs) := by
  refine ⟨fun pins s σ H Q I q => ?_⟩
  have hn := pairTrees_length keys values X.env pos hall hl
  have hp0 : pairTrees keys values X.env pos ≠ [] := fun he => by
    rw [he] at hn
    exact h0 (List.length_eq_zero_iff.mp hn.symm)
  rw [arm_eval_Dict, zip_pairTrees keys values X.env pos hall hl, dictDisplay_pairs _ hp0 (by omega)]
  refine wpAny_bind (wpAny_standAt (wpAny_bind ?_))
  unfold subDict
  refine wpAny_bind (wpAny_alloc ?_)
  refine wpAny_bind (wpAny_holding ?_)
  rw [if_pos (by omega)]
  have hq := q s.heap.objs.size (I.hok.fresh (Nat.le_refl _)) (not_sys I)
  refine wpAny_bind (thn (h.run pins _ σ _ _ (laid_raw I) hq) fun ws s2 ⟨ps, H2, I2, rel, q2⟩ => ?_)
  refine wpAny_holding ?_
  refine wpAny_bind (fill_run hu rel I2 q2 fun s' H' I' n => wpAny_pure (wpAny_pure ?_))
  exact wpAny_pure ⟨.ref s.heap.objs.size, H', I', rfl, n⟩
section
variable {K : KW} {p p2 : Bool} {te tk : TE} {fe fk : Ev}
def eDNew : Ev := fun sd => some (.dic [], sd)
theorem se_dnew : SemE K .N true tDNewR eDNew := by
  intro G W σ H sd R d sd' e Q q
  cases e
  intro a hn hs
  exact q _ _ (Stp.of_same (same_upd hn)) (R.same (same_upd hn)) (fun _ => ⟨rfl, same_upd hn⟩) ⟨a, rfl, hn, dicC_nil hs upd_same⟩
/-- the pairs of a display -/
abbrev Pv' := Sd → Option (List (D × D) × Sd)
def DtP (K : KW) (F : Addr → Prop) (H : Hp) : List (V × V) → List (D × D) → Prop
  | [], [] => True
  | (x, y) :: r, (d, e) :: ds => Dt K F H x d ∧ Dt K F H y e ∧ DtP K F H r ds
  | _, _ => False
theorem DtP.stp {F : Addr → Prop} {H H' : Hp} (s : Stp F H H') : ∀ {ps : List (V × V)} {ds : List (D × D)}, DtP K F H ps ds → DtP K F H' ps ds
  | [], [], _ => trivial
  | _ :: _, _ :: _, h => ⟨h.1.stp s, h.2.1.stp s, DtP.stp s h.2.2⟩
  | [], _ :: _, h => h
  | _ :: _, [], h => h
def SemP (K : KW) (p : Bool) (t : List (TE × TE)) (f : Pv') : Prop := ∀ (G : Ctx) W σ H sd, Rel K G W σ H sd → ∀ ds sd', f sd = some (ds, sd') → ∀ Q : List (V × V) → Hp → Prop,
  (∀ ps H', Stp (Fo G W) H H' → Rel K G W σ H' sd' → (p = true → sd' = sd ∧ Same H H') → DtP K (Fo G W) H' ps ds → Q ps H') → tPairs t σ H Q
def pNil : Pv' := fun sd => some ([], sd)
def pCons (k v : Ev) (r : Pv') : Pv' := fun sd => (k sd).bind fun x => (v x.2).bind fun y => (r y.2).map fun q => ((x.1, y.1) :: q.1, q.2)
theorem sp_nil : SemP K true [] pNil := by
  intro G W σ H sd R ds sd' e Q q
  cases e
  exact q [] H (Stp.refl _ _) R (fun _ => ⟨rfl, Same.refl _⟩) trivial
theorem sp_cons {p3 : Bool} {tr : List (TE × TE)} {fr : Pv'} (hk : SemE K .E p tk fk) (hv : SemE K .E p2 te fe) (hr : SemP K p3 tr fr) : SemP K (p && (p2 && p3)) ((tk, te) :: tr) (pCons fk fe fr) := by
  intro G W σ H sd R ds sd' e Q q
  obtain ⟨⟨d1, sd1⟩, e1, e⟩ := Option.bind_eq_some_iff.mp e
  obtain ⟨⟨d2, sd2⟩, e2, e⟩ := Option.bind_eq_some_iff.mp e
  obtain ⟨⟨d3, sd3⟩, e3, e⟩ := Option.map_eq_some_iff.mp e
  cases e
  refine hk G W σ H sd R d1 sd1 e1 _ fun x H1 s1 R1 pp1 x1 => ?_
  refine hv G W σ H1 sd1 R1 d2 sd2 e2 _ fun y H2 s2 R2 pp2 x2 => ?_
  refine hr G W σ H2 sd2 R2 d3 _ e3 _ fun ps H3 s3 R3 pp3 x3 => ?_
  have x1 : Dt K (Fo G W) H1 x d1 := x1
  have x2 : Dt K (Fo G W) H2 y d2 := x2
  refine q _ H3 ((s1.trans s2).trans s3) R3 (fun z => ?_) ⟨(x1.stp s2).stp s3, x2.stp s3, x3⟩
  rw [Bool.and_eq_true, Bool.and_eq_true] at z
  exact ⟨(pp3 z.2.2).1.trans ((pp2 z.2.1).1.trans (pp1 z.1).1), ((pp1 z.1).2.trans (pp2 z.2.1).2).trans (pp3 z.2.2).2⟩
def dicFill : List (D × D) → List (D × D) → Option (List (D × D))
  | acc, [] => some acc
  | acc, (k, v) :: r => (dicPut acc k v).bind fun acc' => dicFill acc' r
def eDisp (f : Pv') : Ev := fun sd => (f sd).bind fun r => (dicFill [] r.1).map fun kvs => (.dic kvs, r.2)
theorem fill_sem {G : Ctx} {W : Wn} {σ : St'} {Dd : Addr} {nb : ∀ i, G.br i ≠ some Dd} (n0 : G.H0 Dd = none) : ∀ {ps : List (V × V)} {ds acc res : List (D × D)} {H : Hp} {sd : Sd} {es : Array DictEntry} {ep : Nat} {Q : Hp → Prop},
    Rel K (G.fixed Dd (rawO Dd es ep) nb) W σ H sd → DicC K (fun b => Fo G W b ∨ b = Dd) H Dd acc → DtP K (fun b => Fo G W b ∨ b = Dd) H ps ds → dicFill acc ds = some res →
    (∀ H' es' ep', Stp (fun b => Fo G W b ∨ b = Dd) H H' → (∀ b o, b ≠ Dd → H b = some o → H' b = some o) → Rel K (G.fixed Dd (rawO Dd es' ep') nb) W σ H' sd → DicC K (fun b => Fo G W b ∨ b = Dd) H' Dd res → Q H') → fillX K Dd ps H Q
  | [], [], acc, res, H, sd, es, ep, Q, R, hc, _, e, q => by
    cases e
    exact q H es ep (Stp.refl _ _) (fun _ _ _ z => z) R hc
  | (x, y) :: ps, (d1, d2) :: ds, acc, res, H, sd, es, ep, Q, R, hc, h, e, q => by
    obtain ⟨acc', e1, e2⟩ := Option.bind_eq_some_iff.mp e
    refine ⟨_, Dd, acc, acc', d1, d2, rfl, .inr rfl, hc, h.1, h.2.1, e1, fun es' ep' hc' => ?_⟩
    obtain ⟨R7, st7⟩ := R.refix (o' := rawO Dd es' ep') n0 (fun _ z => by cases z)
    have st8 : Stp (fun b => Fo G W b ∨ b = Dd) H (upd H Dd (rawO Dd es' ep')) := st7.anti fun b z => fo_fixed.mp z
    refine fill_sem n0 R7 hc' (h.2.2.stp st8) e2 fun H' es2 ep2 s1 s2 R' hc2 => q H' es2 ep2 (st8.trans s1) (fun b o nb e => s2 b o nb (by rw [upd_ne nb]; exact e)) R' hc2
  | [], _ :: _, _, _, _, _, _, _, _, _, _, h, _, _ => h.elim
  | _ :: _, [], _, _, _, _, _, _, _, _, _, h, _, _ => h.elim
theorem se_disp {tr : List (TE × TE)} {f : Pv'} (h : SemP K p tr f) : SemE K .N p (tDispX K tr) (eDisp f) := by
  intro G W σ H sd R d sd' e Q q
  obtain ⟨⟨ds, sd1⟩, e1, e⟩ := Option.bind_eq_some_iff.mp e
  obtain ⟨res, e2, e⟩ := Option.map_eq_some_iff.mp e
  cases e
  intro Dd nD hs
  have nb := R.brN nD
  have n0 : G.H0 Dd = none := R.h0N nD
  have nfx : G.fx Dd = none := by
    cases z : G.fx Dd with
    | none => rfl
    | some o => have := R.fix Dd o z; rw [nD] at this; cases this
  refine h _ W σ _ sd (R.fixed nD (rawO Dd #[] 0)) ds sd1 e1 _ fun ps H2 s2 R2 pp2 x2 => ?_
  have x3 : DtP K (fun b => Fo G W b ∨ b = Dd) H2 ps ds := by
    have go : ∀ {ps : List (V × V)} {ds : List (D × D)}, DtP K (Fo (G.fixed Dd (rawO Dd #[] 0) nb) W) H2 ps ds → DtP K (fun b => Fo G W b ∨ b = Dd) H2 ps ds := by
      intro ps
      induction ps with
      | nil => intro ds h; cases ds with
        | nil => trivial
        | cons _ _ => exact h
      | cons p ps ih => intro ds h; cases ds with
        | nil => exact h
        | cons d ds => exact ⟨h.1.anti fun b z => fo_fixed.mpr z, h.2.1.anti fun b z => fo_fixed.mpr z, ih h.2.2⟩
    exact go x2
  have t0 : Stp (fun b => Fo G W b ∨ b = Dd) H H2 := (Stp.of_same (same_upd nD)).trans (s2.anti fun b z => fo_fixed.mp z)
  have hD2 : H2 Dd = some (rawO Dd #[] 0) := R2.fix Dd _ (if_pos rfl)
  refine fill_sem n0 R2 (dicC_nil hs hD2) x3 e2 fun H' es' ep' s3 s4 R' hc' => ?_
  have t1 := t0.trans s3
  have t2 : Stp (Fo G W) H H' := fun b o e z => t1 b o e (z.imp (fun z q => q.elim z fun q => by rw [q, nD] at e; cases e) id)
  refine q _ H' t2 (R'.unfix nfx) (fun z => ⟨(pp2 z).1, fun b o e => ?_⟩) ⟨Dd, rfl, nD, hc'⟩
  have nbd : b ≠ Dd := fun q => by rw [q, nD] at e; cases e
  exact s4 b o nbd ((pp2 z).2 b o (by rw [upd_ne nbd]; exact e))
end
end DL

set_option Elab.async false
set_option linter.all false
set_option autoImplicit false
set_option maxRecDepth 100000
set_option maxHeartbeats 4000000
namespace DL
open PySem PySem.Spec PyProof.Rows L2
/-! ### comprehensions of two clauses -/
def cIn (vs vs1 : List Nat) (g1 : Gv) (tt1 : Tv) (te : Ev) : List D → List D → Sd → Option (List D × Sd)
  | [], acc, sd => some (acc, sd)
  | d :: r, acc, sd => (g1 d sd).bind fun s => (tt1 s).bind fun b =>
    if b.1 = true then (te b.2).bind fun y => if acc.length ≤ szl ∧ compOk vs y.2 = true then cIn vs vs1 g1 tt1 te r (acc ++ [y.1]) (unD vs1 y.2) else none
    else if compOk vs b.2 = true then cIn vs vs1 g1 tt1 te r acc (unD vs1 b.2) else none
def cLoop2 (vs : List Nat) (g : Gv) (tt : Tv) (i1 : Iv) (vs1 : List Nat) (g1 : Gv) (tt1 : Tv) (te : Ev) : List D → List D → Sd → Option (List D × Sd)
  | [], acc, sd => some (acc, sd)
  | d :: r, acc, sd => (g d sd).bind fun s => (tt s).bind fun b =>
    if b.1 = true then (i1 b.2).bind fun r1 => if compOk vs r1.2 = true then (cIn vs vs1 g1 tt1 te r1.1 acc (unD vs1 r1.2)).bind fun q => cLoop2 vs g tt i1 vs1 g1 tt1 te r q.1 (unD vs q.2) else none
    else if compOk vs b.2 = true then cLoop2 vs g tt i1 vs1 g1 tt1 te r acc (unD vs b.2) else none
def eComp2 (vs : List Nat) (i : Iv) (g : Gv) (tt : Tv) (i1 : Iv) (vs1 : List Nat) (g1 : Gv) (tt1 : Tv) (te : Ev) : Ev := fun sd => (i sd).bind fun r =>
  if compOk vs r.2 = true then (cLoop2 vs g tt i1 vs1 g1 tt1 te r.1 [] (unD vs r.2)).map fun q => (.lst q.1, restoreD vs r.2 q.2) else none
theorem compOk_sub {vs vs1 : List Nat} (h : ∀ i, i ∈ vs1 → i ∈ vs) {sd : Sd} (c : compOk vs sd = true) : compOk vs1 sd = true :=
  List.all_eq_true.mpr fun v hv => List.all_eq_true.mp c v (h v hv)
theorem compOk_un1 {vs vs1 : List Nat} {sd : Sd} (c : compOk vs sd = true) : compOk vs (unD vs1 sd) = true := by
  refine List.all_eq_true.mpr fun v hv => ?_
  have z := List.all_eq_true.mp c v hv
  by_cases c : v ∈ vs1 ∧ v < sd.length
  · rw [unD_get, if_pos c]
    rfl
  · rw [unD_get, if_neg c]
    exact z
theorem DOut.sub {vs vs1 : List Nat} (h : ∀ i, i ∈ vs1 → i ∈ vs) {sd sd' : Sd} (d : DOut vs1 sd sd') : DOut vs sd sd' := ⟨d.1, fun i hi => d.2 i fun z => hi (h i z)⟩
theorem dout_un {vs : List Nat} {sd : Sd} : DOut vs sd (unD vs sd) := ⟨unD_len, fun i h => by rw [unD_get, if_neg (fun z => h z.1)]⟩
theorem OutEq.sub {vs vs1 : List Nat} (h : ∀ i, i ∈ vs1 → i ∈ vs) {σ σ' : St'} (d : OutEq vs1 σ σ') : OutEq vs σ σ' := ⟨d.1, fun i hi => d.2 i fun z => hi (h i z)⟩
theorem outeq_wipe {vs : List Nat} {σ : St'} : OutEq vs σ (L2.wipe σ vs) := ⟨wipe_length _ _, fun i h => by rw [wipe_get, if_neg (fun z => h z.1)]⟩
section
variable {K : KW} {p p2 : Bool} {te tk : TE} {fe fk : Ev}
theorem se_comp2 {vs vs1 : List Nat} {pi1 pt1 p3 : Bool} {wi wi1 : TI} {fi fi1 : Iv} {tg tg1 : TG} {g g1 : Gv} {tt tt1 : TT} {ft ft1 : Tv} (hsub : ∀ i, i ∈ vs1 → i ∈ vs) (hi : SemI K p wi fi) (hg : SemC K vs tg g) (ht : SemT K p2 tt ft)
    (hi1 : SemI K pi1 wi1 fi1) (hg1 : SemC K vs1 tg1 g1) (ht1 : SemT K pt1 tt1 ft1) (he : SemE K .E p3 te fe) :
    SemE K .N (p && (p2 && (pi1 && (pt1 && p3)))) (tLc2 wi tg tt wi1 tg1 tt1 te vs vs1) (eComp2 vs fi g ft fi1 vs1 g1 ft1 fe) := by
  intro G W σ H sd R d sd' e Q q
  obtain ⟨⟨ds, sd0⟩, e0, e⟩ := Option.bind_eq_some_iff.mp e
  simp only at e
  split at e
  · rename_i hc
    obtain ⟨⟨res, sdE⟩, e1, e⟩ := Option.map_eq_some_iff.mp e
    cases e
    refine hi G W σ H sd R ds sd0 e0 _ fun J H0 s0 R0 pp0 io Dd nD => ?_
    have nb := R0.brN nD
    have n0 : G.H0 Dd = none := R0.h0N nD
    have nfx : G.fx Dd = none := by
      cases z : G.fx Dd with
      | none => rfl
      | some o => have := R0.fix Dd o z; rw [nD] at this; cases this
    have Rw := R0.wipe hc
    have hWl : W σ.length = none := (R0.out σ.length (Nat.le_of_eq R0.len.symm)).1
    have hcu : compOk vs (unD vs sd0) = true := compOk_un hc
    have FW : ∀ (acc : List V) (b : Addr), Fo G (wset W σ.length (some Dd)) b ↔ Fo (G.fixed Dd (.lst acc) nb) W b := fun acc b => by
      rw [fo_fixed]
      constructor
      · exact fo_some
      · rintro (h | h)
        · rcases h with h | ⟨j, h⟩
          · exact .inl h
          · exact .inr ⟨j, by rw [wset_ne (fun z => by rw [z, hWl] at h; cases h)]; exact h⟩
        · exact .inr ⟨σ.length, by rw [wset_same, h]⟩
    have F1 : ∀ (acc : List V) b, (Fo G W b ∨ b = Dd) → Fo (G.fixed Dd (.lst acc) nb) W b := fun acc b z => fo_fixed.mpr z
    have F2 : ∀ (acc : List V) b, Fo (G.fixed Dd (.lst acc) nb) W b → (Fo G W b ∨ b = Dd) := fun acc b z => fo_fixed.mp z
    have t1 : ∀ {acc : List V} {A B : Hp}, Stp (Fo (G.fixed Dd (.lst acc) nb) W) A B → Stp (fun b => Fo G W b ∨ b = Dd) A B := fun {acc A B} h => h.anti (F2 acc)
    have t2 : ∀ {B : Hp}, Stp (fun b => Fo G W b ∨ b = Dd) H0 B → Stp (Fo G W) H0 B := fun h b o e z => h b o e (z.imp (fun z q => q.elim z fun q => by rw [q, nD] at e; cases e) id)
    refine ⟨fun i m H1 => m = ds.length - i ∧ i ≤ ds.length ∧ ∃ acc accD sdi, DtL K (Fo (G.fixed Dd (.lst acc) nb) W) H1 acc accD ∧ Rel K (G.fixed Dd (.lst acc) nb) W (L2.wipe σ vs) H1 sdi ∧ compOk vs sdi = true ∧
        Stp (fun b => Fo G W b ∨ b = Dd) H0 H1 ∧ cLoop2 vs g ft fi1 vs1 g1 ft1 fe (ds.drop i) accD sdi = some (res, sdE) ∧ (((p2 && (pi1 && (pt1 && p3))) = true) → sdi = unD vs sd0 ∧ ∀ b o, b ≠ Dd → H0 b = some o → H1 b = some o),
      ⟨ds.length, by omega, Nat.zero_le _, [], [], unD vs sd0, .nil, Rw.fixed nD _, hcu, Stp.of_same (same_upd nD), e1, fun _ => ⟨rfl, fun b o nb e => by rw [upd_ne nb]; exact e⟩⟩, ?_⟩
    rintro i m H1 ⟨rfl, hil, acc, accD, sdi, hacc, Ri, ci, st2, el, pur⟩
    have hD1 : H1 Dd = some (.lst acc) := Ri.fix Dd _ (if_pos rfl)
    have frm : Frm K G W H0 (wset W σ.length (some Dd)) H1 := ⟨fun v d h => (h.apart nD).mv st2 fun b => fo_some, fun b o e n => ⟨fun z => (fo_some z).elim n fun q => (by rw [q, nD] at e; cases e), st2 b o e (.inl fun z => z.elim n fun q => (by rw [q, nD] at e; cases e))⟩⟩
    by_cases hl : i < ds.length
    · obtain ⟨go, yl⟩ := io.go _ H1 i frm hl
      refine .inr ⟨go, fun H' => ∃ acc accD sdi, DtL K (Fo (G.fixed Dd (.lst acc) nb) W) H' acc accD ∧ Rel K (G.fixed Dd (.lst acc) nb) W (L2.wipe σ vs) H' sdi ∧ compOk vs sdi = true ∧
        Stp (fun b => Fo G W b ∨ b = Dd) H0 H' ∧ cLoop2 vs g ft fi1 vs1 g1 ft1 fe (ds.drop (i + 1)) accD sdi = some (res, sdE) ∧ (((p2 && (pi1 && (pt1 && p3))) = true) → sdi = unD vs sd0 ∧ ∀ b o, b ≠ Dd → H0 b = some o → H' b = some o), fun H' hN => ⟨ds.length - (i + 1), by omega, rfl, hl, hN⟩, fun x H2 y => ?_⟩
      have sm := io.same _ H1 i x H2 frm hl y
      obtain ⟨d, hd, hx⟩ := yl x H2 y ⟨sm, fun a z => by
        rcases fo_some z with z | z
        · exact Ri.fdom (fo_fixed.mpr (.inl z))
        · rw [z, hD1]; exact fun z => nomatch z⟩
      have ed : ds.drop i = d :: ds.drop (i + 1) := by
        rw [List.drop_eq_getElem_cons hl]
        rw [List.getElem?_eq_getElem hl] at hd
        cases hd; rfl
      rw [ed] at el
      obtain ⟨sd2, e2, el⟩ := Option.bind_eq_some_iff.mp el
      obtain ⟨⟨b3, sd3⟩, e3, el⟩ := Option.bind_eq_some_iff.mp el
      have R2 := Ri.same sm
      refine hg _ W _ H2 sdi R2 ci x d sd2 (hx.anti fun b z => (FW acc b).mpr z) e2 _ fun σ2 R3 oe do2 c2 => ?_
      have ew : L2.wipe σ2 vs = L2.wipe σ vs := (OutEq.wipe oe).trans wipe_wipe
      refine ⟨ew, ?_⟩
      refine ht _ W σ2 H2 sd2 R3 b3 sd3 e3 _ fun H3 s3 R4 pp3 => ?_
      simp only at el
      split at el
      · rename_i hb
        rw [if_pos hb]
        obtain ⟨⟨ds1, sd4⟩, e4, el⟩ := Option.bind_eq_some_iff.mp el
        simp only at el
        split at el
        · rename_i hz
          refine hi1 _ W σ2 H3 sd3 R4 ds1 sd4 e4 _ fun J1 H4 s4 R5 pp4 io1 => ?_
          have hD4 : H4 Dd = some (.lst acc) := R5.fix Dd _ (if_pos rfl)
          have hl4 := hacc.stp ((Stp.of_same sm).trans (s3.trans s4))
          have hz1 : compOk vs1 sd4 = true := compOk_sub hsub hz
          have st4 : Stp (fun b => Fo G W b ∨ b = Dd) H0 H4 := (st2.trans (Stp.of_same sm)).trans ((t1 s3).trans (t1 s4))
          have hel := el
          refine ⟨fun j k H' => k = ds1.length - j ∧ j ≤ ds1.length ∧ ∃ acc' accD' sdj, DtL K (Fo (G.fixed Dd (.lst acc') nb) W) H' acc' accD' ∧ Rel K (G.fixed Dd (.lst acc') nb) W (L2.wipe σ2 vs1) H' sdj ∧ compOk vs sdj = true ∧
            Stp (fun b => Fo G W b ∨ b = Dd) H4 H' ∧ ((cIn vs vs1 g1 ft1 fe (ds1.drop j) accD' sdj).bind fun q => cLoop2 vs g ft fi1 vs1 g1 ft1 fe (ds.drop (i + 1)) q.1 (unD vs q.2)) = some (res, sdE) ∧
            (((p2 && (pi1 && (pt1 && p3))) = true) → unD vs sdj = unD vs sd0 ∧ ∀ b o, b ≠ Dd → H0 b = some o → H' b = some o),
            ⟨ds1.length, by omega, Nat.zero_le _, acc, accD, unD vs1 sd4, hl4, R5.wipe hz1, compOk_un1 hz, Stp.refl _ _, hel, fun pz => ?_⟩, ?_⟩
          · rw [Bool.and_eq_true, Bool.and_eq_true] at pz
            obtain ⟨q1, q2⟩ := pur (by rw [Bool.and_eq_true, Bool.and_eq_true]; exact pz)
            obtain ⟨q3, q4⟩ := pp3 pz.1
            obtain ⟨q5, q6⟩ := pp4 pz.2.1
            refine ⟨?_, fun b o nbd e => q6 _ _ (q4 _ _ (sm _ _ (q2 b o nbd e)))⟩
            rw [DOut.un (dout_un.sub hsub), q5, q3, DOut.un do2, q1, un_un]
          · rintro j k H5 ⟨rfl, hjl, acc', accD', sdj, hacc', Rj, cj, st5, elj, purj⟩
            have hD5 : H5 Dd = some (.lst acc') := Rj.fix Dd _ (if_pos rfl)
            have frm1 : Frm K (G.fixed Dd (.lst acc) nb) W H4 W H5 := Frm.stp (st5.anti (F1 acc))
            by_cases hl1 : j < ds1.length
            · obtain ⟨go1, yl1⟩ := io1.go W H5 j frm1 hl1
              refine .inr ⟨go1, fun H' => ∃ acc' accD' sdj, DtL K (Fo (G.fixed Dd (.lst acc') nb) W) H' acc' accD' ∧ Rel K (G.fixed Dd (.lst acc') nb) W (L2.wipe σ2 vs1) H' sdj ∧ compOk vs sdj = true ∧
                Stp (fun b => Fo G W b ∨ b = Dd) H4 H' ∧ ((cIn vs vs1 g1 ft1 fe (ds1.drop (j + 1)) accD' sdj).bind fun q => cLoop2 vs g ft fi1 vs1 g1 ft1 fe (ds.drop (i + 1)) q.1 (unD vs q.2)) = some (res, sdE) ∧
                (((p2 && (pi1 && (pt1 && p3))) = true) → unD vs sdj = unD vs sd0 ∧ ∀ b o, b ≠ Dd → H0 b = some o → H' b = some o), fun H' hN => ⟨ds1.length - (j + 1), by omega, rfl, hl1, hN⟩, fun x1 H6 y1 => ?_⟩
              have sm1 := io1.same W H5 j x1 H6 frm1 hl1 y1
              obtain ⟨d1, hd1, hx1⟩ := yl1 x1 H6 y1 ⟨sm1, fun a z => by
                rcases F2 acc a z with z | z
                · exact Rj.fdom (fo_fixed.mpr (.inl z))
                · rw [z, hD5]; exact fun z => nomatch z⟩
              have ed1 : ds1.drop j = d1 :: ds1.drop (j + 1) := by
                rw [List.drop_eq_getElem_cons hl1]
                rw [List.getElem?_eq_getElem hl1] at hd1
                cases hd1; rfl
              rw [ed1] at elj
              obtain ⟨⟨rI, sdI⟩, eI, elo⟩ := Option.bind_eq_some_iff.mp elj
              obtain ⟨sd6, e6, eI⟩ := Option.bind_eq_some_iff.mp eI
              obtain ⟨⟨b7, sd7⟩, e7, eI⟩ := Option.bind_eq_some_iff.mp eI
              have R6 := Rj.same sm1
              refine hg1 _ W _ H6 sdj R6 (compOk_sub hsub cj) x1 d1 sd6 (hx1.anti fun b z => F1 acc b (F2 acc' b z)) e6 _ fun σ3 R7 oe1 do6 c6 => ?_
              have ew1 : L2.wipe σ3 vs1 = L2.wipe σ2 vs1 := (OutEq.wipe oe1).trans wipe_wipe
              refine ⟨ew1, ?_⟩
              refine ht1 _ W σ3 H6 sd6 R7 b7 sd7 e7 _ fun H7 s7 R8 pp7 => ?_
              simp only at eI
              split at eI
              · rename_i hb7
                rw [if_pos hb7]
                obtain ⟨⟨y8, sd8⟩, e8, eI⟩ := Option.bind_eq_some_iff.mp eI
                simp only at eI
                split at eI
                · rename_i hz8
                  refine he _ W σ3 H7 sd7 R8 y8 sd8 e8 _ fun v8 H8 s8 R9 pp8 r8 => ?_
                  have hD8 : H8 Dd = some (.lst acc') := R9.fix Dd _ (if_pos rfl)
                  have r8 : Dt K (Fo (G.fixed Dd (.lst acc') nb) W) H8 v8 y8 := r8
                  have hl8 := hacc'.stp ((Stp.of_same sm1).trans (s7.trans s8))
                  refine ⟨acc', hD8, szl_lt (by rw [hacc'.length]; exact hz8.1), ?_⟩
                  have R10 := R9.wipe (compOk_sub hsub hz8.2)
                  rw [ew1] at R10
                  obtain ⟨R11, st11⟩ := R10.refix (o' := .lst (acc' ++ [v8])) n0 (fun _ z => nomatch z)
                  have F3 : ∀ b, Fo (G.fixed Dd (.lst (acc' ++ [v8])) nb) W b → Fo (G.fixed Dd (.lst acc') nb) W b := fun b z => fo_fixed.mpr (fo_fixed.mp z)
                  have s2' : Stp (fun b => Fo G W b ∨ b = Dd) H4 (upd H8 Dd (.lst (acc' ++ [v8]))) := ((st5.trans (Stp.of_same sm1)).trans ((t1 s7).trans (t1 s8))).trans (t1 st11)
                  refine ⟨acc' ++ [v8], accD' ++ [y8], unD vs1 sd8, (hl8.append (.cons r8 .nil)).mv st11 F3, R11, compOk_un1 hz8.2, s2', Option.bind_eq_some_iff.mpr ⟨_, eI, elo⟩, fun pz => ?_⟩
                  rw [Bool.and_eq_true, Bool.and_eq_true, Bool.and_eq_true] at pz
                  obtain ⟨q1, q2⟩ := purj (by rw [Bool.and_eq_true, Bool.and_eq_true, Bool.and_eq_true]; exact pz)
                  obtain ⟨q3, q4⟩ := pp7 pz.2.2.1
                  obtain ⟨q5, q6⟩ := pp8 pz.2.2.2
                  refine ⟨?_, fun b o nbd e => ?_⟩
                  · rw [DOut.un (dout_un.sub hsub), q5, q3, DOut.un (do6.sub hsub), q1]
                  · rw [upd_ne nbd]
                    exact q6 _ _ (q4 _ _ (sm1 _ _ (q2 b o nbd e)))
                · cases eI
              · rename_i hb7
                rw [if_neg hb7]
                split at eI
                · rename_i hz8
                  have R10 := R8.wipe (compOk_sub hsub hz8)
                  rw [ew1] at R10
                  have s2' : Stp (fun b => Fo G W b ∨ b = Dd) H4 H7 := (st5.trans (Stp.of_same sm1)).trans (t1 s7)
                  refine ⟨acc', accD', unD vs1 sd7, hacc'.stp ((Stp.of_same sm1).trans s7), R10, compOk_un1 hz8, s2', Option.bind_eq_some_iff.mpr ⟨_, eI, elo⟩, fun pz => ?_⟩
                  rw [Bool.and_eq_true, Bool.and_eq_true, Bool.and_eq_true] at pz
                  obtain ⟨q1, q2⟩ := purj (by rw [Bool.and_eq_true, Bool.and_eq_true, Bool.and_eq_true]; exact pz)
                  obtain ⟨q3, q4⟩ := pp7 pz.2.2.1
                  refine ⟨?_, fun b o nbd e => q4 _ _ (sm1 _ _ (q2 b o nbd e))⟩
                  rw [DOut.un (dout_un.sub hsub), q3, DOut.un (do6.sub hsub), q1]
                · cases eI
            · have ej : j = ds1.length := by omega
              subst ej
              rw [List.drop_length] at elj
              have elj : cLoop2 vs g ft fi1 vs1 g1 ft1 fe (ds.drop (i + 1)) accD' (unD vs sdj) = some (res, sdE) := elj
              refine .inl ⟨io1.stop W H5 _ frm1 (Nat.le_refl _), acc', accD', unD vs sdj, hacc', ?_, compOk_un cj, st4.trans st5, elj, fun pz => purj pz⟩
              have R12 := Rj.wipe cj
              have ew2 : L2.wipe (L2.wipe σ2 vs1) vs = L2.wipe σ vs := (OutEq.wipe (outeq_wipe.sub hsub)).trans ew
              rw [ew2] at R12
              exact R12
        · cases el
      · rename_i hb
        rw [if_neg hb]
        split at el
        · rename_i hz
          have R6 := R4.wipe hz
          rw [ew] at R6
          have s2' : Stp (fun b => Fo G W b ∨ b = Dd) H0 H3 := (st2.trans (Stp.of_same sm)).trans (t1 s3)
          refine ⟨acc, accD, unD vs sd3, hacc.stp ((Stp.of_same sm).trans s3), R6, compOk_un hz, s2', el, fun pz => ?_⟩
          rw [Bool.and_eq_true] at pz
          obtain ⟨q1, q2⟩ := pur (by rw [Bool.and_eq_true]; exact pz)
          obtain ⟨q3, q4⟩ := pp3 pz.1
          refine ⟨?_, fun b o nbd e => ?_⟩
          · rw [q3, DOut.un do2, q1, un_un]
          · exact q4 _ _ (sm _ _ (q2 b o nbd e))
        · cases el
    · have ei : i = ds.length := by omega
      subst ei
      rw [List.drop_length] at el
      cases el
      refine .inl ⟨io.stop _ H1 _ frm (Nat.le_refl _), ?_⟩
      refine q _ H1 (s0.trans (t2 st2)) (R0.restore (Ri.unfix nfx) hc (t2 st2)) (fun pz => ?_) ⟨Dd, rfl, ?_, acc, hD1, hacc.anti fun b z => fo_fixed.mpr z⟩
      · rw [Bool.and_eq_true] at pz
        obtain ⟨q1, q2⟩ := pur pz.2
        obtain ⟨q3, q4⟩ := pp0 pz.1
        have q3 : sd0 = sd := q3
        refine ⟨?_, fun b o e => ?_⟩
        · show restoreD vs sd0 _ = sd
          rw [q1, restore_un, q3]
        · have e0 := q4 _ _ e
          exact q2 b o (fun z => by rw [z, nD] at e0; cases e0) e0
      · exact Classical.byContradiction fun z => R0.dom s0 z nD
  · cases e
end
end DL

set_option Elab.async false
set_option linter.all false
set_option autoImplicit false
set_option maxRecDepth 100000
set_option maxHeartbeats 4000000
namespace DL
open PySem PySem.Spec PyProof.Rows L2
/-! ### a if c else b as a test -/
def tIfT (t ta tb : TT) : TT := fun σ H Q => t σ H fun c H1 => if c = true then ta σ H1 Q else tb σ H1 Q
theorem pt_ifExp {X : Cx} {c a b : Expr} {pos : Pos} {tc ta tb : TT} (hc : PT X c tc) (ha : PT X a ta) (hb : PT X b tb) : PT X (.IfExp c a b pos) (tIfT tc ta tb) := by
  refine ⟨fun pins s σ H Q I h => ?_⟩
  show wpAny _ _ (do if ← PySem.isTrue c X.env (eval c X.env) then PySem.isTrue a X.env (eval a X.env) else PySem.isTrue b X.env (eval b X.env)) _ _ s
  refine wpAny_bind (thn (hc.run pins s σ H _ I h) fun d s1 ⟨H1, I1, q1⟩ => ?_)
  cases d with
  | true => exact ha.run pins s1 σ H1 Q I1 q1
  | false => exact hb.run pins s1 σ H1 Q I1 q1
section
variable {K : KW} {k : Kd} {p p2 p3 : Bool} {te : TE} {fe : Ev} {t1 t2 t3 : TT} {f1 f2 f3 : Tv}
def tIfD (a b c : Tv) : Tv := fun sd => (a sd).bind fun r => if r.1 = true then b r.2 else c r.2
theorem st_ifT (h1 : SemT K p t1 f1) (h2 : SemT K p2 t2 f2) (h3 : SemT K p3 t3 f3) : SemT K (p && (p2 && p3)) (tIfT t1 t2 t3) (tIfD f1 f2 f3) := by
  intro G W σ H sd R b sd' e Q q
  obtain ⟨⟨b1, sd1⟩, e1, e⟩ := Option.bind_eq_some_iff.mp e
  refine h1 G W σ H sd R b1 sd1 e1 _ fun H1 s1 R1 pp1 => ?_
  simp only at e
  split at e
  · rename_i hb
    rw [if_pos hb]
    refine h2 G W σ H1 sd1 R1 b sd' e _ fun H2 s2 R2 pp2 => q H2 (s1.trans s2) R2 fun z => ?_
    rw [Bool.and_eq_true, Bool.and_eq_true] at z
    exact ⟨(pp2 z.2.1).1.trans (pp1 z.1).1, (pp1 z.1).2.trans (pp2 z.2.1).2⟩
  · rename_i hb
    rw [if_neg hb]
    refine h3 G W σ H1 sd1 R1 b sd' e _ fun H2 s2 R2 pp2 => q H2 (s1.trans s2) R2 fun z => ?_
    rw [Bool.and_eq_true, Bool.and_eq_true] at z
    exact ⟨(pp2 z.2.2).1.trans (pp1 z.1).1, (pp1 z.1).2.trans (pp2 z.2.2).2⟩
/-! ### x op= e -/
def xAug (i : Nat) (g : D → D → Option D) (e : Ev) : Xv := fun sd => match sd[i]? with
  | some (.fz d) => (e sd).bind fun r => (g d r.1).bind fun d' => (setF i d' r.2).map fun s => (.nx, s)
  | _ => none
theorem ss_aug {i : Nat} {r : R2} {g : D → D → Option D} (ho : OpD K .E r g) (h : SemE K k p te fe) : SemS K (tAug i te r) (xAug i g fe) := by
  intro G W σ H sd R fl sd' e Z q
  unfold xAug at e
  split at e
  · rename_i d hs
    obtain ⟨⟨d1, sd1⟩, e1, e⟩ := Option.bind_eq_some_iff.mp e
    obtain ⟨d2, e2, e⟩ := Option.bind_eq_some_iff.mp e
    obtain ⟨sd2, e3, e⟩ := Option.map_eq_some_iff.mp e
    cases e
    obtain ⟨_, _, v, hv, hd⟩ := R.slot i _ hs
    refine ⟨v, DL.getσ hv, h G W σ H sd R d1 sd1 e1 _ fun y H1 s1 R1 _ y1 => ?_⟩
    refine ho (Fo G W) H1 v y d d1 d2 (fun a z => R1.fdom z) (hd.stp s1).dr y1.dr e2 _ fun z H2 s2 r2 => ?_
    obtain ⟨R3, f3⟩ := (R1.same s2).setF e3 r2
    exact q _ _ H2 R3 ((Frm.stp (s1.trans (Stp.of_same s2))).trans f3)
  · cases e
def xPar (i j : Nat) (a : Av) : Xv := fun sd => (a sd).bind fun r => match r.1 with
  | [d, e] => (setF i d r.2).bind fun s => (setF j e s).map fun s => (.nx, s)
  | _ => none
theorem ss_par {i j : Nat} {ta : TA} {fa : Av} (h : SemA K p ta fa) : SemS K (tPar i j ta) (xPar i j fa) := by
  intro G W σ H sd R fl sd' e Z q
  obtain ⟨⟨ds, sd1⟩, e1, e⟩ := Option.bind_eq_some_iff.mp e
  simp only at e
  split at e
  · rename_i d1 d2
    obtain ⟨sd2, e2, e⟩ := Option.bind_eq_some_iff.mp e
    obtain ⟨sd3, e3, e⟩ := Option.map_eq_some_iff.mp e
    cases e
    refine h G W σ H sd R _ sd1 e1 _ fun vs H1 s1 R1 _ r1 => ?_
    cases r1 with
    | cons r1 r2 =>
      cases r2 with
      | cons r2 r3 =>
        cases r3
        obtain ⟨R2, f2⟩ := R1.setF e2 r1
        obtain ⟨R3, f3⟩ := R2.setF e3 (f2.dt _ _ r2)
        exact ⟨_, _, rfl, q _ _ H1 R3 (((Frm.stp s1).trans f2).trans f3)⟩
  · cases e
end
end DL

set_option Elab.async false
set_option linter.all false
set_option autoImplicit false
set_option maxRecDepth 100000
set_option maxHeartbeats 4000000
namespace DL
open PySem PySem.Spec PyProof.Rows L2
abbrev FU : Nat := 4000
def top (i : Nat) : Stmt := PySem.Challenge.pw_everyhaven_k61_whole_rosters_counted.main.body.getD i (.Pass ⟨0, 0, 0, 0⟩)
structure Txt (mg : Str → Option Value) : Prop where
  n_abs : mg "abs" = none
  n_all : mg "all" = none
  n_bool : mg "bool" = none
  n_int : mg "int" = none
  n_isinstance : mg "isinstance" = none
  n_len : mg "len" = none
  n_list : mg "list" = none
  n_min : mg "min" = none
  n_range : mg "range" = none
  n_set : mg "set" = none
  n_sorted : mg "sorted" = none
  n_str : mg "str" = none
  n_tuple : mg "tuple" = none

abbrev s_is_met : Stmt := top 1
theorem sc_is_met : FnScope ["wish", "settled"] ["wish", "settled"] (defScope s_is_met) := ⟨rfl, rfl, rfl, by decide +kernel, rfl, by decide +kernel, by decide +kernel⟩
def b_is_met : Xv := (xRet (eOp eqD (eOp getD1 (eV 1) (eUn absD (eV 0))) (eUn intD (eOp gtD (eV 0) (eC (.int 0))))))
def m_is_met : Fn := mDef 2 2 b_is_met
theorem ok_is_met {K : KW} {mg : Str → Option Value} {base : Heap} {f : Addr} {fd : FuncData} (T : Txt mg) (F : FunD K.f "is_met" "is_met" (defArgs s_is_met) (defBody s_is_met) (defScope s_is_met) [] [] f fd) :
    FnOk K.P K.w K.f mg base CX0 1 f fd ["wish", "settled"] (spD K m_is_met) := by
  refine fn_ok F sc_is_met fun cdv A outer s H E hr => ?_
  exact ⟨_, (pss_one (ps_ret (pe_cmpR (op_eqD (hr.mono (Nat.zero_le _)).u64) (pe_bmD PySem.F.plainAttrs_dict PySem.F.slot_dict_get PySem.F.type_dict_get (mt_get1 (hr.mono (Nat.zero_le _)).u9) (pv 1) (pa_cons (pe_callB call_abs (by rfl) T.n_abs boot_abs (pa_cons (pv 0) pa_nil)) pa_nil)) (pe_callTy call_int1 (by rfl) T.n_int boot_int (pa_cons (pe_cmpR op_gt (pv 0) pe_int (nomark _)) pa_nil)) (nomark _)))),
  (ss_ret (se_op (by first | exact .inl rfl | exact .inr rfl) od_eq (se_get1 (by first | exact .inl rfl | exact .inr rfl) se_v (se_c1 cd_abs se_v)) (se_c1 cd_int (se_op (by first | exact .inl rfl | exact .inr rfl) od_gt se_v se_int))))⟩

abbrev s_is_crossed : Stmt := top 2
theorem sc_is_crossed : FnScope ["clause", "settled", "wish"] ["clause", "settled"] (defScope s_is_crossed) := ⟨rfl, rfl, rfl, by decide +kernel, rfl, by decide +kernel, by decide +kernel⟩
def b_is_crossed : Xv := (xRet (eUn allD (eComp [2] (iSeqX (eV 0)) (setF 2) tYesD (eOfT (tAndD (tOf (eOp inD (eUn absD (eV 2)) (eV 1))) (tOf (eOfT (tNotD (tOf (eCall m_is_met (aCons (eV 2) (aCons (eV 1) aNil))))))))))))
def m_is_crossed : Fn := mDef 3 2 b_is_crossed
theorem ok_is_crossed {K : KW} {mg : Str → Option Value} {base : Heap} {f : Addr} {fd : FuncData} (T : Txt mg) (F : FunD K.f "is_crossed" "is_crossed" (defArgs s_is_crossed) (defBody s_is_crossed) (defScope s_is_crossed) [] [] f fd) (C_is_met : Cal K mg base 1 "is_met" ["wish", "settled"] (spD K m_is_met)) :
    FnOk K.P K.w K.f mg base CX0 2 f fd ["clause", "settled"] (spD K m_is_crossed) := by
  refine fn_ok F sc_is_crossed fun cdv A outer s H E hr => ?_
  exact ⟨_, (pss_one (ps_ret (pe_callB (cr_all rfl) (by rfl) T.n_all boot_all (pa_cons (pe_lc (own := [("wish", 2)]) (wi := (iAnyX K.f (tVar 0))) (g := (gName 2)) (tt := tYes) (te := (tAndV (tOp (rInX K false) (tCB rAbs (tCons (tVar 2) tNil)) (tVar 1)) (tNotV (tCall (spD K m_is_met) [] E0 (tCons (tVar 2) (tCons (tVar 1) tNil)))))) rfl sc_is_crossed.nd (pi_anyX (pv 0)) (blkOk_by (by kernel_rfl)) (fun _ _ _ _ _ => (pg_name (i := 2) sc_is_crossed.nd rfl (by first | exact .inl rfl | exact .inr rfl))) (fun _ _ _ _ _ => pts_nil) (fun _ _ _ _ _ => (pe_and (pe_cmpR (opx_in (hr.mono (Nat.zero_le _)).u65) (pe_callB call_abs (by rfl) T.n_abs boot_abs (pa_cons (pv 2) pa_nil)) (pv 1) (by rfl)) (pe_one (pe_not (pe_call C_is_met.ok (hr.mono (by omega)) (by rfl) C_is_met.g C_is_met.kp C_is_met.b .nil pass0 (pa_cons (pv 2) (pa_cons (pv 1) pa_nil)))))))) pa_nil)))),
  (ss_ret (se_c1 cd_all (se_comp (vs := [2]) (si_anyX se_v) (sc_name (by decide)) st_yes (se_and (se_op (by first | exact .inl rfl | exact .inr rfl) od_in (se_c1 cd_abs se_v) se_v) (se_not (se_call (sa_cons se_v (sa_cons se_v sa_nil))))))))⟩

abbrev s_as_settled : Stmt := top 3
theorem sc_as_settled : FnScope ["roster", "k"] ["roster"] (defScope s_as_settled) := ⟨rfl, rfl, rfl, by decide +kernel, rfl, by decide +kernel, by decide +kernel⟩
def b_as_settled : Xv := (xRet (eCompD [1] (iRange1 (aCons (eUn lenXD (eV 0)) aNil)) (setF 1) tYesD (eOp addD (eV 1) (eC (.int 1))) (eOp ixD (eV 0) (eV 1))))
def m_as_settled : Fn := mDef 2 1 b_as_settled
theorem ok_as_settled {K : KW} {mg : Str → Option Value} {base : Heap} {f : Addr} {fd : FuncData} (T : Txt mg) (F : FunD K.f "as_settled" "as_settled" (defArgs s_as_settled) (defBody s_as_settled) (defScope s_as_settled) [] [] f fd) :
    FnOk K.P K.w K.f mg base CX0 1 f fd ["roster"] (spD K m_as_settled) := by
  refine fn_ok F sc_as_settled fun cdv A outer s H E hr => ?_
  exact ⟨_, (pss_one (ps_ret (pe_dcX (hr.mono (Nat.zero_le _)).u9 (own := [("k", 1)]) (wi := (iRng1 (tCons (tCB (rLenX K) (tCons (tVar 0) tNil)) tNil))) (g := (gName 1)) (tt := tYes) (tk := (tOp (rAddD K.f) (tVar 1) (tC (.int 1)))) (tv := (tOp (rIxX K) (tVar 0) (tVar 1))) rfl sc_as_settled.nd (pi_range1 (by rfl) T.n_range (pa_cons (pe_callB call_lenX (by rfl) T.n_len boot_len (pa_cons (pv 0) pa_nil)) pa_nil)) (blkOk_by (by kernel_rfl)) (fun _ _ _ _ _ => (pg_name (i := 1) sc_as_settled.nd rfl (by first | exact .inl rfl | exact .inr rfl))) (fun _ _ _ _ _ => pts_nil) (fun _ _ _ _ _ => (pe_op opx_add (pv 1) pe_int)) (fun _ _ _ _ _ => (pe_ix (ix_any (hr.mono (Nat.zero_le _)).u9) (pv 0) (pv 1) (fun _ _ => rfl)))))),
  (ss_ret (SemE.ne (se_compD (vs := [1]) (si_range1 (sa_cons (se_c1 cd_lenX se_v) sa_nil)) (sc_name (by decide)) st_yes (se_op (by first | exact .inl rfl | exact .inr rfl) od_add se_v se_int) (se_op (by first | exact .inl rfl | exact .inr rfl) od_ix se_v se_v))))⟩

abbrev s_unmet : Stmt := top 4
theorem sc_unmet : FnScope ["wishes", "roster", "settled", "k"] ["wishes", "roster"] (defScope s_unmet) := ⟨rfl, rfl, rfl, by decide +kernel, rfl, by decide +kernel, by decide +kernel⟩
def b_unmet : Xv := (xSeq (xSetF 2 (eCall m_as_settled (aCons (eV 1) aNil)))
  (xRet (eComp [3] (iRange1 (aCons (eUn lenXD (eOp ixD (eV 0) (eC (.int 1)))) aNil)) (setF 3) (tOf (eCall m_is_crossed (aCons (eOp ixD (eOp ixD (eV 0) (eC (.int 1))) (eV 3)) (aCons (eV 2) aNil)))) (eV 3))))
def m_unmet : Fn := mDef 4 2 b_unmet
theorem ok_unmet {K : KW} {mg : Str → Option Value} {base : Heap} {f : Addr} {fd : FuncData} (T : Txt mg) (F : FunD K.f "unmet" "unmet" (defArgs s_unmet) (defBody s_unmet) (defScope s_unmet) [] [] f fd) (C_as_settled : Cal K mg base 1 "as_settled" ["roster"] (spD K m_as_settled)) (C_is_crossed : Cal K mg base 2 "is_crossed" ["clause", "settled"] (spD K m_is_crossed)) :
    FnOk K.P K.w K.f mg base CX0 3 f fd ["wishes", "roster"] (spD K m_unmet) := by
  refine fn_ok F sc_unmet fun cdv A outer s H E hr => ?_
  exact ⟨_, (pss_cons (ps_set (i := 2) sc_unmet.nd rfl (by first | exact .inl rfl | exact .inr rfl) (pe_call C_as_settled.ok (hr.mono (by omega)) (by rfl) C_as_settled.g C_as_settled.kp C_as_settled.b .nil pass0 (pa_cons (pv 1) pa_nil)))
  (pss_one (ps_ret (pe_lc (own := [("k", 3)]) (wi := (iRng1 (tCons (tCB (rLenX K) (tCons (tOp (rIxX K) (tVar 0) (tC (.int 1))) tNil)) tNil))) (g := (gName 3)) (tt := (tB (tCall (spD K m_is_crossed) [] E0 (tCons (tOp (rIxX K) (tOp (rIxX K) (tVar 0) (tC (.int 1))) (tVar 3)) (tCons (tVar 2) tNil))))) (te := (tVar 3)) rfl sc_unmet.nd (pi_range1 (by rfl) T.n_range (pa_cons (pe_callB call_lenX (by rfl) T.n_len boot_len (pa_cons (pe_ix (ix_any (hr.mono (Nat.zero_le _)).u9) (pv 0) pe_int (fun _ _ => rfl)) pa_nil)) pa_nil)) (blkOk_by (by kernel_rfl)) (fun _ _ _ _ _ => (pg_name (i := 3) sc_unmet.nd rfl (by first | exact .inl rfl | exact .inr rfl))) (fun _ _ _ _ _ => (pts_one (pt_val (pe_call C_is_crossed.ok (hr.mono (by omega)) (by rfl) C_is_crossed.g C_is_crossed.kp C_is_crossed.b .nil pass0 (pa_cons (pe_ix (ix_any (hr.mono (Nat.zero_le _)).u9) (pe_ix (ix_any (hr.mono (Nat.zero_le _)).u9) (pv 0) pe_int (fun _ _ => rfl)) (pv 3) (fun _ _ => rfl)) (pa_cons (pv 2) pa_nil)))))) (fun _ _ _ _ _ => (pv 3)))))),
  (ss_seq (ss_setF (i := 2) (se_call (sa_cons se_v sa_nil)))
  (ss_ret (SemE.ne (se_comp (vs := [3]) (si_range1 (sa_cons (se_c1 cd_lenX (se_op (by first | exact .inl rfl | exact .inr rfl) od_ix se_v se_int)) sa_nil)) (sc_name (by decide)) (st_b (se_call (sa_cons (se_op (by first | exact .inl rfl | exact .inr rfl) od_ix (se_op (by first | exact .inl rfl | exact .inr rfl) od_ix se_v se_int) se_v) (sa_cons se_v sa_nil)))) se_v))))⟩

abbrev s_all_rosters : Stmt := top 5
theorem sc_all_rosters : FnScope ["people", "found", "_", "row", "duty"] ["people"] (defScope s_all_rosters) := ⟨rfl, rfl, rfl, by decide +kernel, rfl, by decide +kernel, by decide +kernel⟩
def b_all_rosters : Xv := (xSeq (xSetF 1 (eLst (aCons (eTup aNil) aNil)))
  (xSeq (xFor (iRange1 (aCons (eV 0) aNil)) (setF 2) (xSetF 1 (eComp2 [3, 4] (iSeqX (eV 1)) (setF 3) tYesD (iSeqX (eTup (aCons (eC (.int 0)) (aCons (eC (.int 1)) aNil)))) [4] (setF 4) tYesD (eOp addD (eV 3) (eTup (aCons (eV 4) aNil))))))
  (xRet (eV 1))))
def m_all_rosters : Fn := mDef 5 1 b_all_rosters
theorem ok_all_rosters {K : KW} {mg : Str → Option Value} {base : Heap} {f : Addr} {fd : FuncData} (T : Txt mg) (F : FunD K.f "all_rosters" "all_rosters" (defArgs s_all_rosters) (defBody s_all_rosters) (defScope s_all_rosters) [] [] f fd) :
    FnOk K.P K.w K.f mg base CX0 1 f fd ["people"] (spD K m_all_rosters) := by
  refine fn_ok F sc_all_rosters fun cdv A outer s H E hr => ?_
  exact ⟨_, (pss_cons (ps_set (i := 1) sc_all_rosters.nd rfl (by first | exact .inl rfl | exact .inr rfl) (pe_lst (pa_cons (pe_tup pa_nil) pa_nil)))
  (pss_cons (ps_for PassesOwn.never rfl (pi_range1 (by rfl) T.n_range (pa_cons (pv 0) pa_nil)) (pg_name (i := 2) sc_all_rosters.nd rfl (by first | exact .inl rfl | exact .inr rfl)) (pss_one (ps_setLc2 (i := 1) (own := [("row", 3), ("duty", 4)]) (vs1 := [4]) (wi := (iAnyX K.f (tVar 1))) (g := (gName 3)) (tt := tYes) (wi1 := (iAnyX K.f (tTup (tCons (tC (.int 0)) (tCons (tC (.int 1)) tNil))))) (g1 := (gName 4)) (tt1 := tYes) (te := (tOp (rAddD K.f) (tVar 3) (tTup (tCons (tVar 4) tNil)))) rfl sc_all_rosters.nd rfl rfl (sw_true rfl rfl rfl (by decide +kernel)) (pi_anyX (pv 1)) (blkOk_by (by kernel_rfl)) (by decide) (fun _ _ _ _ _ => (pg_name (i := 3) sc_all_rosters.nd rfl (by first | exact .inl rfl | exact .inr rfl))) (fun _ _ _ _ _ => pts_nil) (fun _ _ _ _ _ => (pi_anyX (pe_tup (pa_cons pe_int (pa_cons pe_int pa_nil))))) (fun _ _ _ _ _ => (pg_name (i := 4) sc_all_rosters.nd rfl (by first | exact .inl rfl | exact .inr rfl))) (fun _ _ _ _ _ => pts_nil) (fun _ _ _ _ _ => (pe_op opx_add (pv 3) (pe_tup (pa_cons (pv 4) pa_nil)))))))
  (pss_one (ps_ret (pv 1))))),
  (ss_seq (ss_setF (i := 1) (SemE.ne (se_lst (sa_cons (se_tup sa_nil) sa_nil))))
  (ss_seq (ss_for (si_range1 (sa_cons se_v sa_nil)) sg_name (ss_setF (i := 1) (SemE.ne (se_comp2 (vs := [3, 4]) (vs1 := [4]) (by decide) (si_anyX se_v) (sc_name (by decide)) st_yes (si_anyX (se_tup (sa_cons se_int (sa_cons se_int sa_nil)))) (sc_name (by decide)) st_yes (se_op (by first | exact .inl rfl | exact .inr rfl) od_add se_v (se_tup (sa_cons se_v sa_nil)))))))
  (ss_ret se_v)))⟩

abbrev s_good_rosters : Stmt := top 6
theorem sc_good_rosters : FnScope ["wishes", "row"] ["wishes"] (defScope s_good_rosters) := ⟨rfl, rfl, rfl, by decide +kernel, rfl, by decide +kernel, by decide +kernel⟩
def b_good_rosters : Xv := (xRet (eComp [1] (iSeqX (eCall m_all_rosters (aCons (eOp ixD (eV 0) (eC (.int 0))) aNil))) (setF 1) (tOf (eOp eqD (eUn lenXD (eCall m_unmet (aCons (eV 0) (aCons (eV 1) aNil)))) (eC (.int 0)))) (eV 1)))
def m_good_rosters : Fn := mDef 2 1 b_good_rosters
theorem ok_good_rosters {K : KW} {mg : Str → Option Value} {base : Heap} {f : Addr} {fd : FuncData} (T : Txt mg) (F : FunD K.f "good_rosters" "good_rosters" (defArgs s_good_rosters) (defBody s_good_rosters) (defScope s_good_rosters) [] [] f fd) (C_all_rosters : Cal K mg base 1 "all_rosters" ["people"] (spD K m_all_rosters)) (C_unmet : Cal K mg base 3 "unmet" ["wishes", "roster"] (spD K m_unmet)) :
    FnOk K.P K.w K.f mg base CX0 4 f fd ["wishes"] (spD K m_good_rosters) := by
  refine fn_ok F sc_good_rosters fun cdv A outer s H E hr => ?_
  exact ⟨_, (pss_one (ps_ret (pe_lc (own := [("row", 1)]) (wi := (iAnyX K.f (tCall (spD K m_all_rosters) [] E0 (tCons (tOp (rIxX K) (tVar 0) (tC (.int 0))) tNil)))) (g := (gName 1)) (tt := (tTest (tOp (rEqD K.f) (tCB (rLenX K) (tCons (tCall (spD K m_unmet) [] E0 (tCons (tVar 0) (tCons (tVar 1) tNil))) tNil)) (tC (.int 0))))) (te := (tVar 1)) rfl sc_good_rosters.nd (pi_anyX (pe_call C_all_rosters.ok (hr.mono (by omega)) (by rfl) C_all_rosters.g C_all_rosters.kp C_all_rosters.b .nil pass0 (pa_cons (pe_ix (ix_any (hr.mono (Nat.zero_le _)).u9) (pv 0) pe_int (fun _ _ => rfl)) pa_nil))) (blkOk_by (by kernel_rfl)) (fun _ _ _ _ _ => (pg_name (i := 1) sc_good_rosters.nd rfl (by first | exact .inl rfl | exact .inr rfl))) (fun _ _ _ _ _ => (pts_one (pt_cmpR (op_eqD (hr.mono (Nat.zero_le _)).u64) (pe_callB call_lenX (by rfl) T.n_len boot_len (pa_cons (pe_call C_unmet.ok (hr.mono (by omega)) (by rfl) C_unmet.g C_unmet.kp C_unmet.b .nil pass0 (pa_cons (pv 0) (pa_cons (pv 1) pa_nil))) pa_nil)) pe_int (nomark _)))) (fun _ _ _ _ _ => (pv 1))))),
  (ss_ret (SemE.ne (se_comp (vs := [1]) (si_anyX (se_call (sa_cons (se_op (by first | exact .inl rfl | exact .inr rfl) od_ix se_v se_int) sa_nil))) (sc_name (by decide)) (st_test (se_op (by first | exact .inl rfl | exact .inr rfl) od_eq (se_c1 cd_lenX (se_call (sa_cons se_v (sa_cons se_v sa_nil)))) se_int)) se_v)))⟩

abbrev s_rosters : Stmt := top 7
theorem sc_rosters : FnScope ["wishes"] ["wishes"] (defScope s_rosters) := ⟨rfl, rfl, rfl, by decide +kernel, rfl, by decide +kernel, by decide +kernel⟩
def b_rosters : Xv := (xRet (eUn lenXD (eCall m_good_rosters (aCons (eV 0) aNil))))
def m_rosters : Fn := mDef 1 1 b_rosters
theorem ok_rosters {K : KW} {mg : Str → Option Value} {base : Heap} {f : Addr} {fd : FuncData} (T : Txt mg) (F : FunD K.f "rosters" "rosters" (defArgs s_rosters) (defBody s_rosters) (defScope s_rosters) [] [] f fd) (C_good_rosters : Cal K mg base 4 "good_rosters" ["wishes"] (spD K m_good_rosters)) :
    FnOk K.P K.w K.f mg base CX0 5 f fd ["wishes"] (spD K m_rosters) := by
  refine fn_ok F sc_rosters fun cdv A outer s H E hr => ?_
  exact ⟨_, (pss_one (ps_ret (pe_callB call_lenX (by rfl) T.n_len boot_len (pa_cons (pe_call C_good_rosters.ok (hr.mono (by omega)) (by rfl) C_good_rosters.g C_good_rosters.kp C_good_rosters.b .nil pass0 (pa_cons (pv 0) pa_nil)) pa_nil)))),
  (ss_ret (se_c1 cd_lenX (se_call (sa_cons se_v sa_nil))))⟩

abbrev s_always : Stmt := top 8
theorem sc_always : FnScope ["wishes", "rows", "found", "person", "duties", "row"] ["wishes"] (defScope s_always) := ⟨rfl, rfl, rfl, by decide +kernel, rfl, by decide +kernel, by decide +kernel⟩
def b_always : Xv := (xSeq (xSetF 1 (eCall m_good_rosters (aCons (eV 0) aNil)))
  (xSeq (xSetO 2 (eLst aNil))
  (xSeq (xFor (iRange2 (aCons (eC (.int 1)) (aCons (eOp addD (eOp ixD (eV 0) (eC (.int 0))) (eC (.int 1))) aNil))) (setF 3) (xSeq (xSetF 4 (eUn setOfD (eComp [5] (iSeqX (eV 1)) (setF 5) tYesD (eOp ixD (eV 5) (eOp subD (eV 3) (eC (.int 1)))))))
  (xIf (tOf (eOp eqD (eUn lenXD (eV 4)) (eC (.int 1)))) (xApp 2 (eIf (tOf (eOp eqD (eOp ixD (eOp ixD (eV 1) (eC (.int 0))) (eOp subD (eV 3) (eC (.int 1)))) (eC (.int 1)))) (eV 3) (eUn negD (eV 3)))) xNext)))
  (xRet (eUn sortXD (eVo 2))))))
def m_always : Fn := mDef 6 1 b_always
theorem ok_always {K : KW} {mg : Str → Option Value} {base : Heap} {f : Addr} {fd : FuncData} (T : Txt mg) (F : FunD K.f "always" "always" (defArgs s_always) (defBody s_always) (defScope s_always) [] [] f fd) (C_good_rosters : Cal K mg base 4 "good_rosters" ["wishes"] (spD K m_good_rosters)) :
    FnOk K.P K.w K.f mg base CX0 5 f fd ["wishes"] (spD K m_always) := by
  refine fn_ok F sc_always fun cdv A outer s H E hr => ?_
  exact ⟨_, (pss_cons (ps_set (i := 1) sc_always.nd rfl (by first | exact .inl rfl | exact .inr rfl) (pe_call C_good_rosters.ok (hr.mono (by omega)) (by rfl) C_good_rosters.g C_good_rosters.kp C_good_rosters.b .nil pass0 (pa_cons (pv 0) pa_nil)))
  (pss_cons (ps_set (i := 2) sc_always.nd rfl (by first | exact .inl rfl | exact .inr rfl) (pe_lst pa_nil))
  (pss_cons (ps_for PassesOwn.never rfl (pi_range2 (by rfl) T.n_range (pa_cons pe_int (pa_cons (pe_op opx_add (pe_ix (ix_any (hr.mono (Nat.zero_le _)).u9) (pv 0) pe_int (fun _ _ => rfl)) pe_int) pa_nil))) (pg_name (i := 3) sc_always.nd rfl (by first | exact .inl rfl | exact .inr rfl)) (pss_cons (ps_set (i := 4) sc_always.nd rfl (by first | exact .inl rfl | exact .inr rfl) (pe_callTy (call_setOf rfl) (by rfl) T.n_set boot_set (pa_cons (pe_lc (own := [("row", 5)]) (wi := (iAnyX K.f (tVar 1))) (g := (gName 5)) (tt := tYes) (te := (tOp (rIxX K) (tVar 5) (tOp (rI0 fun i j => .int (i - j)) (tVar 3) (tC (.int 1))))) rfl sc_always.nd (pi_anyX (pv 1)) (blkOk_by (by kernel_rfl)) (fun _ _ _ _ _ => (pg_name (i := 5) sc_always.nd rfl (by first | exact .inl rfl | exact .inr rfl))) (fun _ _ _ _ _ => pts_nil) (fun _ _ _ _ _ => (pe_ix (ix_any (hr.mono (Nat.zero_le _)).u9) (pv 5) (pe_op op_sub (pv 3) pe_int) (fun _ _ => rfl)))) pa_nil)))
  (pss_one (ps_if (pt_cmpR (op_eqD (hr.mono (Nat.zero_le _)).u64) (pe_callB call_lenX (by rfl) T.n_len boot_len (pa_cons (pv 4) pa_nil)) pe_int (nomark _)) (pss_one (ps_expr (pe_bm PySem.F.plainAttrs_list PySem.F.slot_list_append PySem.F.type_list_append mt_append (pv 2) (pa_cons (pe_ifExp (pt_cmpR (op_eqD (hr.mono (Nat.zero_le _)).u64) (pe_ix (ix_any (hr.mono (Nat.zero_le _)).u9) (pe_ix (ix_any (hr.mono (Nat.zero_le _)).u9) (pv 1) pe_int (fun _ _ => rfl)) (pe_op op_sub (pv 3) pe_int) (fun _ _ => rfl)) pe_int (nomark _)) (pv 3) (pe_un un_neg (pv 3))) pa_nil)))) pss_nil))))
  (pss_one (ps_ret (pe_callB (cr_sortX rfl (hr.mono (Nat.zero_le _)).u64) (by rfl) T.n_sorted boot_sorted (pa_cons (pv 2) pa_nil))))))),
  (ss_seq (ss_setF (i := 1) (se_call (sa_cons se_v sa_nil)))
  (ss_seq (ss_setO (i := 2) (se_lst sa_nil))
  (ss_seq (ss_for (si_range2 (sa_cons se_int (sa_cons (se_op (by first | exact .inl rfl | exact .inr rfl) od_add (se_op (by first | exact .inl rfl | exact .inr rfl) od_ix se_v se_int) se_int) sa_nil))) sg_name (ss_seq (ss_setF (i := 4) (SemE.ne (se_c1 cd_set (se_comp (vs := [5]) (si_anyX se_v) (sc_name (by decide)) st_yes (se_op (by first | exact .inl rfl | exact .inr rfl) od_ix se_v (se_op (by first | exact .inl rfl | exact .inr rfl) od_sub se_v se_int))))))
  (ss_if (st_test (se_op (by first | exact .inl rfl | exact .inr rfl) od_eq (se_c1 cd_lenX se_v) se_int)) (ss_app (i := 2) (se_if (st_test (se_op (by first | exact .inl rfl | exact .inr rfl) od_eq (se_op (by first | exact .inl rfl | exact .inr rfl) od_ix (se_op (by first | exact .inl rfl | exact .inr rfl) od_ix se_v se_int) (se_op (by first | exact .inl rfl | exact .inr rfl) od_sub se_v se_int)) se_int)) se_v (se_un ud_neg se_v))) ss_next)))
  (ss_ret (SemE.ne (se_c1 cd_sortX se_vo))))))⟩

abbrev s_fewest_unmet : Stmt := top 9
theorem sc_fewest_unmet : FnScope ["wishes", "row"] ["wishes"] (defScope s_fewest_unmet) := ⟨rfl, rfl, rfl, by decide +kernel, rfl, by decide +kernel, by decide +kernel⟩
def b_fewest_unmet : Xv := (xRet (eUn minD (eComp [1] (iSeqX (eCall m_all_rosters (aCons (eOp ixD (eV 0) (eC (.int 0))) aNil))) (setF 1) tYesD (eUn lenXD (eCall m_unmet (aCons (eV 0) (aCons (eV 1) aNil)))))))
def m_fewest_unmet : Fn := mDef 2 1 b_fewest_unmet
theorem ok_fewest_unmet {K : KW} {mg : Str → Option Value} {base : Heap} {f : Addr} {fd : FuncData} (T : Txt mg) (F : FunD K.f "fewest_unmet" "fewest_unmet" (defArgs s_fewest_unmet) (defBody s_fewest_unmet) (defScope s_fewest_unmet) [] [] f fd) (C_unmet : Cal K mg base 3 "unmet" ["wishes", "roster"] (spD K m_unmet)) (C_all_rosters : Cal K mg base 1 "all_rosters" ["people"] (spD K m_all_rosters)) :
    FnOk K.P K.w K.f mg base CX0 4 f fd ["wishes"] (spD K m_fewest_unmet) := by
  refine fn_ok F sc_fewest_unmet fun cdv A outer s H E hr => ?_
  exact ⟨_, (pss_one (ps_ret (pe_callB (cr_min rfl) (by rfl) T.n_min boot_min (pa_cons (pe_lc (own := [("row", 1)]) (wi := (iAnyX K.f (tCall (spD K m_all_rosters) [] E0 (tCons (tOp (rIxX K) (tVar 0) (tC (.int 0))) tNil)))) (g := (gName 1)) (tt := tYes) (te := (tCB (rLenX K) (tCons (tCall (spD K m_unmet) [] E0 (tCons (tVar 0) (tCons (tVar 1) tNil))) tNil))) rfl sc_fewest_unmet.nd (pi_anyX (pe_call C_all_rosters.ok (hr.mono (by omega)) (by rfl) C_all_rosters.g C_all_rosters.kp C_all_rosters.b .nil pass0 (pa_cons (pe_ix (ix_any (hr.mono (Nat.zero_le _)).u9) (pv 0) pe_int (fun _ _ => rfl)) pa_nil))) (blkOk_by (by kernel_rfl)) (fun _ _ _ _ _ => (pg_name (i := 1) sc_fewest_unmet.nd rfl (by first | exact .inl rfl | exact .inr rfl))) (fun _ _ _ _ _ => pts_nil) (fun _ _ _ _ _ => (pe_callB call_lenX (by rfl) T.n_len boot_len (pa_cons (pe_call C_unmet.ok (hr.mono (by omega)) (by rfl) C_unmet.g C_unmet.kp C_unmet.b .nil pass0 (pa_cons (pv 0) (pa_cons (pv 1) pa_nil))) pa_nil)))) pa_nil)))),
  (ss_ret (se_c1 cd_min (se_comp (vs := [1]) (si_anyX (se_call (sa_cons (se_op (by first | exact .inl rfl | exact .inr rfl) od_ix se_v se_int) sa_nil))) (sc_name (by decide)) st_yes (se_c1 cd_lenX (se_call (sa_cons se_v (sa_cons se_v sa_nil)))))))⟩

abbrev s__law_same : Stmt := top 11
theorem sc__law_same : FnScope ["actual", "due", "k"] ["actual", "due"] (defScope s__law_same) := ⟨rfl, rfl, rfl, by decide +kernel, rfl, by decide +kernel, by decide +kernel⟩
def b__law_same (r : Fn) : Xv := (xSeq (xIf (tOrD (tOf (eUn (isD .tuple) (eV 1))) (tOf (eUn (isD .list) (eV 1)))) (xSeq (xIf (tOrD (tOf (eOp neD (eUn (isD .tuple) (eV 1)) (eUn (isD .tuple) (eV 0)))) (tOrD (tOf (eOp neD (eUn (isD .list) (eV 1)) (eUn (isD .list) (eV 0)))) (tOf (eOp neD (eUn lenXD (eV 0)) (eUn lenXD (eV 1)))))) (xRet (eC (.bl false))) xNext)
  (xRet (eOp eqD (eUn lenXD (eComp [2] (iRange1 (aCons (eUn lenXD (eV 1)) aNil)) (setF 2) (tNotD (tOf (eCall r (aCons (eOp ixD (eV 0) (eV 2)) (aCons (eOp ixD (eV 1) (eV 2)) aNil))))) (eV 2))) (eC (.int 0))))) xNext)
  (xSeq (xIf (tOf (eOp isND (eV 1) (eC .non))) (xRet (eOp isND (eV 0) (eC .non))) xNext)
  (xSeq (xIf (tOrD (tOf (eUn (isD .bool) (eV 1))) (tOf (eUn (isD .bool) (eV 0)))) (xRet (eOfT (tAndD (tOf (eUn (isD .bool) (eV 1))) (tOf (eOfT (tAndD (tOf (eUn (isD .bool) (eV 0))) (tOf (eOp eqD (eV 0) (eV 1))))))))) xNext)
  (xSeq (xIf (tOf (eUn (isD .int) (eV 1))) (xRet (eOfT (tAndD (tOf (eUn (isD .int) (eV 0))) (tOf (eOp eqD (eV 0) (eV 1)))))) xNext)
  (xRet (eOfT (tAndD (tOf (eUn (isD .str) (eV 0))) (tOf (eOfT (tAndD (tOf (eUn (isD .str) (eV 1))) (tOf (eOp eqD (eV 0) (eV 1)))))))))))))
def m__law_same : Nat → Fn
  | 0 => fun _ => none
  | n + 1 => mDef 3 2 (b__law_same (m__law_same n))
theorem ok__law_same {K : KW} {mg : Str → Option Value} {base : Heap} {f : Addr} {fd : FuncData} (T : Txt mg) (F : FunD K.f "_law_same" "_law_same" (defArgs s__law_same) (defBody s__law_same) (defScope s__law_same) [] [] f fd) (g : mg "_law_same" = some (.ref f)) :
    ∀ n, FnOk K.P K.w K.f mg base CX0 (1 + n) f fd ["actual", "due"] (spD K (m__law_same n))
  | 0 => fn_no F sc__law_same
  | n + 1 => by
    have C__law_same : Cal K mg base (1 + n) "_law_same" ["actual", "due"] (spD K (m__law_same n)) := ⟨f, fd, g, ok__law_same T F g  n, F.kp, (F.bindsN fun _ _ _ _ _ _ us hl => match us, hl with | [_, _], _ => rfl)⟩
    refine fn_ok (k := 1 + n) F sc__law_same fun cdv A outer s H E hr => ?_
    exact ⟨_, (pss_cons (ps_if (PW.pt (pw_or (pt_val (pe_callB (call_isiX (T := "tuple")) (by rfl) T.n_isinstance boot_isinstance (pa_cons (pv 1) (pa_cons (pe_bltn (v := .ty "tuple") (by rfl) T.n_tuple boot_tuple rfl) pa_nil)))) (pw_or1 (pt_val (pe_callB (call_isiX (T := "list")) (by rfl) T.n_isinstance boot_isinstance (pa_cons (pv 1) (pa_cons (pe_bltn (v := .ty "list") (by rfl) T.n_list boot_list rfl) pa_nil))))))) (pss_cons (ps_if (PW.pt (pw_or (pt_cmpR (op_neD (hr.mono (Nat.zero_le _)).u64) (pe_callB (call_isiX (T := "tuple")) (by rfl) T.n_isinstance boot_isinstance (pa_cons (pv 1) (pa_cons (pe_bltn (v := .ty "tuple") (by rfl) T.n_tuple boot_tuple rfl) pa_nil))) (pe_callB (call_isiX (T := "tuple")) (by rfl) T.n_isinstance boot_isinstance (pa_cons (pv 0) (pa_cons (pe_bltn (v := .ty "tuple") (by rfl) T.n_tuple boot_tuple rfl) pa_nil))) (nomark _)) (pw_or (pt_cmpR (op_neD (hr.mono (Nat.zero_le _)).u64) (pe_callB (call_isiX (T := "list")) (by rfl) T.n_isinstance boot_isinstance (pa_cons (pv 1) (pa_cons (pe_bltn (v := .ty "list") (by rfl) T.n_list boot_list rfl) pa_nil))) (pe_callB (call_isiX (T := "list")) (by rfl) T.n_isinstance boot_isinstance (pa_cons (pv 0) (pa_cons (pe_bltn (v := .ty "list") (by rfl) T.n_list boot_list rfl) pa_nil))) (nomark _)) (pw_or1 (pt_cmpR (op_neD (hr.mono (Nat.zero_le _)).u64) (pe_callB call_lenX (by rfl) T.n_len boot_len (pa_cons (pv 0) pa_nil)) (pe_callB call_lenX (by rfl) T.n_len boot_len (pa_cons (pv 1) pa_nil)) (nomark _)))))) (pss_one (ps_ret pe_bl)) pss_nil)
  (pss_one (ps_ret (pe_cmpR (op_eqD (hr.mono (Nat.zero_le _)).u64) (pe_callB call_lenX (by rfl) T.n_len boot_len (pa_cons (pe_lc (own := [("k", 2)]) (wi := (iRng1 (tCons (tCB (rLenX K) (tCons (tVar 1) tNil)) tNil))) (g := (gName 2)) (tt := (tNot (tB (tCall (spD K (m__law_same n)) [] E0 (tCons (tOp (rIxX K) (tVar 0) (tVar 2)) (tCons (tOp (rIxX K) (tVar 1) (tVar 2)) tNil)))))) (te := (tVar 2)) rfl sc__law_same.nd (pi_range1 (by rfl) T.n_range (pa_cons (pe_callB call_lenX (by rfl) T.n_len boot_len (pa_cons (pv 1) pa_nil)) pa_nil)) (blkOk_by (by kernel_rfl)) (fun _ _ _ _ _ => (pg_name (i := 2) sc__law_same.nd rfl (by first | exact .inl rfl | exact .inr rfl))) (fun _ _ _ _ _ => (pts_one (pt_not (pt_val (pe_call C__law_same.ok (hr.mono (by omega)) (by rfl) C__law_same.g C__law_same.kp C__law_same.b .nil pass0 (pa_cons (pe_ix (ix_any (hr.mono (Nat.zero_le _)).u9) (pv 0) (pv 2) (fun _ _ => rfl)) (pa_cons (pe_ix (ix_any (hr.mono (Nat.zero_le _)).u9) (pv 1) (pv 2) (fun _ _ => rfl)) pa_nil))))))) (fun _ _ _ _ _ => (pv 2))) pa_nil)) pe_int (nomark _))))) pss_nil)
  (pss_cons (ps_if (pt_cmpR op_isN (pv 1) pe_non (nomark _)) (pss_one (ps_ret (pe_cmpR op_isN (pv 0) pe_non (nomark _)))) pss_nil)
  (pss_cons (ps_if (PW.pt (pw_or (pt_val (pe_callB (call_isiX (T := "bool")) (by rfl) T.n_isinstance boot_isinstance (pa_cons (pv 1) (pa_cons (pe_bltn (v := .ty "bool") (by rfl) T.n_bool boot_bool rfl) pa_nil)))) (pw_or1 (pt_val (pe_callB (call_isiX (T := "bool")) (by rfl) T.n_isinstance boot_isinstance (pa_cons (pv 0) (pa_cons (pe_bltn (v := .ty "bool") (by rfl) T.n_bool boot_bool rfl) pa_nil))))))) (pss_one (ps_ret (pe_and (pe_callB (call_isiX (T := "bool")) (by rfl) T.n_isinstance boot_isinstance (pa_cons (pv 1) (pa_cons (pe_bltn (v := .ty "bool") (by rfl) T.n_bool boot_bool rfl) pa_nil))) (pe_and (pe_callB (call_isiX (T := "bool")) (by rfl) T.n_isinstance boot_isinstance (pa_cons (pv 0) (pa_cons (pe_bltn (v := .ty "bool") (by rfl) T.n_bool boot_bool rfl) pa_nil))) (pe_one (pe_cmpR (op_eqD (hr.mono (Nat.zero_le _)).u64) (pv 0) (pv 1) (nomark _))))))) pss_nil)
  (pss_cons (ps_if (pt_val (pe_callB (call_isiX (T := "int")) (by rfl) T.n_isinstance boot_isinstance (pa_cons (pv 1) (pa_cons (pe_bltn (v := .ty "int") (by rfl) T.n_int boot_int rfl) pa_nil)))) (pss_one (ps_ret (pe_and (pe_callB (call_isiX (T := "int")) (by rfl) T.n_isinstance boot_isinstance (pa_cons (pv 0) (pa_cons (pe_bltn (v := .ty "int") (by rfl) T.n_int boot_int rfl) pa_nil))) (pe_one (pe_cmpR (op_eqD (hr.mono (Nat.zero_le _)).u64) (pv 0) (pv 1) (nomark _)))))) pss_nil)
  (pss_one (ps_ret (pe_and (pe_callB (call_isiX (T := "str")) (by rfl) T.n_isinstance boot_isinstance (pa_cons (pv 0) (pa_cons (pe_bltn (v := .ty "str") (by rfl) T.n_str boot_str rfl) pa_nil))) (pe_and (pe_callB (call_isiX (T := "str")) (by rfl) T.n_isinstance boot_isinstance (pa_cons (pv 1) (pa_cons (pe_bltn (v := .ty "str") (by rfl) T.n_str boot_str rfl) pa_nil))) (pe_one (pe_cmpR (op_eqD (hr.mono (Nat.zero_le _)).u64) (pv 0) (pv 1) (nomark _))))))))))),
  (ss_seq (ss_if (st_or (st_b (se_isi .tuple se_v)) (st_b (se_isi .list se_v))) (ss_seq (ss_if (st_or (st_test (se_op (by first | exact .inl rfl | exact .inr rfl) od_ne (se_isi .tuple se_v) (se_isi .tuple se_v))) (st_or (st_test (se_op (by first | exact .inl rfl | exact .inr rfl) od_ne (se_isi .list se_v) (se_isi .list se_v))) (st_test (se_op (by first | exact .inl rfl | exact .inr rfl) od_ne (se_c1 cd_lenX se_v) (se_c1 cd_lenX se_v))))) (ss_ret se_bl) ss_next)
  (ss_ret (se_op (by first | exact .inl rfl | exact .inr rfl) od_eq (se_c1 cd_lenX (se_comp (vs := [2]) (si_range1 (sa_cons (se_c1 cd_lenX se_v) sa_nil)) (sc_name (by decide)) (st_not (st_b (se_call (sa_cons (se_op (by first | exact .inl rfl | exact .inr rfl) od_ix se_v se_v) (sa_cons (se_op (by first | exact .inl rfl | exact .inr rfl) od_ix se_v se_v) sa_nil))))) se_v)) se_int))) ss_next)
  (ss_seq (ss_if (st_test (se_op (by first | exact .inl rfl | exact .inr rfl) od_isN se_v se_non)) (ss_ret (se_op (by first | exact .inl rfl | exact .inr rfl) od_isN se_v se_non)) ss_next)
  (ss_seq (ss_if (st_or (st_b (se_isi .bool se_v)) (st_b (se_isi .bool se_v))) (ss_ret (se_and (se_isi .bool se_v) (se_and (se_isi .bool se_v) (se_op (by first | exact .inl rfl | exact .inr rfl) od_eq se_v se_v)))) ss_next)
  (ss_seq (ss_if (st_b (se_isi .int se_v)) (ss_ret (se_and (se_isi .int se_v) (se_op (by first | exact .inl rfl | exact .inr rfl) od_eq se_v se_v))) ss_next)
  (ss_ret (se_and (se_isi .str se_v) (se_and (se_isi .str se_v) (se_op (by first | exact .inl rfl | exact .inr rfl) od_eq se_v se_v))))))))⟩

abbrev s__law_pool : Stmt := top 12
theorem sc__law_pool : FnScope ["script", "salt", "cell"] ["script"] (defScope s__law_pool) := ⟨rfl, rfl, rfl, by decide +kernel, rfl, by decide +kernel, by decide +kernel⟩
def b__law_pool : Xv := (xSeq (xSetF 1 (eC (.int 7)))
  (xSeq (xFor (iSeqX (eSlS 0 oNone (oSome (eC (.int 63))))) (setF 2) (xSetF 1 (eOp modD (eUn intD (eOp addD (eOp mulD (eV 1) (eC (.int 31))) (eV 2))) (eC (.int 1000003)))))
  (xRetO (eLst (aCons (eListS 0) (aCons (eC (.int 0)) (aCons (eC (.int 0)) (aCons (eC (.int 0)) (aCons (eV 1) aNil)))))))))
def m__law_pool : Fn := mDefN 3 1 b__law_pool
theorem ok__law_pool {K : KW} {mg : Str → Option Value} {base : Heap} {f : Addr} {fd : FuncData} (T : Txt mg) (F : FunD K.f "_law_pool" "_law_pool" (defArgs s__law_pool) (defBody s__law_pool) (defScope s__law_pool) [] [] f fd) :
    FnOk K.P K.w K.f mg base CX0 1 f fd ["script"] (spN K m__law_pool) := by
  refine fn_okN F sc__law_pool fun cdv A outer s H E hr => ?_
  exact ⟨_, (pss_cons (ps_set (i := 1) sc__law_pool.nd rfl (by first | exact .inl rfl | exact .inr rfl) pe_int)
  (pss_cons (ps_for PassesOwn.never rfl (pi_anyX (pe_slice sl_list (pv 0) po_none (po_some pe_int))) (pg_name (i := 2) sc__law_pool.nd rfl (by first | exact .inl rfl | exact .inr rfl)) (pss_one (ps_set (i := 1) sc__law_pool.nd rfl (by first | exact .inl rfl | exact .inr rfl) (pe_op op_mod (pe_callTy call_int1 (by rfl) T.n_int boot_int (pa_cons (pe_op opx_add (pe_op op_mul (pv 1) pe_int) (pv 2)) pa_nil)) pe_int))))
  (pss_one (ps_ret (pe_lst (pa_cons (pe_callTy call_list_of (by rfl) T.n_list boot_list (pa_cons (pv 0) pa_nil)) (pa_cons pe_int (pa_cons pe_int (pa_cons pe_int (pa_cons (pv 1) pa_nil)))))))))),
  (ss_seq (ss_setF (i := 1) se_int)
  (ss_seq (ss_for (si_anyX (SemE.ne (se_slS so_none (so_some se_int)))) sg_name (ss_setF (i := 1) (se_op (by first | exact .inl rfl | exact .inr rfl) od_mod (se_c1 cd_int (se_op (by first | exact .inl rfl | exact .inr rfl) od_add (se_op (by first | exact .inl rfl | exact .inr rfl) od_mul se_v se_int) se_v)) se_int)))
  (ss_retO (se_lst (sa_cons (SemE.ne se_listS) (sa_cons se_int (sa_cons se_int (sa_cons se_int (sa_cons se_v sa_nil)))))))))⟩

abbrev s__law_spread : Stmt := top 13
theorem sc__law_spread : FnScope ["cell", "mixed", "total", "k"] ["cell"] (defScope s__law_spread) := ⟨rfl, rfl, rfl, by decide +kernel, rfl, by decide +kernel, by decide +kernel⟩
def b__law_spread : Xv := (xSeq (xSetF 1 (eOp modD (eUn intD (eV 0)) (eC (.int 2147483647))))
  (xSeq (xSetF 2 (eC (.int 1)))
  (xSeq (xFor (iRange1 (aCons (eC (.int 4)) aNil)) (setF 3) (xSeq (xSetF 1 (eOp modD (eUn intD (eOp addD (eOp addD (eOp mulD (eV 1) (eC (.int 48271))) (eC (.int 12345))) (eV 3))) (eC (.int 2147483647))))
  (xSetF 2 (eOp addD (eOp mulD (eV 2) (eC (.int 2147483647))) (eV 1)))))
  (xRet (eV 2)))))
def m__law_spread : Fn := mDef 4 1 b__law_spread
theorem ok__law_spread {K : KW} {mg : Str → Option Value} {base : Heap} {f : Addr} {fd : FuncData} (T : Txt mg) (F : FunD K.f "_law_spread" "_law_spread" (defArgs s__law_spread) (defBody s__law_spread) (defScope s__law_spread) [] [] f fd) :
    FnOk K.P K.w K.f mg base CX0 1 f fd ["cell"] (spD K m__law_spread) := by
  refine fn_ok F sc__law_spread fun cdv A outer s H E hr => ?_
  exact ⟨_, (pss_cons (ps_set (i := 1) sc__law_spread.nd rfl (by first | exact .inl rfl | exact .inr rfl) (pe_op op_mod (pe_callTy call_int1 (by rfl) T.n_int boot_int (pa_cons (pv 0) pa_nil)) pe_int))
  (pss_cons (ps_set (i := 2) sc__law_spread.nd rfl (by first | exact .inl rfl | exact .inr rfl) pe_int)
  (pss_cons (ps_for PassesOwn.never rfl (pi_range1 (by rfl) T.n_range (pa_cons pe_int pa_nil)) (pg_name (i := 3) sc__law_spread.nd rfl (by first | exact .inl rfl | exact .inr rfl)) (pss_cons (ps_set (i := 1) sc__law_spread.nd rfl (by first | exact .inl rfl | exact .inr rfl) (pe_op op_mod (pe_callTy call_int1 (by rfl) T.n_int boot_int (pa_cons (pe_op opx_add (pe_op opx_add (pe_op op_mul (pv 1) pe_int) pe_int) (pv 3)) pa_nil)) pe_int))
  (pss_one (ps_set (i := 2) sc__law_spread.nd rfl (by first | exact .inl rfl | exact .inr rfl) (pe_op opx_add (pe_op op_mul (pv 2) pe_int) (pv 1))))))
  (pss_one (ps_ret (pv 2)))))),
  (ss_seq (ss_setF (i := 1) (se_op (by first | exact .inl rfl | exact .inr rfl) od_mod (se_c1 cd_int se_v) se_int))
  (ss_seq (ss_setF (i := 2) se_int)
  (ss_seq (ss_for (si_range1 (sa_cons se_int sa_nil)) sg_name (ss_seq (ss_setF (i := 1) (se_op (by first | exact .inl rfl | exact .inr rfl) od_mod (se_c1 cd_int (se_op (by first | exact .inl rfl | exact .inr rfl) od_add (se_op (by first | exact .inl rfl | exact .inr rfl) od_add (se_op (by first | exact .inl rfl | exact .inr rfl) od_mul se_v se_int) se_int) se_v)) se_int))
  (ss_setF (i := 2) (se_op (by first | exact .inl rfl | exact .inr rfl) od_add (se_op (by first | exact .inl rfl | exact .inr rfl) od_mul se_v se_int) se_v))))
  (ss_ret se_v))))⟩

abbrev s__law_draw : Stmt := top 14
theorem sc__law_draw : FnScope ["pool", "many", "value", "cell", "mixed"] ["pool", "many"] (defScope s__law_draw) := ⟨rfl, rfl, rfl, by decide +kernel, rfl, by decide +kernel, by decide +kernel⟩
def b__law_draw : Xv := (xSeq (xIf (tAndD (tOf (eOp leD (eOp ixD (eVo 0) (eC (.int 2))) (eC (.int 0)))) (tOf (eOp ltD (eOp ixD (eVo 0) (eC (.int 1))) (eUn lenXD (eOp ixD (eVo 0) (eC (.int 0))))))) (xSeq (xSetF 3 (eOp ixD (eOp ixD (eVo 0) (eC (.int 0))) (eOp ixD (eVo 0) (eC (.int 1)))))
  (xSeq (xSub 0 (eC (.int 1)) (eOp addD (eOp ixD (eVo 0) (eC (.int 1))) (eC (.int 1))))
  (xSeq (xSub 0 (eC (.int 2)) (eV 3))
  (xIf (tOf (eOp ltD (eV 3) (eC (.int 1000000000000000000)))) (xSub 0 (eC (.int 2)) (eCall m__law_spread (aCons (eV 3) aNil))) xNext)))) xNext)
  (xSeq (xSub 0 (eC (.int 3)) (eOp addD (eOp ixD (eVo 0) (eC (.int 3))) (eC (.int 1))))
  (xSeq (xIf (tOf (eOp leD (eOp ixD (eVo 0) (eC (.int 2))) (eC (.int 0)))) (xSeq (xSetF 4 (eOp modD (eUn intD (eOp addD (eOp addD (eOp mulD (eOp ixD (eVo 0) (eC (.int 4))) (eC (.int 48271))) (eOp mulD (eOp ixD (eVo 0) (eC (.int 3))) (eC (.int 69621)))) (eC (.int 1)))) (eC (.int 2147483647))))
  (xSeq (xSetF 4 (eOp modD (eUn intD (eOp addD (eOp mulD (eV 4) (eC (.int 16807))) (eOp ixD (eVo 0) (eC (.int 3))))) (eC (.int 2147483629))))
  (xRet (eOp modD (eOp fdivD (eV 4) (eC (.int 5))) (eV 1))))) xNext)
  (xSeq (xSetF 2 (eOp modD (eUn intD (eOp ixD (eVo 0) (eC (.int 2)))) (eV 1)))
  (xSeq (xSub 0 (eC (.int 2)) (eOp fdivD (eOp ixD (eVo 0) (eC (.int 2))) (eV 1)))
  (xRet (eV 2)))))))
def m__law_draw : Fn := mDef 5 2 b__law_draw
theorem ok__law_draw {K : KW} {mg : Str → Option Value} {base : Heap} {f : Addr} {fd : FuncData} (T : Txt mg) (F : FunD K.f "_law_draw" "_law_draw" (defArgs s__law_draw) (defBody s__law_draw) (defScope s__law_draw) [] [] f fd) (C__law_spread : Cal K mg base 1 "_law_spread" ["cell"] (spD K m__law_spread)) :
    FnOk K.P K.w K.f mg base CX0 2 f fd ["pool", "many"] (spD K m__law_draw) := by
  refine fn_ok F sc__law_draw fun cdv A outer s H E hr => ?_
  exact ⟨_, (pss_cons (ps_if (PW.pt (pw_and (pt_cmpR op_le (pe_ix (ix_any (hr.mono (Nat.zero_le _)).u9) (pv 0) pe_int (fun _ _ => rfl)) pe_int (nomark _)) (pw_and1 (pt_cmpR op_lt (pe_ix (ix_any (hr.mono (Nat.zero_le _)).u9) (pv 0) pe_int (fun _ _ => rfl)) (pe_callB call_lenX (by rfl) T.n_len boot_len (pa_cons (pe_ix (ix_any (hr.mono (Nat.zero_le _)).u9) (pv 0) pe_int (fun _ _ => rfl)) pa_nil)) (nomark _))))) (pss_cons (ps_set (i := 3) sc__law_draw.nd rfl (by first | exact .inl rfl | exact .inr rfl) (pe_ix (ix_any (hr.mono (Nat.zero_le _)).u9) (pe_ix (ix_any (hr.mono (Nat.zero_le _)).u9) (pv 0) pe_int (fun _ _ => rfl)) (pe_ix (ix_any (hr.mono (Nat.zero_le _)).u9) (pv 0) pe_int (fun _ _ => rfl)) (fun _ _ => rfl)))
  (pss_cons (ps_asg (pe_op opx_add (pe_ix (ix_any (hr.mono (Nat.zero_le _)).u9) (pv 0) pe_int (fun _ _ => rfl)) pe_int) (pg_sub (pv 0) pe_int (set_any (hr.mono (Nat.zero_le _)).u9)))
  (pss_cons (ps_asg (pv 3) (pg_sub (pv 0) pe_int (set_any (hr.mono (Nat.zero_le _)).u9)))
  (pss_one (ps_if (pt_cmpR op_lt (pv 3) pe_int (nomark _)) (pss_one (ps_asg (pe_call C__law_spread.ok (hr.mono (by omega)) (by rfl) C__law_spread.g C__law_spread.kp C__law_spread.b .nil pass0 (pa_cons (pv 3) pa_nil)) (pg_sub (pv 0) pe_int (set_any (hr.mono (Nat.zero_le _)).u9)))) pss_nil))))) pss_nil)
  (pss_cons (ps_asg (pe_op opx_add (pe_ix (ix_any (hr.mono (Nat.zero_le _)).u9) (pv 0) pe_int (fun _ _ => rfl)) pe_int) (pg_sub (pv 0) pe_int (set_any (hr.mono (Nat.zero_le _)).u9)))
  (pss_cons (ps_if (pt_cmpR op_le (pe_ix (ix_any (hr.mono (Nat.zero_le _)).u9) (pv 0) pe_int (fun _ _ => rfl)) pe_int (nomark _)) (pss_cons (ps_set (i := 4) sc__law_draw.nd rfl (by first | exact .inl rfl | exact .inr rfl) (pe_op op_mod (pe_callTy call_int1 (by rfl) T.n_int boot_int (pa_cons (pe_op opx_add (pe_op opx_add (pe_op op_mul (pe_ix (ix_any (hr.mono (Nat.zero_le _)).u9) (pv 0) pe_int (fun _ _ => rfl)) pe_int) (pe_op op_mul (pe_ix (ix_any (hr.mono (Nat.zero_le _)).u9) (pv 0) pe_int (fun _ _ => rfl)) pe_int)) pe_int) pa_nil)) pe_int))
  (pss_cons (ps_set (i := 4) sc__law_draw.nd rfl (by first | exact .inl rfl | exact .inr rfl) (pe_op op_mod (pe_callTy call_int1 (by rfl) T.n_int boot_int (pa_cons (pe_op opx_add (pe_op op_mul (pv 4) pe_int) (pe_ix (ix_any (hr.mono (Nat.zero_le _)).u9) (pv 0) pe_int (fun _ _ => rfl))) pa_nil)) pe_int))
  (pss_one (ps_ret (pe_op op_mod (pe_op op_fdiv (pv 4) pe_int) (pv 1)))))) pss_nil)
  (pss_cons (ps_set (i := 2) sc__law_draw.nd rfl (by first | exact .inl rfl | exact .inr rfl) (pe_op op_mod (pe_callTy call_int1 (by rfl) T.n_int boot_int (pa_cons (pe_ix (ix_any (hr.mono (Nat.zero_le _)).u9) (pv 0) pe_int (fun _ _ => rfl)) pa_nil)) (pv 1)))
  (pss_cons (ps_asg (pe_op op_fdiv (pe_ix (ix_any (hr.mono (Nat.zero_le _)).u9) (pv 0) pe_int (fun _ _ => rfl)) (pv 1)) (pg_sub (pv 0) pe_int (set_any (hr.mono (Nat.zero_le _)).u9)))
  (pss_one (ps_ret (pv 2)))))))),
  (ss_seq (ss_if (st_and (st_test (se_op (by first | exact .inl rfl | exact .inr rfl) od_le (se_op (by first | exact .inl rfl | exact .inr rfl) od_ix se_vo se_int) se_int)) (st_test (se_op (by first | exact .inl rfl | exact .inr rfl) od_lt (se_op (by first | exact .inl rfl | exact .inr rfl) od_ix se_vo se_int) (se_c1 cd_lenX (se_op (by first | exact .inl rfl | exact .inr rfl) od_ix se_vo se_int))))) (ss_seq (ss_setF (i := 3) (se_op (by first | exact .inl rfl | exact .inr rfl) od_ix (se_op (by first | exact .inl rfl | exact .inr rfl) od_ix se_vo se_int) (se_op (by first | exact .inl rfl | exact .inr rfl) od_ix se_vo se_int)))
  (ss_seq (ss_sub (i := 0) (se_op (by first | exact .inl rfl | exact .inr rfl) od_add (se_op (by first | exact .inl rfl | exact .inr rfl) od_ix se_vo se_int) se_int) se_int)
  (ss_seq (ss_sub (i := 0) se_v se_int)
  (ss_if (st_test (se_op (by first | exact .inl rfl | exact .inr rfl) od_lt se_v se_int)) (ss_sub (i := 0) (se_call (sa_cons se_v sa_nil)) se_int) ss_next)))) ss_next)
  (ss_seq (ss_sub (i := 0) (se_op (by first | exact .inl rfl | exact .inr rfl) od_add (se_op (by first | exact .inl rfl | exact .inr rfl) od_ix se_vo se_int) se_int) se_int)
  (ss_seq (ss_if (st_test (se_op (by first | exact .inl rfl | exact .inr rfl) od_le (se_op (by first | exact .inl rfl | exact .inr rfl) od_ix se_vo se_int) se_int)) (ss_seq (ss_setF (i := 4) (se_op (by first | exact .inl rfl | exact .inr rfl) od_mod (se_c1 cd_int (se_op (by first | exact .inl rfl | exact .inr rfl) od_add (se_op (by first | exact .inl rfl | exact .inr rfl) od_add (se_op (by first | exact .inl rfl | exact .inr rfl) od_mul (se_op (by first | exact .inl rfl | exact .inr rfl) od_ix se_vo se_int) se_int) (se_op (by first | exact .inl rfl | exact .inr rfl) od_mul (se_op (by first | exact .inl rfl | exact .inr rfl) od_ix se_vo se_int) se_int)) se_int)) se_int))
  (ss_seq (ss_setF (i := 4) (se_op (by first | exact .inl rfl | exact .inr rfl) od_mod (se_c1 cd_int (se_op (by first | exact .inl rfl | exact .inr rfl) od_add (se_op (by first | exact .inl rfl | exact .inr rfl) od_mul se_v se_int) (se_op (by first | exact .inl rfl | exact .inr rfl) od_ix se_vo se_int))) se_int))
  (ss_ret (se_op (by first | exact .inl rfl | exact .inr rfl) od_mod (se_op (by first | exact .inl rfl | exact .inr rfl) od_fdiv se_v se_int) se_v)))) ss_next)
  (ss_seq (ss_setF (i := 2) (se_op (by first | exact .inl rfl | exact .inr rfl) od_mod (se_c1 cd_int (se_op (by first | exact .inl rfl | exact .inr rfl) od_ix se_vo se_int)) se_v))
  (ss_seq (ss_sub (i := 0) (se_op (by first | exact .inl rfl | exact .inr rfl) od_fdiv (se_op (by first | exact .inl rfl | exact .inr rfl) od_ix se_vo se_int) se_v) se_int)
  (ss_ret se_v))))))⟩

abbrev s__law_duty_wishes : Stmt := top 15
theorem sc__law_duty_wishes : FnScope ["pool", "people", "clauses", "k", "row", "person"] ["pool"] (defScope s__law_duty_wishes) := ⟨rfl, rfl, rfl, by decide +kernel, rfl, by decide +kernel, by decide +kernel⟩
def b__law_duty_wishes : Xv := (xSeq (xSetF 1 (eOp addD (eC (.int 1)) (eCallR m__law_draw 0 (arHead 0 (aCons (eC (.int 7)) aNil)))))
  (xSeq (xSetO 2 (eLst aNil))
  (xSeq (xFor (iRange1 (aCons (eCallR m__law_draw 0 (arHead 0 (aCons (eC (.int 13)) aNil))) aNil)) (setF 3) (xSeq (xSetO 4 (eLst aNil))
  (xSeq (xFor (iRange2 (aCons (eC (.int 1)) (aCons (eOp addD (eV 1) (eC (.int 1))) aNil))) (setF 5) (xIf (tAndD (tOf (eOp eqD (eCallR m__law_draw 0 (arHead 0 (aCons (eOp ixD (eTup (aCons (eC (.int 2)) (aCons (eC (.int 3)) aNil))) (eUn intD (eOp gtD (eV 1) (eC (.int 3))))) aNil))) (eC (.int 0)))) (tOf (eOp ltD (eUn lenXD (eVo 4)) (eOp ixD (eTup (aCons (eC (.int 2)) (aCons (eC (.int 3)) aNil))) (eCallR m__law_draw 0 (arHead 0 (aCons (eC (.int 2)) aNil))))))) (xApp 4 (eIf (tOf (eOp eqD (eCallR m__law_draw 0 (arHead 0 (aCons (eC (.int 2)) aNil))) (eC (.int 0)))) (eV 5) (eOp subD (eC (.int 0)) (eV 5)))) xNext))
  (xApp 2 (eIf (tOf (eOp neD (eVo 4) (eLst aNil))) (eUn tupleD (eVo 4)) (eTup (aCons (eOp addD (eC (.int 1)) (eCallR m__law_draw 0 (arHead 0 (aCons (eV 1) aNil)))) aNil)))))))
  (xRet (eTup (aCons (eV 1) (aCons (eUn tupleD (eVo 2)) aNil)))))))
def m__law_duty_wishes : Fn := mDef 6 1 b__law_duty_wishes
theorem ok__law_duty_wishes {K : KW} {mg : Str → Option Value} {base : Heap} {f : Addr} {fd : FuncData} (T : Txt mg) (F : FunD K.f "_law_duty_wishes" "_law_duty_wishes" (defArgs s__law_duty_wishes) (defBody s__law_duty_wishes) (defScope s__law_duty_wishes) [] [] f fd) (C__law_draw : Cal K mg base 2 "_law_draw" ["pool", "many"] (spD K m__law_draw)) :
    FnOk K.P K.w K.f mg base CX0 3 f fd ["pool"] (spD K m__law_duty_wishes) := by
  refine fn_ok F sc__law_duty_wishes fun cdv A outer s H E hr => ?_
  exact ⟨_, (pss_cons (ps_set (i := 1) sc__law_duty_wishes.nd rfl (by first | exact .inl rfl | exact .inr rfl) (pe_op opx_add pe_int (pe_call C__law_draw.ok (hr.mono (by omega)) (by rfl) C__law_draw.g C__law_draw.kp C__law_draw.b .nil pass0 (pa_cons (pv 0) (pa_cons pe_int pa_nil)))))
  (pss_cons (ps_set (i := 2) sc__law_duty_wishes.nd rfl (by first | exact .inl rfl | exact .inr rfl) (pe_lst pa_nil))
  (pss_cons (ps_for PassesOwn.never rfl (pi_range1 (by rfl) T.n_range (pa_cons (pe_call C__law_draw.ok (hr.mono (by omega)) (by rfl) C__law_draw.g C__law_draw.kp C__law_draw.b .nil pass0 (pa_cons (pv 0) (pa_cons pe_int pa_nil))) pa_nil)) (pg_name (i := 3) sc__law_duty_wishes.nd rfl (by first | exact .inl rfl | exact .inr rfl)) (pss_cons (ps_set (i := 4) sc__law_duty_wishes.nd rfl (by first | exact .inl rfl | exact .inr rfl) (pe_lst pa_nil))
  (pss_cons (ps_for PassesOwn.never rfl (pi_range2 (by rfl) T.n_range (pa_cons pe_int (pa_cons (pe_op opx_add (pv 1) pe_int) pa_nil))) (pg_name (i := 5) sc__law_duty_wishes.nd rfl (by first | exact .inl rfl | exact .inr rfl)) (pss_one (ps_if (PW.pt (pw_and (pt_cmpR (op_eqD (hr.mono (Nat.zero_le _)).u64) (pe_call C__law_draw.ok (hr.mono (by omega)) (by rfl) C__law_draw.g C__law_draw.kp C__law_draw.b .nil pass0 (pa_cons (pv 0) (pa_cons (pe_ix (ix_any (hr.mono (Nat.zero_le _)).u9) (pe_tup (pa_cons pe_int (pa_cons pe_int pa_nil))) (pe_callTy call_int1 (by rfl) T.n_int boot_int (pa_cons (pe_cmpR op_gt (pv 1) pe_int (nomark _)) pa_nil)) (fun _ _ => rfl)) pa_nil))) pe_int (nomark _)) (pw_and1 (pt_cmpR op_lt (pe_callB call_lenX (by rfl) T.n_len boot_len (pa_cons (pv 4) pa_nil)) (pe_ix (ix_any (hr.mono (Nat.zero_le _)).u9) (pe_tup (pa_cons pe_int (pa_cons pe_int pa_nil))) (pe_call C__law_draw.ok (hr.mono (by omega)) (by rfl) C__law_draw.g C__law_draw.kp C__law_draw.b .nil pass0 (pa_cons (pv 0) (pa_cons pe_int pa_nil))) (fun _ _ => rfl)) (nomark _))))) (pss_one (ps_expr (pe_bm PySem.F.plainAttrs_list PySem.F.slot_list_append PySem.F.type_list_append mt_append (pv 4) (pa_cons (pe_ifExp (pt_cmpR (op_eqD (hr.mono (Nat.zero_le _)).u64) (pe_call C__law_draw.ok (hr.mono (by omega)) (by rfl) C__law_draw.g C__law_draw.kp C__law_draw.b .nil pass0 (pa_cons (pv 0) (pa_cons pe_int pa_nil))) pe_int (nomark _)) (pv 5) (pe_op op_sub pe_int (pv 5))) pa_nil)))) pss_nil)))
  (pss_one (ps_expr (pe_bm PySem.F.plainAttrs_list PySem.F.slot_list_append PySem.F.type_list_append mt_append (pv 2) (pa_cons (pe_ifExp (pt_cmpR (op_neD (hr.mono (Nat.zero_le _)).u64) (pv 4) (pe_lst pa_nil) (nomark _)) (pe_callTy call_tuple_of (by rfl) T.n_tuple boot_tuple (pa_cons (pv 4) pa_nil)) (pe_tup (pa_cons (pe_op opx_add pe_int (pe_call C__law_draw.ok (hr.mono (by omega)) (by rfl) C__law_draw.g C__law_draw.kp C__law_draw.b .nil pass0 (pa_cons (pv 0) (pa_cons (pv 1) pa_nil)))) pa_nil))) pa_nil)))))))
  (pss_one (ps_ret (pe_tup (pa_cons (pv 1) (pa_cons (pe_callTy call_tuple_of (by rfl) T.n_tuple boot_tuple (pa_cons (pv 2) pa_nil)) pa_nil)))))))),
  (ss_seq (ss_setF (i := 1) (se_op (by first | exact .inl rfl | exact .inr rfl) od_add se_int (se_callR (sar_head (sa_cons se_int sa_nil)))))
  (ss_seq (ss_setO (i := 2) (se_lst sa_nil))
  (ss_seq (ss_for (si_range1 (sa_cons (se_callR (sar_head (sa_cons se_int sa_nil))) sa_nil)) sg_name (ss_seq (ss_setO (i := 4) (se_lst sa_nil))
  (ss_seq (ss_for (si_range2 (sa_cons se_int (sa_cons (se_op (by first | exact .inl rfl | exact .inr rfl) od_add se_v se_int) sa_nil))) sg_name (ss_if (st_and (st_test (se_op (by first | exact .inl rfl | exact .inr rfl) od_eq (se_callR (sar_head (sa_cons (se_op (by first | exact .inl rfl | exact .inr rfl) od_ix (se_tup (sa_cons se_int (sa_cons se_int sa_nil))) (se_c1 cd_int (se_op (by first | exact .inl rfl | exact .inr rfl) od_gt se_v se_int))) sa_nil))) se_int)) (st_test (se_op (by first | exact .inl rfl | exact .inr rfl) od_lt (se_c1 cd_lenX se_vo) (se_op (by first | exact .inl rfl | exact .inr rfl) od_ix (se_tup (sa_cons se_int (sa_cons se_int sa_nil))) (se_callR (sar_head (sa_cons se_int sa_nil))))))) (ss_app (i := 4) (se_if (st_test (se_op (by first | exact .inl rfl | exact .inr rfl) od_eq (se_callR (sar_head (sa_cons se_int sa_nil))) se_int)) se_v (se_op (by first | exact .inl rfl | exact .inr rfl) od_sub se_int se_v))) ss_next))
  (ss_app (i := 2) (se_if (st_test (se_op (by first | exact .inl rfl | exact .inr rfl) od_ne se_vo (se_lst sa_nil))) (se_c1 cd_tuple se_vo) (se_tup (sa_cons (se_op (by first | exact .inl rfl | exact .inr rfl) od_add se_int (se_callR (sar_head (sa_cons se_v sa_nil)))) sa_nil)))))))
  (ss_ret (se_tup (sa_cons se_v (sa_cons (se_c1 cd_tuple se_vo) sa_nil)))))))⟩

abbrev s__law_rosters : Stmt := top 16
theorem sc__law_rosters : FnScope ["people", "rows", "k", "longer", "row"] ["people"] (defScope s__law_rosters) := ⟨rfl, rfl, rfl, by decide +kernel, rfl, by decide +kernel, by decide +kernel⟩
def b__law_rosters : Xv := (xSeq (xSetF 1 (eLst (aCons (eTup aNil) aNil)))
  (xSeq (xFor (iRange1 (aCons (eV 0) aNil)) (setF 2) (xSeq (xSetF 3 (eLst aNil))
  (xSeq (xFor (iSeqX (eV 1)) (setF 4) (xSetF 3 (eOp addD (eV 3) (eLst (aCons (eOp addD (eV 4) (eTup (aCons (eC (.int 0)) aNil))) (aCons (eOp addD (eV 4) (eTup (aCons (eC (.int 1)) aNil))) aNil))))))
  (xSetF 1 (eV 3)))))
  (xRet (eV 1))))
def m__law_rosters : Fn := mDef 5 1 b__law_rosters
theorem ok__law_rosters {K : KW} {mg : Str → Option Value} {base : Heap} {f : Addr} {fd : FuncData} (T : Txt mg) (F : FunD K.f "_law_rosters" "_law_rosters" (defArgs s__law_rosters) (defBody s__law_rosters) (defScope s__law_rosters) [] [] f fd) :
    FnOk K.P K.w K.f mg base CX0 1 f fd ["people"] (spD K m__law_rosters) := by
  refine fn_ok F sc__law_rosters fun cdv A outer s H E hr => ?_
  exact ⟨_, (pss_cons (ps_set (i := 1) sc__law_rosters.nd rfl (by first | exact .inl rfl | exact .inr rfl) (pe_lst (pa_cons (pe_tup pa_nil) pa_nil)))
  (pss_cons (ps_for PassesOwn.never rfl (pi_range1 (by rfl) T.n_range (pa_cons (pv 0) pa_nil)) (pg_name (i := 2) sc__law_rosters.nd rfl (by first | exact .inl rfl | exact .inr rfl)) (pss_cons (ps_set (i := 3) sc__law_rosters.nd rfl (by first | exact .inl rfl | exact .inr rfl) (pe_lst pa_nil))
  (pss_cons (ps_for PassesOwn.never rfl (pi_anyX (pv 1)) (pg_name (i := 4) sc__law_rosters.nd rfl (by first | exact .inl rfl | exact .inr rfl)) (pss_one (ps_set (i := 3) sc__law_rosters.nd rfl (by first | exact .inl rfl | exact .inr rfl) (pe_op opx_add (pv 3) (pe_lst (pa_cons (pe_op opx_add (pv 4) (pe_tup (pa_cons pe_int pa_nil))) (pa_cons (pe_op opx_add (pv 4) (pe_tup (pa_cons pe_int pa_nil))) pa_nil)))))))
  (pss_one (ps_set (i := 1) sc__law_rosters.nd rfl (by first | exact .inl rfl | exact .inr rfl) (pv 3))))))
  (pss_one (ps_ret (pv 1))))),
  (ss_seq (ss_setF (i := 1) (SemE.ne (se_lst (sa_cons (se_tup sa_nil) sa_nil))))
  (ss_seq (ss_for (si_range1 (sa_cons se_v sa_nil)) sg_name (ss_seq (ss_setF (i := 3) (SemE.ne (se_lst sa_nil)))
  (ss_seq (ss_for (si_anyX se_v) sg_name (ss_setF (i := 3) (se_op (by first | exact .inl rfl | exact .inr rfl) od_add se_v (se_lst (sa_cons (se_op (by first | exact .inl rfl | exact .inr rfl) od_add se_v (se_tup (sa_cons se_int sa_nil))) (sa_cons (se_op (by first | exact .inl rfl | exact .inr rfl) od_add se_v (se_tup (sa_cons se_int sa_nil))) sa_nil))))))
  (ss_setF (i := 1) se_v))))
  (ss_ret se_v)))⟩

abbrev s__law_meets : Stmt := top 17
theorem sc__law_meets : FnScope ["clause", "roster", "one"] ["clause", "roster"] (defScope s__law_meets) := ⟨rfl, rfl, rfl, by decide +kernel, rfl, by decide +kernel, by decide +kernel⟩
def b__law_meets : Xv := (xRet (eOp gtD (eUn lenXD (eComp [2] (iSeqX (eV 0)) (setF 2) (tIfD (tOf (eOp gtD (eV 2) (eC (.int 0)))) (tOf (eOp eqD (eOp ixD (eV 1) (eOp subD (eV 2) (eC (.int 1)))) (eC (.int 1)))) (tOf (eOp eqD (eOp ixD (eV 1) (eOp subD (eOp subD (eC (.int 0)) (eV 2)) (eC (.int 1)))) (eC (.int 0))))) (eV 2))) (eC (.int 0))))
def m__law_meets : Fn := mDef 3 2 b__law_meets
theorem ok__law_meets {K : KW} {mg : Str → Option Value} {base : Heap} {f : Addr} {fd : FuncData} (T : Txt mg) (F : FunD K.f "_law_meets" "_law_meets" (defArgs s__law_meets) (defBody s__law_meets) (defScope s__law_meets) [] [] f fd) :
    FnOk K.P K.w K.f mg base CX0 1 f fd ["clause", "roster"] (spD K m__law_meets) := by
  refine fn_ok F sc__law_meets fun cdv A outer s H E hr => ?_
  exact ⟨_, (pss_one (ps_ret (pe_cmpR op_gt (pe_callB call_lenX (by rfl) T.n_len boot_len (pa_cons (pe_lc (own := [("one", 2)]) (wi := (iAnyX K.f (tVar 0))) (g := (gName 2)) (tt := (tIfT (tTest (tOp (rI0 fun i j => .bl (decide (j < i))) (tVar 2) (tC (.int 0)))) (tTest (tOp (rEqD K.f) (tOp (rIxX K) (tVar 1) (tOp (rI0 fun i j => .int (i - j)) (tVar 2) (tC (.int 1)))) (tC (.int 1)))) (tTest (tOp (rEqD K.f) (tOp (rIxX K) (tVar 1) (tOp (rI0 fun i j => .int (i - j)) (tOp (rI0 fun i j => .int (i - j)) (tC (.int 0)) (tVar 2)) (tC (.int 1)))) (tC (.int 0)))))) (te := (tVar 2)) rfl sc__law_meets.nd (pi_anyX (pv 0)) (blkOk_by (by kernel_rfl)) (fun _ _ _ _ _ => (pg_name (i := 2) sc__law_meets.nd rfl (by first | exact .inl rfl | exact .inr rfl))) (fun _ _ _ _ _ => (pts_one (pt_ifExp (pt_cmpR op_gt (pv 2) pe_int (nomark _)) (pt_cmpR (op_eqD (hr.mono (Nat.zero_le _)).u64) (pe_ix (ix_any (hr.mono (Nat.zero_le _)).u9) (pv 1) (pe_op op_sub (pv 2) pe_int) (fun _ _ => rfl)) pe_int (nomark _)) (pt_cmpR (op_eqD (hr.mono (Nat.zero_le _)).u64) (pe_ix (ix_any (hr.mono (Nat.zero_le _)).u9) (pv 1) (pe_op op_sub (pe_op op_sub pe_int (pv 2)) pe_int) (fun _ _ => rfl)) pe_int (nomark _))))) (fun _ _ _ _ _ => (pv 2))) pa_nil)) pe_int (nomark _)))),
  (ss_ret (se_op (by first | exact .inl rfl | exact .inr rfl) od_gt (se_c1 cd_lenX (se_comp (vs := [2]) (si_anyX se_v) (sc_name (by decide)) (st_ifT (st_test (se_op (by first | exact .inl rfl | exact .inr rfl) od_gt se_v se_int)) (st_test (se_op (by first | exact .inl rfl | exact .inr rfl) od_eq (se_op (by first | exact .inl rfl | exact .inr rfl) od_ix se_v (se_op (by first | exact .inl rfl | exact .inr rfl) od_sub se_v se_int)) se_int)) (st_test (se_op (by first | exact .inl rfl | exact .inr rfl) od_eq (se_op (by first | exact .inl rfl | exact .inr rfl) od_ix se_v (se_op (by first | exact .inl rfl | exact .inr rfl) od_sub (se_op (by first | exact .inl rfl | exact .inr rfl) od_sub se_int se_v) se_int)) se_int))) se_v)) se_int))⟩

abbrev s__law_unmet : Stmt := top 18
theorem sc__law_unmet : FnScope ["wishes", "roster", "k"] ["wishes", "roster"] (defScope s__law_unmet) := ⟨rfl, rfl, rfl, by decide +kernel, rfl, by decide +kernel, by decide +kernel⟩
def b__law_unmet : Xv := (xRet (eComp [2] (iRange1 (aCons (eUn lenXD (eOp ixD (eV 0) (eC (.int 1)))) aNil)) (setF 2) (tNotD (tOf (eCall m__law_meets (aCons (eOp ixD (eOp ixD (eV 0) (eC (.int 1))) (eV 2)) (aCons (eV 1) aNil))))) (eV 2)))
def m__law_unmet : Fn := mDef 3 2 b__law_unmet
theorem ok__law_unmet {K : KW} {mg : Str → Option Value} {base : Heap} {f : Addr} {fd : FuncData} (T : Txt mg) (F : FunD K.f "_law_unmet" "_law_unmet" (defArgs s__law_unmet) (defBody s__law_unmet) (defScope s__law_unmet) [] [] f fd) (C__law_meets : Cal K mg base 1 "_law_meets" ["clause", "roster"] (spD K m__law_meets)) :
    FnOk K.P K.w K.f mg base CX0 2 f fd ["wishes", "roster"] (spD K m__law_unmet) := by
  refine fn_ok F sc__law_unmet fun cdv A outer s H E hr => ?_
  exact ⟨_, (pss_one (ps_ret (pe_lc (own := [("k", 2)]) (wi := (iRng1 (tCons (tCB (rLenX K) (tCons (tOp (rIxX K) (tVar 0) (tC (.int 1))) tNil)) tNil))) (g := (gName 2)) (tt := (tNot (tB (tCall (spD K m__law_meets) [] E0 (tCons (tOp (rIxX K) (tOp (rIxX K) (tVar 0) (tC (.int 1))) (tVar 2)) (tCons (tVar 1) tNil)))))) (te := (tVar 2)) rfl sc__law_unmet.nd (pi_range1 (by rfl) T.n_range (pa_cons (pe_callB call_lenX (by rfl) T.n_len boot_len (pa_cons (pe_ix (ix_any (hr.mono (Nat.zero_le _)).u9) (pv 0) pe_int (fun _ _ => rfl)) pa_nil)) pa_nil)) (blkOk_by (by kernel_rfl)) (fun _ _ _ _ _ => (pg_name (i := 2) sc__law_unmet.nd rfl (by first | exact .inl rfl | exact .inr rfl))) (fun _ _ _ _ _ => (pts_one (pt_not (pt_val (pe_call C__law_meets.ok (hr.mono (by omega)) (by rfl) C__law_meets.g C__law_meets.kp C__law_meets.b .nil pass0 (pa_cons (pe_ix (ix_any (hr.mono (Nat.zero_le _)).u9) (pe_ix (ix_any (hr.mono (Nat.zero_le _)).u9) (pv 0) pe_int (fun _ _ => rfl)) (pv 2) (fun _ _ => rfl)) (pa_cons (pv 1) pa_nil))))))) (fun _ _ _ _ _ => (pv 2))))),
  (ss_ret (SemE.ne (se_comp (vs := [2]) (si_range1 (sa_cons (se_c1 cd_lenX (se_op (by first | exact .inl rfl | exact .inr rfl) od_ix se_v se_int)) sa_nil)) (sc_name (by decide)) (st_not (st_b (se_call (sa_cons (se_op (by first | exact .inl rfl | exact .inr rfl) od_ix (se_op (by first | exact .inl rfl | exact .inr rfl) od_ix se_v se_int) se_v) (sa_cons se_v sa_nil))))) se_v)))⟩

abbrev s_law : Stmt := top 19
theorem sc_law : FnScope ["script", "pool", "wishes", "every", "good", "common", "person", "few", "more", "base", "people", "clauses", "duties", "row"] ["script"] (defScope s_law) := ⟨rfl, rfl, rfl, by decide +kernel, rfl, by decide +kernel, by decide +kernel⟩
def b_law : Xv := (xSeq (xSetO 1 (eCallS m__law_pool 0))
  (xSeq (xSetF 2 (eCallR m__law_duty_wishes 1 (arHead 1 aNil)))
  (xSeq (xAsg (eV 2) (gTupD 2 (gsCons (setF 10) (gsCons (setF 11) gsNil))))
  (xSeq (xSetF 3 (eCall m__law_rosters (aCons (eV 10) aNil)))
  (xSeq (xSetF 4 (eComp [13] (iSeqX (eV 3)) (setF 13) (tOf (eOp eqD (eCall m__law_unmet (aCons (eV 2) (aCons (eV 13) aNil))) (eLst aNil))) (eV 13)))
  (xSeq (xSetO 5 (eLst aNil))
  (xSeq (xFor (iRange2 (aCons (eC (.int 1)) (aCons (eOp addD (eV 10) (eC (.int 1))) aNil))) (setF 6) (xSeq (xSetF 12 (eUn sortXD (eUn setOfD (eComp [13] (iSeqX (eV 4)) (setF 13) tYesD (eOp ixD (eV 13) (eOp subD (eV 6) (eC (.int 1))))))))
  (xIf (tOf (eOp eqD (eUn lenXD (eV 12)) (eC (.int 1)))) (xApp 5 (eIf (tOf (eOp eqD (eV 12) (eLst (aCons (eC (.int 1)) aNil)))) (eV 6) (eOp subD (eC (.int 0)) (eV 6)))) xNext)))
  (xSeq (xSetF 7 (eUn minD (eComp [13] (iSeqX (eV 3)) (setF 13) tYesD (eUn lenXD (eCall m__law_unmet (aCons (eV 2) (aCons (eV 13) aNil)))))))
  (xSeq (xIf (tNotD (tOf (eCall (m__law_same 12) (aCons (eLst (aCons (eCall m_rosters (aCons (eV 2) aNil)) (aCons (eCall m_always (aCons (eV 2) aNil)) (aCons (eCall m_fewest_unmet (aCons (eV 2) aNil)) aNil)))) (aCons (eLst (aCons (eUn lenXD (eV 4)) (aCons (eUn sortXD (eVo 5)) (aCons (eV 7) aNil)))) aNil))))) (xRet (eC (.bl false))) xNext)
  (xSeq (xSetF 8 (eTup (aCons (eV 10) (aCons (eOp addD (eSl (eV 11) oNone (oSome (eC (.int 11)))) (eTup (aCons (eTup (aCons (eOp addD (eC (.int 1)) (eCallR m__law_draw 1 (arHead 1 (aCons (eV 10) aNil)))) aNil)) aNil))) aNil))))
  (xSeq (xSetF 9 (eTup (aCons (eV 10) (aCons (eSl (eV 11) oNone (oSome (eC (.int 11)))) aNil))))
  (xRet (eOfT (tAndD (tOf (eOp leD (eCall m_rosters (aCons (eV 8) aNil)) (eCall m_rosters (aCons (eV 9) aNil)))) (tOf (eOp geD (eCall m_fewest_unmet (aCons (eV 8) aNil)) (eCall m_fewest_unmet (aCons (eV 9) aNil))))))))))))))))))
def m_law : Fn := mDef 14 1 b_law
theorem ok_law {K : KW} {mg : Str → Option Value} {base : Heap} {f : Addr} {fd : FuncData} (T : Txt mg) (F : FunD K.f "law" "law" (defArgs s_law) (defBody s_law) (defScope s_law) [] [] f fd) (C__law_pool : Cal K mg base 1 "_law_pool" ["script"] (spN K m__law_pool)) (C__law_duty_wishes : Cal K mg base 3 "_law_duty_wishes" ["pool"] (spD K m__law_duty_wishes)) (C__law_rosters : Cal K mg base 1 "_law_rosters" ["people"] (spD K m__law_rosters)) (C__law_same : Cal K mg base 13 "_law_same" ["actual", "due"] (spD K (m__law_same 12))) (C_rosters : Cal K mg base 5 "rosters" ["wishes"] (spD K m_rosters)) (C_fewest_unmet : Cal K mg base 4 "fewest_unmet" ["wishes"] (spD K m_fewest_unmet)) (C__law_unmet : Cal K mg base 2 "_law_unmet" ["wishes", "roster"] (spD K m__law_unmet)) (C_always : Cal K mg base 5 "always" ["wishes"] (spD K m_always)) (C__law_draw : Cal K mg base 2 "_law_draw" ["pool", "many"] (spD K m__law_draw)) :
    FnOk K.P K.w K.f mg base CX0 14 f fd ["script"] (spD K m_law) := by
  refine fn_ok F sc_law fun cdv A outer s H E hr => ?_
  exact ⟨_, (pss_cons (ps_set (i := 1) sc_law.nd rfl (by first | exact .inl rfl | exact .inr rfl) (pe_call C__law_pool.ok (hr.mono (by omega)) (by rfl) C__law_pool.g C__law_pool.kp C__law_pool.b .nil pass0 (pa_cons (pv 0) pa_nil)))
  (pss_cons (ps_set (i := 2) sc_law.nd rfl (by first | exact .inl rfl | exact .inr rfl) (pe_call C__law_duty_wishes.ok (hr.mono (by omega)) (by rfl) C__law_duty_wishes.g C__law_duty_wishes.kp C__law_duty_wishes.b .nil pass0 (pa_cons (pv 1) pa_nil)))
  (pss_cons (ps_asg (pv 2) (pg_tup rfl (pgs_cons (pg_name (i := 10) sc_law.nd rfl (by first | exact .inl rfl | exact .inr rfl)) (pgs_cons (pg_name (i := 11) sc_law.nd rfl (by first | exact .inl rfl | exact .inr rfl)) pgs_nil))))
  (pss_cons (ps_set (i := 3) sc_law.nd rfl (by first | exact .inl rfl | exact .inr rfl) (pe_call C__law_rosters.ok (hr.mono (by omega)) (by rfl) C__law_rosters.g C__law_rosters.kp C__law_rosters.b .nil pass0 (pa_cons (pv 10) pa_nil)))
  (pss_cons (ps_setLc (i := 4) (own := [("row", 13)]) (wi := (iAnyX K.f (tVar 3))) (g := (gName 13)) (tt := (tTest (tOp (rEqD K.f) (tCall (spD K m__law_unmet) [] E0 (tCons (tVar 2) (tCons (tVar 13) tNil))) (tLst tNil)))) (te := (tVar 13)) rfl sc_law.nd rfl rfl (sw_true rfl rfl rfl (by decide +kernel)) (pi_anyX (pv 3)) (blkOk_by (by kernel_rfl)) (fun _ _ _ _ _ => (pg_name (i := 13) sc_law.nd rfl (by first | exact .inl rfl | exact .inr rfl))) (fun _ _ _ _ _ => (pts_one (pt_cmpR (op_eqD (hr.mono (Nat.zero_le _)).u64) (pe_call C__law_unmet.ok (hr.mono (by omega)) (by rfl) C__law_unmet.g C__law_unmet.kp C__law_unmet.b .nil pass0 (pa_cons (pv 2) (pa_cons (pv 13) pa_nil))) (pe_lst pa_nil) (nomark _)))) (fun _ _ _ _ _ => (pv 13)))
  (pss_cons (ps_set (i := 5) sc_law.nd rfl (by first | exact .inl rfl | exact .inr rfl) (pe_lst pa_nil))
  (pss_cons (ps_for PassesOwn.never rfl (pi_range2 (by rfl) T.n_range (pa_cons pe_int (pa_cons (pe_op opx_add (pv 10) pe_int) pa_nil))) (pg_name (i := 6) sc_law.nd rfl (by first | exact .inl rfl | exact .inr rfl)) (pss_cons (ps_set (i := 12) sc_law.nd rfl (by first | exact .inl rfl | exact .inr rfl) (pe_callB (cr_sortX rfl (hr.mono (Nat.zero_le _)).u64) (by rfl) T.n_sorted boot_sorted (pa_cons (pe_callTy (call_setOf rfl) (by rfl) T.n_set boot_set (pa_cons (pe_lc (own := [("row", 13)]) (wi := (iAnyX K.f (tVar 4))) (g := (gName 13)) (tt := tYes) (te := (tOp (rIxX K) (tVar 13) (tOp (rI0 fun i j => .int (i - j)) (tVar 6) (tC (.int 1))))) rfl sc_law.nd (pi_anyX (pv 4)) (blkOk_by (by kernel_rfl)) (fun _ _ _ _ _ => (pg_name (i := 13) sc_law.nd rfl (by first | exact .inl rfl | exact .inr rfl))) (fun _ _ _ _ _ => pts_nil) (fun _ _ _ _ _ => (pe_ix (ix_any (hr.mono (Nat.zero_le _)).u9) (pv 13) (pe_op op_sub (pv 6) pe_int) (fun _ _ => rfl)))) pa_nil)) pa_nil)))
  (pss_one (ps_if (pt_cmpR (op_eqD (hr.mono (Nat.zero_le _)).u64) (pe_callB call_lenX (by rfl) T.n_len boot_len (pa_cons (pv 12) pa_nil)) pe_int (nomark _)) (pss_one (ps_expr (pe_bm PySem.F.plainAttrs_list PySem.F.slot_list_append PySem.F.type_list_append mt_append (pv 5) (pa_cons (pe_ifExp (pt_cmpR (op_eqD (hr.mono (Nat.zero_le _)).u64) (pv 12) (pe_lst (pa_cons pe_int pa_nil)) (nomark _)) (pv 6) (pe_op op_sub pe_int (pv 6))) pa_nil)))) pss_nil))))
  (pss_cons (ps_set (i := 7) sc_law.nd rfl (by first | exact .inl rfl | exact .inr rfl) (pe_callB (cr_min rfl) (by rfl) T.n_min boot_min (pa_cons (pe_lc (own := [("row", 13)]) (wi := (iAnyX K.f (tVar 3))) (g := (gName 13)) (tt := tYes) (te := (tCB (rLenX K) (tCons (tCall (spD K m__law_unmet) [] E0 (tCons (tVar 2) (tCons (tVar 13) tNil))) tNil))) rfl sc_law.nd (pi_anyX (pv 3)) (blkOk_by (by kernel_rfl)) (fun _ _ _ _ _ => (pg_name (i := 13) sc_law.nd rfl (by first | exact .inl rfl | exact .inr rfl))) (fun _ _ _ _ _ => pts_nil) (fun _ _ _ _ _ => (pe_callB call_lenX (by rfl) T.n_len boot_len (pa_cons (pe_call C__law_unmet.ok (hr.mono (by omega)) (by rfl) C__law_unmet.g C__law_unmet.kp C__law_unmet.b .nil pass0 (pa_cons (pv 2) (pa_cons (pv 13) pa_nil))) pa_nil)))) pa_nil)))
  (pss_cons (ps_if (pt_not (pt_val (pe_call C__law_same.ok (hr.mono (by omega)) (by rfl) C__law_same.g C__law_same.kp C__law_same.b .nil pass0 (pa_cons (pe_lst (pa_cons (pe_call C_rosters.ok (hr.mono (by omega)) (by rfl) C_rosters.g C_rosters.kp C_rosters.b .nil pass0 (pa_cons (pv 2) pa_nil)) (pa_cons (pe_call C_always.ok (hr.mono (by omega)) (by rfl) C_always.g C_always.kp C_always.b .nil pass0 (pa_cons (pv 2) pa_nil)) (pa_cons (pe_call C_fewest_unmet.ok (hr.mono (by omega)) (by rfl) C_fewest_unmet.g C_fewest_unmet.kp C_fewest_unmet.b .nil pass0 (pa_cons (pv 2) pa_nil)) pa_nil)))) (pa_cons (pe_lst (pa_cons (pe_callB call_lenX (by rfl) T.n_len boot_len (pa_cons (pv 4) pa_nil)) (pa_cons (pe_callB (cr_sortX rfl (hr.mono (Nat.zero_le _)).u64) (by rfl) T.n_sorted boot_sorted (pa_cons (pv 5) pa_nil)) (pa_cons (pv 7) pa_nil)))) pa_nil))))) (pss_one (ps_ret pe_bl)) pss_nil)
  (pss_cons (ps_set (i := 8) sc_law.nd rfl (by first | exact .inl rfl | exact .inr rfl) (pe_tup (pa_cons (pv 10) (pa_cons (pe_op opx_add (pe_slice slx_any (pv 11) po_none (po_some pe_int)) (pe_tup (pa_cons (pe_tup (pa_cons (pe_op opx_add pe_int (pe_call C__law_draw.ok (hr.mono (by omega)) (by rfl) C__law_draw.g C__law_draw.kp C__law_draw.b .nil pass0 (pa_cons (pv 1) (pa_cons (pv 10) pa_nil)))) pa_nil)) pa_nil))) pa_nil))))
  (pss_cons (ps_set (i := 9) sc_law.nd rfl (by first | exact .inl rfl | exact .inr rfl) (pe_tup (pa_cons (pv 10) (pa_cons (pe_slice slx_any (pv 11) po_none (po_some pe_int)) pa_nil))))
  (pss_one (ps_ret (pe_and (pe_cmpR op_le (pe_call C_rosters.ok (hr.mono (by omega)) (by rfl) C_rosters.g C_rosters.kp C_rosters.b .nil pass0 (pa_cons (pv 8) pa_nil)) (pe_call C_rosters.ok (hr.mono (by omega)) (by rfl) C_rosters.g C_rosters.kp C_rosters.b .nil pass0 (pa_cons (pv 9) pa_nil)) (nomark _)) (pe_one (pe_cmpR op_ge (pe_call C_fewest_unmet.ok (hr.mono (by omega)) (by rfl) C_fewest_unmet.g C_fewest_unmet.kp C_fewest_unmet.b .nil pass0 (pa_cons (pv 8) pa_nil)) (pe_call C_fewest_unmet.ok (hr.mono (by omega)) (by rfl) C_fewest_unmet.g C_fewest_unmet.kp C_fewest_unmet.b .nil pass0 (pa_cons (pv 9) pa_nil)) (nomark _))))))))))))))))),
  (ss_seq (ss_setO (i := 1) se_callS)
  (ss_seq (ss_setF (i := 2) (se_callR (sar_head sa_nil)))
  (ss_seq (ss_asg se_v (sg_tup (sgs_cons sg_name (sgs_cons sg_name sgs_nil))))
  (ss_seq (ss_setF (i := 3) (se_call (sa_cons se_v sa_nil)))
  (ss_seq (ss_setF (i := 4) (SemE.ne (se_comp (vs := [13]) (si_anyX se_v) (sc_name (by decide)) (st_test (se_op (by first | exact .inl rfl | exact .inr rfl) od_eq (se_call (sa_cons se_v (sa_cons se_v sa_nil))) (se_lst sa_nil))) se_v)))
  (ss_seq (ss_setO (i := 5) (se_lst sa_nil))
  (ss_seq (ss_for (si_range2 (sa_cons se_int (sa_cons (se_op (by first | exact .inl rfl | exact .inr rfl) od_add se_v se_int) sa_nil))) sg_name (ss_seq (ss_setF (i := 12) (SemE.ne (se_c1 cd_sortX (se_c1 cd_set (se_comp (vs := [13]) (si_anyX se_v) (sc_name (by decide)) st_yes (se_op (by first | exact .inl rfl | exact .inr rfl) od_ix se_v (se_op (by first | exact .inl rfl | exact .inr rfl) od_sub se_v se_int)))))))
  (ss_if (st_test (se_op (by first | exact .inl rfl | exact .inr rfl) od_eq (se_c1 cd_lenX se_v) se_int)) (ss_app (i := 5) (se_if (st_test (se_op (by first | exact .inl rfl | exact .inr rfl) od_eq se_v (se_lst (sa_cons se_int sa_nil)))) se_v (se_op (by first | exact .inl rfl | exact .inr rfl) od_sub se_int se_v))) ss_next)))
  (ss_seq (ss_setF (i := 7) (se_c1 cd_min (se_comp (vs := [13]) (si_anyX se_v) (sc_name (by decide)) st_yes (se_c1 cd_lenX (se_call (sa_cons se_v (sa_cons se_v sa_nil)))))))
  (ss_seq (ss_if (st_not (st_b (se_call (sa_cons (SemE.ne (se_lst (sa_cons (se_call (sa_cons se_v sa_nil)) (sa_cons (se_call (sa_cons se_v sa_nil)) (sa_cons (se_call (sa_cons se_v sa_nil)) sa_nil))))) (sa_cons (SemE.ne (se_lst (sa_cons (se_c1 cd_lenX se_v) (sa_cons (SemE.ne (se_c1 cd_sortX se_vo)) (sa_cons se_v sa_nil))))) sa_nil))))) (ss_ret se_bl) ss_next)
  (ss_seq (ss_setF (i := 8) (se_tup (sa_cons se_v (sa_cons (se_op (by first | exact .inl rfl | exact .inr rfl) od_add (se_sl (by first | exact .inl rfl | exact .inr rfl) (by first | exact .inl rfl | exact .inr rfl) se_v so_none (so_some se_int)) (se_tup (sa_cons (se_tup (sa_cons (se_op (by first | exact .inl rfl | exact .inr rfl) od_add se_int (se_callR (sar_head (sa_cons se_v sa_nil)))) sa_nil)) sa_nil))) sa_nil))))
  (ss_seq (ss_setF (i := 9) (se_tup (sa_cons se_v (sa_cons (se_sl (by first | exact .inl rfl | exact .inr rfl) (by first | exact .inl rfl | exact .inr rfl) se_v so_none (so_some se_int)) sa_nil))))
  (ss_ret (se_and (se_op (by first | exact .inl rfl | exact .inr rfl) od_le (se_call (sa_cons se_v sa_nil)) (se_call (sa_cons se_v sa_nil))) (se_op (by first | exact .inl rfl | exact .inr rfl) od_ge (se_call (sa_cons se_v sa_nil)) (se_call (sa_cons se_v sa_nil))))))))))))))))⟩

end DL

set_option Elab.async false
set_option linter.all false
set_option autoImplicit false
set_option maxRecDepth 100000
set_option maxHeartbeats 4000000
namespace DL
open PySem PySem.Spec PyProof.Rows L2
/-! ### mirrors, step by step -/
@[simp] theorem ev_xSeq (a b : Xv) (sd : Sd) : xSeq a b sd = (a sd).bind fun r => match r.1 with
  | .nx => b r.2
  | f => some (f, r.2) := rfl
@[simp] theorem ev_xNext (sd : Sd) : xNext sd = some (.nx, sd) := rfl
@[simp] theorem ev_xRet (e : Ev) (sd : Sd) : xRet e sd = (e sd).map fun r => (.rt r.1, r.2) := rfl
@[simp] theorem ev_xRetO (e : Ev) (sd : Sd) : xRetO e sd = (e sd).map fun r => (.rn r.1, r.2) := rfl
@[simp] theorem ev_xSetF (i : Nat) (e : Ev) (sd : Sd) : xSetF i e sd = (e sd).bind fun r => (setF i r.1 r.2).map fun s => (.nx, s) := rfl
@[simp] theorem ev_xSetO (i : Nat) (e : Ev) (sd : Sd) : xSetO i e sd = (e sd).bind fun r => (setO i r.1 r.2).map fun s => (.nx, s) := rfl
@[simp] theorem ev_xIf (c : Tv) (a b : Xv) (sd : Sd) : xIf c a b sd = (c sd).bind fun r => if r.1 = true then a r.2 else b r.2 := rfl
@[simp] theorem ev_xFor (i : Iv) (g : Gv) (b : Xv) (sd : Sd) : xFor i g b sd = (i sd).bind fun r => xLoop g b r.1 r.2 := rfl
@[simp] theorem ev_xAsg (e : Ev) (g : Gv) (sd : Sd) : xAsg e g sd = (e sd).bind fun r => (g r.1 r.2).map fun s => (.nx, s) := rfl
@[simp] theorem ev_eC (d : D) (sd : Sd) : eC d sd = some (d, sd) := rfl
@[simp] theorem ev_eOp (g : D → D → Option D) (a b : Ev) (sd : Sd) : eOp g a b sd = (a sd).bind fun r => (b r.2).bind fun q => (g r.1 q.1).map fun d => (d, q.2) := rfl
@[simp] theorem ev_eUn (g : D → Option D) (a : Ev) (sd : Sd) : eUn g a sd = (a sd).bind fun r => (g r.1).map fun d => (d, r.2) := rfl
@[simp] theorem ev_aNil (sd : Sd) : aNil sd = some ([], sd) := rfl
@[simp] theorem ev_aCons (e : Ev) (r : Av) (sd : Sd) : aCons e r sd = (e sd).bind fun x => (r x.2).map fun q => (x.1 :: q.1, q.2) := rfl
@[simp] theorem ev_eTup (a : Av) (sd : Sd) : eTup a sd = (a sd).bind fun r => if r.1.length ≤ szl then some (.tup r.1, r.2) else none := rfl
@[simp] theorem ev_eLst (a : Av) (sd : Sd) : eLst a sd = (a sd).bind fun r => if r.1.length ≤ szl then some (.lst r.1, r.2) else none := rfl
@[simp] theorem ev_tOf (f : Ev) (sd : Sd) : tOf f sd = (f sd).bind fun r => match r.1 with
  | .bl b => some (b, r.2)
  | _ => none := rfl
@[simp] theorem ev_tAndD (a b : Tv) (sd : Sd) : tAndD a b sd = (a sd).bind fun r => if r.1 = true then b r.2 else some (false, r.2) := rfl
@[simp] theorem ev_tOrD (a b : Tv) (sd : Sd) : tOrD a b sd = (a sd).bind fun r => if r.1 = true then some (true, r.2) else b r.2 := rfl
@[simp] theorem ev_tNotD (a : Tv) (sd : Sd) : tNotD a sd = (a sd).map fun r => (!r.1, r.2) := rfl
@[simp] theorem ev_eOfT (f : Tv) (sd : Sd) : eOfT f sd = (f sd).map fun r => (.bl r.1, r.2) := rfl
@[simp] theorem ev_eIf (c : Tv) (a b : Ev) (sd : Sd) : eIf c a b sd = (c sd).bind fun r => if r.1 = true then a r.2 else b r.2 := rfl
@[simp] theorem ev_tIfD (a b c : Tv) (sd : Sd) : tIfD a b c sd = (a sd).bind fun r => if r.1 = true then b r.2 else c r.2 := rfl
@[simp] theorem ev_tYesD (sd : Sd) : tYesD sd = some (true, sd) := rfl
@[simp] theorem ev_eCall (m : Fn) (a : Av) (sd : Sd) : eCall m a sd = (a sd).bind fun r => (m (r.1.map .fz)).map fun q => (q.1, r.2) := rfl
@[simp] theorem ev_iSeqX (e : Ev) (sd : Sd) : iSeqX e sd = (e sd).bind fun r => (seqX r.1).map fun ds => (ds, r.2) := rfl
@[simp] theorem ev_seqL (ds : List D) : seqX (.lst ds) = some ds := rfl
@[simp] theorem ev_seqT (ds : List D) : seqX (.tup ds) = some ds := rfl
@[simp] theorem ev_seqM (kvs : List (D × D)) : seqX (.dic kvs) = some (kvs.map (·.1)) := rfl
@[simp] theorem ev_lenL (ds : List D) : lenXD (.lst ds) = some (.int ds.length) := rfl
@[simp] theorem ev_lenT (ds : List D) : lenXD (.tup ds) = some (.int ds.length) := rfl
@[simp] theorem ev_lenM (kvs : List (D × D)) : lenXD (.dic kvs) = some (.int kvs.length) := rfl
@[simp] theorem ev_ixL (ds : List D) (i : Int) : ixD (.lst ds) (.int i) = L2.atI ds i := rfl
@[simp] theorem ev_ixT (ds : List D) (i : Int) : ixD (.tup ds) (.int i) = L2.atI ds i := rfl
@[simp] theorem ev_addI (i j : Int) : addD (.int i) (.int j) = some (.int (i + j)) := rfl
@[simp] theorem ev_addT (xs ys : List D) : addD (.tup xs) (.tup ys) = if xs.length + ys.length ≤ szl then some (.tup (xs ++ ys)) else none := rfl
@[simp] theorem ev_addL (xs ys : List D) : addD (.lst xs) (.lst ys) = if xs.length + ys.length ≤ szl then some (.lst (xs ++ ys)) else none := rfl
@[simp] theorem ev_subI (i j : Int) : subD (.int i) (.int j) = some (.int (i - j)) := rfl
@[simp] theorem ev_mulI (i j : Int) : mulD (.int i) (.int j) = if mulOk i j = true then some (.int (i * j)) else none := rfl
@[simp] theorem ev_modI (i j : Int) : modD (.int i) (.int j) = if 0 < j then some (.int (i % j)) else none := rfl
@[simp] theorem ev_fdivI (i j : Int) : fdivD (.int i) (.int j) = if 0 < j ∧ j < 1073741824 then some (.int (i / j)) else none := rfl
@[simp] theorem ev_ltI (i j : Int) : ltD (.int i) (.int j) = some (.bl (decide (i < j))) := rfl
@[simp] theorem ev_leI (i j : Int) : leD (.int i) (.int j) = some (.bl (decide (i ≤ j))) := rfl
@[simp] theorem ev_gtI (i j : Int) : gtD (.int i) (.int j) = some (.bl (decide (j < i))) := rfl
@[simp] theorem ev_geI (i j : Int) : geD (.int i) (.int j) = some (.bl (decide (j ≤ i))) := rfl
@[simp] theorem ev_intI (i : Int) : intD (.int i) = some (.int i) := rfl
theorem eV_at {i : Nat} {sd : Sd} {d : D} (h : sd[i]? = some (.fz d)) : eV i sd = some (d, sd) := by unfold eV; rw [h]
theorem setF_at {i : Nat} {sd : Sd} {d : D} {s : Slot} (h : sd[i]? = some s) (n : isRf s = false) : setF i d sd = some (sd.set i (.fz d)) := by
  unfold setF
  rw [h]
  simp only [n]
  rfl
/-! ### loops -/
theorem loop_inv {g : Gv} {b : Xv} (I : Nat → Sd → Prop) : ∀ (ds : List D) (k : Nat) (sd : Sd), I k sd →
    (∀ i d sd, ds[i]? = some d → I (k + i) sd → ∃ s sd', g d sd = some s ∧ b s = some (.nx, sd') ∧ I (k + i + 1) sd') → ∃ sd', xLoop g b ds sd = some (.nx, sd') ∧ I (k + ds.length) sd'
  | [], k, sd, h, _ => ⟨sd, rfl, h⟩
  | d :: ds, k, sd, h, step => by
    obtain ⟨s, sd1, e1, e2, h1⟩ := step 0 d sd rfl h
    obtain ⟨sd2, e3, h2⟩ := loop_inv I ds (k + 1) sd1 h1 fun i d' sd' e h' => by
      have := step (i + 1) d' sd' (by simpa using e) (by rw [show k + (i + 1) = k + 1 + i by omega]; exact h')
      rw [show k + (i + 1) + 1 = k + 1 + i + 1 by omega] at this
      exact this
    refine ⟨sd2, ?_, by rw [List.length_cons, show k + (ds.length + 1) = k + 1 + ds.length by omega]; exact h2⟩
    show (g d sd).bind _ = _
    rw [e1]
    show (b s).bind _ = _
    rw [e2]
    exact e3
theorem unD1 {v : Nat} {sd : Sd} : unD [v] sd = sd.set v .un := rfl
theorem compOk1 {v : Nat} {sd : Sd} {s : Slot} (h : sd[v]? = some s) (n : isOwn s = false) : compOk [v] sd = true := by
  unfold compOk
  rw [List.all_cons, List.all_nil, h]
  simp [n]
theorem restore1 {v : Nat} {sd : Sd} {s : Slot} (h : sd[v]? = some s) : restoreD [v] sd (sd.set v .un) = sd := by
  show (sd.set v .un).set v ((sd[v]?).getD .un) = sd
  rw [h, List.set_set]
  refine List.ext_getElem? fun j => ?_
  by_cases e : j = v
  · subst e
    rw [List.getElem?_set_self (List.getElem?_eq_some_iff.mp h).1, h]; rfl
  · rw [List.getElem?_set_ne (Ne.symm e)]
/-- a comprehension whose test and item change nothing -/
theorem cloop1 {v : Nat} {tt : Tv} {te : Ev} {sd : Sd} {s : Slot} (hs : sd[v]? = some s) (P : D → Bool) (F : D → D) : ∀ (ds acc : List D),
    (∀ d, d ∈ ds → tt (sd.set v (.fz d)) = some (P d, sd.set v (.fz d))) → (∀ d, d ∈ ds → P d = true → te (sd.set v (.fz d)) = some (F d, sd.set v (.fz d))) → acc.length + ds.length ≤ szl + 1 →
    cLoop [v] (setF v) tt te ds acc (sd.set v .un) = some (acc ++ (ds.filter P).map F, sd.set v .un)
  | [], acc, _, _, _ => by rw [cLoop, List.filter_nil, List.map_nil, List.append_nil]
  | d :: ds, acc, ht, he, hl => by
    have hv : v < sd.length := (List.getElem?_eq_some_iff.mp hs).1
    have e1 : setF v d (sd.set v .un) = some (sd.set v (.fz d)) := by
      rw [setF_at (List.getElem?_set_self hv) rfl, List.set_set]
    have ok : compOk [v] (sd.set v (.fz d)) = true := compOk1 (List.getElem?_set_self hv) rfl
    have un : unD [v] (sd.set v (.fz d)) = sd.set v .un := by rw [unD1, List.set_set]
    rw [List.length_cons] at hl
    rw [cLoop, e1, Option.bind_some, ht d List.mem_cons_self, Option.bind_some]
    cases hP : P d with
    | true =>
      simp only [if_true]
      rw [he d List.mem_cons_self hP, Option.bind_some]
      simp only []
      rw [if_pos ⟨by omega, ok⟩, un, cloop1 hs P F ds (acc ++ [F d]) (fun d h => ht d (List.mem_cons_of_mem _ h)) (fun d h => he d (List.mem_cons_of_mem _ h)) (by rw [List.length_append, List.length_singleton]; omega)]
      rw [List.filter_cons_of_pos hP, List.map_cons, List.append_assoc]
      rfl
    | false =>
      simp only [Bool.false_eq_true, if_false]
      rw [if_pos ok, un, cloop1 hs P F ds acc (fun d h => ht d (List.mem_cons_of_mem _ h)) (fun d h => he d (List.mem_cons_of_mem _ h)) (by omega)]
      rw [List.filter_cons_of_neg (by rw [hP]; exact Bool.false_ne_true)]
theorem comp1 {v : Nat} {fi : Iv} {tt : Tv} {te : Ev} {sd : Sd} {s : Slot} {ds : List D} (hi : fi sd = some (ds, sd)) (hs : sd[v]? = some s) (hn : isOwn s = false) (P : D → Bool) (F : D → D)
    (ht : ∀ d, d ∈ ds → tt (sd.set v (.fz d)) = some (P d, sd.set v (.fz d))) (he : ∀ d, d ∈ ds → P d = true → te (sd.set v (.fz d)) = some (F d, sd.set v (.fz d))) (hl : ds.length ≤ szl + 1) :
    eComp [v] fi (setF v) tt te sd = some (.lst ((ds.filter P).map F), sd) := by
  unfold eComp
  rw [hi, Option.bind_some]
  simp only []
  rw [if_pos (compOk1 hs hn), unD1, cloop1 hs P F ds [] ht he (by simpa using hl)]
  rw [Option.map_some, restore1 hs, List.nil_append]
/-! ### the pool -/
def poolD (cells : List Int) (at_ cur cnt salt : Int) : D := .lst [.lst (cells.map D.int), .int at_, .int cur, .int cnt, .int salt]
def PoolOk (p : D) : Prop := ∃ (cells : List Int) (at_ cur cnt salt : Int), p = poolD cells at_ cur cnt salt ∧ 0 ≤ at_
theorem at_cells {cells : List Int} {i : Int} (h0 : 0 ≤ i) (h1 : i < (cells.length : Int)) : ∃ c, L2.atI (cells.map D.int) i = some (.int c) := by
  have hn : i.toNat < cells.length := by omega
  refine ⟨cells[i.toNat], ?_⟩
  unfold L2.atI ixN
  rw [List.length_map, if_pos h0, if_pos h1]
  show (cells.map D.int)[i.toNat]? = _
  rw [List.getElem?_map, List.getElem?_eq_getElem hn]; rfl
def b_spread : Xv := (xSeq (xSetF 1 (eOp modD (eUn intD (eV 0)) (eC (.int 2147483647))))
  (xSeq (xSetF 2 (eC (.int 1)))
  (xSeq (xFor (iRange1 (aCons (eC (.int 4)) aNil)) (setF 3) (xSeq (xSetF 1 (eOp modD (eUn intD (eOp addD (eOp addD (eOp mulD (eV 1) (eC (.int 48271))) (eC (.int 12345))) (eV 3))) (eC (.int 2147483647))))
  (xSetF 2 (eOp addD (eOp mulD (eV 2) (eC (.int 2147483647))) (eV 1)))))
  (xRet (eV 2)))))
def m_spread : Fn := mDef 4 1 b_spread
theorem spread_ok (c : Int) : ∃ r, m_spread [.fz (.int c)] = some (.int r, [.fz (.int c)]) := by
  simp [m_spread, mDef, b_spread, eV, setF, isRf, iRange1, big, rangeD, xLoop, mulOk, List.range, List.range.loop]
end DL

set_option Elab.async false
set_option linter.all false
set_option autoImplicit false
set_option maxRecDepth 100000
set_option maxHeartbeats 4000000
namespace DL
open PySem PySem.Spec PyProof.Rows L2
def b_draw2 : Xv := (xSeq (xSub 0 (eC (.int 3)) (eOp addD (eOp ixD (eVo 0) (eC (.int 3))) (eC (.int 1))))
  (xSeq (xIf (tOf (eOp leD (eOp ixD (eVo 0) (eC (.int 2))) (eC (.int 0)))) (xSeq (xSetF 4 (eOp modD (eUn intD (eOp addD (eOp addD (eOp mulD (eOp ixD (eVo 0) (eC (.int 4))) (eC (.int 48271))) (eOp mulD (eOp ixD (eVo 0) (eC (.int 3))) (eC (.int 69621)))) (eC (.int 1)))) (eC (.int 2147483647))))
  (xSeq (xSetF 4 (eOp modD (eUn intD (eOp addD (eOp mulD (eV 4) (eC (.int 16807))) (eOp ixD (eVo 0) (eC (.int 3))))) (eC (.int 2147483629))))
  (xRet (eOp modD (eOp fdivD (eV 4) (eC (.int 5))) (eV 1))))) xNext)
  (xSeq (xSetF 2 (eOp modD (eUn intD (eOp ixD (eVo 0) (eC (.int 2)))) (eV 1)))
  (xSeq (xSub 0 (eC (.int 2)) (eOp fdivD (eOp ixD (eVo 0) (eC (.int 2))) (eV 1)))
  (xRet (eV 2))))))
def b_draw : Xv := (xSeq (xIf (tAndD (tOf (eOp leD (eOp ixD (eVo 0) (eC (.int 2))) (eC (.int 0)))) (tOf (eOp ltD (eOp ixD (eVo 0) (eC (.int 1))) (eUn lenXD (eOp ixD (eVo 0) (eC (.int 0))))))) (xSeq (xSetF 3 (eOp ixD (eOp ixD (eVo 0) (eC (.int 0))) (eOp ixD (eVo 0) (eC (.int 1)))))
  (xSeq (xSub 0 (eC (.int 1)) (eOp addD (eOp ixD (eVo 0) (eC (.int 1))) (eC (.int 1))))
  (xSeq (xSub 0 (eC (.int 2)) (eV 3))
  (xIf (tOf (eOp ltD (eV 3) (eC (.int 1000000000000000000)))) (xSub 0 (eC (.int 2)) (eCall m_spread (aCons (eV 3) aNil))) xNext)))) xNext)
  b_draw2)
def m_draw : Fn := mDef 5 2 b_draw
def b_pool : Xv := (xSeq (xSetF 1 (eC (.int 7)))
  (xSeq (xFor (iSeqX (eSlS 0 oNone (oSome (eC (.int 63))))) (setF 2) (xSetF 1 (eOp modD (eUn intD (eOp addD (eOp mulD (eV 1) (eC (.int 31))) (eV 2))) (eC (.int 1000003)))))
  (xRetO (eLst (aCons (eListS 0) (aCons (eC (.int 0)) (aCons (eC (.int 0)) (aCons (eC (.int 0)) (aCons (eV 1) aNil)))))))))
def m_pool : Fn := mDefN 3 1 b_pool
@[simp] theorem isRf_fz (d : D) : isRf (.fz d) = false := rfl
@[simp] theorem isRf_un : isRf .un = false := rfl
@[simp] theorem isRf_ow (d : D) : isRf (.ow d) = false := rfl
@[simp] theorem isRf_sc (ns : List Int) : isRf (.sc ns) = false := rfl
@[simp] theorem isRf_rf (d : D) : isRf (.rf d) = true := rfl
@[simp] theorem ev_eVo_rf (p : D) (r : Sd) : eVo 0 (.rf p :: r) = some (p, .rf p :: r) := rfl
theorem pool_ix0 (cells : List Int) (a b c d : Int) : ixD (poolD cells a b c d) (.int 0) = some (.lst (cells.map D.int)) := rfl
theorem pool_ix1 (cells : List Int) (a b c d : Int) : ixD (poolD cells a b c d) (.int 1) = some (.int a) := rfl
theorem pool_ix2 (cells : List Int) (a b c d : Int) : ixD (poolD cells a b c d) (.int 2) = some (.int b) := rfl
theorem pool_ix3 (cells : List Int) (a b c d : Int) : ixD (poolD cells a b c d) (.int 3) = some (.int c) := rfl
theorem pool_ix4 (cells : List Int) (a b c d : Int) : ixD (poolD cells a b c d) (.int 4) = some (.int d) := rfl
theorem pool_set {j : Int} {v : D} {p p' : D} {r : Sd} {je ve : Ev} (hv : ve (.rf p :: r) = some (v, .rf p :: r)) (hj : je (.rf p :: r) = some (.int j, .rf p :: r)) (hs : setD (.int j) v p = some p') : xSub 0 je ve (.rf p :: r) = some (.nx, .rf p' :: r) := by
  unfold xSub
  rw [hv, Option.bind_some]
  show (if ownAny 0 (.rf p :: r) = true then _ else _) = _
  rw [if_pos (show ownAny 0 (.rf p :: r) = true from rfl), hj, Option.bind_some]
  show ((setD (.int j) v p).map fun c' => (Slot.rf p :: r).set 0 (putD (.rf p) c')).map (fun s => (Fl.nx, s)) = _
  rw [hs]
  rfl
theorem draw2_ok {cells : List Int} {at_ cur cnt salt many : Int} {s3 : Slot} (h0 : 0 ≤ at_) (h1 : 0 < many) (h2 : many < 1073741824) : ∃ r p' s4 s5 s6, b_draw2 [.rf (poolD cells at_ cur cnt salt), .fz (.int many), .un, s3, .un] = some (.rt (.int r), [.rf p', .fz (.int many), s4, s5, s6]) ∧ 0 ≤ r ∧ r < many ∧ PoolOk p' := by
  have e1 : xSub 0 (eC (.int 3)) (eOp addD (eOp ixD (eVo 0) (eC (.int 3))) (eC (.int 1))) [.rf (poolD cells at_ cur cnt salt), .fz (.int many), .un, s3, .un] = some (.nx, [.rf (poolD cells at_ cur (cnt + 1) salt), .fz (.int many), .un, s3, .un]) :=
    pool_set (v := .int (cnt + 1)) (j := 3) (by simp [pool_ix3]) rfl rfl
  unfold b_draw2
  rw [ev_xSeq, e1]
  by_cases hc : cur ≤ 0
  · exact ⟨(((salt * 48271 + (cnt + 1) * 69621 + 1) % 2147483647) * 16807 + (cnt + 1)) % 2147483629 / 5 % many, poolD cells at_ cur (cnt + 1) salt, .un, s3, .fz (.int ((((salt * 48271 + (cnt + 1) * 69621 + 1) % 2147483647) * 16807 + (cnt + 1)) % 2147483629)),
      by simp [pool_ix2, pool_ix3, pool_ix4, hc, eV, setF, isRf, mulOk, h1], Int.emod_nonneg _ (by omega), Int.emod_lt_of_pos _ h1, _, _, _, _, _, rfl, h0⟩
  · have e2 : xSub 0 (eC (.int 2)) (eOp fdivD (eOp ixD (eVo 0) (eC (.int 2))) (eV 1)) [.rf (poolD cells at_ cur (cnt + 1) salt), .fz (.int many), .fz (.int (cur % many)), s3, .un] = some (.nx, [.rf (poolD cells at_ (cur / many) (cnt + 1) salt), .fz (.int many), .fz (.int (cur % many)), s3, .un]) :=
      pool_set (v := .int (cur / many)) (j := 2) (by simp [pool_ix2, eV, h1, h2]) rfl rfl
    exact ⟨cur % many, poolD cells at_ (cur / many) (cnt + 1) salt, .fz (.int (cur % many)), s3, .un, by simp [pool_ix2, hc, eV, setF, isRf, h1, e2], Int.emod_nonneg _ (by omega), Int.emod_lt_of_pos _ h1, _, _, _, _, _, rfl, h0⟩
theorem draw_ok {p : D} (hp : PoolOk p) {many : Int} (h1 : 0 < many) (h2 : many < 1073741824) : ∃ r p', m_draw [.rf p, .fz (.int many)] = some (.int r, [.rf p', .fz (.int many)]) ∧ 0 ≤ r ∧ r < many ∧ PoolOk p' := by
  obtain ⟨cells, at_, cur, cnt, salt, rfl, h0⟩ := hp
  have fin : ∀ (at_ cur : Int) (s3 : Slot), 0 ≤ at_ → ∃ r p', ((b_draw2 [.rf (poolD cells at_ cur cnt salt), .fz (.int many), .un, s3, .un]).bind fun r => match r.1 with
  | .rt d => some (d, r.2.take 2)
  | .rn d => some (d, r.2.take 2)
  | .nx => some (.non, r.2.take 2)
  | _ => none) = some (.int r, [.rf p', .fz (.int many)]) ∧ 0 ≤ r ∧ r < many ∧ PoolOk p' := by
    intro at_ cur s3 h0
    obtain ⟨r, p', s4, s5, s6, e, q1, q2, q3⟩ := draw2_ok (cells := cells) (cur := cur) (cnt := cnt) (salt := salt) (s3 := s3) h0 h1 h2
    exact ⟨r, p', by rw [e]; rfl, q1, q2, q3⟩
  unfold m_draw mDef
  rw [if_pos (show [Slot.rf (poolD cells at_ cur cnt salt), Slot.fz (.int many)].length = 2 from rfl)]
  show ∃ r p', ((b_draw [.rf (poolD cells at_ cur cnt salt), .fz (.int many), .un, .un, .un]).bind _) = _ ∧ _
  unfold b_draw
  rw [ev_xSeq]
  by_cases hc : cur ≤ 0
  · by_cases ha : at_ < (cells.length : Int)
    · obtain ⟨c, hcell⟩ := at_cells h0 ha
      obtain ⟨w, hw⟩ := spread_ok c
      have e1 : ∀ s, xSub 0 (eC (.int 1)) (eOp addD (eOp ixD (eVo 0) (eC (.int 1))) (eC (.int 1))) [.rf (poolD cells at_ cur cnt salt), .fz (.int many), .un, s, .un] = some (.nx, [.rf (poolD cells (at_ + 1) cur cnt salt), .fz (.int many), .un, s, .un]) := fun s =>
        pool_set (v := .int (at_ + 1)) (j := 1) (by simp [pool_ix1]) rfl rfl
      have e2 : xSub 0 (eC (.int 2)) (eV 3) [.rf (poolD cells (at_ + 1) cur cnt salt), .fz (.int many), .un, .fz (.int c), .un] = some (.nx, [.rf (poolD cells (at_ + 1) c cnt salt), .fz (.int many), .un, .fz (.int c), .un]) :=
        pool_set (v := .int c) (j := 2) (by simp [eV]) rfl rfl
      have e3 : xSub 0 (eC (.int 2)) (eCall m_spread (aCons (eV 3) aNil)) [.rf (poolD cells (at_ + 1) c cnt salt), .fz (.int many), .un, .fz (.int c), .un] = some (.nx, [.rf (poolD cells (at_ + 1) w cnt salt), .fz (.int many), .un, .fz (.int c), .un]) :=
        pool_set (v := .int w) (j := 2) (by simp [eV, hw]) rfl rfl
      by_cases hs : c < 1000000000000000000
      · obtain ⟨r, p', e, q⟩ := fin (at_ + 1) w (.fz (.int c)) (by omega)
        refine ⟨r, p', ?_, q⟩
        rw [← e]
        simp [pool_ix0, pool_ix1, pool_ix2, hc, ha, eV, setF, isRf, hcell, e1, e2, e3, hs]
        try rfl
      · obtain ⟨r, p', e, q⟩ := fin (at_ + 1) c (.fz (.int c)) (by omega)
        refine ⟨r, p', ?_, q⟩
        rw [← e]
        simp [pool_ix0, pool_ix1, pool_ix2, hc, ha, eV, setF, isRf, hcell, e1, e2, hs]
        try rfl
    · obtain ⟨r, p', e, q⟩ := fin at_ cur .un h0
      refine ⟨r, p', ?_, q⟩
      rw [← e]
      simp [pool_ix0, pool_ix1, pool_ix2, hc, ha]
      try rfl
  · obtain ⟨r, p', e, q⟩ := fin at_ cur .un h0
    refine ⟨r, p', ?_, q⟩
    rw [← e]
    simp [pool_ix2, hc]
    try rfl
theorem pool_loop (ns : List Int) (s : Slot) : ∀ (ds : List Int) (salt : Int) (s2 : Slot), isRf s2 = false → ∃ salt' s2', xLoop (setF 2) (xSetF 1 (eOp modD (eUn intD (eOp addD (eOp mulD (eV 1) (eC (.int 31))) (eV 2))) (eC (.int 1000003)))) (ds.map D.int) [.sc ns, .fz (.int salt), s2] = some (.nx, [.sc ns, .fz (.int salt'), s2'])
  | [], salt, s2, _ => ⟨salt, s2, rfl⟩
  | c :: ds, salt, s2, h => by
    obtain ⟨salt', s2', e⟩ := pool_loop ns s ds ((salt * 31 + c) % 1000003) (.fz (.int c)) rfl
    refine ⟨salt', s2', ?_⟩
    rw [List.map_cons, xLoop, ← e]
    simp [setF, h, eV, mulOk]
theorem pool_ok (ns : List Int) : ∃ p, m_pool [.sc ns] = some (p, [.sc ns]) ∧ PoolOk p := by
  obtain ⟨salt', s2', e⟩ := pool_loop ns .un (ns.take 63) 7 .un rfl
  refine ⟨poolD ns 0 0 0 salt', ?_, _, _, _, _, _, rfl, Int.le_refl _⟩
  rw [List.map_take] at e
  have cut : cutD (ns.map D.int) none (some 63) = (ns.map D.int).take 63 := by
    unfold cutD
    rw [show HT.sIx (ns.map D.int).length 0 none = 0 from rfl, show HT.sIx (ns.map D.int).length (ns.map D.int).length (some 63) = min 63 (ns.map D.int).length from HT.sIx_nat _ _ 63, List.drop_zero, Nat.sub_zero]
    rcases Nat.le_total 63 (ns.map D.int).length with h | h
    · rw [Nat.min_eq_left h]
    · rw [Nat.min_eq_right h, List.take_of_length_le (Nat.le_refl _), List.take_of_length_le h]
  have e2 : xFor (iSeqX (eSlS 0 oNone (oSome (eC (.int 63))))) (setF 2) (xSetF 1 (eOp modD (eUn intD (eOp addD (eOp mulD (eV 1) (eC (.int 31))) (eV 2))) (eC (.int 1000003)))) [.sc ns, .fz (.int 7), .un] = some (.nx, [.sc ns, .fz (.int salt'), s2']) := by
    rw [ev_xFor, show iSeqX (eSlS 0 oNone (oSome (eC (.int 63)))) [.sc ns, .fz (.int 7), .un] = some ((ns.map D.int).take 63, [.sc ns, .fz (.int 7), .un]) by rw [← cut]; rfl, Option.bind_some]
    exact e
  unfold m_pool mDefN b_pool
  rw [if_pos (show [Slot.sc ns].length = 1 from rfl)]
  have e0 : xSetF 1 (eC (.int 7)) ([Slot.sc ns] ++ List.replicate (3 - 1) .un) = some (.nx, [.sc ns, .fz (.int 7), .un]) := rfl
  rw [ev_xSeq, e0, Option.bind_some]
  simp only []
  rw [ev_xSeq, e2, Option.bind_some]
  simp [eListS, eV, szl, poolD]
end DL

set_option Elab.async false
set_option linter.all false
set_option autoImplicit false
set_option maxRecDepth 100000
set_option maxHeartbeats 4000000
namespace DL
open PySem PySem.Spec PyProof.Rows L2
/-! ### plain data: shapes, equality -/
/-- no dict, no set, texts that can stand, not deeper than n -/
def ShN (n : Nat) (d : D) : Prop := PyData.canLay0 (toP d) = true ∧ (toP d).depth ≤ n
theorem ShN.shp {n : Nat} {d : D} (h : ShN n d) (hn : n ≤ 64) : shp d = true := by
  unfold DL.shp SeqAt.shaped
  rw [Bool.and_eq_true, decide_eq_true_eq]
  exact ⟨h.1, Nat.le_trans h.2 hn⟩
theorem ShN.mono {n m : Nat} {d : D} (h : ShN n d) (hm : n ≤ m) : ShN m d := ⟨h.1, Nat.le_trans h.2 hm⟩
theorem shN_int {n : Nat} (i : Int) : ShN n (.int i) := ⟨rfl, Nat.zero_le _⟩
theorem shN_bl {n : Nat} (b : Bool) : ShN n (.bl b) := ⟨rfl, Nat.zero_le _⟩
theorem shN_non {n : Nat} : ShN n .non := ⟨rfl, Nat.zero_le _⟩
theorem shL_of {n : Nat} : ∀ {ds : List D}, (∀ d, d ∈ ds → ShN n d) → PyData.canLayAll0 (toPL ds) = true ∧ PyData.depthAll (toPL ds) ≤ n
  | [], _ => ⟨rfl, Nat.zero_le _⟩
  | d :: ds, h => by
    obtain ⟨h1, h2⟩ := shL_of fun d hd => h d (List.mem_cons_of_mem _ hd)
    obtain ⟨h3, h4⟩ := h d List.mem_cons_self
    constructor
    · rw [toPL, PyData.canLayAll0, h3, h1]; rfl
    · rw [toPL, PyData.depthAll]; exact Nat.max_le.mpr ⟨h4, h2⟩
theorem shN_lst {n : Nat} {ds : List D} (h : ∀ d, d ∈ ds → ShN n d) : ShN (n + 1) (.lst ds) := by
  obtain ⟨h1, h2⟩ := shL_of h
  exact ⟨by rw [toP, PyData.canLay0]; exact h1, by rw [toP, PyData.depth]; omega⟩
theorem shN_tup {n : Nat} {ds : List D} (h : ∀ d, d ∈ ds → ShN n d) : ShN (n + 1) (.tup ds) := by
  obtain ⟨h1, h2⟩ := shL_of h
  exact ⟨by rw [toP, PyData.canLay0]; exact h1, by rw [toP, PyData.depth]; omega⟩
theorem shN_ints {n : Nat} (is : List Int) : ∀ d, d ∈ is.map D.int → ShN n d := fun d h => by
  obtain ⟨i, _, rfl⟩ := List.mem_map.mp h
  exact shN_int i
theorem shL_back {n : Nat} : ∀ {ds : List D}, PyData.canLayAll0 (toPL ds) = true → PyData.depthAll (toPL ds) ≤ n → ∀ d, d ∈ ds → ShN n d
  | [], _, _, d, h => by cases h
  | e :: ds, h1, h2, d, h => by
    rw [toPL, PyData.canLayAll0, Bool.and_eq_true] at h1
    rw [toPL, PyData.depthAll] at h2
    have h3 := Nat.max_le.mp h2
    rcases List.mem_cons.mp h with rfl | h
    · exact ⟨h1.1, h3.1⟩
    · exact shL_back h1.2 h3.2 d h
theorem ShN.lst {n : Nat} {ds : List D} (h : ShN (n + 1) (.lst ds)) : ∀ d, d ∈ ds → ShN n d := by
  obtain ⟨h1, h2⟩ := h
  rw [toP, PyData.canLay0] at h1
  rw [toP, PyData.depth] at h2
  exact shL_back h1 (by omega)
theorem ShN.tup {n : Nat} {ds : List D} (h : ShN (n + 1) (.tup ds)) : ∀ d, d ∈ ds → ShN n d := by
  obtain ⟨h1, h2⟩ := h
  rw [toP, PyData.canLay0] at h1
  rw [toP, PyData.depth] at h2
  exact shL_back h1 (by omega)
theorem eqD_of {n m : Nat} {d e : D} (h : ShN n d) (h' : ShN m e) (hn : n ≤ 64) (hm : m ≤ 64) : eqD d e = some (.bl (eqB d e)) := by
  unfold eqD
  rw [h.shp hn, h'.shp hm]; rfl
theorem neD_of {n m : Nat} {d e : D} (h : ShN n d) (h' : ShN m e) (hn : n ≤ 64) (hm : m ≤ 64) : neD d e = some (.bl (!eqB d e)) := by
  unfold neD
  rw [h.shp hn, h'.shp hm]; rfl
@[simp] theorem eqB_int (a b : Int) : eqB (.int a) (.int b) = (a == b) := by
  unfold eqB
  rw [toP, toP, PyData.eqv]
@[simp] theorem eqB_bl (a b : Bool) : eqB (.bl a) (.bl b) = (a == b) := by
  unfold eqB
  rw [toP, toP, PyData.eqv]
@[simp] theorem ev_eqI (a b : Int) : eqD (.int a) (.int b) = some (.bl (a == b)) := by rw [eqD_of (shN_int (n := 0) a) (shN_int (n := 0) b) (by decide) (by decide), eqB_int]
@[simp] theorem ev_neI (a b : Int) : neD (.int a) (.int b) = some (.bl (!(a == b))) := by rw [neD_of (shN_int (n := 0) a) (shN_int (n := 0) b) (by decide) (by decide), eqB_int]
@[simp] theorem ev_eqBl (a b : Bool) : eqD (.bl a) (.bl b) = some (.bl (a == b)) := by rw [eqD_of (shN_bl (n := 0) a) (shN_bl (n := 0) b) (by decide) (by decide), eqB_bl]
@[simp] theorem ev_neBl (a b : Bool) : neD (.bl a) (.bl b) = some (.bl (!(a == b))) := by rw [neD_of (shN_bl (n := 0) a) (shN_bl (n := 0) b) (by decide) (by decide), eqB_bl]
theorem eqB_nil (ds : List D) : eqB (.lst ds) (.lst []) = ds.isEmpty := by
  unfold eqB
  cases ds with
  | nil => simp [toP, toPL, PyData.eqv, PyData.eqvAll]
  | cons d ds => simp [toP, toPL, PyData.eqv, PyData.eqvAll]
theorem eqvAll_ints : ∀ (xs ys : List Int), PyData.eqvAll (toPL (xs.map D.int)) (toPL (ys.map D.int)) = (xs == ys)
  | [], [] => rfl
  | [], _ :: _ => by simp [toPL, PyData.eqvAll]
  | _ :: _, [] => by simp [toPL, PyData.eqvAll]
  | x :: xs, y :: ys => by
    rw [List.map_cons, List.map_cons, toPL, toPL, PyData.eqvAll, eqvAll_ints xs ys, toP, toP, PyData.eqv]
    rfl
theorem eqB_ints (xs ys : List Int) : eqB (.lst (xs.map D.int)) (.lst (ys.map D.int)) = (xs == ys) := by
  unfold eqB
  rw [toP, toP, PyData.eqv, eqvAll_ints]
theorem eqB_intsT (xs ys : List Int) : eqB (.tup (xs.map D.int)) (.tup (ys.map D.int)) = (xs == ys) := by
  unfold eqB
  rw [toP, toP, PyData.eqv, eqvAll_ints]
theorem atI_nat {α : Type} (xs : List α) (k : Nat) : L2.atI xs (k : Int) = xs[k]? := by
  unfold L2.atI ixN
  by_cases h : k < xs.length
  · rw [if_pos (by omega), if_pos (by omega)]
    show xs[(k : Int).toNat]? = _
    rw [Int.toNat_natCast]
  · rw [if_pos (by omega), if_neg (by omega)]
    rw [List.getElem?_eq_none (by omega)]; rfl
theorem mem_rangeD {lo : Int} {n : Nat} {d : D} (h : d ∈ rangeD lo n) : ∃ k, k < n ∧ d = .int (lo + (k : Int)) := by
  obtain ⟨k, hk, rfl⟩ := List.mem_map.mp h
  exact ⟨k, List.mem_range.mp hk, rfl⟩
/-! ### steps -/
theorem xSeq_nx {a b : Xv} {sd sd' : Sd} (h : a sd = some (.nx, sd')) : xSeq a b sd = b sd' := by rw [ev_xSeq, h]; rfl
theorem xSeq_rt {a b : Xv} {sd sd' : Sd} {d : D} (h : a sd = some (.rt d, sd')) : xSeq a b sd = some (.rt d, sd') := by rw [ev_xSeq, h]; rfl
theorem xSeq_rn {a b : Xv} {sd sd' : Sd} {d : D} (h : a sd = some (.rn d, sd')) : xSeq a b sd = some (.rn d, sd') := by rw [ev_xSeq, h]; rfl
theorem xIf_t {c : Tv} {a b : Xv} {sd sd' : Sd} (h : c sd = some (true, sd')) : xIf c a b sd = a sd' := by rw [ev_xIf, h]; rfl
theorem xIf_f {c : Tv} {a b : Xv} {sd sd' : Sd} (h : c sd = some (false, sd')) : xIf c a b sd = b sd' := by rw [ev_xIf, h]; rfl
theorem xRet_e {e : Ev} {sd sd' : Sd} {d : D} (h : e sd = some (d, sd')) : xRet e sd = some (.rt d, sd') := by rw [ev_xRet, h]; rfl
theorem xSetF_e {e : Ev} {i : Nat} {sd sd' : Sd} {d : D} {s : Slot} (h : e sd = some (d, sd')) (hs : sd'[i]? = some s) (n : isRf s = false) : xSetF i e sd = some (.nx, sd'.set i (.fz d)) := by
  rw [ev_xSetF, h, Option.bind_some, setF_at hs n]; rfl
theorem xFor_e {i : Iv} {g : Gv} {b : Xv} {sd sd' : Sd} {ds : List D} (h : i sd = some (ds, sd')) : xFor i g b sd = xLoop g b ds sd' := by rw [ev_xFor, h]; rfl
theorem eCall_e {m : Fn} {a : Av} {sd sd' : Sd} {ds : List D} {d : D} {q : List Slot} (h : a sd = some (ds, sd')) (hm : m (ds.map .fz) = some (d, q)) : eCall m a sd = some (d, sd') := by rw [ev_eCall, h, Option.bind_some, hm]; rfl
theorem mDef_rt {n np : Nat} {b : Xv} {ss : List Slot} {d : D} {sd' : Sd} (hl : ss.length = np) (h : b (ss ++ List.replicate (n - np) .un) = some (.rt d, sd')) : mDef n np b ss = some (d, sd'.take np) := by
  unfold mDef
  rw [if_pos hl, h]; rfl
theorem big_len {n : Nat} (h : n ≤ szl) : big (n : Int) = true := by
  unfold big
  rw [decide_eq_true_eq]
  have h2 : n ≤ 16000000 := h
  constructor
  · exact Int.le_trans (by decide) (Int.natCast_nonneg n)
  · exact Int.lt_of_le_of_lt (Int.ofNat_le.mpr h2) (by decide)
theorem sz1 {n : Nat} (h : n ≤ szl) : n ≤ szl + 1 := Nat.le_trans h (Nat.le_succ _)
theorem iRange1_e {e : Ev} {sd sd' : Sd} {n : Nat} (h : e sd = some (.int n, sd')) (hn : n ≤ szl) : iRange1 (aCons e aNil) sd = some (rangeD 0 n, sd') := by
  unfold iRange1
  rw [ev_aCons, h, Option.bind_some, ev_aNil, Option.map_some, Option.bind_some]
  show (if big (n : Int) = true then some (rangeD 0 (n : Int).toNat, sd') else none) = _
  rw [if_pos (big_len hn), Int.toNat_natCast]
theorem iRange2_e {e f : Ev} {sd sd' sd2 : Sd} {lo hi : Int} (h : e sd = some (.int lo, sd')) (h2 : f sd' = some (.int hi, sd2)) (hl : big lo = true) (hh : big hi = true) : iRange2 (aCons e (aCons f aNil)) sd = some (rangeD lo (hi - lo).toNat, sd2) := by
  unfold iRange2
  rw [ev_aCons, h, Option.bind_some, ev_aCons, h2, Option.bind_some, ev_aNil, Option.map_some, Option.map_some, Option.bind_some]
  show (if (big lo && big hi) = true then some (rangeD lo (hi - lo).toNat, sd2) else none) = _
  rw [hl, hh]; rfl
theorem tNot_e {f : Tv} {sd sd' : Sd} {b : Bool} (h : f sd = some (b, sd')) : tNotD f sd = some (!b, sd') := by rw [ev_tNotD, h]; rfl
theorem tOf_e {f : Ev} {sd sd' : Sd} {b : Bool} (h : f sd = some (.bl b, sd')) : tOf f sd = some (b, sd') := by rw [ev_tOf, h]; rfl
theorem aNil_e {sd : Sd} : aNil sd = some ([], sd) := rfl
theorem aCons_e {e : Ev} {r : Av} {sd sd' sd2 : Sd} {d : D} {ds : List D} (h : e sd = some (d, sd')) (h2 : r sd' = some (ds, sd2)) : aCons e r sd = some (d :: ds, sd2) := by rw [ev_aCons, h, Option.bind_some, h2]; rfl
theorem eOp_e {g : D → D → Option D} {a b : Ev} {sd sd' sd2 : Sd} {d e f : D} (h : a sd = some (d, sd')) (h2 : b sd' = some (e, sd2)) (hg : g d e = some f) : eOp g a b sd = some (f, sd2) := by rw [ev_eOp, h, Option.bind_some, h2, Option.bind_some, hg]; rfl
theorem eUn_e {g : D → Option D} {a : Ev} {sd sd' : Sd} {d f : D} (h : a sd = some (d, sd')) (hg : g d = some f) : eUn g a sd = some (f, sd') := by rw [ev_eUn, h, Option.bind_some, hg]; rfl
/-! ### the same -/
def b_same (r : Fn) : Xv := (xSeq (xIf (tOrD (tOf (eUn (isD .tuple) (eV 1))) (tOf (eUn (isD .list) (eV 1)))) (xSeq (xIf (tOrD (tOf (eOp neD (eUn (isD .tuple) (eV 1)) (eUn (isD .tuple) (eV 0)))) (tOrD (tOf (eOp neD (eUn (isD .list) (eV 1)) (eUn (isD .list) (eV 0)))) (tOf (eOp neD (eUn lenXD (eV 0)) (eUn lenXD (eV 1)))))) (xRet (eC (.bl false))) xNext)
  (xRet (eOp eqD (eUn lenXD (eComp [2] (iRange1 (aCons (eUn lenXD (eV 1)) aNil)) (setF 2) (tNotD (tOf (eCall r (aCons (eOp ixD (eV 0) (eV 2)) (aCons (eOp ixD (eV 1) (eV 2)) aNil))))) (eV 2))) (eC (.int 0))))) xNext)
  (xSeq (xIf (tOf (eOp isND (eV 1) (eC .non))) (xRet (eOp isND (eV 0) (eC .non))) xNext)
  (xSeq (xIf (tOrD (tOf (eUn (isD .bool) (eV 1))) (tOf (eUn (isD .bool) (eV 0)))) (xRet (eOfT (tAndD (tOf (eUn (isD .bool) (eV 1))) (tOf (eOfT (tAndD (tOf (eUn (isD .bool) (eV 0))) (tOf (eOp eqD (eV 0) (eV 1))))))))) xNext)
  (xSeq (xIf (tOf (eUn (isD .int) (eV 1))) (xRet (eOfT (tAndD (tOf (eUn (isD .int) (eV 0))) (tOf (eOp eqD (eV 0) (eV 1)))))) xNext)
  (xRet (eOfT (tAndD (tOf (eUn (isD .str) (eV 0))) (tOf (eOfT (tAndD (tOf (eUn (isD .str) (eV 1))) (tOf (eOp eqD (eV 0) (eV 1)))))))))))))
def m_same : Nat → Fn
  | 0 => fun _ => none
  | n + 1 => mDef 3 2 (b_same (m_same n))
def WdN : Nat → D → Prop
  | 0, _ => True
  | n + 1, .lst ds => ds.length ≤ szl ∧ ∀ d, d ∈ ds → WdN n d
  | n + 1, .tup ds => ds.length ≤ szl ∧ ∀ d, d ∈ ds → WdN n d
  | _, _ => True
@[simp] theorem isd_non (T : Ty) : isD T .non = some (.bl (isB T .non)) := rfl
@[simp] theorem isd_bl (T : Ty) (b : Bool) : isD T (.bl b) = some (.bl (isB T (.bl b))) := rfl
@[simp] theorem isd_int (T : Ty) (i : Int) : isD T (.int i) = some (.bl (isB T (.int i))) := rfl
@[simp] theorem isd_str (T : Ty) (x : Str) : isD T (.str x) = some (.bl (isB T (.str x))) := rfl
@[simp] theorem isd_tup (T : Ty) (x : List D) : isD T (.tup x) = some (.bl (isB T (.tup x))) := rfl
@[simp] theorem isd_lst (T : Ty) (x : List D) : isD T (.lst x) = some (.bl (isB T (.lst x))) := rfl
@[simp] theorem isd_dic (T : Ty) (x : List (D × D)) : isD T (.dic x) = some (.bl (isB T (.dic x))) := rfl
@[simp] theorem isnd_non (d : D) : isND d .non = some (.bl (isNoneD d)) := rfl
theorem isd (T : Ty) (d : D) (h : isSet d = false) : isD T d = some (.bl (isB T d)) := by
  unfold isD
  rw [h]; rfl
theorem same_comp {r : Fn} {d : D} {ds : List D} (hd : d = .lst ds ∨ d = .tup ds) (hl : ds.length ≤ szl) (hr : ∀ x, x ∈ ds → r [.fz x, .fz x] = some (.bl true, [.fz x, .fz x])) :
    eComp [2] (iRange1 (aCons (eUn lenXD (eV 1)) aNil)) (setF 2) (tNotD (tOf (eCall r (aCons (eOp ixD (eV 0) (eV 2)) (aCons (eOp ixD (eV 1) (eV 2)) aNil))))) (eV 2) [.fz d, .fz d, .un] = some (.lst [], [.fz d, .fz d, .un]) := by
  have hix : ∀ k : Nat, ixD d (.int k) = ds[k]? := fun k => by
    rcases hd with rfl | rfl
    · exact atI_nat ds k
    · exact atI_nat ds k
  have hlen : lenXD d = some (.int ds.length) := by rcases hd with rfl | rfl <;> rfl
  have hset : isSet d = false := by rcases hd with rfl | rfl <;> rfl
  have hbig : big (ds.length : Int) = true := big_len hl
  have e := comp1 (v := 2) (fi := iRange1 (aCons (eUn lenXD (eV 1)) aNil)) (tt := tNotD (tOf (eCall r (aCons (eOp ixD (eV 0) (eV 2)) (aCons (eOp ixD (eV 1) (eV 2)) aNil))))) (te := eV 2) (sd := [.fz d, .fz d, .un]) (s := .un) (ds := rangeD 0 ds.length)
    (iRange1_e (eUn_e rfl hlen) hl) rfl rfl (fun _ => false) (fun x => x) (fun x hx => by
      obtain ⟨k, hk, rfl⟩ := mem_rangeD hx
      have hm := hr ds[k] (List.getElem_mem hk)
      have hg : ixD d (.int (0 + (k : Int))) = some ds[k] := by rw [Int.zero_add, hix]; exact List.getElem?_eq_getElem hk
      exact tNot_e (tOf_e (eCall_e (aCons_e (eOp_e rfl rfl hg) (aCons_e (eOp_e rfl rfl hg) aNil_e)) hm))) (fun x _ h => by cases h) (by rw [rangeD_len]; exact sz1 hl)
  rw [e, List.filter_eq_nil_iff.mpr (fun _ _ z => Bool.false_ne_true z)]
  rfl
theorem same_seq {r : Fn} {d : D} {ds : List D} (hd : d = .lst ds ∨ d = .tup ds) (hl : ds.length ≤ szl) (hr : ∀ x, x ∈ ds → r [.fz x, .fz x] = some (.bl true, [.fz x, .fz x])) : b_same r [.fz d, .fz d, .un] = some (.rt (.bl true), [.fz d, .fz d, .un]) := by
  have hcomp := same_comp hd hl hr
  have c1 : tOrD (tOf (eUn (isD .tuple) (eV 1))) (tOf (eUn (isD .list) (eV 1))) [.fz d, .fz d, .un] = some (true, [.fz d, .fz d, .un]) := by
    rcases hd with rfl | rfl
    · simp [eV, isB]
    · simp [eV, isB]
  have c2 : tOrD (tOf (eOp neD (eUn (isD .tuple) (eV 1)) (eUn (isD .tuple) (eV 0)))) (tOrD (tOf (eOp neD (eUn (isD .list) (eV 1)) (eUn (isD .list) (eV 0)))) (tOf (eOp neD (eUn lenXD (eV 0)) (eUn lenXD (eV 1))))) [.fz d, .fz d, .un] = some (false, [.fz d, .fz d, .un]) := by
    rcases hd with rfl | rfl
    · simp [eV]
    · simp [eV]
  refine xSeq_rt ((xIf_t c1).trans ((xSeq_nx (xIf_f c2)).trans (xRet_e ?_)))
  rw [ev_eOp, ev_eUn, hcomp]
  rfl
theorem same_refl : ∀ (n : Nat) (d : D), n ≤ 60 → ShN n d → WdN n d → m_same (n + 1) [.fz d, .fz d] = some (.bl true, [.fz d, .fz d])
  | n, d, h60, hs, hw => by
    have fin : b_same (m_same n) [.fz d, .fz d, .un] = some (.rt (.bl true), [.fz d, .fz d, .un]) → m_same (n + 1) [.fz d, .fz d] = some (.bl true, [.fz d, .fz d]) := fun h => by
      have e : m_same (n + 1) [.fz d, .fz d] = (b_same (m_same n) [.fz d, .fz d, .un]).bind fun r => match r.1 with
        | .rt d => some (d, r.2.take 2)
        | .rn d => some (d, r.2.take 2)
        | .nx => some (.non, r.2.take 2)
        | _ => none := rfl
      rw [e, h]; rfl
    refine fin ?_
    cases d with
    | lst ds =>
      cases n with
      | zero => obtain ⟨_, h2⟩ := hs; rw [toP, PyData.depth] at h2; omega
      | succ n => exact same_seq (.inl rfl) hw.1 fun x hx => same_refl n x (by omega) (hs.lst x hx) (hw.2 x hx)
    | tup ds =>
      cases n with
      | zero => obtain ⟨_, h2⟩ := hs; rw [toP, PyData.depth] at h2; omega
      | succ n => exact same_seq (.inr rfl) hw.1 fun x hx => same_refl n x (by omega) (hs.tup x hx) (hw.2 x hx)
    | dic kvs => obtain ⟨h1, _⟩ := hs; rw [toP, PyData.canLay0] at h1; cases h1
    | set ds => obtain ⟨h1, _⟩ := hs; rw [toP, PyData.canLay0] at h1; cases h1
    | non => unfold b_same; simp [eV, isB, isNoneD]
    | bl b => unfold b_same; simp [eV, isB, isNoneD]
    | int i => unfold b_same; simp [eV, isB, isNoneD]
    | str x =>
      have he : eqD (.str x) (.str x) = some (.bl true) := by
        rw [eqD_of hs hs (by omega) (by omega)]
        simp [eqB, toP, PyData.eqv]
      unfold b_same
      simp [eV, isB, isNoneD, he]
end DL

set_option Elab.async false
set_option linter.all false
set_option autoImplicit false
set_option maxRecDepth 100000
set_option maxHeartbeats 4000000
namespace DL
open PySem PySem.Spec PyProof.Rows L2
/-! ### comprehensions of two clauses, that change nothing -/
theorem cin1 {vs : List Nat} {u : Nat} {te : Ev} {sd : Sd} {s : Slot} (hs : sd[u]? = some s) (hc : compOk vs sd = true) (hu : u ∈ vs) (F : D → D) : ∀ (ds acc : List D),
    (∀ d, d ∈ ds → te (sd.set u (.fz d)) = some (F d, sd.set u (.fz d))) → acc.length + ds.length ≤ szl + 1 →
    cIn vs [u] (setF u) tYesD te ds acc (sd.set u .un) = some (acc ++ ds.map F, sd.set u .un)
  | [], acc, _, _ => by rw [cIn, List.map_nil, List.append_nil]
  | d :: ds, acc, he, hl => by
    have hv : u < sd.length := (List.getElem?_eq_some_iff.mp hs).1
    have e1 : setF u d (sd.set u .un) = some (sd.set u (.fz d)) := by
      rw [setF_at (List.getElem?_set_self hv) rfl, List.set_set]
    have ok : compOk vs (sd.set u (.fz d)) = true := by
      refine List.all_eq_true.mpr fun v hv' => ?_
      by_cases e : v = u
      · subst e
        rw [List.getElem?_set_self hv]; rfl
      · rw [List.getElem?_set_ne (Ne.symm e)]
        exact List.all_eq_true.mp hc v hv'
    have un : unD [u] (sd.set u (.fz d)) = sd.set u .un := by rw [unD1, List.set_set]
    rw [List.length_cons] at hl
    rw [cIn, e1, Option.bind_some, ev_tYesD, Option.bind_some]
    simp only [if_true]
    rw [he d List.mem_cons_self, Option.bind_some]
    simp only []
    rw [if_pos ⟨by omega, ok⟩, un, cin1 hs hc hu F ds (acc ++ [F d]) (fun d h => he d (List.mem_cons_of_mem _ h)) (by rw [List.length_append, List.length_singleton]; omega)]
    rw [List.map_cons, List.append_assoc]
    rfl
theorem set_comm' {sd : Sd} {i j : Nat} {a b : Slot} (h : i ≠ j) : (sd.set i a).set j b = (sd.set j b).set i a := List.set_comm _ _ h
theorem cloop2 {v u : Nat} {fi1 : Iv} {te : Ev} {sd : Sd} {s t : Slot} (hs : sd[v]? = some s) (ht : sd[u]? = some t) (hnt : isOwn t = false) (huv : u ≠ v) (D1 : D → List D) (F : D → D → D) : ∀ (ds acc : List D),
    (∀ d, d ∈ ds → fi1 ((sd.set u .un).set v (.fz d)) = some (D1 d, (sd.set u .un).set v (.fz d))) → (∀ d, d ∈ ds → ∀ e, e ∈ D1 d → te ((sd.set v (.fz d)).set u (.fz e)) = some (F d e, (sd.set v (.fz d)).set u (.fz e))) →
    acc.length + (ds.flatMap fun d => (D1 d).map (F d)).length ≤ szl + 1 →
    cLoop2 [v, u] (setF v) tYesD fi1 [u] (setF u) tYesD te ds acc ((sd.set u .un).set v .un) = some (acc ++ ds.flatMap (fun d => (D1 d).map (F d)), (sd.set u .un).set v .un)
  | [], acc, _, _, _ => by rw [cLoop2, List.flatMap_nil, List.append_nil]
  | d :: ds, acc, hi, he, hl => by
    have hv : v < sd.length := (List.getElem?_eq_some_iff.mp hs).1
    have hu : u < sd.length := (List.getElem?_eq_some_iff.mp ht).1
    have hv' : v < (sd.set u .un).length := by rw [List.length_set]; exact hv
    have e1 : setF v d ((sd.set u .un).set v .un) = some ((sd.set u .un).set v (.fz d)) := by
      rw [setF_at (List.getElem?_set_self hv') rfl, List.set_set]
    have ok : compOk [v, u] ((sd.set u .un).set v (.fz d)) = true := by
      unfold compOk
      rw [List.all_cons, List.all_cons, List.all_nil, List.getElem?_set_self hv', List.getElem?_set_ne (Ne.symm huv), List.getElem?_set_self hu]
      rfl
    rw [List.flatMap_cons, List.length_append, List.length_map] at hl
    have hin := cin1 (vs := [v, u]) (u := u) (te := te) (sd := sd.set v (.fz d)) (s := t) (by rw [List.getElem?_set_ne (Ne.symm huv)]; exact ht)
      (by
        unfold compOk
        rw [List.all_cons, List.all_cons, List.all_nil, List.getElem?_set_self hv, List.getElem?_set_ne (Ne.symm huv), ht]
        simp only [hnt]
        rfl) (by simp) (F d) (D1 d) acc (fun e h => he d List.mem_cons_self e h) (by omega)
    have sw : (sd.set v (.fz d)).set u .un = (sd.set u .un).set v (.fz d) := List.set_comm _ _ (Ne.symm huv)
    rw [cLoop2, e1, Option.bind_some, ev_tYesD, Option.bind_some]
    simp only [if_true]
    rw [hi d List.mem_cons_self, Option.bind_some]
    simp only []
    rw [if_pos ok]
    have un1 : unD [u] ((sd.set u .un).set v (.fz d)) = (sd.set v (.fz d)).set u .un := by rw [unD1, ← sw, List.set_set]
    rw [un1, hin, Option.bind_some]
    simp only []
    have un2 : unD [v, u] ((sd.set v (.fz d)).set u .un) = (sd.set u .un).set v .un := by
      show ((((sd.set v (.fz d)).set u .un).set u .un).set v .un) = _
      rw [List.set_set, sw, List.set_set]
    rw [un2, cloop2 hs ht hnt huv D1 F ds _ (fun d h => hi d (List.mem_cons_of_mem _ h)) (fun d h => he d (List.mem_cons_of_mem _ h)) (by rw [List.length_append, List.length_map]; omega)]
    rw [List.flatMap_cons, List.append_assoc]
theorem restore2 {v u : Nat} {sd : Sd} {s t : Slot} (hs : sd[v]? = some s) (ht : sd[u]? = some t) (huv : u ≠ v) : restoreD [v, u] sd ((sd.set u .un).set v .un) = sd := by
  show ((((sd.set u .un).set v .un).set u ((sd[u]?).getD .un)).set v ((sd[v]?).getD .un)) = sd
  have hv : v < sd.length := (List.getElem?_eq_some_iff.mp hs).1
  have hu : u < sd.length := (List.getElem?_eq_some_iff.mp ht).1
  refine List.ext_getElem? fun j => ?_
  by_cases e : j = v
  · subst e
    rw [List.getElem?_set_self (by simp [hv]), hs]; rfl
  · rw [List.getElem?_set_ne (Ne.symm e)]
    by_cases e2 : j = u
    · subst e2
      rw [List.getElem?_set_self (by simp [hu]), ht]; rfl
    · rw [List.getElem?_set_ne (Ne.symm e2), List.getElem?_set_ne (Ne.symm e), List.getElem?_set_ne (Ne.symm e2)]
theorem comp2p {v u : Nat} {fi fi1 : Iv} {te : Ev} {sd : Sd} {s t : Slot} {ds : List D} (hi : fi sd = some (ds, sd)) (hs : sd[v]? = some s) (hns : isOwn s = false) (ht : sd[u]? = some t) (hnt : isOwn t = false) (huv : u ≠ v) (D1 : D → List D) (F : D → D → D)
    (hi1 : ∀ d, d ∈ ds → fi1 ((sd.set u .un).set v (.fz d)) = some (D1 d, (sd.set u .un).set v (.fz d))) (he : ∀ d, d ∈ ds → ∀ e, e ∈ D1 d → te ((sd.set v (.fz d)).set u (.fz e)) = some (F d e, (sd.set v (.fz d)).set u (.fz e)))
    (hl : (ds.flatMap fun d => (D1 d).map (F d)).length ≤ szl + 1) :
    eComp2 [v, u] fi (setF v) tYesD fi1 [u] (setF u) tYesD te sd = some (.lst (ds.flatMap fun d => (D1 d).map (F d)), sd) := by
  unfold eComp2
  rw [hi, Option.bind_some]
  simp only []
  have ok : compOk [v, u] sd = true := by
    unfold compOk
    rw [List.all_cons, List.all_cons, List.all_nil, hs, ht]
    simp [hns, hnt]
  rw [if_pos ok, show unD [v, u] sd = (sd.set u .un).set v .un from rfl, cloop2 hs ht hnt huv D1 F ds [] hi1 he (by simpa using hl), Option.map_some, restore2 hs ht huv, List.nil_append]
/-! ### dict comprehensions, that change nothing -/
theorem cloopD1 {v : Nat} {tk te : Ev} {sd : Sd} {s : Slot} (hs : sd[v]? = some s) (KF VF : D → D) : ∀ (ds : List D) (acc res : List (D × D)),
    (∀ d, d ∈ ds → tk (sd.set v (.fz d)) = some (KF d, sd.set v (.fz d))) → (∀ d, d ∈ ds → te (sd.set v (.fz d)) = some (VF d, sd.set v (.fz d))) → dicFill acc (ds.map fun d => (KF d, VF d)) = some res →
    cLoopD [v] (setF v) tYesD tk te ds acc (sd.set v .un) = some (res, sd.set v .un)
  | [], acc, res, _, _, h => by cases h; rfl
  | d :: ds, acc, res, hk, he, h => by
    have hv : v < sd.length := (List.getElem?_eq_some_iff.mp hs).1
    have e1 : setF v d (sd.set v .un) = some (sd.set v (.fz d)) := by
      rw [setF_at (List.getElem?_set_self hv) rfl, List.set_set]
    have ok : compOk [v] (sd.set v (.fz d)) = true := compOk1 (List.getElem?_set_self hv) rfl
    have un : unD [v] (sd.set v (.fz d)) = sd.set v .un := by rw [unD1, List.set_set]
    rw [List.map_cons] at h
    obtain ⟨acc', h1, h2⟩ := Option.bind_eq_some_iff.mp h
    rw [cLoopD, e1, Option.bind_some, ev_tYesD, Option.bind_some]
    simp only [if_true]
    rw [hk d List.mem_cons_self, Option.bind_some]
    simp only []
    rw [he d List.mem_cons_self, Option.bind_some, h1, Option.bind_some]
    simp only []
    rw [if_pos ok, un]
    exact cloopD1 hs KF VF ds acc' res (fun d h => hk d (List.mem_cons_of_mem _ h)) (fun d h => he d (List.mem_cons_of_mem _ h)) h2
theorem compD1 {v : Nat} {fi : Iv} {tk te : Ev} {sd : Sd} {s : Slot} {ds : List D} {res : List (D × D)} (hi : fi sd = some (ds, sd)) (hs : sd[v]? = some s) (hn : isOwn s = false) (KF VF : D → D)
    (hk : ∀ d, d ∈ ds → tk (sd.set v (.fz d)) = some (KF d, sd.set v (.fz d))) (he : ∀ d, d ∈ ds → te (sd.set v (.fz d)) = some (VF d, sd.set v (.fz d))) (hr : dicFill [] (ds.map fun d => (KF d, VF d)) = some res) :
    eCompD [v] fi (setF v) tYesD tk te sd = some (.dic res, sd) := by
  unfold eCompD
  rw [hi, Option.bind_some]
  simp only []
  rw [if_pos (compOk1 hs hn), unD1, cloopD1 hs KF VF ds [] res hk he hr, Option.map_some, restore1 hs]
/-- distinct ints as keys -/
theorem putBy_new {kvs : List (D × D)} {i : Int} {v : D} (h : D.int i ∉ kvs.map (·.1)) : putBy (isK (.inl i)) kvs (.int i) v = kvs ++ [(.int i, v)] := by
  unfold putBy
  rw [if_neg fun z => ?_]
  obtain ⟨p, hp, e⟩ := List.any_eq_true.mp z
  have e : keyL p.1 = some (.inl i) := of_decide_eq_true e
  have := keyL_eq e
  have q : p.1 ∈ kvs.map (·.1) := List.mem_map_of_mem hp
  rw [this] at q
  exact h q
theorem leaf_ints {kvs : List (D × D)} {is : List Int} (h : kvs.map (·.1) = is.map D.int) : kvs.all (fun p => (keyL p.1).isSome) = true := by
  refine List.all_eq_true.mpr fun p hp => ?_
  have : p.1 ∈ is.map D.int := h ▸ List.mem_map_of_mem hp
  obtain ⟨i, _, e⟩ := List.mem_map.mp this
  rw [← e]; rfl
theorem dicFill_new : ∀ (is js : List Int) (acc xs : List (D × D)), acc.map (·.1) = is.map D.int → xs.map (·.1) = js.map D.int → (is ++ js).Nodup → acc.length + xs.length ≤ szl → dicFill acc xs = some (acc ++ xs)
  | is, js, acc, [], _, _, _, _ => by rw [dicFill, List.append_nil]
  | is, [], acc, x :: xs, _, h, _, _ => by cases h
  | is, j :: js, acc, (k, v) :: xs, ha, hx, hn, hl => by
    rw [List.map_cons, List.map_cons] at hx
    injection hx with h1 h2
    have h1 : k = .int j := h1
    subst h1
    rw [List.length_cons] at hl
    have hnj : j ∉ is := fun z => by
      have := (List.nodup_append.mp hn).2.2
      exact this j z j List.mem_cons_self rfl
    have hp : dicPut acc (.int j) v = some (acc ++ [(.int j, v)]) := by
      unfold dicPut
      rw [if_pos (by omega)]
      show (if acc.all (fun p => (keyL p.1).isSome) = true then some (putBy (isK (.inl j)) acc (.int j) v) else none) = _
      rw [if_pos (leaf_ints ha), putBy_new]
      rw [ha]
      intro z
      obtain ⟨i, hi, e⟩ := List.mem_map.mp z
      cases e
      exact hnj hi
    have ih := dicFill_new (is ++ [j]) js (acc ++ [(.int j, v)]) xs (by rw [List.map_append, List.map_append, ha]; rfl) h2 (by rw [List.append_assoc]; exact hn) (by rw [List.length_append, List.length_singleton]; omega)
    rw [List.append_assoc] at ih
    rw [dicFill, hp, Option.bind_some]
    exact ih
end DL

set_option Elab.async false
set_option linter.all false
set_option autoImplicit false
set_option maxRecDepth 100000
set_option maxHeartbeats 4000000
namespace DL
open PySem PySem.Spec PyProof.Rows L2
theorem draw_is : m__law_draw = m_draw := rfl
theorem pool_is : m__law_pool = m_pool := rfl
theorem same_is : ∀ n, m__law_same n = m_same n
  | 0 => rfl
  | n + 1 => by
    show mDef 3 2 (b__law_same (m__law_same n)) = mDef 3 2 (b_same (m_same n))
    rw [same_is n]; rfl
theorem mDef_e {n np : Nat} {b : Xv} {ss sd0 sd' ss' : List Slot} {d : D} (h : b sd0 = some (.rt d, sd')) (hl : ss.length = np) (h0 : ss ++ List.replicate (n - np) .un = sd0) (ht : sd'.take np = ss') : mDef n np b ss = some (d, ss') := by
  unfold mDef
  rw [if_pos hl, h0, h, ← ht]; rfl
/-! ### rosters -/
abbrev dRow (r : List Int) : D := .tup (r.map D.int)
abbrev dCl (cs : List (List Int)) : D := .tup (cs.map dRow)
abbrev dW (n : Nat) (cs : List (List Int)) : D := .tup [.int (n : Int), dCl cs]
def ros : Nat → List (List Int)
  | 0 => [[]]
  | n + 1 => (ros n).flatMap fun r => [r ++ [0], r ++ [1]]
theorem ros_len : ∀ n, (ros n).length = 2 ^ n
  | 0 => rfl
  | n + 1 => by
    rw [ros, List.length_flatMap]
    have : (List.map (fun r => ([r ++ [0], r ++ [1]] : List (List Int)).length) (ros n)).sum = 2 * (ros n).length := by
      induction ros n with
      | nil => rfl
      | cons a l ih => rw [List.map_cons, List.sum_cons, ih, List.length_cons]; simp; omega
    rw [this, ros_len n, Nat.pow_succ]; omega
theorem ros_row : ∀ {n : Nat} {r : List Int}, r ∈ ros n → r.length = n ∧ ∀ x, x ∈ r → x = 0 ∨ x = 1
  | 0, r, h => by
    rw [ros, List.mem_singleton] at h
    subst h
    exact ⟨rfl, fun x hx => by cases hx⟩
  | n + 1, r, h => by
    rw [ros] at h
    obtain ⟨q, hq, hr⟩ := List.mem_flatMap.mp h
    obtain ⟨h1, h2⟩ := ros_row hq
    have : r = q ++ [0] ∨ r = q ++ [1] := by simpa using hr
    rcases this with rfl | rfl
    · refine ⟨by rw [List.length_append, h1]; rfl, fun x hx => ?_⟩
      rcases List.mem_append.mp hx with hx | hx
      · exact h2 x hx
      · exact .inl (by simpa using hx)
    · refine ⟨by rw [List.length_append, h1]; rfl, fun x hx => ?_⟩
      rcases List.mem_append.mp hx with hx | hx
      · exact h2 x hx
      · exact .inr (by simpa using hx)
theorem pow_small {n : Nat} (h : n ≤ 8) : 2 ^ n ≤ 256 := by
  have : 2 ^ n ≤ 2 ^ 8 := Nat.pow_le_pow_right (by decide) h
  exact this
theorem sz256 {n : Nat} (h : n ≤ 256) : n ≤ szl := Nat.le_trans h (by decide)
theorem ros_sz {n : Nat} (h : n ≤ 8) : (ros n).length ≤ szl := by rw [ros_len]; exact sz256 (pow_small h)
def stepD (n : Nat) : List D := (ros n).map dRow
theorem step_succ (n : Nat) : stepD (n + 1) = (stepD n).flatMap fun d => [(0 : Int), 1].map fun e => match d with
  | .tup xs => D.tup (xs ++ [.int e])
  | d => d := by
  unfold stepD
  rw [ros, List.map_flatMap, List.flatMap_map]
  refine congrFun (congrArg List.flatMap (funext fun r => ?_)) (ros n)
  simp [dRow]
def addOne (d e : D) : D := match d with
  | .tup xs => .tup (xs ++ [e])
  | d => d
theorem step_succ' (n : Nat) : stepD (n + 1) = (stepD n).flatMap fun d => [D.int 0, D.int 1].map (addOne d) := by
  unfold stepD
  rw [ros, List.map_flatMap, List.flatMap_map]
  refine congrFun (congrArg List.flatMap (funext fun r => ?_)) (ros n)
  simp [dRow, addOne]
theorem allros_loop {p : Int} : ∀ (ks : List D) (n : Nat) (s2 : Slot), isRf s2 = false → (∀ k, k ∈ ks → ∃ i, k = D.int i) → n + ks.length ≤ 8 → ∃ s2' : Slot, isRf s2' = false ∧
    xLoop (setF 2) (xSetF 1 (eComp2 [3, 4] (iSeqX (eV 1)) (setF 3) tYesD (iSeqX (eTup (aCons (eC (.int 0)) (aCons (eC (.int 1)) aNil)))) [4] (setF 4) tYesD (eOp addD (eV 3) (eTup (aCons (eV 4) aNil))))) ks [.fz (.int p), .fz (.lst (stepD n)), s2, .un, .un] = some (.nx, [.fz (.int p), .fz (.lst (stepD (n + ks.length))), s2', .un, .un])
  | [], n, s2, h, _, _ => ⟨s2, h, rfl⟩
  | k :: ks, n, s2, h, hk, hl => by
    rw [List.length_cons] at hl
    obtain ⟨s2', h2, e⟩ := allros_loop ks (n + 1) (.fz k) rfl (fun q hq => hk q (List.mem_cons_of_mem _ hq)) (by omega)
    refine ⟨s2', h2, ?_⟩
    have hfl : ∀ d, d ∈ stepD n → ∃ r, r ∈ ros n ∧ d = dRow r := fun d hd => by
      obtain ⟨r, hr, rfl⟩ := List.mem_map.mp hd
      exact ⟨r, hr, rfl⟩
    have hc := comp2p (v := 3) (u := 4) (fi := iSeqX (eV 1)) (fi1 := iSeqX (eTup (aCons (eC (.int 0)) (aCons (eC (.int 1)) aNil)))) (te := eOp addD (eV 3) (eTup (aCons (eV 4) aNil))) (sd := [.fz (.int p), .fz (.lst (stepD n)), .fz k, .un, .un]) (ds := stepD n)
      rfl rfl rfl rfl rfl (by decide) (fun _ => [D.int 0, D.int 1]) addOne (fun d _ => rfl) (fun d hd e he => by
        obtain ⟨r, hr, rfl⟩ := hfl d hd
        refine eOp_e rfl (d := dRow r) (e := .tup [e]) (by rfl) ?_
        show (if (r.map D.int).length + 1 ≤ szl then some (D.tup (r.map D.int ++ [e])) else none) = _
        rw [if_pos (by rw [List.length_map, (ros_row hr).1]; exact sz256 (by omega))]
        rfl) (by rw [← step_succ']; unfold stepD; rw [List.length_map]; exact sz1 (ros_sz (by omega)))
    rw [← step_succ'] at hc
    rw [xLoop, setF_at (s := s2) rfl h, Option.bind_some]
    show ((xSetF 1 _ [.fz (.int p), .fz (.lst (stepD n)), .fz k, .un, .un]).bind _) = _
    rw [xSetF_e hc rfl rfl, Option.bind_some]
    show xLoop _ _ ks [.fz (.int p), .fz (.lst (stepD (n + 1))), .fz k, .un, .un] = _
    rw [e, show n + 1 + ks.length = n + (ks.length + 1) by omega]
    rfl
theorem all_ok {n : Nat} (h : n ≤ 8) : m_all_rosters [.fz (.int (n : Int))] = some (.lst (stepD n), [.fz (.int (n : Int))]) := by
  obtain ⟨s2', _, e⟩ := allros_loop (p := (n : Int)) (rangeD 0 n) 0 .un rfl (fun k hk => by
    obtain ⟨i, _, rfl⟩ := mem_rangeD hk
    exact ⟨_, rfl⟩) (by rw [rangeD_len]; omega)
  rw [rangeD_len, Nat.zero_add] at e
  refine mDef_rt rfl ((xSeq_nx (xSetF_e (d := .lst (stepD 0)) rfl rfl rfl)).trans ((xSeq_nx ((xFor_e (iRange1_e rfl (sz256 (by omega)))).trans e)).trans (xRet_e (e := eV 1) rfl)))
/-! ### the law's rosters -/
theorem lawros_in {p k : D} (hp : True) : ∀ (rs : List (List Int)) (acc : List D) (rows s4 : Slot), isRf s4 = false → (∀ r, r ∈ rs → r.length ≤ 200) → acc.length + 2 * rs.length ≤ 2000 → ∃ s4' : Slot, isRf s4' = false ∧
    xLoop (setF 4) (xSetF 3 (eOp addD (eV 3) (eLst (aCons (eOp addD (eV 4) (eTup (aCons (eC (.int 0)) aNil))) (aCons (eOp addD (eV 4) (eTup (aCons (eC (.int 1)) aNil))) aNil))))) (rs.map dRow) [.fz p, rows, .fz k, .fz (.lst acc), s4] =
      some (.nx, [.fz p, rows, .fz k, .fz (.lst (acc ++ rs.flatMap fun r => [dRow (r ++ [0]), dRow (r ++ [1])])), s4'])
  | [], acc, rows, s4, h, _, _ => ⟨s4, h, by rw [List.flatMap_nil, List.append_nil]; rfl⟩
  | r :: rs, acc, rows, s4, h, hr, hl => by
    rw [List.length_cons] at hl
    obtain ⟨s4', h4, e⟩ := lawros_in hp rs (acc ++ [dRow (r ++ [0]), dRow (r ++ [1])]) rows (.fz (dRow r)) rfl (fun q hq => hr q (List.mem_cons_of_mem _ hq)) (by rw [List.length_append]; simp; omega)
    refine ⟨s4', h4, ?_⟩
    have hrl := hr r List.mem_cons_self
    have ha : ∀ x : Int, addD (dRow r) (.tup [.int x]) = some (dRow (r ++ [x])) := fun x => by
      show (if (r.map D.int).length + 1 ≤ szl then some (D.tup (r.map D.int ++ [.int x])) else none) = _
      rw [if_pos (by rw [List.length_map]; exact Nat.le_trans (show r.length + 1 ≤ 256 by omega) (by decide))]
      unfold dRow
      rw [List.map_append]; rfl
    have hb : addD (.lst acc) (.lst [dRow (r ++ [0]), dRow (r ++ [1])]) = some (.lst (acc ++ [dRow (r ++ [0]), dRow (r ++ [1])])) := by
      show (if acc.length + 2 ≤ szl then _ else none) = _
      rw [if_pos (Nat.le_trans (show acc.length + 2 ≤ 2000 by omega) (by decide))]
    rw [List.map_cons, xLoop, setF_at (s := s4) rfl h, Option.bind_some]
    show ((xSetF 3 _ [.fz p, rows, .fz k, .fz (.lst acc), .fz (dRow r)]).bind _) = _
    rw [xSetF_e (d := .lst (acc ++ [dRow (r ++ [0]), dRow (r ++ [1])])) (s := .fz (.lst acc)) (eOp_e (d := .lst acc) (e := .lst [dRow (r ++ [0]), dRow (r ++ [1])]) rfl (by
      have q : aCons (eOp addD (eV 4) (eTup (aCons (eC (.int 0)) aNil))) (aCons (eOp addD (eV 4) (eTup (aCons (eC (.int 1)) aNil))) aNil) [.fz p, rows, .fz k, .fz (.lst acc), .fz (dRow r)] = some ([dRow (r ++ [0]), dRow (r ++ [1])], [.fz p, rows, .fz k, .fz (.lst acc), .fz (dRow r)]) :=
        aCons_e (eOp_e rfl rfl (ha 0)) (aCons_e (eOp_e rfl rfl (ha 1)) aNil_e)
      rw [ev_eLst, q]; rfl) hb) rfl rfl, Option.bind_some]
    show xLoop _ _ (rs.map dRow) [.fz p, rows, .fz k, .fz (.lst (acc ++ [dRow (r ++ [0]), dRow (r ++ [1])])), .fz (dRow r)] = _
    rw [e, List.flatMap_cons, List.append_assoc]
theorem step_succ2 (n : Nat) : ((ros n).flatMap fun r => [dRow (r ++ [0]), dRow (r ++ [1])]) = stepD (n + 1) := by
  unfold stepD
  rw [ros, List.map_flatMap]
  rfl
theorem lawros_out {p : D} : ∀ (ks : List D) (n : Nat) (s2 s3 s4 : Slot), isRf s2 = false → isRf s3 = false → isRf s4 = false → n + ks.length ≤ 8 → ∃ s2' s3' s4' : Slot,
    xLoop (setF 2) (xSeq (xSetF 3 (eLst aNil)) (xSeq (xFor (iSeqX (eV 1)) (setF 4) (xSetF 3 (eOp addD (eV 3) (eLst (aCons (eOp addD (eV 4) (eTup (aCons (eC (.int 0)) aNil))) (aCons (eOp addD (eV 4) (eTup (aCons (eC (.int 1)) aNil))) aNil)))))) (xSetF 1 (eV 3)))) ks [.fz p, .fz (.lst (stepD n)), s2, s3, s4] =
      some (.nx, [.fz p, .fz (.lst (stepD (n + ks.length))), s2', s3', s4'])
  | [], n, s2, s3, s4, _, _, _, _ => ⟨s2, s3, s4, rfl⟩
  | k :: ks, n, s2, s3, s4, h2, h3, h4, hl => by
    rw [List.length_cons] at hl
    obtain ⟨s4', h4', e⟩ := lawros_in (p := p) (k := k) trivial (ros n) [] (.fz (.lst (stepD n))) s4 h4 (fun r hr => by rw [(ros_row hr).1]; omega) (by
      have := pow_small (n := n) (by omega)
      rw [ros_len]
      simp
      omega)
    rw [List.nil_append, step_succ2] at e
    obtain ⟨a, b, c, e2⟩ := lawros_out (p := p) ks (n + 1) (.fz k) (.fz (.lst (stepD (n + 1)))) s4' rfl rfl h4' (by omega)
    refine ⟨a, b, c, ?_⟩
    rw [xLoop, setF_at (s := s2) rfl h2, Option.bind_some]
    show ((xSeq _ _ [.fz p, .fz (.lst (stepD n)), .fz k, s3, s4]).bind _) = _
    rw [xSeq_nx (xSetF_e (d := .lst []) (s := s3) rfl rfl h3)]
    show ((xSeq _ _ [.fz p, .fz (.lst (stepD n)), .fz k, .fz (.lst []), s4]).bind _) = _
    rw [xSeq_nx ((xFor_e (ds := stepD n) rfl).trans e), xSetF_e (d := .lst (stepD (n + 1))) (s := .fz (.lst (stepD n))) rfl rfl rfl, Option.bind_some]
    show xLoop _ _ ks [.fz p, .fz (.lst (stepD (n + 1))), .fz k, .fz (.lst (stepD (n + 1))), s4'] = _
    rw [e2, show n + 1 + ks.length = n + (ks.length + 1) by omega]
    rfl
theorem lawros_ok {n : Nat} (h : n ≤ 8) : m__law_rosters [.fz (.int (n : Int))] = some (.lst (stepD n), [.fz (.int (n : Int))]) := by
  obtain ⟨a, b, c, e⟩ := lawros_out (p := .int (n : Int)) (rangeD 0 n) 0 .un .un .un rfl rfl rfl (by rw [rangeD_len]; omega)
  rw [rangeD_len, Nat.zero_add] at e
  exact mDef_rt rfl ((xSeq_nx (xSetF_e (d := .lst (stepD 0)) rfl rfl rfl)).trans ((xSeq_nx ((xFor_e (iRange1_e rfl (sz256 (by omega)))).trans e)).trans (xRet_e (e := eV 1) rfl)))
/-! ### met -/
def met (r : List Int) (w : Int) : Bool := r.getD (w.natAbs - 1) 0 == (if w > 0 then 1 else 0)
def sett (r : List Int) : List (D × D) := (List.range r.length).map fun k => (D.int (k + 1 : Nat), D.int (r.getD k 0))
def OkW (n : Nat) (w : Int) : Prop := w ≠ 0 ∧ w.natAbs ≤ n
theorem sett_find {r : List Int} {j : Nat} (h1 : 1 ≤ j) (h2 : j ≤ r.length) : (sett r).find? (isK (.inl (j : Int))) = some (.int (j : Nat), .int (r.getD (j - 1) 0)) := by
  unfold sett
  have e : (List.range r.length).find? (isK (.inl (j : Int)) ∘ fun k => (D.int (k + 1 : Nat), D.int (r.getD k 0))) = some (j - 1) := by
    refine List.find?_range_eq_some.mpr ⟨?_, List.mem_range.mpr (by omega), fun i hi => ?_⟩
    · show decide (keyL (.int ((j - 1 + 1 : Nat) : Int)) = some (.inl (j : Int))) = true
      rw [show j - 1 + 1 = j by omega]
      exact decide_eq_true rfl
    · show (!decide (keyL (.int ((i + 1 : Nat) : Int)) = some (.inl (j : Int)))) = true
      rw [decide_eq_false]
      · rfl
      · intro z
        have z : (Sum.inl ((i + 1 : Nat) : Int) : Key) = Sum.inl (j : Int) := Option.some.inj z
        injection z with z
        omega
  rw [List.find?_map, e]
  show some (D.int ((j - 1 + 1 : Nat) : Int), D.int (r.getD (j - 1) 0)) = _
  rw [show j - 1 + 1 = j by omega]
theorem sett_keys (r : List Int) : (sett r).map (·.1) = ((List.range r.length).map fun k => ((k + 1 : Nat) : Int)).map D.int := by
  unfold sett
  rw [List.map_map, List.map_map]
  rfl
theorem sett_get {r : List Int} {j : Nat} (h1 : 1 ≤ j) (h2 : j ≤ r.length) : dicGet (sett r) (.int (j : Int)) = some (some (.int (r.getD (j - 1) 0))) := by
  unfold dicGet
  show (if (sett r).all (fun p => (keyL p.1).isSome) = true then some (((sett r).find? (isK (.inl (j : Int)))).map (·.2)) else none) = _
  rw [if_pos (leaf_ints (sett_keys r)), sett_find h1 h2]
  rfl
theorem abs_nat (w : Int) : (if w < 0 then -w else w) = (w.natAbs : Int) := by
  split <;> omega
theorem absD_int (w : Int) : absD (.int w) = some (.int (w.natAbs : Int)) := by
  show some (D.int (if w < 0 then -w else w)) = _
  rw [abs_nat]
theorem is_met_ok {r : List Int} {w : Int} (h : OkW r.length w) : m_is_met [.fz (.int w), .fz (.dic (sett r))] = some (.bl (met r w), [.fz (.int w), .fz (.dic (sett r))]) := by
  obtain ⟨h1, h2⟩ := h
  have g1 : getD1 (.dic (sett r)) (.int (w.natAbs : Int)) = some (.int (r.getD (w.natAbs - 1) 0)) := by
    show ((dicGet (sett r) (.int (w.natAbs : Int))).map fun o => o.getD .non) = _
    rw [sett_get (by omega) h2]; rfl
  have g2 : intD (.bl (decide (0 < w))) = some (.int (if w > 0 then 1 else 0)) := by
    show some (D.int (if decide (0 < w) = true then 1 else 0)) = _
    by_cases c : 0 < w
    · rw [if_pos c, if_pos (decide_eq_true c)]
    · rw [if_neg c, if_neg (by rw [decide_eq_false c]; exact Bool.false_ne_true)]
  have e1 : eOp getD1 (eV 1) (eUn absD (eV 0)) [.fz (.int w), .fz (.dic (sett r))] = some (.int (r.getD (w.natAbs - 1) 0), [.fz (.int w), .fz (.dic (sett r))]) := eOp_e rfl (eUn_e rfl (absD_int w)) g1
  have e2 : eOp gtD (eV 0) (eC (.int 0)) [.fz (.int w), .fz (.dic (sett r))] = some (.bl (decide (0 < w)), [.fz (.int w), .fz (.dic (sett r))]) := rfl
  have hb : b_is_met [.fz (.int w), .fz (.dic (sett r))] = some (.rt (.bl (met r w)), [.fz (.int w), .fz (.dic (sett r))]) := xRet_e (eOp_e e1 (eUn_e e2 g2) (ev_eqI _ _))
  exact mDef_e hb rfl rfl rfl
theorem eOfT_e {f : Tv} {sd sd' : Sd} {b : Bool} (h : f sd = some (b, sd')) : eOfT f sd = some (.bl b, sd') := by rw [ev_eOfT, h]; rfl
theorem tAnd_t {a b : Tv} {sd sd' : Sd} (h : a sd = some (true, sd')) : tAndD a b sd = b sd' := by rw [ev_tAndD, h]; rfl
theorem tAnd_f {a b : Tv} {sd sd' : Sd} (h : a sd = some (false, sd')) : tAndD a b sd = some (false, sd') := by rw [ev_tAndD, h]; rfl
theorem blsD_map : ∀ (l : List D) (f : D → Bool), blsD (l.map fun d => D.bl (f d)) = some (l.map f)
  | [], _ => rfl
  | d :: l, f => by
    rw [List.map_cons, List.map_cons]
    show (blsD _).map _ = _
    rw [blsD_map l f]; rfl
/-- crossed: all wishes against the roster -/
def crossed (r c : List Int) : Bool := c.all fun w => !met r w
def notMet (r : List Int) : D → Bool
  | .int w => !met r w
  | _ => false
theorem crossed_ok {r c : List Int} (hc : ∀ w, w ∈ c → OkW r.length w) (hl : c.length ≤ 200) : m_is_crossed [.fz (dRow c), .fz (.dic (sett r))] = some (.bl (crossed r c), [.fz (dRow c), .fz (.dic (sett r))]) := by
  have e := comp1 (v := 2) (fi := iSeqX (eV 0)) (tt := tYesD) (te := eOfT (tAndD (tOf (eOp inD (eUn absD (eV 2)) (eV 1))) (tOf (eOfT (tNotD (tOf (eCall m_is_met (aCons (eV 2) (aCons (eV 1) aNil)))))))))
    (sd := [.fz (dRow c), .fz (.dic (sett r)), .un]) (s := .un) (ds := c.map D.int) rfl rfl rfl (fun _ => true) (fun d => D.bl (notMet r d)) (fun d _ => rfl) (fun d hd _ => by
        obtain ⟨w, hw, rfl⟩ := List.mem_map.mp hd
        have ok := hc w hw
        have hin : inD (.int (w.natAbs : Int)) (.dic (sett r)) = some (.bl true) := by
          show ((dicGet (sett r) (.int (w.natAbs : Int))).map (·.isSome)).map D.bl = _
          rw [sett_get (by have := ok.1; omega) ok.2]; rfl
        refine eOfT_e ((tAnd_t (tOf_e (eOp_e (eUn_e rfl (absD_int w)) rfl hin))).trans (tOf_e (eOfT_e (tNot_e (tOf_e (eCall_e (aCons_e rfl (aCons_e rfl aNil_e)) (is_met_ok ok)))))))) (by rw [List.length_map]; exact Nat.le_trans (show c.length ≤ 256 by omega) (by decide))
  rw [List.filter_eq_self.mpr (fun _ _ => rfl)] at e
  have ha : allD (.lst ((c.map D.int).map fun d => D.bl (notMet r d))) = some (.bl (crossed r c)) := by
    show (blsD _).map _ = _
    rw [blsD_map]
    show some (D.bl _) = _
    unfold crossed
    rw [List.map_map, List.all_map]
    rfl
  have hb : b_is_crossed [.fz (dRow c), .fz (.dic (sett r)), .un] = some (.rt (.bl (crossed r c)), [.fz (dRow c), .fz (.dic (sett r)), .un]) := xRet_e (eUn_e e ha)
  exact mDef_e hb rfl rfl rfl
theorem sett_fill (r : List Int) (hl : r.length ≤ 200) : dicFill [] ((rangeD 0 r.length).map fun d => (match d with
      | .int k => (D.int (k + 1), D.int (r.getD k.toNat 0))
      | d => (d, d))) = some (sett r) := by
  have e : ((rangeD 0 r.length).map fun d => (match d with
      | .int k => (D.int (k + 1), D.int (r.getD k.toNat 0))
      | d => (d, d))) = sett r := by
    unfold rangeD sett
    rw [List.map_map]
    refine congrFun (congrArg List.map (funext fun k => ?_)) _
    show (D.int (0 + (k : Int) + 1), D.int (r.getD (0 + (k : Int)).toNat 0)) = _
    rw [show (0 + (k : Int)).toNat = k by omega, show (0 + (k : Int) + 1) = ((k + 1 : Nat) : Int) by omega]
  rw [e]
  have h1 : ([] ++ (List.range r.length).map fun k => ((k + 1 : Nat) : Int)).Nodup := by
    rw [List.nil_append]
    exact List.pairwise_map.mpr (List.nodup_range.imp fun {a b} h e => h (by omega))
  have h2 : ([] : List (D × D)).length + (sett r).length ≤ szl := by
    unfold sett
    rw [List.length_map, List.length_range, List.length_nil, Nat.zero_add]
    exact sz256 (by omega)
  exact dicFill_new [] _ [] (sett r) rfl (sett_keys r) h1 h2
theorem settled_ok (r : List Int) (hl : r.length ≤ 200) : m_as_settled [.fz (dRow r)] = some (.dic (sett r), [.fz (dRow r)]) := by
  have e := compD1 (v := 1) (fi := iRange1 (aCons (eUn lenXD (eV 0)) aNil)) (tk := eOp addD (eV 1) (eC (.int 1))) (te := eOp ixD (eV 0) (eV 1)) (sd := [.fz (dRow r), .un]) (s := .un) (ds := rangeD 0 r.length) (res := sett r)
    (iRange1_e (eUn_e rfl (by show some (D.int ((r.map D.int).length : Nat)) = _; rw [List.length_map])) (sz256 (by omega))) rfl rfl (fun d => match d with
      | .int k => D.int (k + 1)
      | d => d) (fun d => match d with
      | .int k => D.int (r.getD k.toNat 0)
      | d => d) (fun d hd => by
        obtain ⟨k, hk, rfl⟩ := mem_rangeD hd
        rfl) (fun d hd => by
        obtain ⟨k, hk, rfl⟩ := mem_rangeD hd
        refine eOp_e rfl rfl ?_
        show L2.atI (r.map D.int) (0 + (k : Int)) = some (D.int (r.getD (0 + (k : Int)).toNat 0))
        rw [Int.zero_add, atI_nat, Int.toNat_natCast, List.getElem?_map, List.getElem?_eq_getElem hk, List.getD_eq_getElem?_getD, List.getElem?_eq_getElem hk]; rfl) (by
        rw [← sett_fill r hl]
        refine congrArg (dicFill []) (List.map_congr_left fun d hd => ?_)
        obtain ⟨k, hk, rfl⟩ := mem_rangeD hd
        rfl)
  have hb : b_as_settled [.fz (dRow r), .un] = some (.rt (.dic (sett r)), [.fz (dRow r), .un]) := xRet_e e
  exact mDef_e hb rfl rfl rfl
end DL

set_option Elab.async false
set_option linter.all false
set_option autoImplicit false
set_option maxRecDepth 100000
set_option maxHeartbeats 4000000
namespace DL
open PySem PySem.Spec PyProof.Rows L2
theorem xSetF_r {e : Ev} {i : Nat} {sd sd' sd2 : Sd} {d : D} {s : Slot} (h : e sd = some (d, sd')) (hs : sd'[i]? = some s) (n : isRf s = false) (hr : sd'.set i (.fz d) = sd2) : xSetF i e sd = some (.nx, sd2) := by
  rw [xSetF_e h hs n, hr]
/-- the wishes stand -/
structure OkC (n : Nat) (cs : List (List Int)) : Prop where
  n8 : n ≤ 8
  len : cs.length ≤ 200
  cl : ∀ c, c ∈ cs → c.length ≤ 200 ∧ ∀ w, w ∈ c → OkW n w
def unm (cs : List (List Int)) (r : List Int) : List Nat := (List.range cs.length).filter fun k => crossed r (cs.getD k [])
abbrev dNs (ks : List Nat) : List D := ks.map fun (k : Nat) => D.int (k : Int)
theorem getD_mem {cs : List (List Int)} {k : Nat} (h : k < cs.length) : cs.getD k [] ∈ cs := by
  rw [List.getD_eq_getElem?_getD, List.getElem?_eq_getElem h]
  exact List.getElem_mem h
theorem cl_at {cs : List (List Int)} {k : Nat} (h : k < cs.length) : ixD (dCl cs) (.int (0 + (k : Int))) = some (dRow (cs.getD k [])) := by
  show L2.atI (cs.map dRow) (0 + (k : Int)) = _
  rw [Int.zero_add, atI_nat, List.getElem?_map, List.getElem?_eq_getElem h, List.getD_eq_getElem?_getD, List.getElem?_eq_getElem h]
  rfl
theorem range_filter (n : Nat) (P : Nat → Bool) (Q : D → Bool) (h : ∀ k, k < n → Q (.int (0 + (k : Int))) = P k) : ((rangeD 0 n).filter Q).map (fun d => d) = dNs ((List.range n).filter P) := by
  rw [List.map_id']
  unfold rangeD dNs
  rw [List.filter_map]
  have : (List.range n).filter (Q ∘ fun (k : Nat) => D.int (0 + (k : Int))) = (List.range n).filter P := List.filter_congr fun k hk => h k (List.mem_range.mp hk)
  rw [this]
  exact List.map_congr_left fun k _ => by rw [Int.zero_add]
def qD (f : Nat → Bool) : D → Bool
  | .int i => f i.toNat
  | _ => false
theorem qD_at (f : Nat → Bool) (k : Nat) : qD f (.int (0 + (k : Int))) = f k := by
  show f (0 + (k : Int)).toNat = _
  rw [Int.zero_add, Int.toNat_natCast]
theorem unmet_ok {n : Nat} {cs : List (List Int)} {r : List Int} (h : OkC n cs) (hr : r.length = n) : m_unmet [.fz (dW n cs), .fz (dRow r)] = some (.lst (dNs (unm cs r)), [.fz (dW n cs), .fz (dRow r)]) := by
  have hs := settled_ok r (by have := h.n8; omega)
  have e1 : xSetF 2 (eCall m_as_settled (aCons (eV 1) aNil)) [.fz (dW n cs), .fz (dRow r), .un, .un] = some (.nx, [.fz (dW n cs), .fz (dRow r), .fz (.dic (sett r)), .un]) := xSetF_r (sd' := [.fz (dW n cs), .fz (dRow r), .un, .un]) (eCall_e (aCons_e rfl aNil_e) hs) rfl rfl rfl
  have e2 := comp1 (v := 3) (fi := iRange1 (aCons (eUn lenXD (eOp ixD (eV 0) (eC (.int 1)))) aNil)) (tt := tOf (eCall m_is_crossed (aCons (eOp ixD (eOp ixD (eV 0) (eC (.int 1))) (eV 3)) (aCons (eV 2) aNil)))) (te := eV 3)
    (sd := [.fz (dW n cs), .fz (dRow r), .fz (.dic (sett r)), .un]) (s := .un) (ds := rangeD 0 cs.length)
    (iRange1_e (eUn_e (eOp_e (f := dCl cs) rfl rfl rfl) (by show some (D.int ((cs.map dRow).length : Nat)) = _; rw [List.length_map])) (sz256 (by have := h.len; omega))) rfl rfl
    (qD fun k => crossed r (cs.getD k [])) (fun d => d) (fun d hd => by
      obtain ⟨k, hk, rfl⟩ := mem_rangeD hd
      rw [qD_at]
      have hc := h.cl _ (getD_mem hk)
      exact tOf_e (eCall_e (aCons_e (eOp_e (eOp_e (f := dCl cs) rfl rfl rfl) rfl (cl_at hk)) (aCons_e rfl aNil_e)) (crossed_ok (by rw [hr]; exact hc.2) hc.1))) (fun d _ _ => rfl) (by rw [rangeD_len]; exact sz1 (sz256 (by have := h.len; omega)))
  rw [range_filter cs.length (fun k => crossed r (cs.getD k [])) _ (fun k _ => qD_at _ k)] at e2
  have hb : b_unmet [.fz (dW n cs), .fz (dRow r), .un, .un] = some (.rt (.lst (dNs (unm cs r))), [.fz (dW n cs), .fz (dRow r), .fz (.dic (sett r)), .un]) := (xSeq_nx e1).trans (xRet_e e2)
  exact mDef_e hb rfl rfl rfl
/-! ### the law's own -/
theorem tIf_t {a b c : Tv} {sd sd' : Sd} (h : a sd = some (true, sd')) : tIfD a b c sd = b sd' := by rw [ev_tIfD, h]; rfl
theorem tIf_f {a b c : Tv} {sd sd' : Sd} (h : a sd = some (false, sd')) : tIfD a b c sd = c sd' := by rw [ev_tIfD, h]; rfl
def metD (r : List Int) : D → Bool
  | .int w => met r w
  | _ => false
theorem row_at {r : List Int} {k : Nat} (h : k < r.length) : ixD (dRow r) (.int (k : Int)) = some (.int (r.getD k 0)) := by
  show L2.atI (r.map D.int) (k : Int) = _
  rw [atI_nat, List.getElem?_map, List.getElem?_eq_getElem h, List.getD_eq_getElem?_getD, List.getElem?_eq_getElem h]
  rfl
theorem meets_ok {r c : List Int} (hc : ∀ w, w ∈ c → OkW r.length w) (hl : c.length ≤ 200) : m__law_meets [.fz (dRow c), .fz (dRow r)] = some (.bl (!crossed r c), [.fz (dRow c), .fz (dRow r)]) := by
  have e := comp1 (v := 2) (fi := iSeqX (eV 0)) (tt := tIfD (tOf (eOp gtD (eV 2) (eC (.int 0)))) (tOf (eOp eqD (eOp ixD (eV 1) (eOp subD (eV 2) (eC (.int 1)))) (eC (.int 1)))) (tOf (eOp eqD (eOp ixD (eV 1) (eOp subD (eOp subD (eC (.int 0)) (eV 2)) (eC (.int 1)))) (eC (.int 0))))) (te := eV 2)
    (sd := [.fz (dRow c), .fz (dRow r), .un]) (s := .un) (ds := c.map D.int) rfl rfl rfl (metD r) (fun d => d) (fun d hd => by
      obtain ⟨w, hw, rfl⟩ := List.mem_map.mp hd
      obtain ⟨h1, h2⟩ := hc w hw
      have hx := row_at (r := r) (k := w.natAbs - 1) (by omega)
      by_cases p : 0 < w
      · have ew : w - 1 = ((w.natAbs - 1 : Nat) : Int) := by omega
        have em : met r w = (r.getD (w.natAbs - 1) 0 == 1) := by unfold met; rw [if_pos p]
        refine (tIf_t (sd' := [.fz (dRow c), .fz (dRow r), .fz (.int w)]) (tOf_e (eOp_e rfl rfl (by rw [ev_gtI, decide_eq_true p])))).trans (tOf_e ?_)
        show _ = some (D.bl (met r w), _)
        rw [em]
        exact eOp_e (eOp_e rfl (eOp_e (f := .int ((w.natAbs - 1 : Nat) : Int)) rfl rfl (by rw [ev_subI, ew])) hx) rfl (ev_eqI _ _)
      · have ew : 0 - w - 1 = ((w.natAbs - 1 : Nat) : Int) := by omega
        have em : met r w = (r.getD (w.natAbs - 1) 0 == 0) := by unfold met; rw [if_neg p]
        refine (tIf_f (sd' := [.fz (dRow c), .fz (dRow r), .fz (.int w)]) (tOf_e (eOp_e rfl rfl (by rw [ev_gtI, decide_eq_false p])))).trans (tOf_e ?_)
        show _ = some (D.bl (met r w), _)
        rw [em]
        exact eOp_e (eOp_e rfl (eOp_e (f := .int ((w.natAbs - 1 : Nat) : Int)) (eOp_e rfl rfl rfl) rfl (by rw [ev_subI, ew])) hx) rfl (ev_eqI _ _))
    (fun d _ _ => rfl) (by rw [List.length_map]; exact sz1 (sz256 (by omega)))
  rw [List.map_id', List.filter_map] at e
  have hb : b__law_meets [.fz (dRow c), .fz (dRow r), .un] = some (.rt (.bl (!crossed r c)), [.fz (dRow c), .fz (dRow r), .un]) := by
    refine xRet_e (eOp_e (eUn_e e (ev_lenL _)) rfl ?_)
    rw [ev_gtI, List.length_map]
    refine congrArg (fun b => some (D.bl b)) ?_
    unfold crossed
    cases hh : (c.all fun w => !met r w) with
    | true =>
      have : c.filter (metD r ∘ D.int) = [] := List.filter_eq_nil_iff.mpr fun w hw z => by
        have := List.all_eq_true.mp hh w hw
        have z : met r w = true := z
        rw [z] at this
        cases this
      rw [this]
      rfl
    | false =>
      obtain ⟨w, hw, q⟩ := List.all_eq_false.mp hh
      have hm : w ∈ c.filter (metD r ∘ D.int) := List.mem_filter.mpr ⟨hw, by
        show met r w = true
        simpa using q⟩
      have := List.length_pos_of_mem hm
      rw [decide_eq_true (show (0 : Int) < ((c.filter (metD r ∘ D.int)).length : Int) by omega)]
      rfl
  exact mDef_e hb rfl rfl rfl
theorem law_unmet_ok {n : Nat} {cs : List (List Int)} {r : List Int} (h : OkC n cs) (hr : r.length = n) : m__law_unmet [.fz (dW n cs), .fz (dRow r)] = some (.lst (dNs (unm cs r)), [.fz (dW n cs), .fz (dRow r)]) := by
  have e2 := comp1 (v := 2) (fi := iRange1 (aCons (eUn lenXD (eOp ixD (eV 0) (eC (.int 1)))) aNil)) (tt := tNotD (tOf (eCall m__law_meets (aCons (eOp ixD (eOp ixD (eV 0) (eC (.int 1))) (eV 2)) (aCons (eV 1) aNil))))) (te := eV 2)
    (sd := [.fz (dW n cs), .fz (dRow r), .un]) (s := .un) (ds := rangeD 0 cs.length)
    (iRange1_e (eUn_e (eOp_e (f := dCl cs) rfl rfl rfl) (by show some (D.int ((cs.map dRow).length : Nat)) = _; rw [List.length_map])) (sz256 (by have := h.len; omega))) rfl rfl
    (qD fun k => crossed r (cs.getD k [])) (fun d => d) (fun d hd => by
      obtain ⟨k, hk, rfl⟩ := mem_rangeD hd
      rw [qD_at]
      have hc := h.cl _ (getD_mem hk)
      have := tNot_e (tOf_e (eCall_e (a := aCons (eOp ixD (eOp ixD (eV 0) (eC (.int 1))) (eV 2)) (aCons (eV 1) aNil)) (sd := [.fz (dW n cs), .fz (dRow r), .fz (.int (0 + (k : Int)))]) (aCons_e (eOp_e (eOp_e (f := dCl cs) rfl rfl rfl) rfl (cl_at hk)) (aCons_e rfl aNil_e)) (meets_ok (by rw [hr]; exact hc.2) hc.1)))
      rw [Bool.not_not] at this
      exact this) (fun d _ _ => rfl) (by rw [rangeD_len]; exact sz1 (sz256 (by have := h.len; omega)))
  rw [range_filter cs.length (fun k => crossed r (cs.getD k [])) _ (fun k _ => qD_at _ k)] at e2
  have hb : b__law_unmet [.fz (dW n cs), .fz (dRow r), .un] = some (.rt (.lst (dNs (unm cs r))), [.fz (dW n cs), .fz (dRow r), .un]) := xRet_e e2
  exact mDef_e hb rfl rfl rfl
/-! ### good rosters, fewest -/
def goods (n : Nat) (cs : List (List Int)) : List (List Int) := (ros n).filter fun r => (unm cs r).isEmpty
def goodD (cs : List (List Int)) : D → Bool
  | .tup ds => match intsD ds with
    | some r => (unm cs r).isEmpty
    | none => false
  | _ => false
theorem goodD_row (cs : List (List Int)) (r : List Int) : goodD cs (dRow r) = (unm cs r).isEmpty := by
  show (match intsD (r.map D.int) with
    | some r => (unm cs r).isEmpty
    | none => false) = _
  rw [intsD_map]
theorem goods_D (n : Nat) (cs : List (List Int)) : ((stepD n).filter (goodD cs)).map (fun d => d) = (goods n cs).map dRow := by
  rw [List.map_id']
  unfold stepD goods
  rw [List.filter_map]
  exact congrArg (List.map dRow) (List.filter_congr fun r _ => goodD_row cs r)
theorem mem_stepD {n : Nat} {d : D} (h : d ∈ stepD n) : ∃ r, r ∈ ros n ∧ d = dRow r := by
  obtain ⟨r, hr, rfl⟩ := List.mem_map.mp h
  exact ⟨r, hr, rfl⟩
theorem stepD_sz {n : Nat} (h : n ≤ 8) : (stepD n).length ≤ szl + 1 := by
  unfold stepD
  rw [List.length_map]
  exact sz1 (ros_sz h)
theorem len_zero (ks : List Nat) : ((((dNs ks).length : Nat) : Int) == 0) = ks.isEmpty := by
  unfold dNs
  rw [List.length_map]
  cases ks with
  | nil => rfl
  | cons a l => simp; omega
theorem good_ok {n : Nat} {cs : List (List Int)} (h : OkC n cs) : m_good_rosters [.fz (dW n cs)] = some (.lst ((goods n cs).map dRow), [.fz (dW n cs)]) := by
  have e := comp1 (v := 1) (fi := iSeqX (eCall m_all_rosters (aCons (eOp ixD (eV 0) (eC (.int 0))) aNil))) (tt := tOf (eOp eqD (eUn lenXD (eCall m_unmet (aCons (eV 0) (aCons (eV 1) aNil)))) (eC (.int 0)))) (te := eV 1)
    (sd := [.fz (dW n cs), .un]) (s := .un) (ds := stepD n) (by
      have q : eCall m_all_rosters (aCons (eOp ixD (eV 0) (eC (.int 0))) aNil) [.fz (dW n cs), .un] = some (.lst (stepD n), [.fz (dW n cs), .un]) := eCall_e (aCons_e (eOp_e (f := .int (n : Int)) rfl rfl rfl) aNil_e) (all_ok h.n8)
      rw [ev_iSeqX, q]; rfl) rfl rfl (goodD cs) (fun d => d) (fun d hd => by
      obtain ⟨r, hr, rfl⟩ := mem_stepD hd
      have q : eCall m_unmet (aCons (eV 0) (aCons (eV 1) aNil)) [.fz (dW n cs), .fz (dRow r)] = some (.lst (dNs (unm cs r)), [.fz (dW n cs), .fz (dRow r)]) := eCall_e (aCons_e rfl (aCons_e rfl aNil_e)) (unmet_ok h (ros_row hr).1)
      rw [goodD_row, ← len_zero]
      exact tOf_e (eOp_e (eUn_e q (ev_lenL _)) rfl (ev_eqI _ _))) (fun d _ _ => rfl) (stepD_sz h.n8)
  rw [goods_D] at e
  have hb : b_good_rosters [.fz (dW n cs), .un] = some (.rt (.lst ((goods n cs).map dRow)), [.fz (dW n cs), .un]) := xRet_e e
  exact mDef_e hb rfl rfl rfl
theorem rosters_ok {n : Nat} {cs : List (List Int)} (h : OkC n cs) : m_rosters [.fz (dW n cs)] = some (.int ((goods n cs).length : Nat), [.fz (dW n cs)]) := by
  have q : eCall m_good_rosters (aCons (eV 0) aNil) [.fz (dW n cs)] = some (.lst ((goods n cs).map dRow), [.fz (dW n cs)]) := eCall_e (aCons_e rfl aNil_e) (good_ok h)
  have hb : b_rosters [.fz (dW n cs)] = some (.rt (.int ((goods n cs).length : Nat)), [.fz (dW n cs)]) := xRet_e (eUn_e q (by rw [ev_lenL, List.length_map]))
  exact mDef_e hb rfl rfl rfl
def few (n : Nat) (cs : List (List Int)) : Int := minI ((ros n).map fun r => ((unm cs r).length : Int))
def cntD (cs : List (List Int)) : D → D
  | .tup ds => match intsD ds with
    | some r => .int ((unm cs r).length : Int)
    | none => .non
  | _ => .non
theorem cntD_row (cs : List (List Int)) (r : List Int) : cntD cs (dRow r) = .int ((unm cs r).length : Int) := by
  show (match intsD (r.map D.int) with
    | some r => D.int ((unm cs r).length : Int)
    | none => .non) = _
  rw [intsD_map]
theorem ros_ne (n : Nat) : ros n ≠ [] := fun h => by
  have := ros_len n
  rw [h] at this
  have h2 : 0 < 2 ^ n := Nat.pos_of_ne_zero (by simp)
  simp at this
  omega
theorem min_cnt (n : Nat) (cs : List (List Int)) : minD (.lst ((stepD n).map (cntD cs))) = some (.int (few n cs)) := by
  have e : (stepD n).map (cntD cs) = ((ros n).map fun r => ((unm cs r).length : Int)).map D.int := by
    unfold stepD
    rw [List.map_map, List.map_map]
    exact List.map_congr_left fun r _ => cntD_row cs r
  show ((intsD _).bind _) = _
  rw [e, intsD_map, Option.bind_some, if_neg (fun z => ros_ne n (List.map_eq_nil_iff.mp z))]
  rfl
theorem fewest_ok {n : Nat} {cs : List (List Int)} (h : OkC n cs) : m_fewest_unmet [.fz (dW n cs)] = some (.int (few n cs), [.fz (dW n cs)]) := by
  have e := comp1 (v := 1) (fi := iSeqX (eCall m_all_rosters (aCons (eOp ixD (eV 0) (eC (.int 0))) aNil))) (tt := tYesD) (te := eUn lenXD (eCall m_unmet (aCons (eV 0) (aCons (eV 1) aNil))))
    (sd := [.fz (dW n cs), .un]) (s := .un) (ds := stepD n) (by
      have q : eCall m_all_rosters (aCons (eOp ixD (eV 0) (eC (.int 0))) aNil) [.fz (dW n cs), .un] = some (.lst (stepD n), [.fz (dW n cs), .un]) := eCall_e (aCons_e (eOp_e (f := .int (n : Int)) rfl rfl rfl) aNil_e) (all_ok h.n8)
      rw [ev_iSeqX, q]; rfl) rfl rfl (fun _ => true) (cntD cs) (fun d _ => rfl) (fun d hd _ => by
      obtain ⟨r, hr, rfl⟩ := mem_stepD hd
      have q : eCall m_unmet (aCons (eV 0) (aCons (eV 1) aNil)) [.fz (dW n cs), .fz (dRow r)] = some (.lst (dNs (unm cs r)), [.fz (dW n cs), .fz (dRow r)]) := eCall_e (aCons_e rfl (aCons_e rfl aNil_e)) (unmet_ok h (ros_row hr).1)
      rw [cntD_row]
      exact eUn_e q (by rw [ev_lenL]; unfold dNs; rw [List.length_map])) (stepD_sz h.n8)
  rw [List.filter_eq_self.mpr (fun _ _ => rfl)] at e
  have hb : b_fewest_unmet [.fz (dW n cs), .un] = some (.rt (.int (few n cs)), [.fz (dW n cs), .un]) := xRet_e (eUn_e e (min_cnt n cs))
  exact mDef_e hb rfl rfl rfl
end DL

set_option Elab.async false
set_option linter.all false
set_option autoImplicit false
set_option maxRecDepth 100000
set_option maxHeartbeats 4000000
namespace DL
open PySem PySem.Spec PyProof.Rows L2
/-! ### sorted of ints -/
theorem all_ints : ∀ {l : List D}, (∀ d, d ∈ l → ∃ i, d = D.int i) → ∃ js : List Int, l = js.map D.int
  | [], _ => ⟨[], rfl⟩
  | d :: l, h => by
    obtain ⟨i, rfl⟩ := h d List.mem_cons_self
    obtain ⟨js, rfl⟩ := all_ints fun d hd => h d (List.mem_cons_of_mem _ hd)
    exact ⟨i :: js, rfl⟩
theorem sortOk_ints (is : List Int) : sortOk (is.map D.int) = true := by
  unfold sortOk
  rw [Bool.and_eq_true, Bool.and_eq_true]
  refine ⟨⟨?_, ?_⟩, ?_⟩
  · refine List.all_eq_true.mpr fun a ha => List.all_eq_true.mpr fun b hb => ?_
    obtain ⟨i, _, rfl⟩ := List.mem_map.mp ha
    obtain ⟨j, _, rfl⟩ := List.mem_map.mp hb
    rfl
  · rw [Bool.or_eq_true]
    refine .inr (List.all_eq_true.mpr fun a ha => ?_)
    obtain ⟨i, _, rfl⟩ := List.mem_map.mp ha
    rfl
  · refine List.all_eq_true.mpr fun a ha => ?_
    obtain ⟨i, _, rfl⟩ := List.mem_map.mp ha
    rfl
theorem sorted_ints (is : List Int) : ∃ js : List Int, sortXD (.lst (is.map D.int)) = some (.lst (js.map D.int)) ∧ js.length = is.length := by
  have hp := List.mergeSort_perm (is.map D.int) ordD
  obtain ⟨js, e⟩ := all_ints (l := sortL (is.map D.int)) fun d hd => by
    obtain ⟨i, _, rfl⟩ := List.mem_map.mp (hp.mem_iff.mp hd)
    exact ⟨i, rfl⟩
  refine ⟨js, ?_, ?_⟩
  · show (if sortOk (is.map D.int) = true then some (D.lst (sortL (is.map D.int))) else none) = _
    rw [if_pos (sortOk_ints is), e]
  · have := hp.length_eq
    have e2 : (sortL (is.map D.int)).length = (js.map D.int).length := by rw [e]
    rw [List.length_map] at e2 this
    rw [← e2]
    exact this
/-! ### what all have in common -/
def col (gs : List (List Int)) (p : Nat) : List Int := gs.map fun r => r.getD (p - 1) 0
def keepV (gs : List (List Int)) (p : Nat) : Option Int := match ddI (col gs p) with
  | [x] => some (if x == 1 then (p : Int) else -(p : Int))
  | _ => none
theorem xApp_e {i : Nat} {e : Ev} {sd sd2 : Sd} {acc : List D} {x : D} (h : e sd = some (x, sd)) (hs : sd[i]? = some (.ow (.lst acc))) (hl : acc.length ≤ szl) (h2 : sd.set i (.ow (.lst (acc ++ [x]))) = sd2) : xApp i e sd = some (.nx, sd2) := by
  unfold xApp ownLst
  rw [hs]
  show (if isLst (.lst acc) = true then _ else _) = _
  rw [if_pos (show isLst (.lst acc) = true from rfl), h, Option.bind_some]
  unfold upSlot
  rw [hs, Option.bind_some]
  show ((appD x (.lst acc)).map fun c' => sd.set i (.ow c')).map _ = _
  rw [show appD x (.lst acc) = some (.lst (acc ++ [x])) from if_pos hl, Option.map_some, Option.map_some, h2]
theorem eIf_t {c : Tv} {a b : Ev} {sd sd' : Sd} (h : c sd = some (true, sd')) : eIf c a b sd = a sd' := by rw [ev_eIf, h]; rfl
theorem eIf_f {c : Tv} {a b : Ev} {sd sd' : Sd} (h : c sd = some (false, sd')) : eIf c a b sd = b sd' := by rw [ev_eIf, h]; rfl
theorem col_comp {sd : Sd} {v j : Nat} {gs : List (List Int)} {n p : Nat} {rows : Ev} {pe : Ev} (hr : rows sd = some (.lst (gs.map dRow), sd)) (hv : sd[v]? = some .un) (hp : ∀ d, pe (sd.set v (.fz d)) = some (.int (p : Int), sd.set v (.fz d)))
    (hg : ∀ r, r ∈ gs → r.length = n) (h1 : 1 ≤ p) (h2 : p ≤ n) (hl : gs.length ≤ 300) : eComp [v] (iSeqX rows) (setF v) tYesD (eOp ixD (eV v) (eOp subD pe (eC (.int 1)))) sd = some (.lst ((col gs p).map D.int), sd) := by
  have hvl : v < sd.length := (List.getElem?_eq_some_iff.mp hv).1
  have e := comp1 (v := v) (fi := iSeqX rows) (tt := tYesD) (te := eOp ixD (eV v) (eOp subD pe (eC (.int 1)))) (sd := sd) (s := .un) (ds := gs.map dRow) (by rw [ev_iSeqX, hr]; rfl) hv rfl (fun _ => true) (fun d => match d with
    | .tup ds => (match intsD ds with
      | some r => D.int (r.getD (p - 1) 0)
      | none => .non)
    | _ => .non) (fun d _ => rfl) (fun d hd _ => by
      obtain ⟨r, hr, rfl⟩ := List.mem_map.mp hd
      have hx := row_at (r := r) (k := p - 1) (by rw [hg r hr]; omega)
      have e0 : ((p : Int) - 1) = ((p - 1 : Nat) : Int) := by omega
      show _ = some ((match intsD (r.map D.int) with
        | some r => D.int (r.getD (p - 1) 0)
        | none => .non), _)
      rw [intsD_map]
      exact eOp_e (eV_at (List.getElem?_set_self hvl)) (eOp_e (f := .int ((p - 1 : Nat) : Int)) (hp _) rfl (by rw [ev_subI, e0])) hx) (by rw [List.length_map]; exact sz1 (Nat.le_trans hl (by decide)))
  rw [List.filter_eq_self.mpr (fun _ _ => rfl)] at e
  rw [e]
  refine congrArg (fun z => some (D.lst z, sd)) ?_
  unfold col
  rw [List.map_map, List.map_map]
  refine List.map_congr_left fun r _ => ?_
  show (match intsD (r.map D.int) with
    | some r => D.int (r.getD (p - 1) 0)
    | none => .non) = _
  rw [intsD_map]
  rfl
theorem set_col (gs : List (List Int)) (p : Nat) (hl : gs.length ≤ 300) : setOfD (.lst ((col gs p).map D.int)) = some (.set ((ddI (col gs p)).map D.int)) := by
  show ((intsD _).bind _) = _
  rw [intsD_map, Option.bind_some, if_pos]
  unfold col scanBound
  rw [List.length_map]
  omega
theorem len_set (is : List Int) : lenXD (.set (is.map D.int)) = some (.int (is.length : Nat)) := by
  show (intsD _).map _ = _
  rw [intsD_map]; rfl
theorem one_len {is : List Int} (h : (((is.length : Nat) : Int) == 1) = true) : ∃ x, is = [x] := by
  have : is.length = 1 := by
    have := eq_of_beq h
    omega
  match is, this with
  | [x], _ => exact ⟨x, rfl⟩
theorem keep_one {gs : List (List Int)} {p : Nat} {x : Int} (h : ddI (col gs p) = [x]) : keepV gs p = some (if x == 1 then (p : Int) else -(p : Int)) := by
  unfold keepV
  rw [h]
theorem keep_not {gs : List (List Int)} {p : Nat} (h : ((((ddI (col gs p)).length : Nat) : Int) == 1) = false) : keepV gs p = none := by
  unfold keepV
  split
  · rename_i x e
    rw [e] at h
    cases h
  · rfl
theorem keep_head {g : List Int} {gs : List (List Int)} {p : Nat} {x : Int} (h : ddI (col (g :: gs) p) = [x]) : g.getD (p - 1) 0 = x := by
  have : g.getD (p - 1) 0 ∈ ddI (col (g :: gs) p) := mem_ddI.mpr (List.mem_cons_self (a := g.getD (p - 1) 0))
  rw [h] at this
  exact List.mem_singleton.mp this
def b_al : Xv := (xSeq (xSetF 4 (eUn setOfD (eComp [5] (iSeqX (eV 1)) (setF 5) tYesD (eOp ixD (eV 5) (eOp subD (eV 3) (eC (.int 1)))))))
  (xIf (tOf (eOp eqD (eUn lenXD (eV 4)) (eC (.int 1)))) (xApp 2 (eIf (tOf (eOp eqD (eOp ixD (eOp ixD (eV 1) (eC (.int 0))) (eOp subD (eV 3) (eC (.int 1)))) (eC (.int 1)))) (eV 3) (eUn negD (eV 3)))) xNext))
theorem al_step {W : D} {gs : List (List Int)} {n p : Nat} {acc : List Int} {s4 : Slot} (h4 : isRf s4 = false) (hg : ∀ r, r ∈ gs → r.length = n) (h1 : 1 ≤ p) (h2 : p ≤ n) (hl : gs.length ≤ 300) (ha : acc.length ≤ 300) :
    ∃ s4' : Slot, isRf s4' = false ∧ b_al [.fz W, .fz (.lst (gs.map dRow)), .ow (.lst (acc.map D.int)), .fz (.int (p : Int)), s4, .un] = some (.nx, [.fz W, .fz (.lst (gs.map dRow)), .ow (.lst ((acc ++ (keepV gs p).toList).map D.int)), .fz (.int (p : Int)), s4', .un]) := by
  have ec := col_comp (sd := [.fz W, .fz (.lst (gs.map dRow)), .ow (.lst (acc.map D.int)), .fz (.int (p : Int)), s4, .un]) (v := 5) (j := 0) (gs := gs) (n := n) (p := p) (rows := eV 1) (pe := eV 3) rfl rfl (fun d => rfl) hg h1 h2 hl
  have e1 : xSetF 4 (eUn setOfD (eComp [5] (iSeqX (eV 1)) (setF 5) tYesD (eOp ixD (eV 5) (eOp subD (eV 3) (eC (.int 1)))))) [.fz W, .fz (.lst (gs.map dRow)), .ow (.lst (acc.map D.int)), .fz (.int (p : Int)), s4, .un] =
      some (.nx, [.fz W, .fz (.lst (gs.map dRow)), .ow (.lst (acc.map D.int)), .fz (.int (p : Int)), .fz (.set ((ddI (col gs p)).map D.int)), .un]) := xSetF_r (eUn_e ec (set_col gs p hl)) rfl h4 rfl
  refine ⟨.fz (.set ((ddI (col gs p)).map D.int)), rfl, ?_⟩
  unfold b_al
  refine (xSeq_nx e1).trans ?_
  have et : tOf (eOp eqD (eUn lenXD (eV 4)) (eC (.int 1))) [.fz W, .fz (.lst (gs.map dRow)), .ow (.lst (acc.map D.int)), .fz (.int (p : Int)), .fz (.set ((ddI (col gs p)).map D.int)), .un] =
      some (((((ddI (col gs p)).length : Nat) : Int) == 1), [.fz W, .fz (.lst (gs.map dRow)), .ow (.lst (acc.map D.int)), .fz (.int (p : Int)), .fz (.set ((ddI (col gs p)).map D.int)), .un]) := tOf_e (eOp_e (eUn_e rfl (len_set _)) rfl (ev_eqI _ _))
  cases hb : ((((ddI (col gs p)).length : Nat) : Int) == 1) with
  | false =>
    rw [hb] at et
    rw [xIf_f et, keep_not hb]
    rw [Option.toList_none, List.append_nil]
    rfl
  | true =>
    rw [hb] at et
    rw [xIf_t et]
    obtain ⟨x, hx⟩ := one_len hb
    rw [keep_one hx]
    cases gs with
    | nil => cases hx
    | cons g gs =>
      have hh := keep_head hx
      have hix := row_at (r := g) (k := p - 1) (by rw [hg g List.mem_cons_self]; omega)
      rw [hh] at hix
      have e0 : ((p : Int) - 1) = ((p - 1 : Nat) : Int) := by omega
      have et2 : tOf (eOp eqD (eOp ixD (eOp ixD (eV 1) (eC (.int 0))) (eOp subD (eV 3) (eC (.int 1)))) (eC (.int 1))) [.fz W, .fz (.lst ((g :: gs).map dRow)), .ow (.lst (acc.map D.int)), .fz (.int (p : Int)), .fz (.set ((ddI (col (g :: gs) p)).map D.int)), .un] =
          some ((x == 1), [.fz W, .fz (.lst ((g :: gs).map dRow)), .ow (.lst (acc.map D.int)), .fz (.int (p : Int)), .fz (.set ((ddI (col (g :: gs) p)).map D.int)), .un]) :=
        tOf_e (eOp_e (eOp_e (eOp_e (f := dRow g) rfl rfl (atI_nat ((g :: gs).map dRow) 0)) (eOp_e (f := .int ((p - 1 : Nat) : Int)) rfl rfl (by rw [ev_subI, e0])) hix) rfl (ev_eqI _ _))
      refine xApp_e (x := .int (if x == 1 then (p : Int) else -(p : Int))) (acc := acc.map D.int) ?_ rfl (by rw [List.length_map]; exact Nat.le_trans ha (by decide)) (by rw [Option.toList_some, List.map_append]; rfl)
      cases hc : (x == 1) with
      | true =>
        rw [hc] at et2
        rw [eIf_t et2]
        rfl
      | false =>
        rw [hc] at et2
        rw [eIf_f et2]
        rfl
theorem al_loop {W : D} {gs : List (List Int)} {n : Nat} (hg : ∀ r, r ∈ gs → r.length = n) (hl : gs.length ≤ 300) : ∀ (m k : Nat) (acc : List Int) (s3 s4 : Slot), isRf s3 = false → isRf s4 = false → k + m ≤ n → acc.length + m ≤ 300 → ∃ s3' s4' : Slot,
    xLoop (setF 3) b_al ((List.range' (k + 1) m).map fun (p : Nat) => D.int (p : Int)) [.fz W, .fz (.lst (gs.map dRow)), .ow (.lst (acc.map D.int)), s3, s4, .un] =
      some (.nx, [.fz W, .fz (.lst (gs.map dRow)), .ow (.lst ((acc ++ (List.range' (k + 1) m).filterMap (keepV gs)).map D.int)), s3', s4', .un])
  | 0, k, acc, s3, s4, _, _, _, _ => ⟨s3, s4, by rw [List.range'_zero, List.filterMap_nil, List.append_nil]; rfl⟩
  | m + 1, k, acc, s3, s4, h3, h4, hk, ha => by
    obtain ⟨t4, q4, e1⟩ := al_step (W := W) (gs := gs) (n := n) (p := k + 1) (acc := acc) (s4 := s4) h4 hg (by omega) (by omega) hl (by omega)
    have hlen : (acc ++ (keepV gs (k + 1)).toList).length + m ≤ 300 := by
      rw [List.length_append]
      have : (keepV gs (k + 1)).toList.length ≤ 1 := by cases keepV gs (k + 1) <;> simp
      omega
    obtain ⟨a, b, e⟩ := al_loop (W := W) hg hl m (k + 1) (acc ++ (keepV gs (k + 1)).toList) (.fz (.int ((k + 1 : Nat) : Int))) t4 rfl q4 (by omega) hlen
    refine ⟨a, b, ?_⟩
    rw [List.range'_succ, List.map_cons, xLoop, setF_at (s := s3) rfl h3, Option.bind_some]
    show ((b_al [.fz W, .fz (.lst (gs.map dRow)), .ow (.lst (acc.map D.int)), .fz (.int ((k + 1 : Nat) : Int)), s4, .un]).bind _) = _
    rw [e1, Option.bind_some]
    simp only []
    rw [e, List.append_assoc]
    refine congrArg (fun z => some (Fl.nx, [Slot.fz W, Slot.fz (.lst (gs.map dRow)), Slot.ow (.lst ((acc ++ z).map D.int)), a, b, Slot.un])) ?_
    rw [List.filterMap_cons]
    cases keepV gs (k + 1) <;> rfl
theorem range1 (n : Nat) : rangeD 1 n = (List.range' (0 + 1) n).map fun (p : Nat) => D.int (p : Int) := by
  unfold rangeD
  rw [List.range'_eq_map_range, List.map_map]
  refine List.map_congr_left fun k _ => ?_
  show D.int (1 + (k : Int)) = D.int ((0 + 1 + k : Nat) : Int)
  exact congrArg D.int (by omega)
def com (n : Nat) (cs : List (List Int)) : List Int := (List.range' (0 + 1) n).filterMap (keepV (goods n cs))
theorem goods_len {n : Nat} {cs : List (List Int)} (h : OkC n cs) : (goods n cs).length ≤ 300 := by
  unfold goods
  have h1 := List.length_filter_le (fun r => (unm cs r).isEmpty) (ros n)
  have h2 := pow_small h.n8
  rw [ros_len] at h1
  omega
theorem goods_row {n : Nat} {cs : List (List Int)} : ∀ r, r ∈ goods n cs → r.length = n := fun r hr => (ros_row (List.mem_filter.mp hr).1).1
theorem always_ok {n : Nat} {cs : List (List Int)} (h : OkC n cs) {js : List Int} (hj : sortXD (.lst ((com n cs).map D.int)) = some (.lst (js.map D.int))) : m_always [.fz (dW n cs)] = some (.lst (js.map D.int), [.fz (dW n cs)]) := by
  have e1 : xSetF 1 (eCall m_good_rosters (aCons (eV 0) aNil)) [.fz (dW n cs), .un, .un, .un, .un, .un] = some (.nx, [.fz (dW n cs), .fz (.lst ((goods n cs).map dRow)), .un, .un, .un, .un]) :=
    xSetF_r (sd' := [.fz (dW n cs), .un, .un, .un, .un, .un]) (eCall_e (aCons_e rfl aNil_e) (good_ok h)) rfl rfl rfl
  have e2 : xSetO 2 (eLst aNil) [.fz (dW n cs), .fz (.lst ((goods n cs).map dRow)), .un, .un, .un, .un] = some (.nx, [.fz (dW n cs), .fz (.lst ((goods n cs).map dRow)), .ow (.lst (([] : List Int).map D.int)), .un, .un, .un]) := rfl
  obtain ⟨a, b, e3⟩ := al_loop (W := dW n cs) (gs := goods n cs) (n := n) goods_row (goods_len h) n 0 [] .un .un rfl rfl (by omega) (by have := h.n8; simp; omega)
  rw [← range1] at e3
  have er : iRange2 (aCons (eC (.int 1)) (aCons (eOp addD (eOp ixD (eV 0) (eC (.int 0))) (eC (.int 1))) aNil)) [.fz (dW n cs), .fz (.lst ((goods n cs).map dRow)), .ow (.lst (([] : List Int).map D.int)), .un, .un, .un] = some (rangeD 1 n, [.fz (dW n cs), .fz (.lst ((goods n cs).map dRow)), .ow (.lst (([] : List Int).map D.int)), .un, .un, .un]) := by
    have hb : big ((n : Int) + 1) = true := big_len (n := n + 1) (sz256 (by have := h.n8; omega))
    have := iRange2_e (e := eC (.int 1)) (f := eOp addD (eOp ixD (eV 0) (eC (.int 0))) (eC (.int 1))) (sd := [.fz (dW n cs), .fz (.lst ((goods n cs).map dRow)), .ow (.lst (([] : List Int).map D.int)), .un, .un, .un]) (hi := (n : Int) + 1) rfl (eOp_e (eOp_e (f := .int (n : Int)) rfl rfl rfl) rfl rfl) (by decide) hb
    rw [show ((n : Int) + 1 - 1).toNat = n by omega] at this
    exact this
  have hb : b_always [.fz (dW n cs), .un, .un, .un, .un, .un] = some (.rt (.lst (js.map D.int)), [.fz (dW n cs), .fz (.lst ((goods n cs).map dRow)), .ow (.lst ((com n cs).map D.int)), a, b, .un]) :=
    (xSeq_nx e1).trans ((xSeq_nx e2).trans ((xSeq_nx ((xFor_e er).trans e3)).trans (xRet_e (eUn_e rfl hj))))
  exact mDef_e hb rfl rfl rfl
end DL

set_option Elab.async false
set_option linter.all false
set_option autoImplicit false
set_option maxRecDepth 100000
set_option maxHeartbeats 4000000
namespace DL
open PySem PySem.Spec PyProof.Rows L2
/-! ### wishes, drawn -/
theorem draw_e {i : Nat} {sd : Sd} {e : Ev} {p : D} {many : Int} {s : Slot} (he : e sd = some (.int many, sd)) (hs : sd[i]? = some s) (ho : isOwn s = true) (hp : slotD s = some p) (ok : PoolOk p) (h1 : 0 < many) (h2 : many < 1073741824) :
    ∃ r p', eCallR m__law_draw i (arHead i (aCons e aNil)) sd = some (.int r, sd.set i (putD s p')) ∧ 0 ≤ r ∧ r < many ∧ PoolOk p' := by
  obtain ⟨r, p', hd, q1, q2, q3⟩ := draw_ok ok h1 h2
  refine ⟨r, p', ?_, q1, q2, q3⟩
  unfold eCallR arHead
  rw [hs]
  simp only [ho, if_true]
  rw [aCons_e he aNil_e]
  simp only [Option.map_some, Option.bind_some]
  rw [hs, Option.bind_some, hp, Option.bind_some]
  show ((m_draw [.rf p, .fz (.int many)]).bind _) = _
  rw [hd]
  rfl
theorem draw0 {e : Ev} {p : D} {many : Int} {r : Sd} (he : e (.rf p :: r) = some (.int many, .rf p :: r)) (ok : PoolOk p) (h1 : 0 < many) (h2 : many < 1073741824) :
    ∃ x p', eCallR m__law_draw 0 (arHead 0 (aCons e aNil)) (.rf p :: r) = some (.int x, .rf p' :: r) ∧ 0 ≤ x ∧ x < many ∧ PoolOk p' := draw_e (s := .rf p) he rfl rfl rfl ok h1 h2
def RowOk (n m : Nat) (row : List Int) : Prop := row.length ≤ m ∧ ∀ w, w ∈ row → OkW n w
abbrev b_in : Xv := (xIf (tAndD (tOf (eOp eqD (eCallR m__law_draw 0 (arHead 0 (aCons (eOp ixD (eTup (aCons (eC (.int 2)) (aCons (eC (.int 3)) aNil))) (eUn intD (eOp gtD (eV 1) (eC (.int 3))))) aNil))) (eC (.int 0)))) (tOf (eOp ltD (eUn lenXD (eVo 4)) (eOp ixD (eTup (aCons (eC (.int 2)) (aCons (eC (.int 3)) aNil))) (eCallR m__law_draw 0 (arHead 0 (aCons (eC (.int 2)) aNil))))))) (xApp 4 (eIf (tOf (eOp eqD (eCallR m__law_draw 0 (arHead 0 (aCons (eC (.int 2)) aNil))) (eC (.int 0)))) (eV 5) (eOp subD (eC (.int 0)) (eV 5)))) xNext)
theorem xApp_r {i : Nat} {e : Ev} {sd sd1 sd2 : Sd} {acc : List D} {x : D} (h : e sd = some (x, sd1)) (hs : sd[i]? = some (.ow (.lst acc))) (hs1 : sd1[i]? = some (.ow (.lst acc))) (hl : acc.length ≤ szl) (h2 : sd1.set i (.ow (.lst (acc ++ [x]))) = sd2) : xApp i e sd = some (.nx, sd2) := by
  unfold xApp ownLst
  rw [hs]
  show (if isLst (.lst acc) = true then _ else _) = _
  rw [if_pos (show isLst (.lst acc) = true from rfl), h, Option.bind_some]
  unfold upSlot
  simp only []
  rw [hs1, Option.bind_some]
  show ((appD x (.lst acc)).map fun c' => sd1.set i (.ow c')).map _ = _
  rw [show appD x (.lst acc) = some (.lst (acc ++ [x])) from if_pos hl, Option.map_some, Option.map_some, h2]
theorem pair_at (x : Int) (h0 : 0 ≤ x) (h1 : x < 2) : ∃ y, ixD (.tup [.int 2, .int 3]) (.int x) = some (.int y) := by
  have : x = 0 ∨ x = 1 := by omega
  rcases this with rfl | rfl
  · exact ⟨2, rfl⟩
  · exact ⟨3, rfl⟩
theorem in_step {n m : Nat} {p : D} {C s3 : Slot} {row : List Int} {q : Nat} (hp : PoolOk p) (hn : n ≤ 8) (h1 : 1 ≤ q) (h2 : q ≤ n) (hr : RowOk n m row) (hm : m ≤ 100) :
    ∃ (p' : D) (row' : List Int), b_in [.rf p, .fz (.int (n : Int)), C, s3, .ow (.lst (row.map D.int)), .fz (.int (q : Int))] = some (.nx, [.rf p', .fz (.int (n : Int)), C, s3, .ow (.lst (row'.map D.int)), .fz (.int (q : Int))]) ∧ PoolOk p' ∧ RowOk n (m + 1) row' := by
  obtain ⟨many, he, hm1, hm2⟩ : ∃ many : Int, eOp ixD (eTup (aCons (eC (.int 2)) (aCons (eC (.int 3)) aNil))) (eUn intD (eOp gtD (eV 1) (eC (.int 3)))) [.rf p, .fz (.int (n : Int)), C, s3, .ow (.lst (row.map D.int)), .fz (.int (q : Int))] = some (.int many, [.rf p, .fz (.int (n : Int)), C, s3, .ow (.lst (row.map D.int)), .fz (.int (q : Int))]) ∧ 0 < many ∧ many < 1073741824 := by
    have e3 : eOp gtD (eV 1) (eC (.int 3)) [.rf p, .fz (.int (n : Int)), C, s3, .ow (.lst (row.map D.int)), .fz (.int (q : Int))] = some (.bl (decide ((3 : Int) < n)), [.rf p, .fz (.int (n : Int)), C, s3, .ow (.lst (row.map D.int)), .fz (.int (q : Int))]) := rfl
    by_cases c : (3 : Int) < n
    · rw [decide_eq_true c] at e3
      exact ⟨3, eOp_e (d := .tup [.int 2, .int 3]) rfl (eUn_e e3 rfl) rfl, by decide, by decide⟩
    · rw [decide_eq_false c] at e3
      exact ⟨2, eOp_e (d := .tup [.int 2, .int 3]) rfl (eUn_e e3 rfl) rfl, by decide, by decide⟩
  obtain ⟨x1, p1, d1, _, _, ok1⟩ := draw0 he hp hm1 hm2
  have t1 := tOf_e (eOp_e (g := eqD) d1 (b := eC (.int 0)) rfl (ev_eqI _ _))
  cases hc : (x1 == 0) with
  | false =>
    rw [hc] at t1
    refine ⟨p1, row, ?_, ok1, by have := hr.1; exact ⟨by omega, hr.2⟩⟩
    exact (xIf_f (tAnd_f t1)).trans rfl
  | true =>
    rw [hc] at t1
    obtain ⟨x2, p2, d2, q0, q1, ok2⟩ := draw0 (e := eC (.int 2)) (p := p1) (r := [.fz (.int (n : Int)), C, s3, .ow (.lst (row.map D.int)), .fz (.int (q : Int))]) (many := 2) rfl ok1 (by decide) (by decide)
    obtain ⟨y, hy⟩ := pair_at x2 q0 q1
    have t2 : tOf (eOp ltD (eUn lenXD (eVo 4)) (eOp ixD (eTup (aCons (eC (.int 2)) (aCons (eC (.int 3)) aNil))) (eCallR m__law_draw 0 (arHead 0 (aCons (eC (.int 2)) aNil))))) [.rf p1, .fz (.int (n : Int)), C, s3, .ow (.lst (row.map D.int)), .fz (.int (q : Int))] =
        some (decide (((row.map D.int).length : Int) < y), [.rf p2, .fz (.int (n : Int)), C, s3, .ow (.lst (row.map D.int)), .fz (.int (q : Int))]) :=
      tOf_e (eOp_e (eUn_e (d := .lst (row.map D.int)) rfl (ev_lenL _)) (eOp_e (d := .tup [.int 2, .int 3]) rfl d2 hy) (ev_ltI _ _))
    cases hc2 : decide (((row.map D.int).length : Int) < y) with
    | false =>
      rw [hc2] at t2
      refine ⟨p2, row, ?_, ok2, by have := hr.1; exact ⟨by omega, hr.2⟩⟩
      exact (xIf_f ((tAnd_t t1).trans t2)).trans rfl
    | true =>
      rw [hc2] at t2
      obtain ⟨x3, p3, d3, _, _, ok3⟩ := draw0 (e := eC (.int 2)) (p := p2) (r := [.fz (.int (n : Int)), C, s3, .ow (.lst (row.map D.int)), .fz (.int (q : Int))]) (many := 2) rfl ok2 (by decide) (by decide)
      have t3 := tOf_e (eOp_e (g := eqD) d3 (b := eC (.int 0)) rfl (ev_eqI _ _))
      have hlen : (row.map D.int).length ≤ szl := by rw [List.length_map]; exact sz256 (by have := hr.1; omega)
      have rok : ∀ z : Int, z.natAbs = q → RowOk n (m + 1) (row ++ [z]) := fun z hz => ⟨by rw [List.length_append, List.length_singleton]; have := hr.1; omega, fun w hw => by
        rcases List.mem_append.mp hw with hw | hw
        · exact hr.2 w hw
        · rw [List.mem_singleton.mp hw]
          exact ⟨by omega, by omega⟩⟩
      cases hc3 : (x3 == 0) with
      | true =>
        rw [hc3] at t3
        refine ⟨p3, row ++ [(q : Int)], ?_, ok3, rok _ (by omega)⟩
        refine (xIf_t ((tAnd_t t1).trans t2)).trans ?_
        exact xApp_r (x := .int (q : Int)) (sd1 := [.rf p3, .fz (.int (n : Int)), C, s3, .ow (.lst (row.map D.int)), .fz (.int (q : Int))]) ((eIf_t t3).trans rfl) rfl rfl hlen (by rw [List.map_append]; rfl)
      | false =>
        rw [hc3] at t3
        refine ⟨p3, row ++ [0 - (q : Int)], ?_, ok3, rok _ (by omega)⟩
        refine (xIf_t ((tAnd_t t1).trans t2)).trans ?_
        exact xApp_r (x := .int (0 - (q : Int))) (sd1 := [.rf p3, .fz (.int (n : Int)), C, s3, .ow (.lst (row.map D.int)), .fz (.int (q : Int))]) ((eIf_f t3).trans rfl) rfl rfl hlen (by rw [List.map_append]; rfl)
theorem in_loop {n : Nat} {C s3 : Slot} (hn : n ≤ 8) : ∀ (j k m : Nat) (p : D) (row : List Int) (s5 : Slot), PoolOk p → isRf s5 = false → k + j ≤ n → RowOk n m row → m + j ≤ 100 → ∃ (p' : D) (row' : List Int) (s5' : Slot),
    xLoop (setF 5) b_in ((List.range' (k + 1) j).map fun (q : Nat) => D.int (q : Int)) [.rf p, .fz (.int (n : Int)), C, s3, .ow (.lst (row.map D.int)), s5] = some (.nx, [.rf p', .fz (.int (n : Int)), C, s3, .ow (.lst (row'.map D.int)), s5']) ∧ PoolOk p' ∧ RowOk n (m + j) row' ∧ isRf s5' = false
  | 0, k, m, p, row, s5, hp, h5, _, hr, _ => ⟨p, row, s5, rfl, hp, hr, h5⟩
  | j + 1, k, m, p, row, s5, hp, h5, hk, hr, hm => by
    obtain ⟨p1, row1, e1, ok1, r1⟩ := in_step (C := C) (s3 := s3) (q := k + 1) hp hn (by omega) (by omega) hr (by omega)
    obtain ⟨p2, row2, s, e2, ok2, r2, hs⟩ := in_loop (C := C) (s3 := s3) hn j (k + 1) (m + 1) p1 row1 (.fz (.int ((k + 1 : Nat) : Int))) ok1 rfl (by omega) r1 (by omega)
    refine ⟨p2, row2, s, ?_, ok2, by rw [show m + (j + 1) = m + 1 + j by omega]; exact r2, hs⟩
    rw [List.range'_succ, List.map_cons, xLoop, setF_at (s := s5) rfl h5, Option.bind_some]
    show ((b_in [.rf p, .fz (.int (n : Int)), C, s3, .ow (.lst (row.map D.int)), .fz (.int ((k + 1 : Nat) : Int))]).bind _) = _
    rw [e1, Option.bind_some]
    exact e2
abbrev b_out : Xv := (xSeq (xSetO 4 (eLst aNil))
  (xSeq (xFor (iRange2 (aCons (eC (.int 1)) (aCons (eOp addD (eV 1) (eC (.int 1))) aNil))) (setF 5) b_in)
  (xApp 2 (eIf (tOf (eOp neD (eVo 4) (eLst aNil))) (eUn tupleD (eVo 4)) (eTup (aCons (eOp addD (eC (.int 1)) (eCallR m__law_draw 0 (arHead 0 (aCons (eV 1) aNil)))) aNil))))))
theorem out_step {n : Nat} {p : D} {s3 s4 s5 : Slot} {cs : List (List Int)} (hp : PoolOk p) (hn1 : 1 ≤ n) (hn : n ≤ 8) (h4 : isRf s4 = false) (h5 : isRf s5 = false) (hcs : cs.length ≤ 100) :
    ∃ (p' : D) (c : List Int) (s4' s5' : Slot), b_out [.rf p, .fz (.int (n : Int)), .ow (.lst (cs.map dRow)), s3, s4, s5] = some (.nx, [.rf p', .fz (.int (n : Int)), .ow (.lst ((cs ++ [c]).map dRow)), s3, s4', s5']) ∧ PoolOk p' ∧ RowOk n 100 c ∧ isRf s4' = false ∧ isRf s5' = false := by
  have e1 : xSetO 4 (eLst aNil) [.rf p, .fz (.int (n : Int)), .ow (.lst (cs.map dRow)), s3, s4, s5] = some (.nx, [.rf p, .fz (.int (n : Int)), .ow (.lst (cs.map dRow)), s3, .ow (.lst (([] : List Int).map D.int)), s5]) := by
    rw [ev_xSetO]
    show ((setO 4 (.lst []) [.rf p, .fz (.int (n : Int)), .ow (.lst (cs.map dRow)), s3, s4, s5]).map fun s => (Fl.nx, s)) = _
    rw [show setO 4 (.lst []) [Slot.rf p, Slot.fz (.int (n : Int)), Slot.ow (.lst (cs.map dRow)), s3, s4, s5] = some ([Slot.rf p, Slot.fz (.int (n : Int)), Slot.ow (.lst (cs.map dRow)), s3, s4, s5].set 4 (.ow (.lst []))) by
      unfold setO
      show (if isRf s4 = true then none else _) = _
      rw [h4]; rfl]
    rfl
  obtain ⟨p1, row, s5', e2, ok1, r1, h5'⟩ := in_loop (C := .ow (.lst (cs.map dRow))) (s3 := s3) hn n 0 0 p [] s5 hp h5 (by omega) ⟨Nat.le_refl _, fun w hw => by cases hw⟩ (by omega)
  rw [← range1] at e2
  have er : iRange2 (aCons (eC (.int 1)) (aCons (eOp addD (eV 1) (eC (.int 1))) aNil)) [.rf p, .fz (.int (n : Int)), .ow (.lst (cs.map dRow)), s3, .ow (.lst (([] : List Int).map D.int)), s5] = some (rangeD 1 n, [.rf p, .fz (.int (n : Int)), .ow (.lst (cs.map dRow)), s3, .ow (.lst (([] : List Int).map D.int)), s5]) := by
    have hb : big ((n : Int) + 1) = true := big_len (n := n + 1) (sz256 (by omega))
    have := iRange2_e (e := eC (.int 1)) (f := eOp addD (eV 1) (eC (.int 1))) (sd := [.rf p, .fz (.int (n : Int)), .ow (.lst (cs.map dRow)), s3, .ow (.lst (([] : List Int).map D.int)), s5]) (hi := (n : Int) + 1) rfl (eOp_e (d := .int (n : Int)) rfl rfl rfl) (by decide) hb
    rw [show ((n : Int) + 1 - 1).toNat = n by omega] at this
    exact this
  have go : ∀ (c : List Int) (p2 : D) (h : eIf (tOf (eOp neD (eVo 4) (eLst aNil))) (eUn tupleD (eVo 4)) (eTup (aCons (eOp addD (eC (.int 1)) (eCallR m__law_draw 0 (arHead 0 (aCons (eV 1) aNil)))) aNil)) [.rf p1, .fz (.int (n : Int)), .ow (.lst (cs.map dRow)), s3, .ow (.lst (row.map D.int)), s5'] =
      some (dRow c, [.rf p2, .fz (.int (n : Int)), .ow (.lst (cs.map dRow)), s3, .ow (.lst (row.map D.int)), s5'])), b_out [.rf p, .fz (.int (n : Int)), .ow (.lst (cs.map dRow)), s3, s4, s5] = some (.nx, [.rf p2, .fz (.int (n : Int)), .ow (.lst ((cs ++ [c]).map dRow)), s3, .ow (.lst (row.map D.int)), s5']) := by
    intro c p2 h
    refine (xSeq_nx e1).trans ((xSeq_nx ((xFor_e er).trans e2)).trans ?_)
    exact xApp_r h rfl rfl (by rw [List.length_map]; exact sz256 (by omega)) (by rw [List.map_append]; rfl)
  have tn : tOf (eOp neD (eVo 4) (eLst aNil)) [.rf p1, .fz (.int (n : Int)), .ow (.lst (cs.map dRow)), s3, .ow (.lst (row.map D.int)), s5'] = some (!(row.map D.int).isEmpty, [.rf p1, .fz (.int (n : Int)), .ow (.lst (cs.map dRow)), s3, .ow (.lst (row.map D.int)), s5']) := by
    refine tOf_e (eOp_e (d := .lst (row.map D.int)) (e := .lst []) rfl rfl ?_)
    rw [neD_of (n := 1) (m := 1) (shN_lst (shN_ints row)) (shN_lst (fun d h => by cases h)) (by decide) (by decide), eqB_nil]
  cases row with
  | cons w row =>
    refine ⟨p1, w :: row, _, _, go (w :: row) p1 ((eIf_t tn).trans rfl), ok1, ⟨by have := r1.1; omega, r1.2⟩, rfl, h5'⟩
  | nil =>
    obtain ⟨x, p2, d, q0, q1, ok2⟩ := draw0 (e := eV 1) (p := p1) (r := [.fz (.int (n : Int)), .ow (.lst (cs.map dRow)), s3, .ow (.lst (([] : List Int).map D.int)), s5']) (many := (n : Int)) rfl ok1 (by omega) (by omega)
    refine ⟨p2, [1 + x], _, _, go [1 + x] p2 ((eIf_f tn).trans ?_), ok2, ⟨by simp, fun w hw => by rw [List.mem_singleton.mp hw]; exact ⟨by omega, by omega⟩⟩, rfl, h5'⟩
    rw [ev_eTup, aCons_e (eOp_e (g := addD) rfl d rfl) aNil_e]
    rfl
theorem out_loop {n : Nat} (hn1 : 1 ≤ n) (hn : n ≤ 8) : ∀ (ks : List D) (p : D) (cs : List (List Int)) (s3 s4 s5 : Slot), PoolOk p → isRf s3 = false → isRf s4 = false → isRf s5 = false → cs.length + ks.length ≤ 100 → (∀ c, c ∈ cs → RowOk n 100 c) → ∃ (p' : D) (cs' : List (List Int)) (s3' s4' s5' : Slot),
    xLoop (setF 3) b_out ks [.rf p, .fz (.int (n : Int)), .ow (.lst (cs.map dRow)), s3, s4, s5] = some (.nx, [.rf p', .fz (.int (n : Int)), .ow (.lst (cs'.map dRow)), s3', s4', s5']) ∧ PoolOk p' ∧ cs'.length = cs.length + ks.length ∧ ∀ c, c ∈ cs' → RowOk n 100 c
  | [], p, cs, s3, s4, s5, hp, _, _, _, _, hc => ⟨p, cs, s3, s4, s5, rfl, hp, rfl, hc⟩
  | k :: ks, p, cs, s3, s4, s5, hp, h3, h4, h5, hl, hc => by
    rw [List.length_cons] at hl
    obtain ⟨p1, c, t4, t5, e1, ok1, rc, q4, q5⟩ := out_step (s3 := .fz k) hp hn1 hn h4 h5 (cs := cs) (by omega)
    obtain ⟨p2, cs2, a, b, d, e2, ok2, l2, c2⟩ := out_loop hn1 hn ks p1 (cs ++ [c]) (.fz k) t4 t5 ok1 rfl q4 q5 (by rw [List.length_append, List.length_singleton]; omega) fun c' h => by
      rcases List.mem_append.mp h with h | h
      · exact hc c' h
      · rw [List.mem_singleton.mp h]; exact rc
    refine ⟨p2, cs2, a, b, d, ?_, ok2, by rw [l2, List.length_append, List.length_singleton, List.length_cons]; omega, c2⟩
    rw [xLoop, setF_at (s := s3) rfl h3, Option.bind_some]
    show ((b_out [.rf p, .fz (.int (n : Int)), .ow (.lst (cs.map dRow)), .fz k, s4, s5]).bind _) = _
    rw [e1, Option.bind_some]
    exact e2
theorem wishes_ok {p : D} (hp : PoolOk p) : ∃ (p' : D) (n : Nat) (cs : List (List Int)), m__law_duty_wishes [.rf p] = some (dW n cs, [.rf p']) ∧ PoolOk p' ∧ 1 ≤ n ∧ n ≤ 8 ∧ cs.length ≤ 13 ∧ ∀ c, c ∈ cs → RowOk n 100 c := by
  obtain ⟨x, p1, d1, q0, q1, ok1⟩ := draw0 (e := eC (.int 7)) (p := p) (r := [.un, .un, .un, .un, .un]) (many := 7) rfl hp (by decide) (by decide)
  obtain ⟨n, hn⟩ : ∃ n : Nat, 1 + x = (n : Int) := ⟨(1 + x).toNat, by omega⟩
  have e1 : xSetF 1 (eOp addD (eC (.int 1)) (eCallR m__law_draw 0 (arHead 0 (aCons (eC (.int 7)) aNil)))) [.rf p, .un, .un, .un, .un, .un] = some (.nx, [.rf p1, .fz (.int (n : Int)), .un, .un, .un, .un]) :=
    xSetF_r (d := .int (n : Int)) (sd' := [.rf p1, .un, .un, .un, .un, .un]) (eOp_e rfl d1 (by rw [ev_addI, hn])) rfl rfl rfl
  have e2 : xSetO 2 (eLst aNil) [.rf p1, .fz (.int (n : Int)), .un, .un, .un, .un] = some (.nx, [.rf p1, .fz (.int (n : Int)), .ow (.lst (([] : List (List Int)).map dRow)), .un, .un, .un]) := rfl
  obtain ⟨m, p2, d2, q2, q3, ok2⟩ := draw0 (e := eC (.int 13)) (p := p1) (r := [.fz (.int (n : Int)), .ow (.lst (([] : List (List Int)).map dRow)), .un, .un, .un]) (many := 13) rfl ok1 (by decide) (by decide)
  obtain ⟨m', hm⟩ : ∃ m' : Nat, m = (m' : Int) := ⟨m.toNat, by omega⟩
  subst hm
  have er := iRange1_e d2 (sz256 (by omega))
  obtain ⟨p3, cs, a, b, c, e3, ok3, l3, c3⟩ := out_loop (n := n) (by omega) (by omega) (rangeD 0 m') p2 [] .un .un .un ok2 rfl rfl rfl (by rw [rangeD_len]; simp; omega) (fun c h => by cases h)
  rw [rangeD_len] at l3
  refine ⟨p3, n, cs, ?_, ok3, by omega, by omega, by rw [l3]; simp; omega, c3⟩
  have hb : b__law_duty_wishes [.rf p, .un, .un, .un, .un, .un] = some (.rt (dW n cs), [.rf p3, .fz (.int (n : Int)), .ow (.lst (cs.map dRow)), a, b, c]) := by
    unfold b__law_duty_wishes
    refine (xSeq_nx e1).trans ((xSeq_nx e2).trans ((xSeq_nx ((xFor_e er).trans e3)).trans (xRet_e ?_)))
    rw [ev_eTup, aCons_e (d := .int (n : Int)) (sd' := [.rf p3, .fz (.int (n : Int)), .ow (.lst (cs.map dRow)), a, b, c]) rfl (aCons_e (e := eUn tupleD (eVo 2)) (d := dCl cs) (sd' := [.rf p3, .fz (.int (n : Int)), .ow (.lst (cs.map dRow)), a, b, c]) rfl aNil_e)]
    rfl
  exact mDef_e hb rfl rfl rfl
theorem okC_of {n : Nat} {cs : List (List Int)} (hn : n ≤ 8) (hl : cs.length ≤ 200) (h : ∀ c, c ∈ cs → RowOk n 100 c) : OkC n cs := ⟨hn, hl, fun c hc => ⟨by have := (h c hc).1; omega, (h c hc).2⟩⟩
end DL

set_option Elab.async false
set_option linter.all false
set_option autoImplicit false
set_option maxRecDepth 100000
set_option maxHeartbeats 4000000
namespace DL
open PySem PySem.Spec PyProof.Rows L2
/-! ### more clauses -/
theorem unm_app (cs : List (List Int)) (c r : List Int) : unm (cs ++ [c]) r = unm cs r ++ (if crossed r c = true then [cs.length] else []) := by
  unfold unm
  rw [List.length_append, List.length_singleton, List.range_succ, List.filter_append]
  refine congr (congrArg HAppend.hAppend ?_) ?_
  · refine List.filter_congr fun k hk => ?_
    have hk := List.mem_range.mp hk
    rw [List.getD_eq_getElem?_getD, List.getD_eq_getElem?_getD, List.getElem?_append_left hk]
  · rw [List.filter_cons, List.filter_nil]
    have e : (cs ++ [c]).getD cs.length [] = c := by
      rw [List.getD_eq_getElem?_getD, List.getElem?_append_right (Nat.le_refl _), Nat.sub_self]; rfl
    rw [e]
theorem goods_less (n : Nat) (cs : List (List Int)) (c : List Int) : (goods n (cs ++ [c])).length ≤ (goods n cs).length := by
  unfold goods
  rw [← List.countP_eq_length_filter, ← List.countP_eq_length_filter]
  refine List.countP_mono_left fun r _ h => ?_
  rw [unm_app] at h
  cases hu : unm cs r with
  | nil => rfl
  | cons a l => rw [hu] at h; cases h
theorem few_more (n : Nat) (cs : List (List Int)) (c : List Int) : few n cs ≤ few n (cs ++ [c]) := by
  unfold few
  obtain ⟨h1, _⟩ := minI_spec (is := (ros n).map fun r => ((unm (cs ++ [c]) r).length : Int)) (fun z => ros_ne n (List.map_eq_nil_iff.mp z))
  obtain ⟨_, h2⟩ := minI_spec (is := (ros n).map fun r => ((unm cs r).length : Int)) (fun z => ros_ne n (List.map_eq_nil_iff.mp z))
  obtain ⟨r, hr, e⟩ := List.mem_map.mp h1
  rw [← e]
  refine Int.le_trans (h2 _ (List.mem_map.mpr ⟨r, hr, rfl⟩)) ?_
  rw [unm_app, List.length_append]
  omega
/-! ### the law's loop over people -/
theorem sortI_one (x : Int) : sortI [x] = [x] := by
  unfold sortI
  exact List.perm_singleton.mp (List.mergeSort_perm _ _)
theorem sortI_len (is : List Int) : (sortI is).length = is.length := by
  unfold sortI
  exact (List.mergeSort_perm _ _).length_eq
theorem sort_set (is : List Int) : sortXD (.set (is.map D.int)) = some (.lst ((sortI is).map D.int)) := by
  show (intsD _).map _ = _
  rw [intsD_map]; rfl
abbrev b_cm : Xv := (xSeq (xSetF 12 (eUn sortXD (eUn setOfD (eComp [13] (iSeqX (eV 4)) (setF 13) tYesD (eOp ixD (eV 13) (eOp subD (eV 6) (eC (.int 1))))))))
  (xIf (tOf (eOp eqD (eUn lenXD (eV 12)) (eC (.int 1)))) (xApp 5 (eIf (tOf (eOp eqD (eV 12) (eLst (aCons (eC (.int 1)) aNil)))) (eV 6) (eOp subD (eC (.int 0)) (eV 6)))) xNext))
section
variable {ns : List Int} {P W E N C s7 s8 s9 : Slot} {gs : List (List Int)} {n : Nat}
theorem cm_step {p : Nat} {acc : List Int} {s12 : Slot} (h12 : isRf s12 = false) (hg : ∀ r, r ∈ gs → r.length = n) (h1 : 1 ≤ p) (h2 : p ≤ n) (hl : gs.length ≤ 300) (ha : acc.length ≤ 300) :
    ∃ s' : Slot, isRf s' = false ∧ b_cm [.sc ns, P, W, E, .fz (.lst (gs.map dRow)), .ow (.lst (acc.map D.int)), .fz (.int (p : Int)), s7, s8, s9, N, C, s12, .un] = some (.nx, [.sc ns, P, W, E, .fz (.lst (gs.map dRow)), .ow (.lst ((acc ++ (keepV gs p).toList).map D.int)), .fz (.int (p : Int)), s7, s8, s9, N, C, s', .un]) := by
  have ec := col_comp (sd := [.sc ns, P, W, E, .fz (.lst (gs.map dRow)), .ow (.lst (acc.map D.int)), .fz (.int (p : Int)), s7, s8, s9, N, C, s12, .un]) (v := 13) (j := 0) (gs := gs) (n := n) (p := p) (rows := eV 4) (pe := eV 6) rfl rfl (fun d => rfl) hg h1 h2 hl
  have e1 : xSetF 12 (eUn sortXD (eUn setOfD (eComp [13] (iSeqX (eV 4)) (setF 13) tYesD (eOp ixD (eV 13) (eOp subD (eV 6) (eC (.int 1))))))) [.sc ns, P, W, E, .fz (.lst (gs.map dRow)), .ow (.lst (acc.map D.int)), .fz (.int (p : Int)), s7, s8, s9, N, C, s12, .un] =
      some (.nx, [.sc ns, P, W, E, .fz (.lst (gs.map dRow)), .ow (.lst (acc.map D.int)), .fz (.int (p : Int)), s7, s8, s9, N, C, .fz (.lst ((sortI (ddI (col gs p))).map D.int)), .un]) := xSetF_r (eUn_e (eUn_e ec (set_col gs p hl)) (sort_set _)) rfl h12 rfl
  refine ⟨.fz (.lst ((sortI (ddI (col gs p))).map D.int)), rfl, (xSeq_nx e1).trans ?_⟩
  have et : tOf (eOp eqD (eUn lenXD (eV 12)) (eC (.int 1))) [.sc ns, P, W, E, .fz (.lst (gs.map dRow)), .ow (.lst (acc.map D.int)), .fz (.int (p : Int)), s7, s8, s9, N, C, .fz (.lst ((sortI (ddI (col gs p))).map D.int)), .un] =
      some (((((ddI (col gs p)).length : Nat) : Int) == 1), [.sc ns, P, W, E, .fz (.lst (gs.map dRow)), .ow (.lst (acc.map D.int)), .fz (.int (p : Int)), s7, s8, s9, N, C, .fz (.lst ((sortI (ddI (col gs p))).map D.int)), .un]) := by
    have := tOf_e (eOp_e (g := eqD) (a := eUn lenXD (eV 12)) (sd := [.sc ns, P, W, E, .fz (.lst (gs.map dRow)), .ow (.lst (acc.map D.int)), .fz (.int (p : Int)), s7, s8, s9, N, C, .fz (.lst ((sortI (ddI (col gs p))).map D.int)), .un]) (eUn_e rfl (ev_lenL _)) (b := eC (.int 1)) rfl (ev_eqI _ _))
    rw [List.length_map, sortI_len] at this
    exact this
  cases hb : ((((ddI (col gs p)).length : Nat) : Int) == 1) with
  | false =>
    rw [hb] at et
    refine (xIf_f et).trans ?_
    rw [keep_not hb, Option.toList_none, List.append_nil]
    rfl
  | true =>
    rw [hb] at et
    refine (xIf_t et).trans ?_
    obtain ⟨x, hx⟩ := one_len hb
    rw [keep_one hx, hx, sortI_one]
    have et2 : tOf (eOp eqD (eV 12) (eLst (aCons (eC (.int 1)) aNil))) [.sc ns, P, W, E, .fz (.lst (gs.map dRow)), .ow (.lst (acc.map D.int)), .fz (.int (p : Int)), s7, s8, s9, N, C, .fz (.lst ([x].map D.int)), .un] =
        some ((x == 1), [.sc ns, P, W, E, .fz (.lst (gs.map dRow)), .ow (.lst (acc.map D.int)), .fz (.int (p : Int)), s7, s8, s9, N, C, .fz (.lst ([x].map D.int)), .un]) := by
      refine tOf_e (eOp_e (d := .lst ([x].map D.int)) (e := .lst ([1].map D.int)) rfl rfl ?_)
      rw [eqD_of (n := 1) (m := 1) (shN_lst (shN_ints _)) (shN_lst (shN_ints _)) (by decide) (by decide), eqB_ints]
      simp
    refine xApp_e (x := .int (if x == 1 then (p : Int) else -(p : Int))) (acc := acc.map D.int) ?_ rfl (by rw [List.length_map]; exact Nat.le_trans ha (by decide)) (by rw [Option.toList_some, List.map_append]; rfl)
    cases hc : (x == 1) with
    | true =>
      rw [hc] at et2
      exact (eIf_t et2).trans rfl
    | false =>
      rw [hc] at et2
      refine (eIf_f et2).trans (eOp_e rfl rfl ?_)
      rw [ev_subI, Int.zero_sub]
      rfl
theorem cm_loop (hg : ∀ r, r ∈ gs → r.length = n) (hl : gs.length ≤ 300) : ∀ (m k : Nat) (acc : List Int) (s6 s12 : Slot), isRf s6 = false → isRf s12 = false → k + m ≤ n → acc.length + m ≤ 300 → ∃ s6' s12' : Slot,
    xLoop (setF 6) b_cm ((List.range' (k + 1) m).map fun (p : Nat) => D.int (p : Int)) [.sc ns, P, W, E, .fz (.lst (gs.map dRow)), .ow (.lst (acc.map D.int)), s6, s7, s8, s9, N, C, s12, .un] =
      some (.nx, [.sc ns, P, W, E, .fz (.lst (gs.map dRow)), .ow (.lst ((acc ++ (List.range' (k + 1) m).filterMap (keepV gs)).map D.int)), s6', s7, s8, s9, N, C, s12', .un])
  | 0, k, acc, s3, s4, _, _, _, _ => ⟨s3, s4, by rw [List.range'_zero, List.filterMap_nil, List.append_nil]; rfl⟩
  | m + 1, k, acc, s3, s4, h3, h4, hk, ha => by
    obtain ⟨t4, q4, e1⟩ := cm_step (ns := ns) (P := P) (W := W) (E := E) (N := N) (C := C) (s7 := s7) (s8 := s8) (s9 := s9) (gs := gs) (n := n) (p := k + 1) (acc := acc) (s12 := s4) h4 hg (by omega) (by omega) hl (by omega)
    have hlen : (acc ++ (keepV gs (k + 1)).toList).length + m ≤ 300 := by
      rw [List.length_append]
      have : (keepV gs (k + 1)).toList.length ≤ 1 := by cases keepV gs (k + 1) <;> simp
      omega
    obtain ⟨a, b, e⟩ := cm_loop hg hl m (k + 1) (acc ++ (keepV gs (k + 1)).toList) (.fz (.int ((k + 1 : Nat) : Int))) t4 rfl q4 (by omega) hlen
    refine ⟨a, b, ?_⟩
    rw [List.range'_succ, List.map_cons, xLoop, setF_at (s := s3) rfl h3, Option.bind_some]
    show ((b_cm [.sc ns, P, W, E, .fz (.lst (gs.map dRow)), .ow (.lst (acc.map D.int)), .fz (.int ((k + 1 : Nat) : Int)), s7, s8, s9, N, C, s4, .un]).bind _) = _
    rw [e1, Option.bind_some]
    simp only []
    rw [e, List.append_assoc]
    refine congrArg (fun z => some (Fl.nx, [Slot.sc ns, P, W, E, Slot.fz (.lst (gs.map dRow)), Slot.ow (.lst ((acc ++ z).map D.int)), a, s7, s8, s9, N, C, b, Slot.un])) ?_
    rw [List.filterMap_cons]
    cases keepV gs (k + 1) <;> rfl
end
/-! ### the law -/
theorem cut11 (ds : List D) : cutD ds none (some 11) = ds.take 11 := by
  unfold cutD
  rw [show HT.sIx ds.length 0 none = 0 from rfl, show HT.sIx ds.length ds.length (some 11) = min 11 ds.length from HT.sIx_nat _ _ 11, List.drop_zero, Nat.sub_zero]
  rcases Nat.le_total 11 ds.length with h | h
  · rw [Nat.min_eq_left h]
  · rw [Nat.min_eq_right h, List.take_of_length_le (Nat.le_refl _), List.take_of_length_le h]
theorem callS_e {ns : List Int} {p : D} {r : Sd} (h : m__law_pool [.sc ns] = some (p, [.sc ns])) : eCallS m__law_pool 0 (.sc ns :: r) = some (p, .sc ns :: r) := by
  show (m__law_pool [.sc ns]).map _ = _
  rw [h]; rfl
theorem callR1 {m : Fn} {s0 : Slot} {p p' d : D} {r : Sd} (h : m [.rf p] = some (d, [.rf p'])) : eCallR m 1 (arHead 1 aNil) (s0 :: .ow p :: r) = some (d, s0 :: .ow p' :: r) := by
  unfold eCallR arHead
  show ((m [.rf p]).bind _) = _
  rw [h]
  rfl
theorem draw1 {e : Ev} {p : D} {many : Int} {s0 : Slot} {r : Sd} (he : e (s0 :: .ow p :: r) = some (.int many, s0 :: .ow p :: r)) (ok : PoolOk p) (h1 : 0 < many) (h2 : many < 1073741824) :
    ∃ x p', eCallR m__law_draw 1 (arHead 1 (aCons e aNil)) (s0 :: .ow p :: r) = some (.int x, s0 :: .ow p' :: r) ∧ 0 ≤ x ∧ x < many ∧ PoolOk p' := draw_e (s := .ow p) he rfl rfl rfl ok h1 h2
theorem pure_law (ns : List Int) (hl : ns.length ≤ 63) : m_law [.sc ns] = some (.bl true, [.sc ns]) := by
  obtain ⟨p, ep, okp⟩ := pool_ok ns
  obtain ⟨p1, n, cs, ew, ok1, hn1, hn, hcl, hc⟩ := wishes_ok okp
  have okC : OkC n cs := okC_of hn (by omega) hc
  obtain ⟨js, hj, hjl⟩ := sorted_ints (com n cs)
  have a1 : xSetO 1 (eCallS m__law_pool 0) [.sc ns, .un, .un, .un, .un, .un, .un, .un, .un, .un, .un, .un, .un, .un] = some (.nx, [.sc ns, .ow p, .un, .un, .un, .un, .un, .un, .un, .un, .un, .un, .un, .un]) := by
    rw [ev_xSetO, callS_e ep]; rfl
  have a2 : xSetF 2 (eCallR m__law_duty_wishes 1 (arHead 1 aNil)) [.sc ns, .ow p, .un, .un, .un, .un, .un, .un, .un, .un, .un, .un, .un, .un] = some (.nx, [.sc ns, .ow p1, .fz (dW n cs), .un, .un, .un, .un, .un, .un, .un, .un, .un, .un, .un]) :=
    xSetF_r (callR1 ew) rfl rfl rfl
  have a3 : xAsg (eV 2) (gTupD 2 (gsCons (setF 10) (gsCons (setF 11) gsNil))) [.sc ns, .ow p1, .fz (dW n cs), .un, .un, .un, .un, .un, .un, .un, .un, .un, .un, .un] = some (.nx, [.sc ns, .ow p1, .fz (dW n cs), .un, .un, .un, .un, .un, .un, .un, .fz (.int (n : Int)), .fz (dCl cs), .un, .un]) := rfl
  have a4 : xSetF 3 (eCall m__law_rosters (aCons (eV 10) aNil)) [.sc ns, .ow p1, .fz (dW n cs), .un, .un, .un, .un, .un, .un, .un, .fz (.int (n : Int)), .fz (dCl cs), .un, .un] = some (.nx, [.sc ns, .ow p1, .fz (dW n cs), .fz (.lst (stepD n)), .un, .un, .un, .un, .un, .un, .fz (.int (n : Int)), .fz (dCl cs), .un, .un]) :=
    xSetF_r (sd' := [.sc ns, .ow p1, .fz (dW n cs), .un, .un, .un, .un, .un, .un, .un, .fz (.int (n : Int)), .fz (dCl cs), .un, .un]) (eCall_e (aCons_e rfl aNil_e) (lawros_ok hn)) rfl rfl rfl
  have c5 := comp1 (v := 13) (fi := iSeqX (eV 3)) (tt := tOf (eOp eqD (eCall m__law_unmet (aCons (eV 2) (aCons (eV 13) aNil))) (eLst aNil))) (te := eV 13)
    (sd := [.sc ns, .ow p1, .fz (dW n cs), .fz (.lst (stepD n)), .un, .un, .un, .un, .un, .un, .fz (.int (n : Int)), .fz (dCl cs), .un, .un]) (s := .un) (ds := stepD n) rfl rfl rfl (goodD cs) (fun d => d) (fun d hd => by
      obtain ⟨r, hr, rfl⟩ := mem_stepD hd
      have q : eCall m__law_unmet (aCons (eV 2) (aCons (eV 13) aNil)) [.sc ns, .ow p1, .fz (dW n cs), .fz (.lst (stepD n)), .un, .un, .un, .un, .un, .un, .fz (.int (n : Int)), .fz (dCl cs), .un, .fz (dRow r)] = some (.lst (dNs (unm cs r)), [.sc ns, .ow p1, .fz (dW n cs), .fz (.lst (stepD n)), .un, .un, .un, .un, .un, .un, .fz (.int (n : Int)), .fz (dCl cs), .un, .fz (dRow r)]) := eCall_e (aCons_e rfl (aCons_e rfl aNil_e)) (law_unmet_ok okC (ros_row hr).1)
      rw [goodD_row]
      refine tOf_e (eOp_e q (e := .lst []) rfl ?_)
      rw [eqD_of (n := 1) (m := 1) (shN_lst fun d hd => by
        obtain ⟨k, _, rfl⟩ := List.mem_map.mp hd
        exact shN_int _) (shN_lst (fun d h => by cases h)) (by decide) (by decide), eqB_nil]
      cases unm cs r <;> rfl) (fun d _ _ => rfl) (stepD_sz hn)
  rw [goods_D] at c5
  have a5 := xSetF_r (i := 4) (s := .un) (sd2 := [.sc ns, .ow p1, .fz (dW n cs), .fz (.lst (stepD n)), .fz (.lst ((goods n cs).map dRow)), .un, .un, .un, .un, .un, .fz (.int (n : Int)), .fz (dCl cs), .un, .un]) c5 rfl rfl rfl
  have a6 : xSetO 5 (eLst aNil) [.sc ns, .ow p1, .fz (dW n cs), .fz (.lst (stepD n)), .fz (.lst ((goods n cs).map dRow)), .un, .un, .un, .un, .un, .fz (.int (n : Int)), .fz (dCl cs), .un, .un] = some (.nx, [.sc ns, .ow p1, .fz (dW n cs), .fz (.lst (stepD n)), .fz (.lst ((goods n cs).map dRow)), .ow (.lst (([] : List Int).map D.int)), .un, .un, .un, .un, .fz (.int (n : Int)), .fz (dCl cs), .un, .un]) := rfl
  obtain ⟨s6, s12, e7⟩ := cm_loop (ns := ns) (P := .ow p1) (W := .fz (dW n cs)) (E := .fz (.lst (stepD n))) (N := .fz (.int (n : Int))) (C := .fz (dCl cs)) (s7 := .un) (s8 := .un) (s9 := .un) (gs := goods n cs) (n := n) goods_row (goods_len okC) n 0 [] .un .un rfl rfl (by omega) (by simp; omega)
  rw [← range1] at e7
  have er : iRange2 (aCons (eC (.int 1)) (aCons (eOp addD (eV 10) (eC (.int 1))) aNil)) [.sc ns, .ow p1, .fz (dW n cs), .fz (.lst (stepD n)), .fz (.lst ((goods n cs).map dRow)), .ow (.lst (([] : List Int).map D.int)), .un, .un, .un, .un, .fz (.int (n : Int)), .fz (dCl cs), .un, .un] = some (rangeD 1 n, [.sc ns, .ow p1, .fz (dW n cs), .fz (.lst (stepD n)), .fz (.lst ((goods n cs).map dRow)), .ow (.lst (([] : List Int).map D.int)), .un, .un, .un, .un, .fz (.int (n : Int)), .fz (dCl cs), .un, .un]) := by
    have hb : big ((n : Int) + 1) = true := big_len (n := n + 1) (sz256 (by omega))
    have := iRange2_e (e := eC (.int 1)) (f := eOp addD (eV 10) (eC (.int 1))) (sd := [.sc ns, .ow p1, .fz (dW n cs), .fz (.lst (stepD n)), .fz (.lst ((goods n cs).map dRow)), .ow (.lst (([] : List Int).map D.int)), .un, .un, .un, .un, .fz (.int (n : Int)), .fz (dCl cs), .un, .un]) (hi := (n : Int) + 1) rfl (eOp_e (d := .int (n : Int)) rfl rfl rfl) (by decide) hb
    rw [show ((n : Int) + 1 - 1).toNat = n by omega] at this
    exact this
  have a7 := (xFor_e (g := setF 6) (b := b_cm) er).trans e7
  have c8 := comp1 (v := 13) (fi := iSeqX (eV 3)) (tt := tYesD) (te := eUn lenXD (eCall m__law_unmet (aCons (eV 2) (aCons (eV 13) aNil))))
    (sd := [.sc ns, .ow p1, .fz (dW n cs), .fz (.lst (stepD n)), .fz (.lst ((goods n cs).map dRow)), .ow (.lst ((com n cs).map D.int)), s6, .un, .un, .un, .fz (.int (n : Int)), .fz (dCl cs), s12, .un]) (s := .un) (ds := stepD n) rfl rfl rfl (fun _ => true) (cntD cs) (fun d _ => rfl) (fun d hd _ => by
      obtain ⟨r, hr, rfl⟩ := mem_stepD hd
      have q : eCall m__law_unmet (aCons (eV 2) (aCons (eV 13) aNil)) [.sc ns, .ow p1, .fz (dW n cs), .fz (.lst (stepD n)), .fz (.lst ((goods n cs).map dRow)), .ow (.lst ((com n cs).map D.int)), s6, .un, .un, .un, .fz (.int (n : Int)), .fz (dCl cs), s12, .fz (dRow r)] = some (.lst (dNs (unm cs r)), [.sc ns, .ow p1, .fz (dW n cs), .fz (.lst (stepD n)), .fz (.lst ((goods n cs).map dRow)), .ow (.lst ((com n cs).map D.int)), s6, .un, .un, .un, .fz (.int (n : Int)), .fz (dCl cs), s12, .fz (dRow r)]) := eCall_e (aCons_e rfl (aCons_e rfl aNil_e)) (law_unmet_ok okC (ros_row hr).1)
      rw [cntD_row]
      exact eUn_e q (by rw [ev_lenL]; unfold dNs; rw [List.length_map])) (stepD_sz hn)
  rw [List.filter_eq_self.mpr (fun _ _ => rfl)] at c8
  have a8 := xSetF_r (i := 7) (s := .un) (sd2 := [.sc ns, .ow p1, .fz (dW n cs), .fz (.lst (stepD n)), .fz (.lst ((goods n cs).map dRow)), .ow (.lst ((com n cs).map D.int)), s6, .fz (.int (few n cs)), .un, .un, .fz (.int (n : Int)), .fz (dCl cs), s12, .un]) (eUn_e c8 (min_cnt n cs)) rfl rfl rfl
  -- the three answers
  have hX : ShN 2 (D.lst [.int ((goods n cs).length : Nat), .lst (js.map D.int), .int (few n cs)]) := shN_lst fun d hd => by
    simp only [List.mem_cons, List.not_mem_nil, or_false] at hd
    rcases hd with rfl | rfl | rfl
    · exact shN_int _
    · exact shN_lst (shN_ints js)
    · exact shN_int _
  have hcom : (com n cs).length ≤ 300 := by
    unfold com
    have := List.length_filterMap_le (keepV (goods n cs)) (List.range' (0 + 1) n)
    rw [List.length_range'] at this
    omega
  have hWd : WdN 11 (D.lst [.int ((goods n cs).length : Nat), .lst (js.map D.int), .int (few n cs)]) := by
    refine ⟨by show 3 ≤ szl; decide, fun d hd => ?_⟩
    simp only [List.mem_cons, List.not_mem_nil, or_false] at hd
    rcases hd with rfl | rfl | rfl
    · trivial
    · refine ⟨by rw [List.length_map, hjl]; exact Nat.le_trans hcom (by decide), fun d hd => ?_⟩
      obtain ⟨i, _, rfl⟩ := List.mem_map.mp hd
      trivial
    · trivial
  have hsame : m__law_same 12 [.fz (D.lst [.int ((goods n cs).length : Nat), .lst (js.map D.int), .int (few n cs)]), .fz (D.lst [.int ((goods n cs).length : Nat), .lst (js.map D.int), .int (few n cs)])] = some (.bl true, [.fz (D.lst [.int ((goods n cs).length : Nat), .lst (js.map D.int), .int (few n cs)]), .fz (D.lst [.int ((goods n cs).length : Nat), .lst (js.map D.int), .int (few n cs)])]) := by
    rw [same_is]
    exact same_refl 11 _ (by decide) (hX.mono (by decide)) hWd
  have st9 : ∀ (T : Sd), T = [.sc ns, .ow p1, .fz (dW n cs), .fz (.lst (stepD n)), .fz (.lst ((goods n cs).map dRow)), .ow (.lst ((com n cs).map D.int)), s6, .fz (.int (few n cs)), .un, .un, .fz (.int (n : Int)), .fz (dCl cs), s12, .un] →
      tNotD (tOf (eCall (m__law_same 12) (aCons (eLst (aCons (eCall m_rosters (aCons (eV 2) aNil)) (aCons (eCall m_always (aCons (eV 2) aNil)) (aCons (eCall m_fewest_unmet (aCons (eV 2) aNil)) aNil)))) (aCons (eLst (aCons (eUn lenXD (eV 4)) (aCons (eUn sortXD (eVo 5)) (aCons (eV 7) aNil)))) aNil)))) T = some (false, T) := by
    intro T hT
    have v2 : eV 2 T = some (dW n cs, T) := by rw [hT]; rfl
    have q1 : eCall m_rosters (aCons (eV 2) aNil) T = some (.int ((goods n cs).length : Nat), T) := eCall_e (aCons_e v2 aNil_e) (rosters_ok okC)
    have q2 : eCall m_always (aCons (eV 2) aNil) T = some (.lst (js.map D.int), T) := eCall_e (aCons_e v2 aNil_e) (always_ok okC hj)
    have q3 : eCall m_fewest_unmet (aCons (eV 2) aNil) T = some (.int (few n cs), T) := eCall_e (aCons_e v2 aNil_e) (fewest_ok okC)
    have l1 : eLst (aCons (eCall m_rosters (aCons (eV 2) aNil)) (aCons (eCall m_always (aCons (eV 2) aNil)) (aCons (eCall m_fewest_unmet (aCons (eV 2) aNil)) aNil))) T = some (.lst [.int ((goods n cs).length : Nat), .lst (js.map D.int), .int (few n cs)], T) := by
      rw [ev_eLst, aCons_e q1 (aCons_e q2 (aCons_e q3 aNil_e))]; rfl
    have v4 : eUn lenXD (eV 4) T = some (.int ((goods n cs).length : Nat), T) := eUn_e (d := .lst ((goods n cs).map dRow)) (by rw [hT]; rfl) (by rw [ev_lenL, List.length_map])
    have v5 : eUn sortXD (eVo 5) T = some (.lst (js.map D.int), T) := eUn_e (d := .lst ((com n cs).map D.int)) (by rw [hT]; rfl) hj
    have v7 : eV 7 T = some (.int (few n cs), T) := by rw [hT]; rfl
    have l2 : eLst (aCons (eUn lenXD (eV 4)) (aCons (eUn sortXD (eVo 5)) (aCons (eV 7) aNil))) T = some (.lst [.int ((goods n cs).length : Nat), .lst (js.map D.int), .int (few n cs)], T) := by
      rw [ev_eLst, aCons_e v4 (aCons_e v5 (aCons_e v7 aNil_e))]; rfl
    exact tNot_e (tOf_e (eCall_e (aCons_e l1 (aCons_e l2 aNil_e)) hsame))
  have a9 : ∀ (T : Sd), T = [.sc ns, .ow p1, .fz (dW n cs), .fz (.lst (stepD n)), .fz (.lst ((goods n cs).map dRow)), .ow (.lst ((com n cs).map D.int)), s6, .fz (.int (few n cs)), .un, .un, .fz (.int (n : Int)), .fz (dCl cs), s12, .un] →
      xIf (tNotD (tOf (eCall (m__law_same 12) (aCons (eLst (aCons (eCall m_rosters (aCons (eV 2) aNil)) (aCons (eCall m_always (aCons (eV 2) aNil)) (aCons (eCall m_fewest_unmet (aCons (eV 2) aNil)) aNil)))) (aCons (eLst (aCons (eUn lenXD (eV 4)) (aCons (eUn sortXD (eVo 5)) (aCons (eV 7) aNil)))) aNil))))) (xRet (eC (.bl false))) xNext T = some (.nx, T) := fun T hT => (xIf_f (st9 T hT)).trans rfl
  obtain ⟨x, p2, d10, x0, x1, ok2⟩ := draw1 (e := eV 10) (p := p1) (s0 := .sc ns) (r := [.fz (dW n cs), .fz (.lst (stepD n)), .fz (.lst ((goods n cs).map dRow)), .ow (.lst ((com n cs).map D.int)), s6, .fz (.int (few n cs)), .un, .un, .fz (.int (n : Int)), .fz (dCl cs), s12, .un]) (many := (n : Int)) rfl ok1 (by omega) (by omega)
  have hcut : ∀ (T : Sd), eV 11 T = some (dCl cs, T) → eSl (eV 11) oNone (oSome (eC (.int 11))) T = some (dCl (cs.take 11), T) := fun T h => by
    have hs : slD (dCl cs) none (some 11) = some (dCl (cs.take 11)) := by
      show some (D.tup (cutD (cs.map dRow) none (some 11))) = _
      rw [cut11, ← List.map_take]
    unfold eSl
    rw [h, Option.bind_some]
    show (((some ((none : Option Int), T)).bind fun a => ((some (some (11 : Int), a.2)).bind fun b => (slD (dCl cs) a.1 b.1).map fun d => (d, b.2)))) = _
    rw [Option.bind_some, Option.bind_some, hs]
    rfl
  have okB : OkC n (cs.take 11) := okC_of hn (by rw [List.length_take]; omega) fun c h => hc c (List.mem_of_mem_take h)
  have okM : OkC n (cs.take 11 ++ [[1 + x]]) := okC_of hn (by rw [List.length_append, List.length_take]; simp; omega) fun c h => by
    rcases List.mem_append.mp h with h | h
    · exact hc c (List.mem_of_mem_take h)
    · rw [List.mem_singleton.mp h]
      exact ⟨by simp, fun w hw => by rw [List.mem_singleton.mp hw]; exact ⟨by omega, by omega⟩⟩
  have a10 : xSetF 8 (eTup (aCons (eV 10) (aCons (eOp addD (eSl (eV 11) oNone (oSome (eC (.int 11)))) (eTup (aCons (eTup (aCons (eOp addD (eC (.int 1)) (eCallR m__law_draw 1 (arHead 1 (aCons (eV 10) aNil)))) aNil)) aNil))) aNil))) [.sc ns, .ow p1, .fz (dW n cs), .fz (.lst (stepD n)), .fz (.lst ((goods n cs).map dRow)), .ow (.lst ((com n cs).map D.int)), s6, .fz (.int (few n cs)), .un, .un, .fz (.int (n : Int)), .fz (dCl cs), s12, .un] =
      some (.nx, [.sc ns, .ow p2, .fz (dW n cs), .fz (.lst (stepD n)), .fz (.lst ((goods n cs).map dRow)), .ow (.lst ((com n cs).map D.int)), s6, .fz (.int (few n cs)), .fz (dW n (cs.take 11 ++ [[1 + x]])), .un, .fz (.int (n : Int)), .fz (dCl cs), s12, .un]) := by
    have t1 : eTup (aCons (eOp addD (eC (.int 1)) (eCallR m__law_draw 1 (arHead 1 (aCons (eV 10) aNil)))) aNil) [.sc ns, .ow p1, .fz (dW n cs), .fz (.lst (stepD n)), .fz (.lst ((goods n cs).map dRow)), .ow (.lst ((com n cs).map D.int)), s6, .fz (.int (few n cs)), .un, .un, .fz (.int (n : Int)), .fz (dCl cs), s12, .un] = some (dRow [1 + x], [.sc ns, .ow p2, .fz (dW n cs), .fz (.lst (stepD n)), .fz (.lst ((goods n cs).map dRow)), .ow (.lst ((com n cs).map D.int)), s6, .fz (.int (few n cs)), .un, .un, .fz (.int (n : Int)), .fz (dCl cs), s12, .un]) := by
      rw [ev_eTup, aCons_e (eOp_e (g := addD) rfl d10 rfl) aNil_e]; rfl
    have t2 : eTup (aCons (eTup (aCons (eOp addD (eC (.int 1)) (eCallR m__law_draw 1 (arHead 1 (aCons (eV 10) aNil)))) aNil)) aNil) [.sc ns, .ow p1, .fz (dW n cs), .fz (.lst (stepD n)), .fz (.lst ((goods n cs).map dRow)), .ow (.lst ((com n cs).map D.int)), s6, .fz (.int (few n cs)), .un, .un, .fz (.int (n : Int)), .fz (dCl cs), s12, .un] = some (.tup [dRow [1 + x]], [.sc ns, .ow p2, .fz (dW n cs), .fz (.lst (stepD n)), .fz (.lst ((goods n cs).map dRow)), .ow (.lst ((com n cs).map D.int)), s6, .fz (.int (few n cs)), .un, .un, .fz (.int (n : Int)), .fz (dCl cs), s12, .un]) := by
      rw [ev_eTup, aCons_e t1 aNil_e]; rfl
    have hadd : addD (dCl (cs.take 11)) (.tup [dRow [1 + x]]) = some (dCl (cs.take 11 ++ [[1 + x]])) := by
      show (if ((cs.take 11).map dRow).length + 1 ≤ szl then some (D.tup ((cs.take 11).map dRow ++ [dRow [1 + x]])) else none) = _
      rw [if_pos (by rw [List.length_map, List.length_take]; exact sz256 (by omega))]
      unfold dCl
      rw [List.map_append]; rfl
    refine xSetF_r (d := dW n (cs.take 11 ++ [[1 + x]])) (s := .un) (sd' := [.sc ns, .ow p2, .fz (dW n cs), .fz (.lst (stepD n)), .fz (.lst ((goods n cs).map dRow)), .ow (.lst ((com n cs).map D.int)), s6, .fz (.int (few n cs)), .un, .un, .fz (.int (n : Int)), .fz (dCl cs), s12, .un]) ?_ rfl rfl rfl
    rw [ev_eTup, aCons_e (d := .int (n : Int)) rfl (aCons_e (eOp_e (hcut _ rfl) t2 hadd) aNil_e)]
    rfl
  have a11 : xSetF 9 (eTup (aCons (eV 10) (aCons (eSl (eV 11) oNone (oSome (eC (.int 11)))) aNil))) [.sc ns, .ow p2, .fz (dW n cs), .fz (.lst (stepD n)), .fz (.lst ((goods n cs).map dRow)), .ow (.lst ((com n cs).map D.int)), s6, .fz (.int (few n cs)), .fz (dW n (cs.take 11 ++ [[1 + x]])), .un, .fz (.int (n : Int)), .fz (dCl cs), s12, .un] =
      some (.nx, [.sc ns, .ow p2, .fz (dW n cs), .fz (.lst (stepD n)), .fz (.lst ((goods n cs).map dRow)), .ow (.lst ((com n cs).map D.int)), s6, .fz (.int (few n cs)), .fz (dW n (cs.take 11 ++ [[1 + x]])), .fz (dW n (cs.take 11)), .fz (.int (n : Int)), .fz (dCl cs), s12, .un]) := by
    refine xSetF_r (d := dW n (cs.take 11)) (s := .un) (sd' := [.sc ns, .ow p2, .fz (dW n cs), .fz (.lst (stepD n)), .fz (.lst ((goods n cs).map dRow)), .ow (.lst ((com n cs).map D.int)), s6, .fz (.int (few n cs)), .fz (dW n (cs.take 11 ++ [[1 + x]])), .un, .fz (.int (n : Int)), .fz (dCl cs), s12, .un]) ?_ rfl rfl rfl
    rw [ev_eTup, aCons_e (d := .int (n : Int)) rfl (aCons_e (hcut _ rfl) aNil_e)]
    rfl
  have a12 : ∀ (T : Sd), T = [.sc ns, .ow p2, .fz (dW n cs), .fz (.lst (stepD n)), .fz (.lst ((goods n cs).map dRow)), .ow (.lst ((com n cs).map D.int)), s6, .fz (.int (few n cs)), .fz (dW n (cs.take 11 ++ [[1 + x]])), .fz (dW n (cs.take 11)), .fz (.int (n : Int)), .fz (dCl cs), s12, .un] →
      eOfT (tAndD (tOf (eOp leD (eCall m_rosters (aCons (eV 8) aNil)) (eCall m_rosters (aCons (eV 9) aNil)))) (tOf (eOp geD (eCall m_fewest_unmet (aCons (eV 8) aNil)) (eCall m_fewest_unmet (aCons (eV 9) aNil))))) T = some (.bl true, T) := by
    intro T hT
    have v8 : eV 8 T = some (dW n (cs.take 11 ++ [[1 + x]]), T) := by rw [hT]; rfl
    have v9 : eV 9 T = some (dW n (cs.take 11), T) := by rw [hT]; rfl
    have q1 : eCall m_rosters (aCons (eV 8) aNil) T = some (.int ((goods n (cs.take 11 ++ [[1 + x]])).length : Nat), T) := eCall_e (aCons_e v8 aNil_e) (rosters_ok okM)
    have q2 : eCall m_rosters (aCons (eV 9) aNil) T = some (.int ((goods n (cs.take 11)).length : Nat), T) := eCall_e (aCons_e v9 aNil_e) (rosters_ok okB)
    have q3 : eCall m_fewest_unmet (aCons (eV 8) aNil) T = some (.int (few n (cs.take 11 ++ [[1 + x]])), T) := eCall_e (aCons_e v8 aNil_e) (fewest_ok okM)
    have q4 : eCall m_fewest_unmet (aCons (eV 9) aNil) T = some (.int (few n (cs.take 11)), T) := eCall_e (aCons_e v9 aNil_e) (fewest_ok okB)
    have c1 : decide (((goods n (cs.take 11 ++ [[1 + x]])).length : Int) ≤ ((goods n (cs.take 11)).length : Int)) = true := decide_eq_true (Int.ofNat_le.mpr (goods_less n _ _))
    have c2 : decide (few n (cs.take 11) ≤ few n (cs.take 11 ++ [[1 + x]])) = true := decide_eq_true (few_more n _ _)
    refine eOfT_e ((tAnd_t (tOf_e (eOp_e q1 q2 ?_))).trans (tOf_e (eOp_e q3 q4 ?_)))
    · rw [ev_leI, c1]
    · rw [ev_geI, c2]
  have hb : b_law [.sc ns, .un, .un, .un, .un, .un, .un, .un, .un, .un, .un, .un, .un, .un] = some (.rt (.bl true), [.sc ns, .ow p2, .fz (dW n cs), .fz (.lst (stepD n)), .fz (.lst ((goods n cs).map dRow)), .ow (.lst ((com n cs).map D.int)), s6, .fz (.int (few n cs)), .fz (dW n (cs.take 11 ++ [[1 + x]])), .fz (dW n (cs.take 11)), .fz (.int (n : Int)), .fz (dCl cs), s12, .un]) := by
    unfold b_law
    refine (xSeq_nx a1).trans ((xSeq_nx a2).trans ((xSeq_nx a3).trans ((xSeq_nx a4).trans ((xSeq_nx a5).trans ((xSeq_nx a6).trans ((xSeq_nx a7).trans ?_))))))
    rw [List.nil_append]
    exact (xSeq_nx a8).trans ((xSeq_nx (a9 _ rfl)).trans ((xSeq_nx a10).trans ((xSeq_nx a11).trans (xRet_e (a12 _ rfl)))))
  exact mDef_e hb rfl rfl rfl
end DL

set_option Elab.async false
set_option linter.all false
set_option maxRecDepth 100000
set_option maxHeartbeats 0
set_option maxHeartbeats 0
namespace HD
open PySem PySem.Spec PyProof.Rows L2 DL
def d_is_met : He.DefD := ⟨("is_met", none), "is_met", "is_met", defArgs s_is_met, defBody s_is_met, defScope s_is_met, [], []⟩
def d_is_crossed : He.DefD := ⟨("is_crossed", none), "is_crossed", "is_crossed", defArgs s_is_crossed, defBody s_is_crossed, defScope s_is_crossed, [], []⟩
def d_as_settled : He.DefD := ⟨("as_settled", none), "as_settled", "as_settled", defArgs s_as_settled, defBody s_as_settled, defScope s_as_settled, [], []⟩
def d_unmet : He.DefD := ⟨("unmet", none), "unmet", "unmet", defArgs s_unmet, defBody s_unmet, defScope s_unmet, [], []⟩
def d_all_rosters : He.DefD := ⟨("all_rosters", none), "all_rosters", "all_rosters", defArgs s_all_rosters, defBody s_all_rosters, defScope s_all_rosters, [], []⟩
def d_good_rosters : He.DefD := ⟨("good_rosters", none), "good_rosters", "good_rosters", defArgs s_good_rosters, defBody s_good_rosters, defScope s_good_rosters, [], []⟩
def d_rosters : He.DefD := ⟨("rosters", none), "rosters", "rosters", defArgs s_rosters, defBody s_rosters, defScope s_rosters, [], []⟩
def d_always : He.DefD := ⟨("always", none), "always", "always", defArgs s_always, defBody s_always, defScope s_always, [], []⟩
def d_fewest_unmet : He.DefD := ⟨("fewest_unmet", none), "fewest_unmet", "fewest_unmet", defArgs s_fewest_unmet, defBody s_fewest_unmet, defScope s_fewest_unmet, [], []⟩
def d__law_same : He.DefD := ⟨("_law_same", none), "_law_same", "_law_same", defArgs s__law_same, defBody s__law_same, defScope s__law_same, [], []⟩
def d__law_pool : He.DefD := ⟨("_law_pool", none), "_law_pool", "_law_pool", defArgs s__law_pool, defBody s__law_pool, defScope s__law_pool, [], []⟩
def d__law_spread : He.DefD := ⟨("_law_spread", none), "_law_spread", "_law_spread", defArgs s__law_spread, defBody s__law_spread, defScope s__law_spread, [], []⟩
def d__law_draw : He.DefD := ⟨("_law_draw", none), "_law_draw", "_law_draw", defArgs s__law_draw, defBody s__law_draw, defScope s__law_draw, [], []⟩
def d__law_duty_wishes : He.DefD := ⟨("_law_duty_wishes", none), "_law_duty_wishes", "_law_duty_wishes", defArgs s__law_duty_wishes, defBody s__law_duty_wishes, defScope s__law_duty_wishes, [], []⟩
def d__law_rosters : He.DefD := ⟨("_law_rosters", none), "_law_rosters", "_law_rosters", defArgs s__law_rosters, defBody s__law_rosters, defScope s__law_rosters, [], []⟩
def d__law_meets : He.DefD := ⟨("_law_meets", none), "_law_meets", "_law_meets", defArgs s__law_meets, defBody s__law_meets, defScope s__law_meets, [], []⟩
def d__law_unmet : He.DefD := ⟨("_law_unmet", none), "_law_unmet", "_law_unmet", defArgs s__law_unmet, defBody s__law_unmet, defScope s__law_unmet, [], []⟩
def d_law : He.DefD := ⟨("law", none), "law", "law", defArgs s_law, defBody s_law, defScope s_law, [], []⟩
def fn : List He.DefD := [d_is_met, d_is_crossed, d_as_settled, d_unmet, d_all_rosters, d_good_rosters, d_rosters, d_always, d_fewest_unmet, d__law_same, d__law_pool, d__law_spread, d__law_draw, d__law_duty_wishes, d__law_rosters, d__law_meets, d__law_unmet, d_law]
def fa : List He.Fa := [.glo "is_met", .glo "is_crossed", .glo "as_settled", .glo "unmet", .glo "all_rosters", .glo "good_rosters", .glo "rosters", .glo "always", .glo "fewest_unmet", .glo "_law_same", .glo "_law_pool", .glo "_law_spread", .glo "_law_draw", .glo "_law_duty_wishes", .glo "_law_rosters", .glo "_law_meets", .glo "_law_unmet", .glo "law", .free "abs", .free "all", .free "bool", .free "int", .free "isinstance", .free "len", .free "list", .free "min", .free "range", .free "set", .free "sorted", .free "str", .free "tuple"]
abbrev R : PySem.W.OpenRow := PySem.W.OpenLaw.row PySem.Challenge.rw_everyhaven_k61_whole_rosters_counted
abbrev hk : PySem.W.Hook := He.hookD 4 fa fn
def ob (s : PySem.W.SharedT) : He.AlD := He.obsDG 4 fa fn (HandSHeadRun.getT s)
theorem ob_eq (s : PySem.W.SharedT) : ob s = hk.obs s.abs := He.obsDG_eq (HandSHeadRun.getT_eq s)
theorem run (w : World) : HandSHeadRun.RunEq R (PySem.W.view R.prog [19]) hk ob 4000 ((["is_met", "is_crossed", "as_settled", "unmet", "all_rosters", "good_rosters", "rosters", "always", "fewest_unmet", "_law_same", "_law_pool", "_law_spread", "_law_draw", "_law_duty_wishes", "_law_rosters", "_law_meets", "_law_unmet"] : List Str) ++ ([] : List Str)) w := by
  intro os
  kernel_rfl
theorem facts {P : Program} {w : World} {Kf : PySem.W.Frag} {h : Heap} {mg : Str → Option Value} {f : Addr} (X : Kf.In h) (G : h.Ns mainGlobals mg) (hfa : mg "law" = some (.ref f)) (c : He.SaysD fa fn Kf) :
    ∃ fd : FuncData, (∀ (s : Shared) (v : Value), BindsTo s fd ⟨[v], []⟩ [("script", v)]) ∧ ∀ base : Heap, Kf.In base → base.Ns mainGlobals mg → FnOk P w Kf mg base CX0 14 f fd ["script"] (spD ⟨Kf, P, w⟩ m_law) := by
  have T : Txt mg := ⟨He.free_ok X G (c.fact 18 (f := .free "abs") rfl), He.free_ok X G (c.fact 19 (f := .free "all") rfl), He.free_ok X G (c.fact 20 (f := .free "bool") rfl), He.free_ok X G (c.fact 21 (f := .free "int") rfl), He.free_ok X G (c.fact 22 (f := .free "isinstance") rfl), He.free_ok X G (c.fact 23 (f := .free "len") rfl), He.free_ok X G (c.fact 24 (f := .free "list") rfl), He.free_ok X G (c.fact 25 (f := .free "min") rfl), He.free_ok X G (c.fact 26 (f := .free "range") rfl), He.free_ok X G (c.fact 27 (f := .free "set") rfl), He.free_ok X G (c.fact 28 (f := .free "sorted") rfl), He.free_ok X G (c.fact 29 (f := .free "str") rfl), He.free_ok X G (c.fact 30 (f := .free "tuple") rfl)⟩
  obtain ⟨fd_is_met, F_is_met⟩ := c.def_ 0 (d := d_is_met) rfl
  have g_is_met := He.glo_ok X G (c.fact 0 (f := .glo "is_met") rfl)
  obtain ⟨fd_is_crossed, F_is_crossed⟩ := c.def_ 1 (d := d_is_crossed) rfl
  have g_is_crossed := He.glo_ok X G (c.fact 1 (f := .glo "is_crossed") rfl)
  obtain ⟨fd_as_settled, F_as_settled⟩ := c.def_ 2 (d := d_as_settled) rfl
  have g_as_settled := He.glo_ok X G (c.fact 2 (f := .glo "as_settled") rfl)
  obtain ⟨fd_unmet, F_unmet⟩ := c.def_ 3 (d := d_unmet) rfl
  have g_unmet := He.glo_ok X G (c.fact 3 (f := .glo "unmet") rfl)
  obtain ⟨fd_all_rosters, F_all_rosters⟩ := c.def_ 4 (d := d_all_rosters) rfl
  have g_all_rosters := He.glo_ok X G (c.fact 4 (f := .glo "all_rosters") rfl)
  obtain ⟨fd_good_rosters, F_good_rosters⟩ := c.def_ 5 (d := d_good_rosters) rfl
  have g_good_rosters := He.glo_ok X G (c.fact 5 (f := .glo "good_rosters") rfl)
  obtain ⟨fd_rosters, F_rosters⟩ := c.def_ 6 (d := d_rosters) rfl
  have g_rosters := He.glo_ok X G (c.fact 6 (f := .glo "rosters") rfl)
  obtain ⟨fd_always, F_always⟩ := c.def_ 7 (d := d_always) rfl
  have g_always := He.glo_ok X G (c.fact 7 (f := .glo "always") rfl)
  obtain ⟨fd_fewest_unmet, F_fewest_unmet⟩ := c.def_ 8 (d := d_fewest_unmet) rfl
  have g_fewest_unmet := He.glo_ok X G (c.fact 8 (f := .glo "fewest_unmet") rfl)
  obtain ⟨fd__law_same, F__law_same⟩ := c.def_ 9 (d := d__law_same) rfl
  have g__law_same := He.glo_ok X G (c.fact 9 (f := .glo "_law_same") rfl)
  obtain ⟨fd__law_pool, F__law_pool⟩ := c.def_ 10 (d := d__law_pool) rfl
  have g__law_pool := He.glo_ok X G (c.fact 10 (f := .glo "_law_pool") rfl)
  obtain ⟨fd__law_spread, F__law_spread⟩ := c.def_ 11 (d := d__law_spread) rfl
  have g__law_spread := He.glo_ok X G (c.fact 11 (f := .glo "_law_spread") rfl)
  obtain ⟨fd__law_draw, F__law_draw⟩ := c.def_ 12 (d := d__law_draw) rfl
  have g__law_draw := He.glo_ok X G (c.fact 12 (f := .glo "_law_draw") rfl)
  obtain ⟨fd__law_duty_wishes, F__law_duty_wishes⟩ := c.def_ 13 (d := d__law_duty_wishes) rfl
  have g__law_duty_wishes := He.glo_ok X G (c.fact 13 (f := .glo "_law_duty_wishes") rfl)
  obtain ⟨fd__law_rosters, F__law_rosters⟩ := c.def_ 14 (d := d__law_rosters) rfl
  have g__law_rosters := He.glo_ok X G (c.fact 14 (f := .glo "_law_rosters") rfl)
  obtain ⟨fd__law_meets, F__law_meets⟩ := c.def_ 15 (d := d__law_meets) rfl
  have g__law_meets := He.glo_ok X G (c.fact 15 (f := .glo "_law_meets") rfl)
  obtain ⟨fd__law_unmet, F__law_unmet⟩ := c.def_ 16 (d := d__law_unmet) rfl
  have g__law_unmet := He.glo_ok X G (c.fact 16 (f := .glo "_law_unmet") rfl)
  obtain ⟨fd_law, F_law⟩ := c.def_ 17 (d := d_law) rfl
  have g_law := He.glo_ok X G (c.fact 17 (f := .glo "law") rfl)
  have e := hfa.symm.trans g_law
  cases e
  have b := FunD.bindsA (ps := ["script"]) F_law fun _ _ _ _ _ _ us hl => match us, hl with | [_], _ => rfl
  refine ⟨fd_law, fun s v => b s [v] rfl, fun base _ _ => ?_⟩
  have C__law_pool : Cal ⟨Kf, P, w⟩ mg base 1 "_law_pool" ["script"] (spN ⟨Kf, P, w⟩ m__law_pool) := ⟨_, fd__law_pool, g__law_pool, ok__law_pool T F__law_pool , F__law_pool.kp, F__law_pool.bindsN fun _ _ _ _ _ _ us hl => match us, hl with | [_], _ => rfl⟩
  have C__law_spread : Cal ⟨Kf, P, w⟩ mg base 1 "_law_spread" ["cell"] (spD ⟨Kf, P, w⟩ m__law_spread) := ⟨_, fd__law_spread, g__law_spread, ok__law_spread T F__law_spread , F__law_spread.kp, F__law_spread.bindsN fun _ _ _ _ _ _ us hl => match us, hl with | [_], _ => rfl⟩
  have C__law_draw : Cal ⟨Kf, P, w⟩ mg base 2 "_law_draw" ["pool", "many"] (spD ⟨Kf, P, w⟩ m__law_draw) := ⟨_, fd__law_draw, g__law_draw, ok__law_draw T F__law_draw C__law_spread, F__law_draw.kp, F__law_draw.bindsN fun _ _ _ _ _ _ us hl => match us, hl with | [_, _], _ => rfl⟩
  have C__law_duty_wishes : Cal ⟨Kf, P, w⟩ mg base 3 "_law_duty_wishes" ["pool"] (spD ⟨Kf, P, w⟩ m__law_duty_wishes) := ⟨_, fd__law_duty_wishes, g__law_duty_wishes, ok__law_duty_wishes T F__law_duty_wishes C__law_draw, F__law_duty_wishes.kp, F__law_duty_wishes.bindsN fun _ _ _ _ _ _ us hl => match us, hl with | [_], _ => rfl⟩
  have C__law_rosters : Cal ⟨Kf, P, w⟩ mg base 1 "_law_rosters" ["people"] (spD ⟨Kf, P, w⟩ m__law_rosters) := ⟨_, fd__law_rosters, g__law_rosters, ok__law_rosters T F__law_rosters , F__law_rosters.kp, F__law_rosters.bindsN fun _ _ _ _ _ _ us hl => match us, hl with | [_], _ => rfl⟩
  have C__law_same : Cal ⟨Kf, P, w⟩ mg base 13 "_law_same" ["actual", "due"] (spD ⟨Kf, P, w⟩ (m__law_same 12)) := ⟨_, fd__law_same, g__law_same, ok__law_same T F__law_same g__law_same  12, F__law_same.kp, F__law_same.bindsN fun _ _ _ _ _ _ us hl => match us, hl with | [_, _], _ => rfl⟩
  have C_all_rosters : Cal ⟨Kf, P, w⟩ mg base 1 "all_rosters" ["people"] (spD ⟨Kf, P, w⟩ m_all_rosters) := ⟨_, fd_all_rosters, g_all_rosters, ok_all_rosters T F_all_rosters , F_all_rosters.kp, F_all_rosters.bindsN fun _ _ _ _ _ _ us hl => match us, hl with | [_], _ => rfl⟩
  have C_as_settled : Cal ⟨Kf, P, w⟩ mg base 1 "as_settled" ["roster"] (spD ⟨Kf, P, w⟩ m_as_settled) := ⟨_, fd_as_settled, g_as_settled, ok_as_settled T F_as_settled , F_as_settled.kp, F_as_settled.bindsN fun _ _ _ _ _ _ us hl => match us, hl with | [_], _ => rfl⟩
  have C_is_met : Cal ⟨Kf, P, w⟩ mg base 1 "is_met" ["wish", "settled"] (spD ⟨Kf, P, w⟩ m_is_met) := ⟨_, fd_is_met, g_is_met, ok_is_met T F_is_met , F_is_met.kp, F_is_met.bindsN fun _ _ _ _ _ _ us hl => match us, hl with | [_, _], _ => rfl⟩
  have C_is_crossed : Cal ⟨Kf, P, w⟩ mg base 2 "is_crossed" ["clause", "settled"] (spD ⟨Kf, P, w⟩ m_is_crossed) := ⟨_, fd_is_crossed, g_is_crossed, ok_is_crossed T F_is_crossed C_is_met, F_is_crossed.kp, F_is_crossed.bindsN fun _ _ _ _ _ _ us hl => match us, hl with | [_, _], _ => rfl⟩
  have C_unmet : Cal ⟨Kf, P, w⟩ mg base 3 "unmet" ["wishes", "roster"] (spD ⟨Kf, P, w⟩ m_unmet) := ⟨_, fd_unmet, g_unmet, ok_unmet T F_unmet C_as_settled C_is_crossed, F_unmet.kp, F_unmet.bindsN fun _ _ _ _ _ _ us hl => match us, hl with | [_, _], _ => rfl⟩
  have C_good_rosters : Cal ⟨Kf, P, w⟩ mg base 4 "good_rosters" ["wishes"] (spD ⟨Kf, P, w⟩ m_good_rosters) := ⟨_, fd_good_rosters, g_good_rosters, ok_good_rosters T F_good_rosters C_all_rosters C_unmet, F_good_rosters.kp, F_good_rosters.bindsN fun _ _ _ _ _ _ us hl => match us, hl with | [_], _ => rfl⟩
  have C_rosters : Cal ⟨Kf, P, w⟩ mg base 5 "rosters" ["wishes"] (spD ⟨Kf, P, w⟩ m_rosters) := ⟨_, fd_rosters, g_rosters, ok_rosters T F_rosters C_good_rosters, F_rosters.kp, F_rosters.bindsN fun _ _ _ _ _ _ us hl => match us, hl with | [_], _ => rfl⟩
  have C_fewest_unmet : Cal ⟨Kf, P, w⟩ mg base 4 "fewest_unmet" ["wishes"] (spD ⟨Kf, P, w⟩ m_fewest_unmet) := ⟨_, fd_fewest_unmet, g_fewest_unmet, ok_fewest_unmet T F_fewest_unmet C_unmet C_all_rosters, F_fewest_unmet.kp, F_fewest_unmet.bindsN fun _ _ _ _ _ _ us hl => match us, hl with | [_], _ => rfl⟩
  have C__law_meets : Cal ⟨Kf, P, w⟩ mg base 1 "_law_meets" ["clause", "roster"] (spD ⟨Kf, P, w⟩ m__law_meets) := ⟨_, fd__law_meets, g__law_meets, ok__law_meets T F__law_meets , F__law_meets.kp, F__law_meets.bindsN fun _ _ _ _ _ _ us hl => match us, hl with | [_, _], _ => rfl⟩
  have C__law_unmet : Cal ⟨Kf, P, w⟩ mg base 2 "_law_unmet" ["wishes", "roster"] (spD ⟨Kf, P, w⟩ m__law_unmet) := ⟨_, fd__law_unmet, g__law_unmet, ok__law_unmet T F__law_unmet C__law_meets, F__law_unmet.kp, F__law_unmet.bindsN fun _ _ _ _ _ _ us hl => match us, hl with | [_, _], _ => rfl⟩
  have C_always : Cal ⟨Kf, P, w⟩ mg base 5 "always" ["wishes"] (spD ⟨Kf, P, w⟩ m_always) := ⟨_, fd_always, g_always, ok_always T F_always C_good_rosters, F_always.kp, F_always.bindsN fun _ _ _ _ _ _ us hl => match us, hl with | [_], _ => rfl⟩
  exact ok_law (K := ⟨Kf, P, w⟩) T F_law C__law_pool C__law_duty_wishes C__law_rosters C__law_same C_rosters C_fewest_unmet C__law_unmet C_always C__law_draw
theorem start {K : KW} {H : Hp} {a : Addr} {ns : List Int} (hl : ns.length ≤ 63) (hO : Only H) (hS : SqL K.f H a (ns.map V.int)) (E : XK) : spD K m_law [.ref a] H (fun v _ => v = .bl true) E := by
  refine ⟨⟨fun _ => none, fun _ => none, H, fun _ _ e => (by cases e)⟩, [.sc ns], [.sc ns], .bl true, rfl, pure_law ns hl, ⟨rfl, fun i s e => ?_, fun i hi => ⟨rfl, rfl⟩, fun _ _ _ e => (by cases e), fun _ _ e => (by cases e), fun _ _ e => (by cases e), fun _ _ e _ => e, fun _ _ e => (by cases e)⟩, rfl, fun v H' _ _ hd => ?_⟩
  · cases i with
    | zero =>
      cases e
      refine ⟨rfl, rfl, a, rfl, ?_⟩
      rcases hS with (h | h) | h
      · rcases hO a with z | ⟨o, xs, z⟩
        · rw [z] at h; cases h
        · rw [z] at h; cases h
      · exact .inl ⟨h, fun z => z.elim (fun q => q rfl) fun ⟨_, q⟩ => (by cases q)⟩
      · exact .inr h
    | succ i => cases e
  · cases hd; rfl
end HD
open PySem PySem.W PySem.Calls PyProof.Rows
theorem PySem.Challenge.cw_everyhaven_k61_whole_rosters_counted_holds : PySem.Challenge.rw_everyhaven_k61_whole_rosters_counted.Holds := by
  w_on; o_law
  refine HandSHeadRun.head_any (r := OpenLaw.row PySem.Challenge.rw_everyhaven_k61_whole_rosters_counted) (q := view (OpenLaw.row PySem.Challenge.rw_everyhaven_k61_whole_rosters_counted).prog [19]) (H := HD.hk) (ob := HD.ob) (M := 4000) (loose := ((["is_met", "is_crossed", "as_settled", "unmet", "all_rosters", "good_rosters", "rosters", "always", "fewest_unmet", "_law_same", "_law_pool", "_law_spread", "_law_draw", "_law_duty_wishes", "_law_rosters", "_law_meets", "_law_unmet"] : List Str) ++ ([] : List Str))) (d := HandSHeadRun.topDef (OpenLaw.row PySem.Challenge.rw_everyhaven_k61_whole_rosters_counted).prog 19) (kwd := []) HD.ob_eq
    (by kernel_rfl) (fun s => by kernel_rfl) HD.run (by kernel_rfl) (by kernel_rfl) (by kernel_rfl) (by rfl) (by first | assumption | decide +kernel) (by decide +kernel) ⟨rfl, rfl, rfl, rfl, rfl, by decide +kernel⟩ ?hw ?hc
  case hw => w_witness2
  case hc =>
    refine L2.walk_ofE (l := PySem.Challenge.rw_everyhaven_k61_whole_rosters_counted) (n := 63) (k := 14) (x := "script") (CX := L2.CX0) rfl (by decide) (by kernel_rfl) ⟨rfl, by decide, by decide⟩ ?F (fun _ _ _ _ z => z)
    intro w mg fa h Y G hmg0
    obtain ⟨K, KX, c⟩ := Y
    have hmg : mg ("law" : PySem.Str) = some (.ref fa) := by
      have e : (HandSHeadRun.topDef (OpenLaw.row PySem.Challenge.rw_everyhaven_k61_whole_rosters_counted).prog 19).name = ("law" : PySem.Str) := by kernel_rfl
      rw [← e]
      exact hmg0
    obtain ⟨fd, hb, hF⟩ := HD.facts (P := (PySem.Challenge.rw_everyhaven_k61_whole_rosters_counted).prog) (w := w) KX G hmg c
    exact ⟨K, fd, DL.spD ⟨K, (PySem.Challenge.rw_everyhaven_k61_whole_rosters_counted).prog, w⟩ DL.m_law, KX, hb, fun H a ns hl hO hS => HD.start hl hO hS _, hF⟩

