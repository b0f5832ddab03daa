import PyProof.Rows.All
import Wide.All
import OpenK.AllK
import Wide.FinOn
import HandS.ForMost
import HandS.Deep
import HandS.Walk
import KE.KDictKeyed
import HandS.TupAny
import HandS.TupMul
import HandS.Style
import HandS.Conv
import HandS.Defaults
import HandS.Lambda
import HandS.Flow
import HandS.IsInst
import KE.DataMinMax
import KE.DataFind
import KE.DataIsa
import KE.SortData
import KE.DataCmp
import KE.DataAny
import HandS.Zip
import KE.GoesEnum
import KE.GoesMore
import KE.KRevSl
import HandS.Dict
import PyProof.SumWalkG
import KE.KDictWalk
import HandS.ExcOwn
import HandS.ExcIs
import HandS.WordsExc
import KE.GoesEnumKw
import KE.GoesRaise
import HandS.Text
import HandS.Codes
import HandS.FStr
import HandS.Head0
import HandS.Head1
import HandS.Head2
import HandS.HeadEnd
import HandS.HeadHook1
import HandS.HeadHook2
import HandS.HeadHook3
import HandS.HeadHook4
import HandS.HeadWalk
import HandS.NestedK
import KE.KStateDown
import PySem.Challenge.RW_edgepieces_k34_laying_texts
set_option Elab.async false
set_option linter.all false
set_option maxRecDepth 100000
set_option maxHeartbeats 4000000
namespace Dt
open PySem PySem.Spec L2
/-- a mark: what stands in it is left alone by rewriting until it comes to the head -/
class Tg {α : Sort u} (x : α) : Type where
  b : Bool
instance tgI {α : Sort u} (x : α) : Tg x := ⟨true⟩
abbrev M (G : Type) (a : Type) := G → Option (a × G)
section
variable {G a b c : Type}
def ret (x : a) : M G a := fun g => some (x, g)
def fail : M G a := fun _ => none
def bnd (m : M G a) (f : a → M G b) [Tg f] : M G b := fun g => match m g with
  | none => none
  | some (x, g') => f x g'
def lft (o : Option a) : M G a := fun g => o.map fun x => (x, g)
@[simp] theorem bnd_ret (x : a) (f : a → M G b) {t : Tg f} : @bnd G a b (ret x) f t = f x := id rfl
@[simp] theorem bnd_fail (f : a → M G b) {t : Tg f} : @bnd G a b (fail : M G a) f t = fail := id rfl
@[simp] theorem bnd_bnd (m : M G a) (f : a → M G b) (k : b → M G c) {t1 : Tg f} {t2 : Tg k} : @bnd G b c (@bnd G a b m f t1) k t2 = bnd m fun x => bnd (f x) k := by
  funext g; unfold bnd; cases m g with
  | none => rfl
  | some p => rfl
@[simp] theorem lft_some (x : a) : (lft (some x) : M G a) = ret x := id rfl
@[simp] theorem lft_none : (lft none : M G a) = fail := id rfl
theorem bnd_someT {m : M G a} {f : a → M G b} {t : Tg f} {g : G} {r : b × G} (h : @bnd G a b m f t g = some r) : ∃ x g', m g = some (x, g') ∧ f x g' = some r := by
  unfold bnd at h
  cases e : m g with
  | none => rw [e] at h; cases h
  | some p => rw [e] at h; exact ⟨p.1, p.2, rfl, h⟩
theorem bnd_some {m : M G a} {f : a → M G b} {g : G} {r : b × G} (h : bnd m f g = some r) : ∃ x g', m g = some (x, g') ∧ f x g' = some r := bnd_someT h
theorem lft_some_of {o : Option a} {g : G} {r : a × G} (h : lft o g = some r) : o = some r.1 ∧ g = r.2 := by
  unfold lft at h
  cases o with
  | none => cases h
  | some x => cases h; exact ⟨rfl, rfl⟩
theorem bnd_eq {m : M G a} {f : a → M G b} {t : Tg f} {g g' : G} {x : a} (h : m g = some (x, g')) : @bnd G a b m f t g = f x g' := by
  unfold bnd; rw [h]
end
/-- a new tuple's object -/
def tupO (us : List Value) : Obj := { cls := .type "tuple", data := .seq us.toArray }
/-- a tuple of these, exactly known or of the module's own -/
def Tp (K : PySem.W.Frag) (F : Hp) (a : Addr) (xs : List V) : Prop := (∃ us, F a = some (.frz (tupO us) (.tup xs))) ∨
  ∃ (o : Obj) (its : Array Value) (n : Nat), K.lookup a = some o ∧ o.cls = .type "tuple" ∧ o.dict = none ∧ o.data = .seq its n ∧ its.size ≤ sizeLine ∧ Vals xs its.toList
mutual
inductive Dv (K : PySem.W.Frag) (F : Hp) : V → PyData → Prop
  | non : Dv K F .non .none
  | bl (b : Bool) : Dv K F (.bl b) (.bool b)
  | int (i : Int) : Dv K F (.int i) (.int i)
  | str (x : Str) : Dv K F (.str x) (.str x)
  | lst {a : Addr} {xs : List V} {ds : List PyData} : F a = some (.lst xs) → DvAll K F xs ds → Dv K F (.ref a) (.list ds)
  | tup {a : Addr} {xs : List V} {ds : List PyData} : Tp K F a xs → DvAll K F xs ds → Dv K F (.ref a) (.tuple ds)
inductive DvAll (K : PySem.W.Frag) (F : Hp) : List V → List PyData → Prop
  | nil : DvAll K F [] []
  | cons {v : V} {vs : List V} {d : PyData} {ds : List PyData} : Dv K F v d → DvAll K F vs ds → DvAll K F (v :: vs) (d :: ds)
end
theorem Tp.mono {K : PySem.W.Frag} {F F' : Hp} {a : Addr} {xs : List V} (e : Same F F') (h : Tp K F a xs) : Tp K F' a xs := by
  rcases h with ⟨us, h⟩ | h
  · exact .inl ⟨us, e _ _ h⟩
  · exact .inr h
theorem Tp.sq {K : PySem.W.Frag} {F H : Hp} {a : Addr} {xs : List V} (e : Same F H) (h : Tp K F a xs) : SqT K H a xs := by
  rcases h with ⟨us, h⟩ | ⟨o, its, n, h1, h2, h3, h4⟩
  · exact .inl (.inr ⟨_, e _ _ h⟩)
  · exact .inr ⟨o, its, n, h1, h2, h4⟩
mutual
theorem Dv.dp {K : PySem.W.Frag} {F H : Hp} (e : Same F H) : ∀ {v : V} {d : PyData}, Dv K F v d → Dp K H v d
  | _, _, .non => .non
  | _, _, .bl b => .bl b
  | _, _, .int i => .int i
  | _, _, .str x => .str x
  | _, _, .lst h a => .lst (.inl (.inl (e _ _ h))) (DvAll.dp e a)
  | _, _, .tup h a => .tup (h.sq e) (DvAll.dp e a)
theorem DvAll.dp {K : PySem.W.Frag} {F H : Hp} (e : Same F H) : ∀ {v : List V} {d : List PyData}, DvAll K F v d → DpAll K H v d
  | _, _, .nil => .nil
  | _, _, .cons h t => .cons (Dv.dp e h) (DvAll.dp e t)
end
mutual
theorem dv_mono {K : PySem.W.Frag} {F F' : Hp} (e : Same F F') : ∀ {v : V} {d : PyData}, Dv K F v d → Dv K F' v d
  | _, _, .non => .non
  | _, _, .bl b => .bl b
  | _, _, .int i => .int i
  | _, _, .str x => .str x
  | _, _, .lst h a => .lst (e _ _ h) (dva_mono e a)
  | _, _, .tup h a => .tup (h.mono e) (dva_mono e a)
theorem dva_mono {K : PySem.W.Frag} {F F' : Hp} (e : Same F F') : ∀ {v : List V} {d : List PyData}, DvAll K F v d → DvAll K F' v d
  | _, _, .nil => .nil
  | _, _, .cons h t => .cons (dv_mono e h) (dva_mono e t)
end
/-- what a slot owns besides a list of frozen data: a list of lists, a dict, a dict of lists -/
inductive Bg where
  | l2 (dss : List (List PyData))
  | dic (kvs : List (PyData × PyData))
  | dicL (kvs : List (PyData × List PyData))
/-- an exception: its class, its number -/
structure Xc where
  cls : Str
  num : Option PyData
/-- an exception's object that was caught and is kept -/
def KptO (C : Addr) (d : Option Addr) (a : Addr) : HO := .ext fun h => ∃ (oe : Obj) (vs : Array Value), h.get? a = some oe ∧ oe.cls = .ref C ∧ oe.dict = d ∧ oe.data = .fields vs
/-- a dict's pairs, values as data -/
inductive KdR (K : PySem.W.Frag) (F : Hp) : List (Key × V) → List (Key × PyData) → Prop
  | nil : KdR K F [] []
  | cons {k : Key} {v : V} {d : PyData} {es : List (Key × V)} {kvs : List (Key × PyData)} : Dv K F v d → KdR K F es kvs → KdR K F ((k, v) :: es) ((k, d) :: kvs)
theorem KdR.mono {K : PySem.W.Frag} {F F' : Hp} (e : Same F F') : ∀ {es : List (Key × V)} {kvs : List (Key × PyData)}, KdR K F es kvs → KdR K F' es kvs
  | _, _, .nil => .nil
  | _, _, .cons h t => .cons (dv_mono e h) (KdR.mono e t)
inductive Sl where
  | val (d : PyData)
  | own (ds : List PyData)
  | raw (v : V)
  | obj (o : HO)
  | big (b : Bg)
  | fdic (kvs : List (PyData × PyData))
  | exc (c : Xc)
  | kdic (kvs : List (Key × PyData))
inductive Ar where
  | d (d : PyData)
  | raw (v : V)
inductive Rt where
  | d (d : PyData)
  | l (ds : List PyData)
  | raw (v : V)
  | obj (o : HO)
abbrev Ev := List (Option Sl)
inductive Fl where
  | next (r : Ev)
  | brk (r : Ev)
  | cont (r : Ev)
  | ret (x : Rt)
structure GI (G : Type) where
  wld : World
  cls : Str → Option Addr
  rel : G → Hp → Hp → Prop
  adr : G → Addr → Prop
  dom : ∀ g F H a, rel g F H → adr g a → H a ≠ none
  stab : ∀ g F F' H H', rel g F H → Same F F' → (∀ a, adr g a → H' a = H a) → rel g F' H'
def dicP (a : Addr) (es : List DictEntry) (h : Heap) : Prop := ∃ o esA ep, h.get? a = some o ∧ o.ExactDict ∧ o.data = .dict esA ep ∧ esA.toList = es
def DicO (a : Addr) (es : List DictEntry) : HO := .ext (dicP a es)
theorem dicP_ex (a : Addr) (es : List DictEntry) : ∃ h, dicP a es h := by
  refine ⟨⟨Array.replicate (a + 1) { cls := .type "dict", data := .dict es.toArray }, {}⟩, { cls := .type "dict", data := .dict es.toArray }, es.toArray, 0, ?_, ⟨rfl, rfl, rfl⟩, rfl, rfl⟩
  unfold Heap.get?
  simp
theorem DicO_inj {a : Addr} {es es' : List DictEntry} (h : DicO a es = DicO a es') : es = es' := by
  have e : dicP a es = dicP a es' := HO.ext.inj h
  obtain ⟨hp, q⟩ := dicP_ex a es
  have q' : dicP a es' hp := e ▸ q
  obtain ⟨o, A, ep, h1, _, h2, rfl⟩ := q
  obtain ⟨o', A', ep', h1', _, h2', rfl⟩ := q'
  rw [h1] at h1'
  cases h1'
  rw [h2] at h2'
  cases h2'
  rfl
mutual
def keyN : PyData → Option NestedKey
  | .none => some .none
  | .bool b => some (.num (if b = true then 1 else 0))
  | .int i => some (.num i)
  | .str x => some (.text x)
  | .tuple ds => (keyNs ds).map .tup
  | .list _ => none
  | .dict _ => none
def keyNs : List PyData → Option (List NestedKey)
  | [] => some []
  | d :: ds => match keyN d, keyNs ds with
    | some k, some ks => some (k :: ks)
    | _, _ => none
end
section
variable (w : World) (K : PySem.W.Frag)
def KeyR (F : Hp) (e : DictEntry) (k : PyData) : Prop := ∃ nk v, keyN k = some nk ∧ nk.depth ≤ 8 ∧ e.hash = nk.hash w ∧ RelV v e.key ∧ Dv K F v k
inductive EnR (F : Hp) : List DictEntry → List (PyData × PyData) → Prop
  | nil : EnR F [] []
  | cons {e : DictEntry} {k d : PyData} {v : V} {es : List DictEntry} {kvs : List (PyData × PyData)} : KeyR w K F e k → RelV v e.val → Dv K F v d → EnR F es kvs → EnR F (e :: es) ((k, d) :: kvs)
inductive EnL (F H : Hp) : List DictEntry → List (PyData × List PyData) → Prop
  | nil : EnL F H [] []
  | cons {e : DictEntry} {k : PyData} {p : Addr} {xs : List V} {ds : List PyData} {es : List DictEntry} {kvs : List (PyData × List PyData)} : KeyR w K F e k → e.val = .ref p → H p = some (.lst xs) → DvAll K F xs ds → EnL F H es kvs → EnL F H (e :: es) ((k, ds) :: kvs)
inductive LsR (F H : Hp) : List Addr → List (List PyData) → Prop
  | nil : LsR F H [] []
  | cons {p : Addr} {xs : List V} {ds : List PyData} {ps : List Addr} {dss : List (List PyData)} : H p = some (.lst xs) → DvAll K F xs ds → LsR F H ps dss → LsR F H (p :: ps) (ds :: dss)
def BgR (F H : Hp) (v : V) : Bg → Prop
  | .l2 dss => ∃ b ps, v = .ref b ∧ H b = some (.lst (ps.map V.ref)) ∧ ps.Nodup ∧ b ∉ ps ∧ LsR K F H ps dss
  | .dic kvs => ∃ b es, v = .ref b ∧ (b == sysModules) = false ∧ H b = some (DicO b es) ∧ EnR w K F es kvs ∧ (kvs.map fun p => keyN p.1).Nodup
  | .dicL kvs => ∃ b es, v = .ref b ∧ (b == sysModules) = false ∧ H b = some (DicO b es) ∧ EnL w K F H es kvs ∧ (kvs.map fun p => keyN p.1).Nodup ∧ (es.map (·.val)).Nodup ∧ ∀ e ∈ es, e.val ≠ .ref b
end
/-- what is owned -/
def fpB (H : Hp) (v : V) : Bg → Addr → Prop
  | .l2 _, a => ∃ b, v = .ref b ∧ (a = b ∨ ∃ xs, H b = some (.lst xs) ∧ V.ref a ∈ xs)
  | .dic _, a => v = .ref a
  | .dicL _, a => ∃ b, v = .ref b ∧ (a = b ∨ ∃ es, H b = some (DicO b es) ∧ ∃ e ∈ es, e.val = .ref a)
def Ows (H : Hp) (o : Option (Option V)) : Sl → Addr → Prop
  | .own _, a => o = some (some (.ref a))
  | .big B, a => ∃ v, o = some (some v) ∧ fpB H v B a
  | _, _ => False
theorem fpB_same {H H' : Hp} {v : V} {B : Bg} {a : Addr} (h : ∀ b, v = .ref b → H' b = H b) : fpB H' v B a ↔ fpB H v B a := by
  cases B with
  | l2 dss =>
    constructor
    · rintro ⟨b, rfl, z⟩
      rw [h b rfl] at z
      exact ⟨b, rfl, z⟩
    · rintro ⟨b, rfl, z⟩
      rw [← h b rfl] at z
      exact ⟨b, rfl, z⟩
  | dic kvs => exact Iff.rfl
  | dicL kvs =>
    constructor
    · rintro ⟨b, rfl, z⟩
      rw [h b rfl] at z
      exact ⟨b, rfl, z⟩
    · rintro ⟨b, rfl, z⟩
      rw [← h b rfl] at z
      exact ⟨b, rfl, z⟩
theorem fpB_root {H : Hp} {b : Addr} {B : Bg} : fpB H (.ref b) B b := by
  cases B with
  | l2 dss => exact ⟨b, rfl, .inl rfl⟩
  | dic kvs => rfl
  | dicL kvs => exact ⟨b, rfl, .inl rfl⟩
/-- owned things that stay: the same is owned -/
theorem Ows.same {H H' : Hp} {o : Option (Option V)} {s : Sl} (h : ∀ a, Ows H o s a → H' a = H a) (a : Addr) : Ows H' o s a ↔ Ows H o s a := by
  cases s with
  | val d => exact Iff.rfl
  | own ds => exact Iff.rfl
  | raw v => exact Iff.rfl
  | obj u => exact Iff.rfl
  | fdic kvs => exact Iff.rfl
  | exc c => exact Iff.rfl
  | kdic kvs => exact Iff.rfl
  | big B =>
    have key : ∀ v, o = some (some v) → (fpB H' v B a ↔ fpB H v B a) := fun v e => fpB_same fun b hb => h b ⟨v, e, by rw [hb]; exact fpB_root⟩
    constructor
    · rintro ⟨v, e, z⟩
      exact ⟨v, e, (key v e).mp z⟩
    · rintro ⟨v, e, z⟩
      exact ⟨v, e, (key v e).mpr z⟩
section
variable {w : World} {K : PySem.W.Frag} {F F' H H' : Hp}
theorem KeyR.mono (s : Same F F') {e : DictEntry} {k : PyData} (h : KeyR w K F e k) : KeyR w K F' e k := by
  obtain ⟨nk, v, h1, h2, h3, h4, h5⟩ := h
  exact ⟨nk, v, h1, h2, h3, h4, dv_mono s h5⟩
theorem EnR.mono (s : Same F F') : ∀ {es : List DictEntry} {kvs : List (PyData × PyData)}, EnR w K F es kvs → EnR w K F' es kvs
  | _, _, .nil => .nil
  | _, _, .cons a b c t => .cons (a.mono s) b (dv_mono s c) (EnR.mono s t)
theorem EnL.keep (s : Same F F') : ∀ {es : List DictEntry} {kvs : List (PyData × List PyData)}, (∀ e ∈ es, ∀ p, e.val = .ref p → H' p = H p) → EnL w K F H es kvs → EnL w K F' H' es kvs
  | _, _, _, .nil => .nil
  | _, _, h, .cons a b c d t => .cons (a.mono s) b ((h _ (List.mem_cons_self ..) _ b).trans c) (dva_mono s d) (EnL.keep s (fun e he => h e (List.mem_cons_of_mem _ he)) t)
theorem LsR.keep (s : Same F F') : ∀ {ps : List Addr} {dss : List (List PyData)}, (∀ p ∈ ps, H' p = H p) → LsR K F H ps dss → LsR K F' H' ps dss
  | _, _, _, .nil => .nil
  | _, _, h, .cons a b t => .cons ((h _ (List.mem_cons_self ..)).trans a) (dva_mono s b) (LsR.keep s (fun e he => h e (List.mem_cons_of_mem _ he)) t)
theorem LsR.at_ : ∀ {ps : List Addr} {dss : List (List PyData)}, LsR K F H ps dss → ∀ p ∈ ps, H p ≠ none
  | _, _, .nil, _, h => nomatch h
  | _, _, .cons a b t, p, h => by
    rcases List.mem_cons.mp h with rfl | h
    · rw [a]; exact fun z => nomatch z
    · exact LsR.at_ t p h
theorem EnL.at_ : ∀ {es : List DictEntry} {kvs : List (PyData × List PyData)}, EnL w K F H es kvs → ∀ e ∈ es, ∃ p xs, e.val = .ref p ∧ H p = some (.lst xs)
  | _, _, .nil, _, h => nomatch h
  | _, _, .cons a b c d t, e, h => by
    rcases List.mem_cons.mp h with rfl | h
    · exact ⟨_, _, b, c⟩
    · exact EnL.at_ t e h
theorem BgR.keep (s : Same F F') {v : V} {B : Bg} (h : ∀ a, fpB H v B a → H' a = H a) (q : BgR w K F H v B) : BgR w K F' H' v B := by
  cases B with
  | l2 dss =>
    obtain ⟨b, ps, rfl, h1, h2, h3, h4⟩ := q
    exact ⟨b, ps, rfl, (h b ⟨b, rfl, .inl rfl⟩).trans h1, h2, h3, h4.keep s fun p hp => h p ⟨b, rfl, .inr ⟨_, h1, List.mem_map.mpr ⟨p, hp, rfl⟩⟩⟩⟩
  | dic kvs =>
    obtain ⟨b, es, rfl, h0, h1, h2, h3⟩ := q
    exact ⟨b, es, rfl, h0, (h b rfl).trans h1, h2.mono s, h3⟩
  | dicL kvs =>
    obtain ⟨b, es, rfl, h0, h1, h2, h3, h4, h5⟩ := q
    exact ⟨b, es, rfl, h0, (h b ⟨b, rfl, .inl rfl⟩).trans h1, h2.keep s fun e he p hp => h p ⟨b, rfl, .inr ⟨es, h1, e, he, hp⟩⟩, h3, h4, h5⟩
theorem BgR.alive {v : V} {B : Bg} {a : Addr} (q : BgR w K F H v B) (h : fpB H v B a) : H a ≠ none := by
  cases B with
  | l2 dss =>
    obtain ⟨b, ps, rfl, h1, h2, h3, h4⟩ := q
    obtain ⟨_, e, rfl | ⟨xs, hx, hm⟩⟩ := h
    · cases e; rw [h1]; exact fun z => nomatch z
    · cases e
      rw [h1] at hx
      cases hx
      obtain ⟨p, hp, e⟩ := List.mem_map.mp hm
      cases e
      exact h4.at_ a hp
  | dic kvs =>
    obtain ⟨b, es, rfl, h0, h1, h2, h3⟩ := q
    cases h
    rw [h1]; exact fun z => nomatch z
  | dicL kvs =>
    obtain ⟨b, es, rfl, h0, h1, h2, h3, h4, h5⟩ := q
    obtain ⟨_, e, rfl | ⟨xs, hx, e', he', hv⟩⟩ := h
    · cases e; rw [h1]; exact fun z => nomatch z
    · cases e
      rw [h1] at hx
      have := DicO_inj (Option.some.inj hx)
      subst this
      obtain ⟨p, us, z1, z2⟩ := h2.at_ e' he'
      rw [hv] at z1
      cases z1
      rw [z2]; exact fun z => nomatch z
theorem LsR.atL : ∀ {ps : List Addr} {dss : List (List PyData)}, LsR K F H ps dss → ∀ p ∈ ps, ∃ xs, H p = some (.lst xs)
  | _, _, .nil, p, h => nomatch h
  | _, _, .cons h1 _ t, p, h => by
    rcases List.mem_cons.mp h with rfl | h
    · exact ⟨_, h1⟩
    · exact LsR.atL t p h
theorem BgR.notT {v : V} {B : Bg} {a : Addr} {qs : Array Value} (q : BgR w K F H v B) (h : fpB H v B a) : H a ≠ some (.tbl qs) := by
  cases B with
  | l2 dss =>
    obtain ⟨b, ps, rfl, h1, h2, h3, h4⟩ := q
    obtain ⟨_, e, rfl | ⟨xs, hx, hm⟩⟩ := h
    · cases e; rw [h1]; exact fun z => nomatch z
    · cases e
      rw [h1] at hx
      cases hx
      obtain ⟨p, hp, e⟩ := List.mem_map.mp hm
      cases e
      obtain ⟨xs, z⟩ := h4.atL a hp
      rw [z]; exact fun z => nomatch z
  | dic kvs =>
    obtain ⟨b, es, rfl, h0, h1, h2, h3⟩ := q
    cases h
    rw [h1]; exact fun z => nomatch z
  | dicL kvs =>
    obtain ⟨b, es, rfl, h0, h1, h2, h3, h4, h5⟩ := q
    obtain ⟨_, e, rfl | ⟨xs, hx, e', he', hv⟩⟩ := h
    · cases e; rw [h1]; exact fun z => nomatch z
    · cases e
      rw [h1] at hx
      have := DicO_inj (Option.some.inj hx)
      subst this
      obtain ⟨p, us, z1, z2⟩ := h2.at_ e' he'
      rw [hv] at z1
      cases z1
      rw [z2]; exact fun z => nomatch z
end
section
variable {G : Type} (gi : GI G) (K : PySem.W.Frag)
/-- an exception's class and dict -/
def XcR (cl : Str → Option Addr) (F : Hp) (c : Xc) (C : Addr) (d : Option Addr) : Prop := cl c.cls = some C ∧ match c.num with
  | none => d = none
  | some n => ∃ dd v, d = some dd ∧ F dd = some (.xd [("number", v)]) ∧ Dv K F v n
/-- the entry of a def: the heap, the frozen part, the world's objects there -/
structure En (G : Type) where
  B : Hp
  F0 : Hp
  g0 : G
def SlotR (F H : Hp) (en : En G) (g : G) (o : Option (Option V)) : Sl → Prop
  | .val d => ∃ v, o = some (some v) ∧ Dv K F v d
  | .own ds => ∃ a xs, o = some (some (.ref a)) ∧ H a = some (.lst xs) ∧ F a = none ∧ en.B a = none ∧ ¬ gi.adr g a ∧ DvAll K F xs ds
  | .raw v => o = some (some v)
  | .obj u => ∃ a, o = some (some (.ref a)) ∧ F a = some u
  | .big B => ∃ v, o = some (some v) ∧ BgR gi.wld K F H v B ∧ ∀ a, fpB H v B a → F a = none ∧ en.B a = none ∧ ¬ gi.adr g a
  | .fdic kvs => ∃ a od es, o = some (some (.ref a)) ∧ (a == sysModules) = false ∧ F a = some (.frz od (DicO a es)) ∧ EnR gi.wld K F es kvs
  | .exc c => ∃ a C d, o = some (some (.ref a)) ∧ F a = some (KptO C d a) ∧ XcR K gi.cls F c C d
  | .kdic kvs => ∃ a es, o = some (some (.ref a)) ∧ F a = some (.dK es) ∧ KdR K F es kvs
structure R (en : En G) (F H : Hp) (g : G) (σ : St) (ρ : Ev) : Prop where
  sub : Same F H
  f0 : Same en.F0 F
  fz : ∀ a o, F a = some o → ¬ gi.adr g a
  bs : ∀ a o, en.B a = some o → ¬ gi.adr g a → H a = some o
  fnew : ∀ a o, F a = some o → en.F0 a = some o ∨ en.B a = none
  am : ∀ a, gi.adr en.g0 a → gi.adr g a
  an : ∀ a, gi.adr g a → gi.adr en.g0 a ∨ en.B a = none
  gr : gi.rel g F H
  nt : (∀ a ps, F a ≠ some (.tbl ps)) ∧ ∀ a ps, en.B a ≠ some (.tbl ps)
  sl : ∀ (i : Nat) (s : Sl), ρ[i]? = some (some s) → SlotR gi K F H en g σ[i]? s
  ds : ∀ (i j : Nat) (s u : Sl) (a : Addr), ρ[i]? = some (some s) → ρ[j]? = some (some u) → Ows H σ[i]? s a → Ows H σ[j]? u a → i = j
  len : ρ.length ≤ σ.length
end
section
variable {G : Type} {gi : GI G} {K : PySem.W.Frag} {en en' : En G} {F F' H H' : Hp} {g g' : G} {o : Option (Option V)} {s : Sl}
theorem XcR.mono {cl : Str → Option Addr} {c : Xc} {C : Addr} {d : Option Addr} (h : XcR K cl F c C d) (sF : Same F F') : XcR K cl F' c C d := by
  obtain ⟨h1, h2⟩ := h
  refine ⟨h1, ?_⟩
  split at h2
  · exact h2
  · obtain ⟨dd, v, q1, q2, q3⟩ := h2
    exact ⟨dd, v, q1, sF _ _ q2, dv_mono sF q3⟩
theorem SlotR.facts (q : SlotR gi K F H en g o s) {a : Addr} (h : Ows H o s a) : F a = none ∧ en.B a = none ∧ ¬ gi.adr g a ∧ H a ≠ none := by
  cases s with
  | val d => exact h.elim
  | raw v => exact h.elim
  | obj u => exact h.elim
  | fdic kvs => exact h.elim
  | exc c => exact h.elim
  | kdic kvs => exact h.elim
  | own ds =>
    obtain ⟨b, xs, e, h1, h2, h3, h4, h5⟩ := q
    have h : o = some (some (.ref a)) := h
    rw [h] at e
    cases e
    exact ⟨h2, h3, h4, by rw [h1]; exact fun z => nomatch z⟩
  | big B =>
    obtain ⟨v, e, h1, h2⟩ := q
    obtain ⟨v', e', h⟩ := h
    rw [e] at e'
    cases e'
    exact ⟨(h2 a h).1, (h2 a h).2.1, (h2 a h).2.2, h1.alive h⟩
theorem SlotR.notT (q : SlotR gi K F H en g o s) {a : Addr} {qs : Array Value} (h : Ows H o s a) : H a ≠ some (.tbl qs) := by
  cases s with
  | val d => exact h.elim
  | raw v => exact h.elim
  | obj u => exact h.elim
  | fdic kvs => exact h.elim
  | exc c => exact h.elim
  | kdic kvs => exact h.elim
  | own ds =>
    obtain ⟨b, xs, e, h1, h2, h3, h4, h5⟩ := q
    have h : o = some (some (.ref a)) := h
    rw [h] at e
    cases e
    rw [h1]; exact fun z => nomatch z
  | big B =>
    obtain ⟨v, e, h1, h2⟩ := q
    obtain ⟨v', e', h⟩ := h
    rw [e] at e'
    cases e'
    exact h1.notT h
/-- a slot's promise stays where what it owns stays -/
theorem SlotR.keep (q : SlotR gi K F H en g o s) (sF : Same F F') (h : ∀ a, Ows H o s a → H' a = H a ∧ F' a = none ∧ en'.B a = none ∧ ¬ gi.adr g' a) : SlotR gi K F' H' en' g' o s := by
  cases s with
  | val d => obtain ⟨v, e, q⟩ := q; exact ⟨v, e, dv_mono sF q⟩
  | raw v => exact q
  | obj u => obtain ⟨a, e, q⟩ := q; exact ⟨a, e, sF _ _ q⟩
  | fdic kvs => obtain ⟨a, od, es, e, q0, q1, q2⟩ := q; exact ⟨a, od, es, e, q0, sF _ _ q1, q2.mono sF⟩
  | exc c => obtain ⟨a, C, d, e, q1, q2⟩ := q; exact ⟨a, C, d, e, sF _ _ q1, q2.mono sF⟩
  | kdic kvs => obtain ⟨a, es, e, q1, q2⟩ := q; exact ⟨a, es, e, sF _ _ q1, q2.mono sF⟩
  | own ds =>
    obtain ⟨b, xs, e, h1, h2, h3, h4, h5⟩ := q
    obtain ⟨z1, z2, z3, z4⟩ := h b e
    exact ⟨b, xs, e, z1.trans h1, z2, z3, z4, dva_mono sF h5⟩
  | big B =>
    obtain ⟨v, e, h1, h2⟩ := q
    refine ⟨v, e, h1.keep sF fun a ha => (h a ⟨v, e, ha⟩).1, fun a ha => ?_⟩
    have ha' : fpB H v B a := (fpB_same fun b hb => (h b ⟨v, e, by rw [hb]; exact fpB_root⟩).1).mp ha
    exact (h a ⟨v, e, ha'⟩).2
end
theorem same_upd {H : Hp} {p : Addr} {o : HO} (h : H p = none) : Same H (upd H p o) := fun b x e => by
  rw [upd_ne (ne_of_none e h)]
  exact e
theorem same_upd2 {F H : Hp} {p : Addr} {o : HO} (e : Same F H) : Same (upd F p o) (upd H p o) := fun b x h => by
  by_cases hb : b = p
  · subst hb; rw [upd_same] at h ⊢; exact h
  · rw [upd_ne hb] at h ⊢; exact e b x h
theorem same_mut {F H : Hp} {p : Addr} {o : HO} (e : Same F H) (h : F p = none) : Same F (upd H p o) := fun b x q => by
  rw [upd_ne (ne_of_none q h)]
  exact e b x q
theorem DvAll.len {K : PySem.W.Frag} {F : Hp} : ∀ {xs : List V} {ds : List PyData}, DvAll K F xs ds → xs.length = ds.length
  | _, _, .nil => rfl
  | _, _, .cons _ t => by rw [List.length_cons, List.length_cons, DvAll.len t]
theorem DvAll.get {K : PySem.W.Frag} {F : Hp} : ∀ {xs : List V} {ds : List PyData} {i : Nat} {d : PyData}, DvAll K F xs ds → ds[i]? = some d → ∃ v, xs[i]? = some v ∧ Dv K F v d
  | _, _, _, _, .nil, h => by simp at h
  | _, _, 0, _, .cons h _, e => by simp at e; subst e; exact ⟨_, rfl, h⟩
  | _, _, i + 1, d, .cons _ t, e => by
    obtain ⟨v, h1, h2⟩ := DvAll.get (i := i) (d := d) t (by simpa using e)
    exact ⟨v, by simpa using h1, h2⟩
theorem DvAll.get' {K : PySem.W.Frag} {F : Hp} : ∀ {xs : List V} {ds : List PyData} {i : Nat} {v : V}, DvAll K F xs ds → xs[i]? = some v → ∃ d, ds[i]? = some d ∧ Dv K F v d
  | _, _, _, _, .nil, h => by simp at h
  | _, _, 0, _, .cons h _, e => by simp at e; subst e; exact ⟨_, rfl, h⟩
  | _, _, i + 1, d, .cons _ t, e => by
    obtain ⟨v, h1, h2⟩ := DvAll.get' (i := i) (v := d) t (by simpa using e)
    exact ⟨v, by simpa using h1, h2⟩
theorem DvAll.app {K : PySem.W.Frag} {F : Hp} : ∀ {xs ys : List V} {ds es : List PyData}, DvAll K F xs ds → DvAll K F ys es → DvAll K F (xs ++ ys) (ds ++ es)
  | _, _, _, _, .nil, s => s
  | _, _, _, _, .cons h t, s => .cons h (DvAll.app t s)
theorem DvAll.take {K : PySem.W.Frag} {F : Hp} : ∀ {xs : List V} {ds : List PyData} (n : Nat), DvAll K F xs ds → DvAll K F (xs.take n) (ds.take n)
  | _, _, 0, _ => .nil
  | _, _, _ + 1, .nil => .nil
  | _, _, n + 1, .cons h t => .cons h (DvAll.take n t)
theorem DvAll.drop {K : PySem.W.Frag} {F : Hp} : ∀ {xs : List V} {ds : List PyData} (n : Nat), DvAll K F xs ds → DvAll K F (xs.drop n) (ds.drop n)
  | _, _, 0, h => h
  | _, _, _ + 1, .nil => .nil
  | _, _, n + 1, .cons h t => DvAll.drop n t
theorem DvAll.set {K : PySem.W.Frag} {F : Hp} {v : V} {d : PyData} (h : Dv K F v d) : ∀ {xs : List V} {ds : List PyData} (n : Nat), DvAll K F xs ds → DvAll K F (xs.set n v) (ds.set n d)
  | _, _, _, .nil => .nil
  | _, _, 0, .cons _ t => .cons h t
  | _, _, n + 1, .cons q t => .cons q (DvAll.set h n t)
theorem DvAll.erase {K : PySem.W.Frag} {F : Hp} : ∀ {xs : List V} {ds : List PyData} (n : Nat), DvAll K F xs ds → DvAll K F (xs.eraseIdx n) (ds.eraseIdx n)
  | _, _, _, .nil => .nil
  | _, _, 0, .cons _ t => t
  | _, _, n + 1, .cons q t => .cons q (DvAll.erase n t)
theorem DvAll.of_ints {K : PySem.W.Frag} {F : Hp} : ∀ {xs : List V} {ns : List Int}, DvAll K F xs (ns.map PyData.int) → xs = ns.map V.int
  | _, [], .nil => rfl
  | _, n :: ns, .cons h t => by
    cases h
    rw [List.map_cons, DvAll.of_ints t]
theorem DvAll.of_bools {K : PySem.W.Frag} {F : Hp} : ∀ {xs : List V} {bs : List Bool}, DvAll K F xs (bs.map PyData.bool) → xs = bs.map V.bl
  | _, [], .nil => rfl
  | _, n :: ns, .cons h t => by
    cases h
    rw [List.map_cons, DvAll.of_bools t]
section
variable {G : Type} {gi : GI G} {K : PySem.W.Frag} {en : En G} {F H : Hp} {g : G} {σ : St} {ρ : Ev}
/-- a new object, frozen at once -/
theorem R.free (r : R gi K en F H g σ ρ) {p : Addr} (hp : H p = none) : F p = none ∧ en.B p = none ∧ ¬ gi.adr g p := by
  have ha : ¬ gi.adr g p := fun h => gi.dom g F H p r.gr h hp
  refine ⟨r.sub.free hp, ?_, ha⟩
  cases q : en.B p with
  | none => rfl
  | some o => rw [r.bs p o q ha] at hp; cases hp
theorem nt_upd {F : Hp} {p : Addr} {o : HO} (h : ∀ a ps, F a ≠ some (.tbl ps)) (ho : ∀ ps, o ≠ .tbl ps) : ∀ a ps, upd F p o a ≠ some (.tbl ps) := fun a ps z => by
  by_cases e : a = p
  · subst e; rw [upd_same] at z; exact ho ps (Option.some.inj z)
  · rw [upd_ne e] at z; exact h a ps z
def noT (H : Hp) : Hp := fun a => match H a with
  | some (.tbl _) => none
  | o => o
theorem noT_nt (H : Hp) (a : Addr) (ps : Array Value) : noT H a ≠ some (.tbl ps) := fun z => by
  unfold noT at z
  split at z
  · cases z
  · rename_i h
    exact h ps z
theorem noT_sub {H : Hp} {a : Addr} {o : HO} (h : noT H a = some o) : H a = some o := by
  unfold noT at h
  split at h
  · cases h
  · exact h
theorem noT_some {H : Hp} {a : Addr} {o : HO} (h : H a = some o) (ho : ∀ ps, o ≠ .tbl ps) : noT H a = some o := by
  unfold noT
  split
  · rename_i ps e
    rw [h] at e
    exact absurd (Option.some.inj e) (ho ps)
  · exact h
def En.of {G : Type} (H F : Hp) (g : G) : En G := ⟨noT H, F, g⟩
theorem R.bfree (r : R gi K en F H g σ ρ) {a : Addr} (h : noT H a = none) : gi.adr g a ∨ en.B a = none := by
  by_cases q : gi.adr g a
  · exact .inl q
  · right
    cases b : en.B a with
    | none => rfl
    | some o =>
      have := noT_some (r.bs a o b q) fun ps z => r.nt.2 a ps (by rw [← z]; exact b)
      rw [h] at this
      cases this
theorem R.stabs (r : R gi K en F H g σ ρ) {p : Addr} {o : HO} {F' : Hp} (sF : Same F F') (hp : ¬ gi.adr g p) : gi.rel g F' (upd H p o) :=
  gi.stab g F F' H _ r.gr sF fun a ha => upd_ne fun e => hp (e ▸ ha)
/-- the slots stand where only what they do not own changes -/
theorem R.slots (r : R gi K en F H g σ ρ) {en' : En G} {F' H' : Hp} {g' : G} (sF : Same F F') (h : ∀ (i : Nat) (s : Sl) (a : Addr), ρ[i]? = some (some s) → Ows H σ[i]? s a → H' a = H a ∧ F' a = none ∧ en'.B a = none ∧ ¬ gi.adr g' a) :
    (∀ (i : Nat) (s : Sl), ρ[i]? = some (some s) → SlotR gi K F' H' en' g' σ[i]? s) ∧ ∀ (i j : Nat) (s u : Sl) (a : Addr), ρ[i]? = some (some s) → ρ[j]? = some (some u) → Ows H' σ[i]? s a → Ows H' σ[j]? u a → i = j :=
  ⟨fun i s e => (r.sl i s e).keep sF fun a ha => h i s a e ha, fun i j s u a e1 e2 e3 e4 => r.ds i j s u a e1 e2 ((Ows.same (fun a ha => (h i s a e1 ha).1) a).mp e3) ((Ows.same (fun a ha => (h j u a e2 ha).1) a).mp e4)⟩
theorem R.alloc (r : R gi K en F H g σ ρ) {p : Addr} {o : HO} (hp : H p = none) (ho : ∀ ps, o ≠ .tbl ps := by intro ps z; cases z) : R gi K en (upd F p o) (upd H p o) g σ ρ := by
  obtain ⟨f1, f2, f3⟩ := r.free hp
  have sF : Same F (upd F p o) := same_upd f1
  obtain ⟨s1, s2⟩ := r.slots (en' := en) (F' := upd F p o) (H' := upd H p o) (g' := g) sF fun i s a e ha => by
    obtain ⟨z1, z2, z3, z4⟩ := (r.sl i s e).facts ha
    have ne : a ≠ p := fun z => z4 (z ▸ hp)
    exact ⟨upd_ne ne, by rw [upd_ne ne]; exact z1, z2, z3⟩
  refine ⟨same_upd2 r.sub, r.f0.trans sF, fun a u h => ?_, fun a u h n => ?_, fun a u h => ?_, r.am, r.an, r.stabs sF f3, ⟨nt_upd r.nt.1 ho, r.nt.2⟩, s1, s2, r.len⟩
  · by_cases e : a = p
    · subst e; exact f3
    · rw [upd_ne e] at h; exact r.fz a u h
  · rw [upd_ne (ne_of_none h f2)]; exact r.bs a u h n
  · by_cases e : a = p
    · subst e; exact .inr f2
    · rw [upd_ne e] at h; exact r.fnew a u h
/-- a list that is no slot's own and not frozen: it may change -/
def Lone (gi : GI G) (en : En G) (F H : Hp) (g : G) (σ : St) (ρ : Ev) (p : Addr) : Prop :=
  F p = none ∧ en.B p = none ∧ ¬ gi.adr g p ∧ ∀ (i : Nat) (s : Sl), ρ[i]? = some (some s) → ¬ Ows H σ[i]? s p
theorem R.lone_of (r : R gi K en F H g σ ρ) {p : Addr} (hp : H p = none) : Lone gi en F H g σ ρ p := by
  obtain ⟨f1, f2, f3⟩ := r.free hp
  exact ⟨f1, f2, f3, fun i s h e => ((r.sl i s h).facts e).2.2.2 hp⟩
theorem R.chg (r : R gi K en F H g σ ρ) {p : Addr} {o : HO} (l : Lone gi en F H g σ ρ p) : R gi K en F (upd H p o) g σ ρ := by
  obtain ⟨f1, f2, f3, f4⟩ := l
  obtain ⟨s1, s2⟩ := r.slots (en' := en) (F' := F) (H' := upd H p o) (g' := g) (Same.refl F) fun i s a e ha => by
    obtain ⟨z1, z2, z3, z4⟩ := (r.sl i s e).facts ha
    exact ⟨upd_ne fun z => f4 i s e (z ▸ ha), z1, z2, z3⟩
  refine ⟨same_mut r.sub f1, r.f0, r.fz, fun a u h n => ?_, r.fnew, r.am, r.an, r.stabs (Same.refl F) f3, r.nt, s1, s2, r.len⟩
  rw [upd_ne (ne_of_none h f2)]; exact r.bs a u h n
/-- a new object, not frozen -/
theorem R.alloc0 (r : R gi K en F H g σ ρ) {p : Addr} {o : HO} (hp : H p = none) : R gi K en F (upd H p o) g σ ρ := r.chg (r.lone_of hp)
/-- such a list is frozen -/
theorem R.freeze (r : R gi K en F H g σ ρ) {p : Addr} {o : HO} (l : Lone gi en F H g σ ρ p) (hp : H p = some o) (ho : ∀ ps, o ≠ .tbl ps := by intro ps z; cases z) : R gi K en (upd F p o) H g σ ρ := by
  obtain ⟨f1, f2, f3, f4⟩ := l
  have sF : Same F (upd F p o) := same_upd f1
  obtain ⟨s1, s2⟩ := r.slots (en' := en) (F' := upd F p o) (H' := H) (g' := g) sF fun i s a e ha => by
    obtain ⟨z1, z2, z3, z4⟩ := (r.sl i s e).facts ha
    have ne : a ≠ p := fun z => f4 i s e (z ▸ ha)
    exact ⟨rfl, by rw [upd_ne ne]; exact z1, z2, z3⟩
  refine ⟨fun a u h => ?_, r.f0.trans sF, fun a u h => ?_, r.bs, fun a u h => ?_, r.am, r.an, gi.stab g F _ H H r.gr sF fun _ _ => rfl, ⟨nt_upd r.nt.1 ho, r.nt.2⟩, s1, s2, r.len⟩
  · by_cases e : a = p
    · subst e; rw [upd_same] at h; rw [hp]; exact h
    · rw [upd_ne e] at h; exact r.sub a u h
  · by_cases e : a = p
    · subst e; exact f3
    · rw [upd_ne e] at h; exact r.fz a u h
  · by_cases e : a = p
    · subst e; exact .inr f2
    · rw [upd_ne e] at h; exact r.fnew a u h
theorem Ows.off {H H' : Hp} {o : Option (Option V)} {s : Sl} {p : Addr} (hH : ∀ b, b ≠ p → H' b = H b) (n : ¬ Ows H o s p) (a : Addr) : Ows H' o s a ↔ Ows H o s a := Ows.same (fun b hb => hH b fun z => n (z ▸ hb)) a
theorem Lone.keep {p : Addr} (l : Lone gi en F H g σ ρ p) {F' H' : Hp} (hF : F' p = none) (hH : ∀ b, b ≠ p → H' b = H b := by first | exact fun _ _ => rfl | exact fun b h => upd_ne h) : Lone gi en F' H' g σ ρ p :=
  ⟨hF, l.2.1, l.2.2.1, fun i s e h => l.2.2.2 i s e ((Ows.off hH (l.2.2.2 i s e) p).mp h)⟩
/-- fewer slots are spoken of -/
theorem R.less (r : R gi K en F H g σ ρ) {σ' : St} {ρ' : Ev} (hl : ρ'.length ≤ σ'.length) (h : ∀ (i : Nat) (s : Sl), ρ'[i]? = some (some s) → ρ[i]? = some (some s) ∧ σ'[i]? = σ[i]?) : R gi K en F H g σ' ρ' :=
  ⟨r.sub, r.f0, r.fz, r.bs, r.fnew, r.am, r.an, r.gr, r.nt, fun i s e => by rw [(h i s e).2]; exact r.sl i s (h i s e).1,
    fun i j s u a e1 e2 e3 e4 => r.ds i j s u a (h i _ e1).1 (h j _ e2).1 (by rw [← (h i _ e1).2]; exact e3) (by rw [← (h j _ e2).2]; exact e4), hl⟩
end
end Dt
namespace Dt
open PySem PySem.Spec PyProof.Rows L2
theorem tup_laid {X : Cx} {pins : List (Addr × Obj)} {σ : L2.St} {H : Hp} {s : Shared} {xs : List V} {us : List Value} {t' : Nat} (I : Inv X pins σ H s) (rv : Vals xs us) (hz : xs.length ≤ sizeLine) :
    Inv X pins σ (upd H s.heap.objs.size (.frz (tupO us) (.tup xs))) { s with heap := s.heap.push (tupO us), toks := t' } :=
  I.laid (fun b o e => Heap.get?_push_of_some _ e) (Nat.le_refl _) ⟨Heap.get?_push_size _ rfl, hz, us, rv, ⟨_, Heap.get?_push_size _ rfl, rfl, 0, rfl⟩⟩
section
variable {X : Cx} {es : List Expr} {t : TA} {pos : Pos}
def tTupS (t : TA) : TE := fun σ H Q => t σ H fun xs H1 => xs.length ≤ sizeLine ∧ ∀ p us, H1 p = none → Q (.ref p) (upd H1 p (.frz (tupO us) (.tup xs)))
theorem pe_tupS {x1 : Nat} (h : PA X es t) : PE X (.Tuple es x1 pos) (tTupS t) := by
  refine ⟨fun pins s σ H Q I hq => ?_⟩
  refine wpAny_Tuple_spliced (thn (h.run pos pins s σ H _ I hq) fun us s1 ⟨xs, H1, I1, r, z, q⟩ => ⟨by rw [← r.length]; exact z, ?_⟩)
  exact ⟨.ref s1.heap.objs.size, _, tup_laid (t' := s1.toks) I1 r z, rfl, q _ us (I1.hok.fresh (Nat.le_refl _))⟩
def rCatS (K : PySem.W.Frag) : R2 := fun x y H Q => ∃ a b xs ys, x = .ref a ∧ y = .ref b ∧ SqT K H a xs ∧ SqT K H b ys ∧ xs.length + ys.length ≤ sizeLine ∧
  (xs = [] → Q (.ref b) H) ∧ (xs ≠ [] → ys = [] → Q (.ref a) H) ∧ (xs ≠ [] → ys ≠ [] → ∀ p us, H p = none → Q (.ref p) (upd H p (.frz (tupO us) (.tup (xs ++ ys)))))
theorem op_catS : OpR X (binaryOp .Add) (rCatS X.K) := by
  intro pins s σ H x y v u Q I rx ry h
  obtain ⟨a, b, xs, ys, rfl, rfl, ha, hb, hz, q0, q1, q2⟩ := h
  cases rx
  cases ry
  obtain ⟨its, r1, p1, _⟩ := I.tuple ha
  obtain ⟨its2, r2, p2, _⟩ := I.tuple hb
  by_cases hx : xs = []
  · subst hx
    cases r1
    exact cat_tup0 p1 p2 ⟨.ref b, H, I, rfl, q0 rfl⟩
  · refine HT.cat_tup p1 p2 (fun z => hx (r1.nil_iff.mp z)) (fun z => ⟨.ref a, H, I, rfl, q1 hx (r2.nil_iff.mp z)⟩) (fun z => ?_) (by rw [← r1.length, ← r2.length]; exact hz)
    exact ⟨.ref s.heap.objs.size, _, tup_laid (t' := s.toks) I (r1.append r2) (by rw [List.length_append]; exact hz), rfl, q2 hx (fun w => z (r2.nil_iff.mpr w)) _ _ (I.hok.fresh (Nat.le_refl _))⟩
def rSlS' (K : PySem.W.Frag) : V → Option Int → Option Int → Hp → VK → Prop := fun x lo hi H Q => ∃ a xs, x = .ref a ∧ SqT K H a xs ∧
  (HT.sIx xs.length 0 lo = 0 ∧ HT.sIx xs.length xs.length hi = xs.length → Q (.ref a) H) ∧ (¬ (HT.sIx xs.length 0 lo = 0 ∧ HT.sIx xs.length xs.length hi = xs.length) → ∀ p us, H p = none → Q (.ref p) (upd H p (.frz (tupO us) (.tup (cutV xs lo hi)))))
theorem sl_tupS : SlR X (rSlS' X.K) := by
  intro pins s σ H x v vl vu lo hi sl Q I rx hs pl pu h
  obtain ⟨a, xs, rfl, hx, q1, q2⟩ := h
  cases rx
  obtain ⟨its, r, ht, hz⟩ := I.tuple hx
  have hlen : its.toArray.size = xs.length := by rw [List.size_toArray]; exact r.length.symm
  refine ⟨"tuple", _, PyProof.Rows.slot_tuple_getitem.lookup, ht.typeIs, ?_⟩
  by_cases hw : HT.sIx xs.length 0 lo = 0 ∧ HT.sIx xs.length xs.length hi = xs.length
  · exact getItem_tuple_whole ht hs pl pu (by rw [hlen]; exact hw) ⟨.ref a, H, I, rfl, q1 hw⟩
  · refine HT.getItem_tuple_cut ht hs pl pu (by rw [hlen]; exact hw) ?_ (by rw [hlen]; exact hz)
    rw [hlen]
    exact ⟨.ref s.heap.objs.size, _, tup_laid (t' := s.toks) I ((r.drop (HT.sIx xs.length 0 lo)).take (HT.sIx xs.length xs.length hi - HT.sIx xs.length 0 lo)) (Nat.le_trans (cutV_length xs lo hi) hz), rfl, q2 hw _ _ (I.hok.fresh (Nat.le_refl _))⟩
theorem call_tupleS : CallR X (.type "tuple") (fun xs H Q => ∃ p ys, xs = [.ref p] ∧ ((SqL X.K H p ys ∧ ∀ l us, H l = none → Q (.ref l) (upd H l (.frz (tupO us) (.tup ys)))) ∨ (SqT X.K H p ys ∧ Q (.ref p) H))) := by
  intro pins s σ H xs us Q I r h
  obtain ⟨p, ys, rfl, h⟩ := h
  obtain ⟨u, rfl, rx⟩ := vals1 r
  cases rx
  rcases h with ⟨hq, q⟩ | ⟨hq, q⟩
  · obtain ⟨its, r', pl, hz⟩ := I.list hq
    have hlen := r'.length
    refine call_tuple_list pl.isList (fun h' kp => ?_) (by simp only [List.size_toArray] <;> omega)
    have I1 : Inv X pins σ H { s with heap := h' } := I.kept (t' := s.toks) kp
    exact ⟨.ref h'.objs.size, _, tup_laid (t' := s.toks) I1 r' hz, rfl, q _ its (I1.hok.fresh (Nat.le_refl _))⟩
  · obtain ⟨its, r', pl, hz⟩ := I.tuple hq
    exact call_tuple_same pl ⟨.ref p, H, I, rfl, q⟩
def rRepS (K : PySem.W.Frag) : R2 := fun x y H Q => ∃ l k xs, x = .ref l ∧ y = .int k ∧ SqT K H l xs ∧ xs ≠ [] ∧ 2 ≤ k ∧ k ≤ 1000 ∧ xs.length ≤ 1000 ∧ ∀ p us, H p = none → Q (.ref p) (upd H p (.frz (tupO us) (.tup (List.replicate k.toNat xs).flatten)))
theorem op_repS : OpR X (binaryOp .Mult) (rRepS X.K) := by
  intro pins s σ H x y v u Q I rx ry h
  obtain ⟨l, k, xs, rfl, rfl, hT, hne, h1, h2, hz, q⟩ := h
  cases rx
  obtain ⟨tk, rfl⟩ := ry
  obtain ⟨its, rv, ⟨⟨cls, dct, dat, sls⟩, hob, hcl, cap, hdat⟩, hs⟩ := I.tuple hT
  simp only at hcl hdat
  subst hcl hdat
  have le1 : xs.length = its.length := rv.length
  have ne1 : its.toArray.isEmpty = false := by
    cases its with
    | nil => exact absurd (List.eq_nil_of_length_eq_zero le1) hne
    | cons => rfl
  have big : k.toNat * its.length ≤ 1000 * 1000 := Nat.mul_le_mul (by omega) (by omega)
  have bigI : ((its.toArray.size : Nat) : Int) * k ≤ 1000000 := by
    rw [List.size_toArray]
    have : ((its.length : Nat) : Int) * k ≤ 1000 * k := Int.mul_le_mul_of_nonneg_right (by omega) (by omega)
    omega
  have fl : (List.replicate k.toNat its).flatten.length ≤ sizeLine := by
    rw [PyProof.Rows.lm_len_rep_flat, sizeLine_eq]; omega
  have k0 : (decide (k < -(2 ^ 63)) || decide (k ≥ 2 ^ 63)) = false := by simp only [Bool.or_eq_false_iff, decide_eq_false_iff_not]; omega
  have k1 : (its.toArray.isEmpty || k == 1) = false := by simp only [ne1, Bool.false_or, beq_eq_false_iff_ne]; omega
  have k2 : (decide (k ≤ 0) || its.toArray.isEmpty) = false := by simp only [ne1, Bool.or_false, decide_eq_false_iff_not]; omega
  have k4 : Builtin.Tuple.tupleTooMany (((its.toArray.size : Nat) : Int) * k) = false := by
    unfold Builtin.Tuple.tupleTooMany
    simp only [sizeLine_eq, decide_eq_false_iff_not]; omega
  have fin : EP X pins σ Q (.ref s.heap.objs.size) { s with heap := s.heap.push (tupO (List.replicate k.toNat its).flatten) } :=
    ⟨.ref s.heap.objs.size, _, tup_laid (t' := s.toks) I (rv.rep k.toNat) (by rw [PyProof.Rows.lm_len_rep_flat, sizeLine_eq, le1]; omega), rfl, q _ _ (I.hok.fresh (Nat.le_refl _))⟩
  refine wpAny_binaryOp_repeat_ref (T := "tuple") (U := "int") (by decide) ⟨_, hob, rfl⟩ (fun s' => typeIs_int s' k tk) noFill_tuple_mul F.fills_int_mul F.slot_int_rmul repeat_tuple F.slot_int_index.lookup ?_
  refine call_meets F.slot_int_rmul (typeIs_int s k tk) F.entry_int_rmul (F.args_int_rmul_2 _ _) (int_rmul_tuple k tk l its.toArray cap dct sls) ⟨hob, rfl, ⟨_, hob, rfl⟩, ?_⟩
  refine call_meets F.slot_tuple_mul ⟨_, hob, rfl⟩ F.entry_tuple_mul (F.args_tuple_mul_2 _ _) (tuple_mulW l its.toArray cap dct sls k tk k0 k1 k2 (by omega) k4 (by rw [size_rep, List.size_toArray]; exact fl)) ⟨hob, ?_⟩
  rw [size_rep]
  exact fin
/-- a method of a tuple whose object is known -/
def TyT (K : PySem.W.Frag) (x : V) (H : Hp) : Prop := ∃ a, x = .ref a ∧ ((∃ us xs, H a = some (.frz (tupO us) (.tup xs))) ∨ ∃ o, K.lookup a = some o ∧ o.cls = .type "tuple" ∧ o.dict = none)
theorem tyT_is {pins : List (Addr × Obj)} {σ : L2.St} {H : Hp} {s : Shared} {x : V} {v : Value} (I : Inv X pins σ H s) (r : RelV x v) (ty : TyT X.K x H) : s.TypeIs v "tuple" ∧ ∀ a, v = .ref a → ∃ o, s.heap.get? a = some o ∧ o.dict = none := by
  obtain ⟨a, rfl, ty⟩ := ty
  cases r
  rcases ty with ⟨us, xs, h⟩ | ⟨o, h1, h2, h3⟩
  · obtain ⟨e, _⟩ := I.hok a _ h
    exact ⟨⟨_, e, rfl⟩, fun b hb => by cases hb; exact ⟨_, e, rfl⟩⟩
  · exact ⟨⟨_, I.kIn a o h1, h2⟩, fun b hb => by cases hb; exact ⟨_, I.kIn a o h1, h3⟩⟩
def tTM (K : PySem.W.Frag) (r : V → List V → Hp → VK → Prop) (to : TE) (t : TA) : TE := fun σ H Q => to σ H fun x H1 => TyT K x H1 ∧ t σ H1 fun xs H2 => r x xs H2 Q
theorem pe_tm {o e : Expr} {to : TE} {name : Str} {apos cpos : Pos} {id : String} {r : V → List V → Hp → VK → Prop} (slot : Slot "tuple" name id) (hty : typeOf (.builtin id) = pure (.type "method_descriptor")) (hm : MtR X id r) (ho : PE X o to) (ha : PA X (e :: es) t)
    (b1 : attributeBase o name X.env (eval o X.env) = eval o X.env := by rfl)
    (b2 : ((backTo cpos (starEach (e :: es) X.env)).all (fun x => !x.1) && (backToKw cpos (keywordEach [] X.env)).all (fun x => x.1.isSome) && decide ((e :: es).length + ([] : List Keyword).length + (if ([] : List Keyword).isEmpty then 0 else 1) < 30)) = true := by rfl)
    (b3 : (apos.endLine == cpos.line) = true := by rfl) (b4 : starEach (e :: es) X.env = (false, eval e X.env) :: starEach es X.env := by rfl) (b5 : (backTo cpos (starEach es X.env)).any (·.1) = false := by rfl) :
    PE X (.Call (.Attribute o name apos) (e :: es) [] cpos) (tTM X.K r to t) := by
  refine ⟨fun pins s σ H Q I h => ?_⟩
  refine wpAny_Call_method_late b1 b2 b3 rfl (thn (ho.run pins s σ H _ I h) fun v s1 ⟨x, H1, I1, r1, ty, q1⟩ => ?_)
  obtain ⟨z1, z2⟩ := tyT_is I1 r1 ty
  refine ⟨"tuple", id, PySem.F.plainAttrs_tuple, slot, hty, z1, z2, ?_⟩
  have hA := ha.run cpos pins s1 σ H1 _ I1 q1
  rw [b4] at hA ⊢
  refine Calls.callWith_builtin ?_ (Calls.evalArgs_plain (thn hA fun us s2 ⟨vs, H2, I2, r2, q2⟩ => hm pins s2 σ H2 x vs v us Q I2 r1 r2 q2))
  show (false || (backTo cpos (starEach es X.env)).any (·.1)) = false
  rw [b5]; rfl
end
end Dt
namespace Dt
open PySem PySem.Spec L2
abbrev FE (G : Type) := Ev → M G PyData
abbrev FL (G : Type) := Ev → M G (List PyData)
abbrev FT (G : Type) := Ev → M G Bool
abbrev FA (G : Type) := Ev → M G (List Ar)
abbrev FS (G : Type) := Ev → M G Fl
section
variable {G : Type} (gi : GI G) (K : PySem.W.Frag)
/-- reads as d: frozen data, or the list of a slot -/
def Bv (F : Hp) (σ : L2.St) (ρ : Ev) (x : V) (d : PyData) : Prop :=
  Dv K F x d ∨ ∃ (i : Nat) (ds : List PyData) (a : Addr), ρ[i]? = some (some (.own ds)) ∧ σ[i]? = some (some (.ref a)) ∧ x = .ref a ∧ d = .list ds
def ArR (F : Hp) (v : V) : Ar → Prop
  | .d d => Dv K F v d
  | .raw w => v = w
inductive ArsR (F : Hp) : List V → List Ar → Prop
  | nil : ArsR F [] []
  | cons {v : V} {vs : List V} {a : Ar} {as : List Ar} : ArR K F v a → ArsR F vs as → ArsR F (v :: vs) (a :: as)
def tE (f : FE G) : TE := fun σ H Q => ∃ en F g ρ d g', R gi K en F H g σ ρ ∧ f ρ g = some (d, g') ∧ ∀ v F' H', Same F F' → R gi K en F' H' g' σ ρ → Dv K F' v d → Q v H'
def tQ (f : FE G) : TE := fun σ H Q => ∃ en F g ρ d g', R gi K en F H g σ ρ ∧ f ρ g = some (d, g') ∧ ∀ v F' H', Same F F' → R gi K en F' H' g' σ ρ → Bv K F' σ ρ v d → Q v H'
def tL (f : FL G) : TE := fun σ H Q => ∃ en F g ρ ds g', R gi K en F H g σ ρ ∧ f ρ g = some (ds, g') ∧
  ∀ p xs F' H', Same F F' → R gi K en F' H' g' σ ρ → Lone gi en F' H' g' σ ρ p → H' p = some (.lst xs) → DvAll K F' xs ds → Q (.ref p) H'
def tT (f : FT G) : TT := fun σ H Q => ∃ en F g ρ b g', R gi K en F H g σ ρ ∧ f ρ g = some (b, g') ∧ ∀ F' H', Same F F' → R gi K en F' H' g' σ ρ → Q b H'
def tD (f : FL G) : TA := fun σ H Q => ∃ en F g ρ ds g', R gi K en F H g σ ρ ∧ f ρ g = some (ds, g') ∧ ∀ vs F' H', Same F F' → R gi K en F' H' g' σ ρ → DvAll K F' vs ds → Q vs H'
def tA (f : FA G) : TA := fun σ H Q => ∃ en F g ρ as g', R gi K en F H g σ ρ ∧ f ρ g = some (as, g') ∧ ∀ vs F' H', Same F F' → R gi K en F' H' g' σ ρ → ArsR K F' vs as → Q vs H'
end
section
variable {G : Type} {gi : GI G} {K : PySem.W.Frag} {en : En G} {F F' H H' : Hp} {g : G} {σ : L2.St} {ρ : Ev} {x : V} {d : PyData} {ds : List PyData}
theorem Bv.mono (e : Same F F') (h : Bv K F σ ρ x d) : Bv K F' σ ρ x d := by
  rcases h with h | h
  · exact .inl (dv_mono e h)
  · exact .inr h
theorem Bv.lst (r : R gi K en F H g σ ρ) (h : Bv K F σ ρ x (.list ds)) : ∃ a xs, x = .ref a ∧ H a = some (.lst xs) ∧ DvAll K F xs ds := by
  rcases h with h | ⟨i, es, a, h1, h2, h3, h4⟩
  · cases h with
    | lst e t => exact ⟨_, _, rfl, r.sub _ _ e, t⟩
  · cases h4
    obtain ⟨b, xs, e, q1, _, _, _, q⟩ := r.sl i _ h1
    rw [h2] at e
    cases e
    exact ⟨a, xs, h3, q1, q⟩
theorem Bv.tup (r : R gi K en F H g σ ρ) (h : Bv K F σ ρ x (.tuple ds)) : ∃ a xs, x = .ref a ∧ Tp K F a xs ∧ SqT K H a xs ∧ DvAll K F xs ds := by
  rcases h with h | ⟨i, es, a, h1, h2, h3, h4⟩
  · cases h with
    | tup e t => exact ⟨_, _, rfl, e, e.sq r.sub, t⟩
  · cases h4
theorem Bv.dp (r : R gi K en F H g σ ρ) (h : Bv K F σ ρ x d) : Dp K H x d := by
  rcases h with h | ⟨i, es, a, h1, h2, h3, h4⟩
  · exact h.dp r.sub
  · subst h4 h3
    obtain ⟨b, xs, e, q1, _, _, _, q⟩ := r.sl i _ h1
    rw [h2] at e
    cases e
    exact .lst (.inl (.inl q1)) (q.dp r.sub)
theorem Bv.int {i : Int} (h : Bv K F σ ρ x (.int i)) : x = .int i := by
  rcases h with h | ⟨j, es, a, h1, h2, h3, h4⟩
  · cases h; rfl
  · cases h4
theorem Bv.str {z : Str} (h : Bv K F σ ρ x (.str z)) : x = .str z := by
  rcases h with h | ⟨j, es, a, h1, h2, h3, h4⟩
  · cases h; rfl
  · cases h4
theorem Bv.bl {b : Bool} (h : Bv K F σ ρ x (.bool b)) : x = .bl b := by
  rcases h with h | ⟨j, es, a, h1, h2, h3, h4⟩
  · cases h; rfl
  · cases h4
theorem Bv.non (h : Bv K F σ ρ x .none) : x = .non := by
  rcases h with h | ⟨j, es, a, h1, h2, h3, h4⟩
  · cases h; rfl
  · cases h4
end
theorem PE_weak {X : Cx} {e : Expr} {t t' : TE} (h : PE X e t) (w : ∀ σ H Q, t' σ H Q → t σ H Q) : PE X e t' := ⟨fun pins s σ H Q I q => h.run pins s σ H Q I (w σ H Q q)⟩
theorem PT_weak {X : Cx} {e : Expr} {t t' : TT} (h : PT X e t) (w : ∀ σ H Q, t' σ H Q → t σ H Q) : PT X e t' := ⟨fun pins s σ H Q I q => h.run pins s σ H Q I (w σ H Q q)⟩
theorem PW_weak {X : Cx} {e : Expr} {t t' : TT} (h : PW X e t) (w : ∀ σ H Q, t' σ H Q → t σ H Q) : PW X e t' := ⟨fun wh pins s σ H Q I q => h.run wh pins s σ H Q I (w σ H Q q)⟩
theorem PA_weak {X : Cx} {es : List Expr} {t t' : TA} (h : PA X es t) (w : ∀ σ H Q, t' σ H Q → t σ H Q) : PA X es t' := ⟨fun pos pins s σ H Q I q => h.run pos pins s σ H Q I (w σ H Q q)⟩
theorem PS_weak {X : Cx} {st : Stmt} {t t' : TS} (h : PS X st t) (w : ∀ D σ H, t' D σ H → t D σ H) : PS X st t' := ⟨fun pins s σ H D I q => h.run pins s σ H D I (w D σ H q)⟩
theorem PSs_weak {X : Cx} {st : List Stmt} {t t' : TS} (h : PSs X st t) (w : ∀ D σ H, t' D σ H → t D σ H) : PSs X st t' := ⟨fun pins s σ H D I q => h.run pins s σ H D I (w D σ H q)⟩
theorem PG_weak {X : Cx} {e : Expr} {t t' : TG} (h : PG X e t) (w : ∀ v σ H Q, t' v σ H Q → t v σ H Q) : PG X e t' := ⟨fun pins s σ H v u Q I r q => h.run pins s σ H v u Q I r (w v σ H Q q)⟩
theorem PI_weak {X : Cx} {tg e : Expr} {t t' : TI} (h : PI X tg e t) (w : ∀ σ H Q, t' σ H Q → t σ H Q) : PI X tg e t' := ⟨fun pins s σ H Q I q => h.run pins s σ H Q I (w σ H Q q)⟩
section
variable {G : Type} {gi : GI G} {X : Cx} {e a b c : Expr} {pos : Pos} {f fa fb fc : FE G} {fl fl' : FL G}
/-- frozen data may be read -/
theorem dq (h : PE X e (tE gi X.K f)) : PE X e (tQ gi X.K f) := PE_weak h fun σ H Q ⟨en, F, g, ρ, d, g', r, e, k⟩ => ⟨en, F, g, ρ, d, g', r, e, fun v F' H' s r' h => k v F' H' s r' (.inl h)⟩
/-- a new list, frozen -/
def eFz (fl : FL G) : FE G := fun ρ => bnd (fl ρ) fun ds => ret (.list ds)
theorem de_fz (h : PE X e (tL gi X.K fl)) : PE X e (tE gi X.K (eFz fl)) := PE_weak h fun σ H Q ⟨en, F, g, ρ, d, g', r, e, k⟩ => by
  obtain ⟨ds, g1, e1, e2⟩ := bnd_some e
  cases e2
  refine ⟨en, F, g, ρ, ds, _, r, e1, fun p xs F' H' s r' l hp hx => ?_⟩
  have sF : Same F' (upd F' p (.lst xs)) := same_upd l.1
  exact k _ _ _ (s.trans sF) (r'.freeze l hp) (.lst upd_same (dva_mono sF hx))
def eVar (i : Nat) : FE G := fun ρ => match ρ[i]? with
  | some (some (.val d)) => ret d
  | _ => fail
def eVarQ (i : Nat) : FE G := fun ρ => match ρ[i]? with
  | some (some (.val d)) => ret d
  | some (some (.own ds)) => ret (.list ds)
  | _ => fail
def eC (d : PyData) : FE G := fun _ => ret d
theorem de_var (i : Nat) {x : Str} (h : PE X (.Name x pos) (tVar i)) : PE X (.Name x pos) (tE gi X.K (eVar i)) := PE_weak h fun σ H Q ⟨en, F, g, ρ, d, g', r, e, k⟩ => by
  unfold eVar at e
  rcases hd : ρ[i]? with _ | _ | ⟨d' | ds | w⟩ <;> rw [hd] at e <;> cases e
  obtain ⟨v, h1, h2⟩ := r.sl i _ hd
  exact ⟨v, h1, k v F H (Same.refl F) r h2⟩
theorem dq_var (i : Nat) {x : Str} (h : PE X (.Name x pos) (tVar i)) : PE X (.Name x pos) (tQ gi X.K (eVarQ i)) := PE_weak h fun σ H Q ⟨en, F, g, ρ, d, g', r, e, k⟩ => by
  unfold eVarQ at e
  rcases hd : ρ[i]? with _ | _ | ⟨d' | ds | w⟩ <;> rw [hd] at e <;> cases e
  · obtain ⟨v, h1, h2⟩ := r.sl i _ hd
    exact ⟨v, h1, k v F H (Same.refl F) r (.inl h2)⟩
  · obtain ⟨a, xs, h1, h2⟩ := r.sl i _ hd
    exact ⟨.ref a, h1, k (.ref a) F H (Same.refl F) r (.inr ⟨i, ds, a, hd, h1, rfl, rfl⟩)⟩
theorem de_C {v : V} {d : PyData} (h : PE X e (tC v)) (hd : ∀ F, Dv X.K F v d) : PE X e (tE gi X.K (eC d)) := PE_weak h fun σ H Q ⟨en, F, g, ρ, d, g', r, e, k⟩ => by
  cases e
  exact k v F H (Same.refl F) r (hd F)
theorem de_int {i : Int} {j : Nat} : PE X (.Constant (.int i) j pos) (tE gi X.K (eC (.int i))) := de_C pe_int fun _ => .int i
theorem de_bl {i : Bool} {j : Nat} : PE X (.Constant (.bool i) j pos) (tE gi X.K (eC (.bool i))) := de_C pe_bl fun _ => .bl i
theorem de_str {i : Str} {j : Nat} : PE X (.Constant (.str i) j pos) (tE gi X.K (eC (.str i))) := de_C pe_str fun _ => .str i
def Sem1 (gi : GI G) (K : PySem.W.Frag) (r : V → Hp → VK → Prop) (sem : PyData → Option PyData) : Prop := ∀ en F H g σ ρ x dx d Q, R gi K en F H g σ ρ → Bv K F σ ρ x dx → sem dx = some d →
  (∀ v F' H', Same F F' → R gi K en F' H' g σ ρ → Dv K F' v d → Q v H') → r x H Q
def Sem2 (gi : GI G) (K : PySem.W.Frag) (r : R2) (sem : PyData → PyData → Option PyData) : Prop := ∀ en F H g σ ρ x y dx dy d Q, R gi K en F H g σ ρ → Bv K F σ ρ x dx → Bv K F σ ρ y dy → sem dx dy = some d →
  (∀ v F' H', Same F F' → R gi K en F' H' g σ ρ → Dv K F' v d → Q v H') → r x y H Q
def SemL1 (gi : GI G) (K : PySem.W.Frag) (r : V → Hp → VK → Prop) (sem : PyData → Option (List PyData)) : Prop := ∀ en F H g σ ρ x dx ds Q, R gi K en F H g σ ρ → Bv K F σ ρ x dx → sem dx = some ds →
  (∀ p xs F' H', Same F F' → R gi K en F' H' g σ ρ → Lone gi en F' H' g σ ρ p → H' p = some (.lst xs) → DvAll K F' xs ds → Q (.ref p) H') → r x H Q
def SemL2 (gi : GI G) (K : PySem.W.Frag) (r : R2) (sem : PyData → PyData → Option (List PyData)) : Prop := ∀ en F H g σ ρ x y dx dy ds Q, R gi K en F H g σ ρ → Bv K F σ ρ x dx → Bv K F σ ρ y dy → sem dx dy = some ds →
  (∀ p xs F' H', Same F F' → R gi K en F' H' g σ ρ → Lone gi en F' H' g σ ρ p → H' p = some (.lst xs) → DvAll K F' xs ds → Q (.ref p) H') → r x y H Q
def e1 (sem : PyData → Option PyData) (fa : FE G) : FE G := fun ρ => bnd (fa ρ) fun x => lft (sem x)
def e2 (sem : PyData → PyData → Option PyData) (fa fb : FE G) : FE G := fun ρ => bnd (fa ρ) fun x => bnd (fb ρ) fun y => lft (sem x y)
def l1 (sem : PyData → Option (List PyData)) (fa : FE G) : FL G := fun ρ => bnd (fa ρ) fun x => lft (sem x)
def l2 (sem : PyData → PyData → Option (List PyData)) (fa fb : FE G) : FL G := fun ρ => bnd (fa ρ) fun x => bnd (fb ρ) fun y => lft (sem x y)
theorem lft_inv {α : Type} {o : Option α} {g g' : G} {x : α} (h : lft o g = some (x, g')) : o = some x ∧ g = g' := lft_some_of h
theorem t1_of {K : PySem.W.Frag} {r : V → Hp → VK → Prop} {sem : PyData → Option PyData} (hs : Sem1 gi K r sem) {σ : L2.St} {H : Hp} {Q : VK} (h : tE gi K (e1 sem fa) σ H Q) : tQ gi K fa σ H fun x H1 => r x H1 Q := by
  obtain ⟨en, F, g, ρ, d, g', r0, e, k⟩ := h
  obtain ⟨x, g1, e1, e⟩ := bnd_some e
  obtain ⟨e3, rfl⟩ := lft_inv e
  exact ⟨en, F, g, ρ, x, g1, r0, e1, fun v F1 H1 s1 r1 h1 => hs en F1 H1 g1 σ ρ v x d Q r1 h1 e3 fun v F' H' s3 r3 h3 => k v F' H' (s1.trans s3) r3 h3⟩
theorem t2_of {K : PySem.W.Frag} {r : R2} {sem : PyData → PyData → Option PyData} (hs : Sem2 gi K r sem) {σ : L2.St} {H : Hp} {Q : VK} (h : tE gi K (e2 sem fa fb) σ H Q) : tOp r (tQ gi K fa) (tQ gi K fb) σ H Q := by
  obtain ⟨en, F, g, ρ, d, g', r0, e, k⟩ := h
  obtain ⟨x, g1, e1, e⟩ := bnd_some e
  obtain ⟨y, g2, e2, e⟩ := bnd_some e
  obtain ⟨e3, rfl⟩ := lft_inv e
  exact ⟨en, F, g, ρ, x, g1, r0, e1, fun v F1 H1 s1 r1 h1 => ⟨en, F1, g1, ρ, y, g2, r1, e2, fun w F2 H2 s2 r2 h2 => hs en F2 H2 g2 σ ρ v w x y d Q r2 (h1.mono s2) h2 e3 fun v F' H' s3 r3 h3 => k v F' H' ((s1.trans s2).trans s3) r3 h3⟩⟩
theorem tl1_of {K : PySem.W.Frag} {r : V → Hp → VK → Prop} {sem : PyData → Option (List PyData)} (hs : SemL1 gi K r sem) {σ : L2.St} {H : Hp} {Q : VK} (h : tL gi K (l1 sem fa) σ H Q) : tQ gi K fa σ H fun x H1 => r x H1 Q := by
  obtain ⟨en, F, g, ρ, d, g', r0, e, k⟩ := h
  obtain ⟨x, g1, e1, e⟩ := bnd_some e
  obtain ⟨e3, rfl⟩ := lft_inv e
  exact ⟨en, F, g, ρ, x, g1, r0, e1, fun v F1 H1 s1 r1 h1 => hs en F1 H1 g1 σ ρ v x d Q r1 h1 e3 fun p xs F' H' s3 r3 => k p xs F' H' (s1.trans s3) r3⟩
theorem tl2_of {K : PySem.W.Frag} {r : R2} {sem : PyData → PyData → Option (List PyData)} (hs : SemL2 gi K r sem) {σ : L2.St} {H : Hp} {Q : VK} (h : tL gi K (l2 sem fa fb) σ H Q) : tOp r (tQ gi K fa) (tQ gi K fb) σ H Q := by
  obtain ⟨en, F, g, ρ, d, g', r0, e, k⟩ := h
  obtain ⟨x, g1, e1, e⟩ := bnd_some e
  obtain ⟨y, g2, e2, e⟩ := bnd_some e
  obtain ⟨e3, rfl⟩ := lft_inv e
  exact ⟨en, F, g, ρ, x, g1, r0, e1, fun v F1 H1 s1 r1 h1 => ⟨en, F1, g1, ρ, y, g2, r1, e2, fun w F2 H2 s2 r2 h2 => hs en F2 H2 g2 σ ρ v w x y d Q r2 (h1.mono s2) h2 e3 fun p xs F' H' s3 r3 => k p xs F' H' ((s1.trans s2).trans s3) r3⟩⟩
theorem de_op {op : Operator} {r : R2} {sem : PyData → PyData → Option PyData} (ho : OpR X (binaryOp op) r) (hs : Sem2 gi X.K r sem) (ha : PE X a (tQ gi X.K fa)) (hb : PE X b (tQ gi X.K fb)) : PE X (.BinOp a op b pos) (tE gi X.K (e2 sem fa fb)) :=
  PE_weak (pe_op ho ha hb) fun _ _ _ h => t2_of hs h
theorem dl_op {op : Operator} {r : R2} {sem : PyData → PyData → Option (List PyData)} (ho : OpR X (binaryOp op) r) (hs : SemL2 gi X.K r sem) (ha : PE X a (tQ gi X.K fa)) (hb : PE X b (tQ gi X.K fb)) : PE X (.BinOp a op b pos) (tL gi X.K (l2 sem fa fb)) :=
  PE_weak (pe_op ho ha hb) fun _ _ _ h => tl2_of hs h
theorem de_un {op : UnaryOp} {r : V → Hp → VK → Prop} {sem : PyData → Option PyData} (ho : UnR X (unaryOp op) r) (hs : Sem1 gi X.K r sem) (ha : PE X a (tQ gi X.K fa)) : PE X (.UnaryOp op a pos) (tE gi X.K (e1 sem fa)) :=
  PE_weak (pe_un ho ha) fun _ _ _ h => t1_of hs h
theorem de_cmp {op : CmpOp} {r : R2} {sem : PyData → PyData → Option PyData} (ho : OpR X (compareOp op) r) (hs : Sem2 gi X.K r sem) (ha : PE X a (tQ gi X.K fa)) (hb : PE X b (tQ gi X.K fb)) (hm : behindInMarks op b = false) : PE X (.Compare a [op] [b] pos) (tE gi X.K (e2 sem fa fb)) :=
  PE_weak (pe_cmpR ho ha hb hm) fun _ _ _ h => t2_of hs h
theorem de_ix {r : R2} {sem : PyData → PyData → Option PyData} (ho : IxR X r) (hs : Sem2 gi X.K r sem) (ha : PE X a (tQ gi X.K fa)) (hb : PE X b (tQ gi X.K fb)) (hi : PlainIx b) : PE X (.Subscript a b pos) (tE gi X.K (e2 sem fa fb)) :=
  PE_weak (pe_ix ho ha hb hi) fun _ _ _ h => t2_of hs h
def aNil : FL G := fun _ => ret []
def aCons (fa : FE G) (fl : FL G) : FL G := fun ρ => bnd (fa ρ) fun x => bnd (fl ρ) fun xs => ret (x :: xs)
theorem dd_nil : PA X [] (tD gi X.K aNil) := PA_weak pa_nil fun σ H Q ⟨en, F, g, ρ, ds, g', r, e, k⟩ => by
  cases e
  exact k [] F H (Same.refl F) r .nil
theorem dd_cons {es : List Expr} (ha : PE X e (tE gi X.K fa)) (hr : PA X es (tD gi X.K fl)) (hs : starEach (e :: es) X.env = (false, eval e X.env) :: starEach es X.env := by rfl) : PA X (e :: es) (tD gi X.K (aCons fa fl)) :=
  PA_weak (pa_cons ha hr hs) fun σ H Q ⟨en, F, g, ρ, ds, g', r0, e, k⟩ => by
    obtain ⟨x, g1, e1, e⟩ := bnd_some e
    obtain ⟨xs, g2, e2, e⟩ := bnd_some e
    cases e
    exact ⟨en, F, g, ρ, x, g1, r0, e1, fun v F1 H1 s1 r1 h1 => ⟨en, F1, g1, ρ, xs, _, r1, e2, fun w F2 H2 s2 r2 h2 => k _ F2 H2 (s1.trans s2) r2 (.cons (dv_mono s2 h1) h2)⟩⟩
@[reducible] def lim : Nat := 16000000
theorem lim_ok {n : Nat} (h : n ≤ lim) : n ≤ sizeLine := Nat.le_trans h (by decide)
theorem lim_lt {n : Nat} (h : n < lim) : n < sizeLine := Nat.lt_of_lt_of_le h (by decide)
/-- (a, b, ..), [a, b, ..] -/
def eTup (fl : FL G) : FE G := fun ρ => bnd (fl ρ) fun ds => if ds.length ≤ lim then ret (.tuple ds) else fail
def lLst (fl : FL G) : FL G := fun ρ => bnd (fl ρ) fun ds => if ds.length ≤ lim then ret ds else fail
theorem de_tup {es : List Expr} {k : Nat} (h : PA X es (tD gi X.K fl)) : PE X (.Tuple es k pos) (tE gi X.K (eTup fl)) := PE_weak (pe_tupS h) fun σ H Q ⟨en, F, g, ρ, ds, g', r0, e, k⟩ => by
  obtain ⟨xs, g1, e1, e⟩ := bnd_some e
  split at e
  · rename_i hl
    cases e
    refine ⟨en, F, g, ρ, xs, _, r0, e1, fun vs F1 H1 s1 r1 h1 => ⟨lim_ok (by rw [h1.len]; exact hl), fun p us hp => ?_⟩⟩
    have sF : Same F1 (upd F1 p (.frz (tupO us) (.tup vs))) := same_upd (r1.free hp).1
    exact k _ _ _ (s1.trans sF) (r1.alloc hp) (.tup (.inl ⟨us, upd_same⟩) (dva_mono sF h1))
  · cases e
theorem dl_lst {es : List Expr} (h : PA X es (tD gi X.K fl)) : PE X (.List es pos) (tL gi X.K (lLst fl)) := PE_weak (pe_lst h) fun σ H Q ⟨en, F, g, ρ, ds, g', r0, e, k⟩ => by
  obtain ⟨xs, g1, e1, e⟩ := bnd_some e
  split at e
  · rename_i hl
    cases e
    refine ⟨en, F, g, ρ, ds, _, r0, e1, fun vs F1 H1 s1 r1 h1 => ⟨lim_ok (by rw [h1.len]; exact hl), fun p hp => ?_⟩⟩
    exact k p vs F1 _ s1 (r1.alloc0 hp) ((r1.lone_of hp).keep (r1.free hp).1) upd_same h1
  · cases e
def Sem1C (gi : GI G) (K : PySem.W.Frag) (r : List V → Hp → VK → Prop) (sem : PyData → Option PyData) : Prop := Sem1 gi K (fun x => r [x]) sem
def Sem2C (gi : GI G) (K : PySem.W.Frag) (r : List V → Hp → VK → Prop) (sem : PyData → PyData → Option PyData) : Prop := Sem2 gi K (fun x y => r [x, y]) sem
def SemL1C (gi : GI G) (K : PySem.W.Frag) (r : List V → Hp → VK → Prop) (sem : PyData → Option (List PyData)) : Prop := SemL1 gi K (fun x => r [x]) sem
section
variable {x : Str} {id T : String} {r : List V → Hp → VK → Prop} {p : Pos}
theorem de_b1 {sem : PyData → Option PyData} (hc : CallR X (.builtin id) r) (hs : Sem1C gi X.K r sem) (hg : Gl X x) (hm : X.mg x = none) (hv : bootBuiltins x = some (.builtin id)) (ha : PE X a (tQ gi X.K fa)) (hn : x ≠ "__name__" := by decide) (hdb : (x == ("__debug__" : Str)) = false := by decide)
    (he : starEach [a] X.env = (false, eval a X.env) :: starEach [] X.env := by rfl) : PE X (.Call (.Name x p) [a] [] pos) (tE gi X.K (e1 sem fa)) :=
  PE_weak (pe_callB hc hg hm hv (pa_cons ha pa_nil he) hn hdb he rfl) fun _ _ _ h => t1_of hs h
theorem de_t1 {sem : PyData → Option PyData} (hc : CallR X (.type T) r) (hs : Sem1C gi X.K r sem) (hg : Gl X x) (hm : X.mg x = none) (hv : bootBuiltins x = some (.type T)) (ha : PE X a (tQ gi X.K fa)) (hn : x ≠ "__name__" := by decide) (hdb : (x == ("__debug__" : Str)) = false := by decide)
    (he : starEach [a] X.env = (false, eval a X.env) :: starEach [] X.env := by rfl) : PE X (.Call (.Name x p) [a] [] pos) (tE gi X.K (e1 sem fa)) :=
  PE_weak (pe_callTy hc hg hm hv (pa_cons ha pa_nil he) hn hdb he rfl) fun _ _ _ h => t1_of hs h
theorem dl_t1 {sem : PyData → Option (List PyData)} (hc : CallR X (.type T) r) (hs : SemL1C gi X.K r sem) (hg : Gl X x) (hm : X.mg x = none) (hv : bootBuiltins x = some (.type T)) (ha : PE X a (tQ gi X.K fa)) (hn : x ≠ "__name__" := by decide) (hdb : (x == ("__debug__" : Str)) = false := by decide)
    (he : starEach [a] X.env = (false, eval a X.env) :: starEach [] X.env := by rfl) : PE X (.Call (.Name x p) [a] [] pos) (tL gi X.K (l1 sem fa)) :=
  PE_weak (pe_callTy hc hg hm hv (pa_cons ha pa_nil he) hn hdb he rfl) fun _ _ _ h => tl1_of hs h
theorem de_b2 {sem : PyData → PyData → Option PyData} (hc : CallR X (.builtin id) r) (hs : Sem2C gi X.K r sem) (hg : Gl X x) (hm : X.mg x = none) (hv : bootBuiltins x = some (.builtin id)) (ha : PE X a (tQ gi X.K fa)) (hb : PE X b (tQ gi X.K fb)) (hn : x ≠ "__name__" := by decide) (hdb : (x == ("__debug__" : Str)) = false := by decide)
    (he : starEach [a, b] X.env = (false, eval a X.env) :: starEach [b] X.env := by rfl) (he2 : starEach [b] X.env = (false, eval b X.env) :: starEach [] X.env := by rfl) (hpl : (backTo pos (starEach [b] X.env)).any (·.1) = false := by rfl) : PE X (.Call (.Name x p) [a, b] [] pos) (tE gi X.K (e2 sem fa fb)) :=
  PE_weak (pe_callB hc hg hm hv (pa_cons ha (pa_cons hb pa_nil he2) he) hn hdb he hpl) fun _ _ _ h => t2_of hs h
end
/-- methods of built-in types -/
def Sem1M (gi : GI G) (K : PySem.W.Frag) (T : String) (r : V → List V → Hp → VK → Prop) (sem : PyData → PyData → Option PyData) : Prop :=
  (∀ en F H g σ ρ x dx, R gi K en F H g σ ρ → Bv K F σ ρ x dx → (∃ dy d, sem dx dy = some d) → tyV K T x H) ∧ Sem2 gi K (fun x y => r x [y]) sem
def toB : PyData → Option Bool
  | .bool b => some b
  | _ => none
def tTru (d : PyData) : Option Bool := match d with
  | .none => some false
  | .bool b => some b
  | .int i => some (i != 0)
  | .str y => if y.length ≤ sizeLine then some ((y.length : Int) != 0) else none
  | .list ds => some (!ds.isEmpty)
  | .tuple ds => some (!ds.isEmpty)
  | .dict _ => none
def fTru (fa : FE G) : FT G := fun ρ => bnd (fa ρ) fun x => lft (tTru x)
def fB (fa : FE G) : FT G := fun ρ => bnd (fa ρ) fun x => lft (toB x)
theorem dva_empty {K : PySem.W.Frag} {F : Hp} {xs : List V} {ds : List PyData} (h : DvAll K F xs ds) : (!xs.isEmpty) = !ds.isEmpty := by cases h <;> rfl
theorem tru_of {K : PySem.W.Frag} {en : En G} {F H : Hp} {g : G} {σ : L2.St} {ρ : Ev} {x : V} {d : PyData} {k : Bool} (r : R gi K en F H g σ ρ) (h : Bv K F σ ρ x d) (e : tTru d = some k) : TruV K x H k := by
  cases d with
  | none => rw [h.non]; cases e; rfl
  | bool b => rw [h.bl]; cases e; rfl
  | int i => rw [h.int]; cases e; rfl
  | str y =>
    rw [h.str]
    unfold tTru at e
    simp only at e
    split at e
    · cases e; exact ⟨by assumption, rfl⟩
    · cases e
  | list ds =>
    obtain ⟨a, xs, rfl, hx, hd⟩ := h.lst r
    cases e
    exact .inl ⟨xs, .inl (.inl hx), (dva_empty hd).symm⟩
  | tuple ds =>
    obtain ⟨a, xs, rfl, _, hx, hd⟩ := h.tup r
    cases e
    exact .inr (.inl ⟨xs, hx, (dva_empty hd).symm⟩)
  | dict _ => cases e
theorem dt_tru (ha : PE X a (tQ gi X.K fa)) (he : ∀ whole, isTrue a X.env whole = (do let v ← whole; standAt a.pos; holding [v] (truthy v)) := by intro _; rfl) : PT X a (tT gi X.K (fTru fa)) :=
  PT_weak (pt_truth ha he) fun σ H Q ⟨en, F, g, ρ, d, g', r0, e, k⟩ => by
    obtain ⟨x, g1, e1, e⟩ := bnd_some e
    obtain ⟨e3, rfl⟩ := lft_inv e
    exact ⟨en, F, g, ρ, x, g1, r0, e1, fun v F1 H1 s1 r1 h1 => ⟨d, tru_of r1 h1 e3, k F1 H1 s1 r1⟩⟩
theorem dt_cmp {op : CmpOp} {r : R2} {sem : PyData → PyData → Option PyData} (ho : OpR X (compareOp op) r) (hs : Sem2 gi X.K r sem) (ha : PE X a (tQ gi X.K fa)) (hb : PE X b (tQ gi X.K fb)) (hm : behindInMarks op b = false) : PT X (.Compare a [op] [b] pos) (tT gi X.K (fB (e2 sem fa fb))) :=
  PT_weak (pt_cmpR ho ha hb hm) fun σ H Q ⟨en, F, g, ρ, d, g', r0, e, k⟩ => by
    obtain ⟨x, g1, e1, e⟩ := bnd_some e
    obtain ⟨e3, rfl⟩ := lft_inv e
    refine t2_of hs ⟨en, F, g, ρ, x, g1, r0, e1, fun v F' H' s' r' h' => ?_⟩
    cases x <;> first | cases e3; done | skip
    cases e3
    cases h'
    exact ⟨_, rfl, k F' H' s' r'⟩
variable {ta tb : FT G}
def fNot (ta : FT G) : FT G := fun ρ => bnd (ta ρ) fun b => ret (!b)
def fAnd (ta tb : FT G) : FT G := fun ρ => bnd (ta ρ) fun b => if b = true then tb ρ else ret false
def fOr (ta tb : FT G) : FT G := fun ρ => bnd (ta ρ) fun b => if b = true then ret true else tb ρ
theorem dt_not (ha : PT X a (tT gi X.K ta)) : PT X (.UnaryOp .Not a pos) (tT gi X.K (fNot ta)) :=
  PT_weak (pt_not ha) fun σ H Q ⟨en, F, g, ρ, d, g', r0, e, k⟩ => by
    obtain ⟨x, g1, e1, e⟩ := bnd_some e
    cases e
    exact ⟨en, F, g, ρ, x, _, r0, e1, fun F' H' s' r' => k F' H' s' r'⟩
theorem dw_or1 (ha : PT X a (tT gi X.K ta)) : PW X (.BoolOp .Or [a] pos) (tT gi X.K ta) := pw_or1 ha
theorem dw_or {rest : List Expr} (ha : PT X a (tT gi X.K ta)) (hb : PW X (.BoolOp .Or (b :: rest) pos) (tT gi X.K tb)) : PW X (.BoolOp .Or (a :: b :: rest) pos) (tT gi X.K (fOr ta tb)) :=
  PW_weak (pw_or ha hb) fun σ H Q ⟨en, F, g, ρ, d, g', r0, e, k⟩ => by
    obtain ⟨x, g1, e1, e⟩ := bnd_some e
    refine ⟨en, F, g, ρ, x, g1, r0, e1, fun F' H' s' r' => ?_⟩
    cases x with
    | true => cases e; exact k F' H' s' r'
    | false => exact ⟨en, F', g1, ρ, d, g', r', e, fun F2 H2 s2 r2 => k F2 H2 (s'.trans s2) r2⟩
/-- as values -/
def eNot (fa : FE G) : FE G := fun ρ => bnd (fa ρ) fun x => bnd (lft (toB x)) fun b => ret (.bool (!b))
def eAnd (fa fb : FE G) : FE G := fun ρ => bnd (fa ρ) fun x => bnd (lft (toB x)) fun b => if b = true then fb ρ else ret (.bool false)
def eOr (fa fb : FE G) : FE G := fun ρ => bnd (fa ρ) fun x => bnd (lft (toB x)) fun b => if b = true then ret (.bool true) else fb ρ
theorem toB_of {d : PyData} {b : Bool} (h : toB d = some b) : d = .bool b := by
  cases d <;> first | cases h; rfl | cases h
theorem de_not (ha : PE X a (tQ gi X.K fa)) : PE X (.UnaryOp .Not a pos) (tE gi X.K (eNot fa)) :=
  PE_weak (pe_not ha) fun σ H Q ⟨en, F, g, ρ, d, g', r0, e, k⟩ => by
    obtain ⟨x, g1, e1, e⟩ := bnd_some e
    obtain ⟨b, g2, e2, e⟩ := bnd_some e
    obtain ⟨e3, rfl⟩ := lft_inv e2
    cases e
    cases toB_of e3
    exact ⟨en, F, g, ρ, _, _, r0, e1, fun v F' H' s' r' h' => ⟨b, h'.bl, k _ F' H' s' r' (.bl _)⟩⟩
theorem de_one {op : BoolOp} (ha : PE X a (tE gi X.K fa)) : PE X (.BoolOp op [a] pos) (tE gi X.K fa) := pe_one ha
theorem de_and {rest : List Expr} (ha : PE X a (tQ gi X.K fa)) (hb : PE X (.BoolOp .And (b :: rest) pos) (tE gi X.K fb)) : PE X (.BoolOp .And (a :: b :: rest) pos) (tE gi X.K (eAnd fa fb)) :=
  PE_weak (pe_and ha hb) fun σ H Q ⟨en, F, g, ρ, d, g', r0, e, k⟩ => by
    obtain ⟨x, g1, e1, e⟩ := bnd_some e
    obtain ⟨b, g2, e2, e⟩ := bnd_some e
    obtain ⟨e3, rfl⟩ := lft_inv e2
    cases toB_of e3
    refine ⟨en, F, g, ρ, _, g1, r0, e1, fun v F' H' s' r' h' => ⟨b, h'.bl, ?_⟩⟩
    cases b with
    | true => exact ⟨en, F', g1, ρ, d, g', r', e, fun v F2 H2 s2 r2 h2 => k v F2 H2 (s'.trans s2) r2 h2⟩
    | false => cases e; exact k _ F' H' s' r' (.bl _)
/-- a if c else b -/
def eIf (tc : FT G) (fa fb : FE G) : FE G := fun ρ => bnd (tc ρ) fun b => if b = true then fa ρ else fb ρ
def lIf (tc : FT G) (fa fb : FL G) : FL G := fun ρ => bnd (tc ρ) fun b => if b = true then fa ρ else fb ρ
theorem de_if (hc : PT X c (tT gi X.K ta)) (ha : PE X a (tE gi X.K fa)) (hb : PE X b (tE gi X.K fb)) : PE X (.IfExp c a b pos) (tE gi X.K (eIf ta fa fb)) :=
  PE_weak (pe_ifExp hc ha hb) fun σ H Q ⟨en, F, g, ρ, d, g', r0, e, k⟩ => by
    obtain ⟨x, g1, e1, e⟩ := bnd_some e
    refine ⟨en, F, g, ρ, x, g1, r0, e1, fun F' H' s' r' => ?_⟩
    cases x with
    | true => exact ⟨en, F', g1, ρ, d, g', r', e, fun v F2 H2 s2 r2 h2 => k v F2 H2 (s'.trans s2) r2 h2⟩
    | false => exact ⟨en, F', g1, ρ, d, g', r', e, fun v F2 H2 s2 r2 h2 => k v F2 H2 (s'.trans s2) r2 h2⟩
end
end Dt
namespace Dt
open PySem PySem.Spec L2
section
variable {G : Type} {gi : GI G} {K : PySem.W.Frag} {en : En G} {F H : Hp} {g : G} {σ : L2.St} {ρ : Ev}
/-- a new tuple -/
theorem new_tup {xs : List V} {ds : List PyData} {Q : VK} (r : R gi K en F H g σ ρ) (hx : DvAll K F xs ds) (k : ∀ v F' H', Same F F' → R gi K en F' H' g σ ρ → Dv K F' v (.tuple ds) → Q v H') : ∀ p us, H p = none → Q (.ref p) (upd H p (.frz (tupO us) (.tup xs))) := fun p us hp => by
  have sF : Same F (upd F p (.frz (tupO us) (.tup xs))) := same_upd (r.free hp).1
  exact k _ _ _ sF (r.alloc hp) (.tup (.inl ⟨us, upd_same⟩) (dva_mono sF hx))
theorem new_lst {xs : List V} {ds : List PyData} {Q : VK} (r : R gi K en F H g σ ρ) (hx : DvAll K F xs ds) (k : ∀ v F' H', Same F F' → R gi K en F' H' g σ ρ → Dv K F' v (.list ds) → Q v H') : ∀ p, H p = none → Q (.ref p) (upd H p (.lst xs)) := fun p hp => by
  have sF : Same F (upd F p (.lst xs)) := same_upd (r.free hp).1
  exact k _ _ _ sF (r.alloc hp) (.lst upd_same (dva_mono sF hx))
theorem new_l {xs : List V} {ds : List PyData} {Q : VK} (r : R gi K en F H g σ ρ) (hx : DvAll K F xs ds) (k : ∀ p xs F' H', Same F F' → R gi K en F' H' g σ ρ → Lone gi en F' H' g σ ρ p → H' p = some (.lst xs) → DvAll K F' xs ds → Q (.ref p) H') : ∀ p, H p = none → Q (.ref p) (upd H p (.lst xs)) := fun p hp =>
  k p xs F _ (Same.refl F) (r.alloc0 hp) ((r.lone_of hp).keep (r.free hp).1) upd_same hx
end
def sAdd : PyData → PyData → Option PyData
  | .int i, .int j => some (.int (i + j))
  | .tuple xs, .tuple ys => if xs.length + ys.length ≤ lim then some (.tuple (xs ++ ys)) else none
  | .list xs, .list ys => if xs.length + ys.length ≤ lim then some (.list (xs ++ ys)) else none
  | .str x, .str y => if x.length + y.length ≤ lim then some (.str (x ++ y)) else none
  | _, _ => none
def lAdd : PyData → PyData → Option (List PyData)
  | .list xs, .list ys => if xs.length + ys.length ≤ lim then some (xs ++ ys) else none
  | _, _ => none
def sSub : PyData → PyData → Option PyData
  | .int i, .int j => some (.int (i - j))
  | _, _ => none
def sMul : PyData → PyData → Option PyData
  | .int i, .int j => if (-(2 ^ 64) < i ∧ i < 2 ^ 64) ∨ (-(2 ^ 64) < j ∧ j < 2 ^ 64) then some (.int (i * j)) else none
  | .tuple xs, .int k => if xs ≠ [] ∧ 2 ≤ k ∧ k ≤ 1000 ∧ xs.length ≤ 1000 then some (.tuple (List.replicate k.toNat xs).flatten) else none
  | .list xs, .int k => if 0 ≤ k ∧ k ≤ 1000 ∧ xs.length ≤ 1000 then some (.list (List.replicate k.toNat xs).flatten) else none
  | _, _ => none
def sMod : PyData → PyData → Option PyData
  | .int i, .int j => if 0 < j then some (.int (i % j)) else none
  | _, _ => none
def sFdiv : PyData → PyData → Option PyData
  | .int i, .int j => if 0 < j ∧ j < 1073741824 then some (.int (i / j)) else none
  | _, _ => none
def sNeg : PyData → Option PyData
  | .int i => some (.int (-i))
  | _ => none
section
variable {G : Type} {gi : GI G} {X : Cx}
def rAdd (K : PySem.W.Frag) : R2 := fun x y H Q => rI0 (fun i j => .int (i + j)) x y H Q ∨ rCatS K x y H Q ∨ rCat x y H Q ∨ (∃ i j, x = .str i ∧ y = .str j ∧ i.length + j.length ≤ sizeLine ∧ Q (.str (i ++ j)) H)
theorem op_addA : OpR X (binaryOp .Add) (rAdd X.K) := op_add.or (op_catS.or (op_cat.or op_add_str))
theorem sem_add : Sem2 gi X.K (rAdd X.K) sAdd := fun en F H g σ ρ x y dx dy d Q r hx hy e k => by
  unfold sAdd at e
  split at e
  · cases e
    exact .inl ⟨_, _, hx.int, hy.int, k _ F H (Same.refl F) r (.int _)⟩
  · split at e
    · rename_i xs ys hl
      cases e
      obtain ⟨a, us, rfl, hf, hh, ha⟩ := hx.tup r
      obtain ⟨b, ws, rfl, hf2, hh2, hb⟩ := hy.tup r
      refine .inr (.inl ⟨a, b, us, ws, rfl, rfl, hh, hh2, lim_ok (by rw [ha.len, hb.len]; exact hl), fun e0 => ?_, fun _ e0 => ?_, fun _ _ => new_tup r (ha.app hb) k⟩)
      · subst e0
        cases ha
        exact k _ F H (Same.refl F) r (.tup hf2 hb)
      · subst e0
        cases hb
        rw [List.append_nil] at k
        exact k _ F H (Same.refl F) r (.tup hf ha)
    · cases e
  · split at e
    · rename_i xs ys hl
      cases e
      obtain ⟨a, us, rfl, hh, ha⟩ := hx.lst r
      obtain ⟨b, ws, rfl, hh2, hb⟩ := hy.lst r
      exact .inr (.inr (.inl ⟨a, b, us, ws, rfl, rfl, hh, hh2, lim_ok (by rw [ha.len, hb.len]; exact hl), new_lst r (ha.app hb) k⟩))
    · cases e
  · split at e
    · rename_i hl
      cases e
      exact .inr (.inr (.inr ⟨_, _, hx.str, hy.str, lim_ok hl, k _ F H (Same.refl F) r (.str _)⟩))
    · cases e
  · cases e
theorem sem_ladd : SemL2 gi X.K rCat lAdd := fun en F H g σ ρ x y dx dy d Q r hx hy e k => by
  unfold lAdd at e
  split at e
  · split at e
    · rename_i xs ys hl
      cases e
      obtain ⟨a, us, rfl, hh, ha⟩ := hx.lst r
      obtain ⟨b, ws, rfl, hh2, hb⟩ := hy.lst r
      exact ⟨a, b, us, ws, rfl, rfl, hh, hh2, lim_ok (by rw [ha.len, hb.len]; exact hl), new_l r (ha.app hb) k⟩
    · cases e
  · cases e
theorem sem_sub : Sem2 gi X.K (rI0 fun i j => .int (i - j)) sSub := fun en F H g σ ρ x y dx dy d Q r hx hy e k => by
  unfold sSub at e
  split at e
  · cases e
    exact ⟨_, _, hx.int, hy.int, k _ F H (Same.refl F) r (.int _)⟩
  · cases e
theorem dva_rep {K : PySem.W.Frag} {F : Hp} {xs : List V} {ds : List PyData} (h : DvAll K F xs ds) : ∀ k : Nat, DvAll K F (List.replicate k xs).flatten (List.replicate k ds).flatten
  | 0 => .nil
  | k + 1 => by
    rw [List.replicate_succ, List.replicate_succ, List.flatten_cons, List.flatten_cons]
    exact h.app (dva_rep h k)
def rMulA (K : PySem.W.Frag) : R2 := fun x y H Q => rI CMul (fun i j => .int (i * j)) x y H Q ∨ rRepS K x y H Q ∨ rRep x y H Q
theorem op_mulA : OpR X (binaryOp .Mult) (rMulA X.K) := op_mul.or (op_repS.or op_rep)
theorem sem_mul : Sem2 gi X.K (rMulA X.K) sMul := fun en F H g σ ρ x y dx dy d Q r hx hy e k => by
  unfold sMul at e
  split at e
  · split at e
    · rename_i h
      cases e
      exact .inl ⟨_, _, hx.int, hy.int, h, k _ F H (Same.refl F) r (.int _)⟩
    · cases e
  · split at e
    · rename_i h
      cases e
      obtain ⟨a, us, rfl, hf, hh, ha⟩ := hx.tup r
      refine .inr (.inl ⟨a, _, us, rfl, hy.int, hh, ?_, h.2.1, h.2.2.1, by rw [ha.len]; exact h.2.2.2, new_tup r (dva_rep ha _) k⟩)
      intro z
      subst z
      cases ha
      exact h.1 rfl
    · cases e
  · rename_i zs kk
    split at e
    · rename_i h
      cases e
      obtain ⟨a, us, rfl, hh, ha⟩ := hx.lst r
      refine .inr (.inr ⟨a, _, us, rfl, hy.int, hh, by omega, by omega, ?_, new_lst r (dva_rep ha _) k⟩)
      rw [ha.len, sizeLine_eq]
      have h1 : kk.toNat ≤ 1000 := by omega
      have h2 := Nat.mul_le_mul h.2.2 h1
      omega
    · cases e
  · cases e
theorem sem_mod : Sem2 gi X.K (rI (fun _ j => 0 < j) fun i j => .int (i % j)) sMod := fun en F H g σ ρ x y dx dy d Q r hx hy e k => by
  unfold sMod at e
  split at e
  · split at e
    · rename_i h
      cases e
      exact ⟨_, _, hx.int, hy.int, h, k _ F H (Same.refl F) r (.int _)⟩
    · cases e
  · cases e
theorem sem_fdiv : Sem2 gi X.K (rI CDiv fun i j => .int (i / j)) sFdiv := fun en F H g σ ρ x y dx dy d Q r hx hy e k => by
  unfold sFdiv at e
  split at e
  · split at e
    · rename_i h
      cases e
      exact ⟨_, _, hx.int, hy.int, h, k _ F H (Same.refl F) r (.int _)⟩
    · cases e
  · cases e
theorem sem_neg : Sem1 gi X.K (rU fun i => .int (-i)) sNeg := fun en F H g σ ρ x dx d Q r hx e k => by
  unfold sNeg at e
  split at e
  · cases e
    exact ⟨_, hx.int, k _ F H (Same.refl F) r (.int _)⟩
  · cases e
def shp (d : PyData) : Bool := SeqAt.shaped d
def sEq (d e : PyData) : Option PyData := if shp d = true ∧ shp e = true then some (.bool (PyData.eqv d e)) else none
def sNe (d e : PyData) : Option PyData := if shp d = true ∧ shp e = true then some (.bool (!PyData.eqv d e)) else none
def sLt : PyData → PyData → Option PyData
  | .int i, .int j => some (.bool (decide (i < j)))
  | _, _ => none
def sLe : PyData → PyData → Option PyData
  | .int i, .int j => some (.bool (decide (i ≤ j)))
  | _, _ => none
def sGt : PyData → PyData → Option PyData
  | .int i, .int j => some (.bool (decide (j < i)))
  | _, _ => none
def sGe : PyData → PyData → Option PyData
  | .int i, .int j => some (.bool (decide (j ≤ i)))
  | _, _ => none
def isN : PyData → Bool
  | .none => true
  | _ => false
def sIs : PyData → PyData → Option PyData
  | d, .none => some (.bool (isN d))
  | _, _ => none
def sIsNot : PyData → PyData → Option PyData
  | d, .none => some (.bool (!isN d))
  | _, _ => none
theorem sem_eq : Sem2 gi X.K (rEqD X.K) sEq := fun en F H g σ ρ x y dx dy d Q r hx hy e k => by
  unfold sEq at e
  split at e
  · rename_i h
    cases e
    exact ⟨dx, dy, hx.dp r, hy.dp r, h.1, h.2, k _ F H (Same.refl F) r (.bl _)⟩
  · cases e
theorem sem_ne : Sem2 gi X.K (rNeD X.K) sNe := fun en F H g σ ρ x y dx dy d Q r hx hy e k => by
  unfold sNe at e
  split at e
  · rename_i h
    cases e
    exact ⟨dx, dy, hx.dp r, hy.dp r, h.1, h.2, k _ F H (Same.refl F) r (.bl _)⟩
  · cases e
theorem sem_le : Sem2 gi X.K (rI0 fun i j => .bl (decide (i ≤ j))) sLe := fun en F H g σ ρ x y dx dy d Q r hx hy e k => by
  unfold sLe at e
  split at e
  · cases e
    exact ⟨_, _, hx.int, hy.int, k _ F H (Same.refl F) r (.bl _)⟩
  · cases e
theorem sem_gt : Sem2 gi X.K (rI0 fun i j => .bl (decide (j < i))) sGt := fun en F H g σ ρ x y dx dy d Q r hx hy e k => by
  unfold sGt at e
  split at e
  · cases e
    exact ⟨_, _, hx.int, hy.int, k _ F H (Same.refl F) r (.bl _)⟩
  · cases e
def sIx : PyData → PyData → Option PyData
  | .list ds, .int i => atI ds i
  | .tuple ds, .int i => atI ds i
  | .str z, .int i => if z.length ≤ sizeLine then (atI z.cps.toList i).map fun c => .str ⟨#[c]⟩ else none
  | _, _ => none
theorem dva_atI {K : PySem.W.Frag} {F : Hp} {xs : List V} {ds : List PyData} {i : Int} {d : PyData} (h : DvAll K F xs ds) (e : atI ds i = some d) : ∃ v, atI xs i = some v ∧ Dv K F v d := by
  unfold atI at e ⊢
  rw [h.len]
  cases q : ixN ds.length i with
  | none => rw [q] at e; cases e
  | some j =>
    rw [q] at e
    exact h.get e
theorem sem_ix : Sem2 gi X.K (rIx X.K) sIx := fun en F H g σ ρ x y dx dy d Q r hx hy e k => by
  unfold sIx at e
  split at e
  · obtain ⟨a, us, rfl, hh, ha⟩ := hx.lst r
    obtain ⟨v, h1, h2⟩ := dva_atI ha e
    exact .inl ⟨a, us, _, v, rfl, hy.int, .inl (.inl hh), h1, k _ F H (Same.refl F) r h2⟩
  · obtain ⟨a, us, rfl, _, hh, ha⟩ := hx.tup r
    obtain ⟨v, h1, h2⟩ := dva_atI ha e
    exact .inr (.inl ⟨a, us, _, v, rfl, hy.int, hh, h1, k _ F H (Same.refl F) r h2⟩)
  · split at e
    · rename_i z i hl
      cases q : atI z.cps.toList i with
      | none => rw [q] at e; cases e
      | some c =>
        rw [q] at e
        cases e
        exact .inr (.inr ⟨z, i, c, hx.str, hy.int, hl, q, k _ F H (Same.refl F) r (.str _)⟩)
    · cases e
  · cases e
def cut {α : Type} (xs : List α) (lo hi : Option Int) : List α := (xs.drop (HT.sIx xs.length 0 lo)).take (HT.sIx xs.length xs.length hi - HT.sIx xs.length 0 lo)
theorem dva_cut {K : PySem.W.Frag} {F : Hp} {xs : List V} {ds : List PyData} (lo hi : Option Int) (h : DvAll K F xs ds) : DvAll K F (cutV xs lo hi) (cut ds lo hi) := by
  unfold cutV cut
  rw [h.len]
  exact (h.drop _).take _
theorem cut_all {α : Type} {xs : List α} {lo hi : Option Int} (h : HT.sIx xs.length 0 lo = 0 ∧ HT.sIx xs.length xs.length hi = xs.length) : cut xs lo hi = xs := by
  unfold cut
  rw [h.1, h.2]
  simp
def sCut (d : PyData) (lo hi : Option Int) : Option PyData := match d with
  | .list ds => some (.list (cut ds lo hi))
  | .tuple ds => some (.tuple (cut ds lo hi))
  | .str z => if z.length ≤ sizeLine then some (.str (cutS z lo hi)) else none
  | _ => none
abbrev FO (G : Type) := Ev → M G (Option Int)
def tO (gi : GI G) (K : PySem.W.Frag) (f : FO G) : TO := fun σ H Q => ∃ en F g ρ o g', R gi K en F H g σ ρ ∧ f ρ g = some (o, g') ∧ ∀ F' H', Same F F' → R gi K en F' H' g' σ ρ → Q o H'
theorem PO_weak {X : Cx} {e : Option Expr} {t t' : TO} (h : PO X e t) (w : ∀ σ H Q, t' σ H Q → t σ H Q) : PO X e t' := ⟨fun pins s σ H Q I q => h.run pins s σ H Q I (w σ H Q q)⟩
def oNone : FO G := fun _ => ret none
def toI : PyData → Option Int
  | .int i => some i
  | _ => none
def oSome (fa : FE G) : FO G := fun ρ => bnd (fa ρ) fun x => lft ((toI x).map some)
theorem do_none : PO X none (tO gi X.K oNone) := PO_weak po_none fun σ H Q ⟨en, F, g, ρ, o, g', r, e, k⟩ => by
  cases e
  exact k F H (Same.refl F) r
theorem do_some {e : Expr} {fa : FE G} (h : PE X e (tQ gi X.K fa)) : PO X (some e) (tO gi X.K (oSome fa)) := PO_weak (po_some h) fun σ H Q ⟨en, F, g, ρ, o, g', r, e, k⟩ => by
  obtain ⟨x, g1, e1, e⟩ := bnd_some e
  obtain ⟨e3, rfl⟩ := lft_inv e
  refine ⟨en, F, g, ρ, x, g1, r, e1, fun v F' H' s' r' h' => ?_⟩
  cases x <;> first | cases e3; done | skip
  rename_i i
  cases e3
  exact ⟨i, h'.int, k F' H' s' r'⟩
def eCut (fa : FE G) (fl fh : FO G) : FE G := fun ρ => bnd (fa ρ) fun x => bnd (fl ρ) fun l => bnd (fh ρ) fun h => lft (sCut x l h)
def rSlAll (K : PySem.W.Frag) : V → Option Int → Option Int → Hp → VK → Prop := fun x lo hi H Q => rSlS' K x lo hi H Q ∨ rSlL K x lo hi H Q ∨ (∃ z, x = .str z ∧ z.length ≤ sizeLine ∧ Q (.str (cutS z lo hi)) H)
theorem sl_all : SlR X (rSlAll X.K) := sl_tupS.or (sl_list.or sl_str)
theorem de_cut {e : Expr} {lo hi : Option Expr} {p2 pos : Pos} {fa : FE G} {fl fh : FO G} (he : PE X e (tQ gi X.K fa)) (hl : PO X lo (tO gi X.K fl)) (hu : PO X hi (tO gi X.K fh)) : PE X (.Subscript e (.Slice lo hi none p2) pos) (tE gi X.K (eCut fa fl fh)) :=
  PE_weak (pe_slice sl_all he hl hu) fun σ H Q ⟨en, F, g, ρ, d, g', r0, e, k⟩ => by
    obtain ⟨x, g1, e1, e⟩ := bnd_some e
    obtain ⟨l, g2, e2, e⟩ := bnd_some e
    obtain ⟨h, g3, e3, e⟩ := bnd_some e
    obtain ⟨e4, rfl⟩ := lft_inv e
    refine ⟨en, F, g, ρ, x, g1, r0, e1, fun v F1 H1 s1 r1 h1 => ⟨en, F1, g1, ρ, l, g2, r1, e2, fun F2 H2 s2 r2 => ⟨en, F2, g2, ρ, h, g3, r2, e3, fun F3 H3 s3 r3 => ?_⟩⟩⟩
    have k := fun v F' H' (s' : Same F3 F') => k v F' H' (((s1.trans s2).trans s3).trans s')
    have hx := h1.mono (s2.trans s3)
    unfold sCut at e4
    split at e4
    · cases e4
      obtain ⟨a, us, rfl, hh, ha⟩ := hx.lst r3
      exact .inr (.inl ⟨a, us, rfl, .inl (.inl hh), new_lst r3 (dva_cut l h ha) k⟩)
    · cases e4
      obtain ⟨a, us, rfl, hf, hh, ha⟩ := hx.tup r3
      refine .inl ⟨a, us, rfl, hh, fun z => ?_, fun _ => new_tup r3 (dva_cut l h ha) k⟩
      rw [ha.len] at z
      rw [cut_all z] at k
      exact k _ F3 H3 (Same.refl F3) r3 (.tup hf ha)
    · split at e4
      · rename_i hz
        cases e4
        exact .inr (.inr ⟨_, hx.str, hz, k _ F3 H3 (Same.refl F3) r3 (.str _)⟩)
      · cases e4
    · cases e4
/-- a slice of a list, as a list of its own -/
def lCut (fa : FE G) (fl fh : FO G) : FL G := fun ρ => bnd (fa ρ) fun x => bnd (fl ρ) fun l => bnd (fh ρ) fun h => match x with
  | .list ds => ret (cut ds l h)
  | _ => fail
def sLen : PyData → Option PyData
  | .list ds => some (.int ds.length)
  | .tuple ds => some (.int ds.length)
  | .str z => if z.length ≤ sizeLine then some (.int z.length) else none
  | _ => none
theorem sem_len : Sem1C gi X.K (fun xs H Q => ∃ x n, xs = [x] ∧ LenV X.K x H n ∧ Q (.int n) H) sLen := fun en F H g σ ρ x dx d Q r hx e k => by
  unfold sLen at e
  split at e
  · cases e
    obtain ⟨a, us, rfl, hh, ha⟩ := hx.lst r
    exact ⟨_, us.length, rfl, .inl ⟨us, .inl (.inl hh), rfl⟩, by rw [ha.len]; exact k _ F H (Same.refl F) r (.int _)⟩
  · cases e
    obtain ⟨a, us, rfl, _, hh, ha⟩ := hx.tup r
    exact ⟨_, us.length, rfl, .inr ⟨us, hh, rfl⟩, by rw [ha.len]; exact k _ F H (Same.refl F) r (.int _)⟩
  · split at e
    · rename_i z hz
      cases e
      refine ⟨x, z.length, rfl, ?_, k _ F H (Same.refl F) r (.int _)⟩
      rw [hx.str]
      exact ⟨hz, rfl⟩
    · cases e
  · cases e
def sTuple : PyData → Option PyData
  | .list ds => some (.tuple ds)
  | .tuple ds => some (.tuple ds)
  | _ => none
theorem sem_tuple : Sem1C gi X.K (fun xs H Q => ∃ p ys, xs = [.ref p] ∧ ((SqL X.K H p ys ∧ ∀ l us, H l = none → Q (.ref l) (upd H l (.frz (tupO us) (.tup ys)))) ∨ (SqT X.K H p ys ∧ Q (.ref p) H))) sTuple := fun en F H g σ ρ x dx d Q r hx e k => by
  unfold sTuple at e
  split at e
  · cases e
    obtain ⟨a, us, rfl, hh, ha⟩ := hx.lst r
    exact ⟨a, us, rfl, .inl ⟨.inl (.inl hh), new_tup r ha k⟩⟩
  · cases e
    obtain ⟨a, us, rfl, hf, hh, ha⟩ := hx.tup r
    exact ⟨a, us, rfl, .inr ⟨hh, k _ F H (Same.refl F) r (.tup hf ha)⟩⟩
  · cases e
def sList : PyData → Option (List PyData)
  | .list ds => some ds
  | .tuple ds => some ds
  | _ => none
theorem sem_list : SemL1C gi X.K (fun xs H Q => ∃ p ys, xs = [.ref p] ∧ (SqL X.K H p ys ∨ SqT X.K H p ys) ∧ ∀ l, H l = none → Q (.ref l) (upd H l (.lst ys))) sList := fun en F H g σ ρ x dx d Q r hx e k => by
  unfold sList at e
  split at e
  · cases e
    obtain ⟨a, us, rfl, hh, ha⟩ := hx.lst r
    exact ⟨a, us, rfl, .inl (.inl (.inl hh)), new_l r ha k⟩
  · cases e
    obtain ⟨a, us, rfl, hf, hh, ha⟩ := hx.tup r
    exact ⟨a, us, rfl, .inr hh, new_l r ha k⟩
  · cases e
/-- all items of a kind -/
def allM {α : Type} (f : PyData → Option α) : List PyData → Option (List α)
  | [] => some []
  | d :: ds => match f d, allM f ds with
    | some x, some xs => some (x :: xs)
    | _, _ => none
theorem allM_bools : ∀ {ds : List PyData} {bs : List Bool}, allM toB ds = some bs → ds = bs.map PyData.bool
  | [], _, h => by cases h; rfl
  | d :: ds, bs, h => by
    unfold allM at h
    split at h
    · rename_i x xs h1 h2
      cases h
      rw [toB_of h1, allM_bools h2]
      rfl
    · cases h
theorem toI_of {d : PyData} {b : Int} (h : toI d = some b) : d = .int b := by
  cases d <;> first | cases h; rfl | cases h
theorem allM_ints : ∀ {ds : List PyData} {bs : List Int}, allM toI ds = some bs → ds = bs.map PyData.int
  | [], _, h => by cases h; rfl
  | d :: ds, bs, h => by
    unfold allM at h
    split at h
    · rename_i x xs h1 h2
      cases h
      rw [toI_of h1, allM_ints h2]
      rfl
    · cases h
@[simp] theorem allM_toB (bs : List Bool) : allM toB (bs.map PyData.bool) = some bs := by
  induction bs with
  | nil => rfl
  | cons b bs ih => rw [List.map_cons]; unfold allM; rw [ih]; rfl
@[simp] theorem allM_toI (bs : List Int) : allM toI (bs.map PyData.int) = some bs := by
  induction bs with
  | nil => rfl
  | cons b bs ih => rw [List.map_cons]; unfold allM; rw [ih]; rfl
def sAll : PyData → Option PyData
  | .list ds => (allM toB ds).map fun bs => .bool (bs.all id)
  | _ => none
theorem sem_all : Sem1C gi X.K (rAll X.K) sAll := fun en F H g σ ρ x dx d Q r hx e k => by
  unfold sAll at e
  split at e
  · rename_i ds
    obtain ⟨bs, h1, h2⟩ := Option.map_eq_some_iff.mp e
    subst h2
    cases allM_bools h1
    obtain ⟨a, us, rfl, hh, ha⟩ := hx.lst r
    exact ⟨a, bs, rfl, .inl (.inl (by rw [hh, ha.of_bools])), k _ F H (Same.refl F) r (.bl _)⟩
  · cases e
def sMin2 : PyData → PyData → Option PyData
  | .int i, .int j => some (.int (if j < i then j else i))
  | _, _ => none
theorem sem_min2 : Sem2C gi X.K (fun xs H Q => ∃ i j, xs = [.int i, .int j] ∧ Q (.int (if j < i then j else i)) H) sMin2 := fun en F H g σ ρ x y dx dy d Q r hx hy e k => by
  unfold sMin2 at e
  split at e
  · cases e
    exact ⟨_, _, by rw [hx.int, hy.int], k _ F H (Same.refl F) r (.int _)⟩
  · cases e
end
end Dt
namespace Dt
open PySem PySem.Spec L2
section
variable {G : Type} (gi : GI G) (K : PySem.W.Frag)
def RtR (en : En G) (F H : Hp) (g : G) (v : V) : Rt → Prop
  | .d d => Dv K F v d
  | .l ds => ∃ p xs, v = .ref p ∧ H p = some (.lst xs) ∧ F p = none ∧ en.B p = none ∧ ¬ gi.adr g p ∧ DvAll K F xs ds
  | .raw w => v = w
  | .obj u => ∃ p, v = .ref p ∧ F p = some u
def tS (f : FS G) : TS := fun D σ H => ∃ en F g ρ fl g', R gi K en F H g σ ρ ∧ f ρ g = some (fl, g') ∧ ∀ F' H' σ', Same F F' → match fl with
  | .next ρ' => R gi K en F' H' g' σ' ρ' → D.nx σ' H'
  | .brk ρ' => R gi K en F' H' g' σ' ρ' → D.bk σ' H'
  | .cont ρ' => R gi K en F' H' g' σ' ρ' → D.ct σ' H'
  | .ret r => ∀ v, R gi K en F' H' g' [] [] → RtR gi K en F' H' g' v r → D.rt v H'
/-- targets: what is bound; vs: the slots that change -/
abbrev FG (G : Type) := PyData → Ev → M G Ev
def tG (b : FG G) (vs : List Nat) : TG := fun v σ H Q => ∃ en F g ρ d ρ' g', R gi K en F H g σ ρ ∧ Dv K F v d ∧ b d ρ g = some (ρ', g') ∧
  ∀ σ' F' H', Same F F' → σ'.length = σ.length → (∀ j, j ∉ vs → σ'[j]? = σ[j]?) → R gi K en F' H' g' σ' ρ' → Q σ' H'
abbrev FGs (G : Type) := List PyData → Ev → M G Ev
def tGs (b : FGs G) (vs : List Nat) : TGs := fun us σ H Q => ∃ en F g ρ ds ρ' g', R gi K en F H g σ ρ ∧ DvAll K F us ds ∧ b ds ρ g = some (ρ', g') ∧
  ∀ σ' F' H', Same F F' → σ'.length = σ.length → (∀ j, j ∉ vs → σ'[j]? = σ[j]?) → R gi K en F' H' g' σ' ρ' → Q σ' H'
end
section
variable {G : Type} {gi : GI G} {K : PySem.W.Frag} {en : En G} {F F' H H' : Hp} {g g' : G} {σ : L2.St} {ρ : Ev}
theorem set_at {i j : Nat} {v : V} {s u : Sl} (hl : ρ.length ≤ σ.length) (e : (ρ.set i (some s))[j]? = some (some u)) : (j = i ∧ u = s ∧ (σ.set i (some v))[j]? = some (some v)) ∨ (j ≠ i ∧ ρ[j]? = some (some u) ∧ (σ.set i (some v))[j]? = σ[j]?) := by
  by_cases hj : i = j
  · subst hj
    have hl' : i < ρ.length := by
      rcases Nat.lt_or_ge i ρ.length with h | h
      · exact h
      · rw [List.getElem?_eq_none (by rw [List.length_set]; exact h)] at e; cases e
    rw [List.getElem?_set_self hl'] at e
    cases e
    exact .inl ⟨rfl, rfl, List.getElem?_set_self (Nat.lt_of_lt_of_le hl' hl)⟩
  · rw [List.getElem?_set_ne hj] at e
    exact .inr ⟨Ne.symm hj, e, List.getElem?_set_ne hj⟩
/-- a slot is stored -/
theorem R.set (r : R gi K en F H g σ ρ) {i : Nat} {v : V} {s : Sl} (hs : SlotR gi K F H en g (some (some v)) s)
    (hd : ∀ a, Ows H (some (some v)) s a → ∀ j u, j ≠ i → ρ[j]? = some (some u) → ¬ Ows H σ[j]? u a) : R gi K en F H g (σ.set i (some v)) (ρ.set i (some s)) := by
  refine ⟨r.sub, r.f0, r.fz, r.bs, r.fnew, r.am, r.an, r.gr, r.nt, fun j u e => ?_, fun j l u w a e1 e2 e3 e4 => ?_, by rw [List.length_set, List.length_set]; exact r.len⟩
  · rcases set_at (v := v) r.len e with ⟨rfl, rfl, h⟩ | ⟨_, h1, h2⟩
    · rw [h]; exact hs
    · rw [h2]; exact r.sl j u h1
  · rcases set_at (v := v) r.len e1 with ⟨rfl, rfl, h2⟩ | ⟨n1, h1, h2⟩
    · rcases set_at (v := v) r.len e2 with ⟨rfl, _, _⟩ | ⟨n2, h3, h4⟩
      · rfl
      · rw [h2] at e3
        rw [h4] at e4
        exact absurd e4 (hd a e3 l w n2 h3)
    · rcases set_at (v := v) r.len e2 with ⟨rfl, rfl, h4⟩ | ⟨n2, h3, h4⟩
      · rw [h4] at e4
        rw [h2] at e3
        exact absurd e3 (hd a e4 j u n1 h1)
      · exact r.ds j l u w a h1 h3 (by rw [← h2]; exact e3) (by rw [← h4]; exact e4)
theorem R.setV (r : R gi K en F H g σ ρ) {i : Nat} {v : V} {d : PyData} (h : Dv K F v d) : R gi K en F H g (σ.set i (some v)) (ρ.set i (some (.val d))) :=
  r.set ⟨v, rfl, h⟩ fun _ e => e.elim
theorem R.setO (r : R gi K en F H g σ ρ) {i : Nat} {p : Addr} {xs : List V} {ds : List PyData} (l : Lone gi en F H g σ ρ p) (hp : H p = some (.lst xs)) (h : DvAll K F xs ds) : R gi K en F H g (σ.set i (some (.ref p))) (ρ.set i (some (.own ds))) :=
  r.set ⟨p, xs, rfl, hp, l.1, l.2.1, l.2.2.1, h⟩ fun a e j u _ e' => by
    have e : some (some (V.ref p)) = some (some (V.ref a)) := e
    cases e
    exact l.2.2.2 j u e'
/-- what a slot owns changes: ch, the addresses that change, are its own -/
theorem R.chgB (r : R gi K en F H g σ ρ) {i : Nat} {s u : Sl} {H' : Hp} (hi : ρ[i]? = some (some s)) (hH : ∀ a, ¬ Ows H σ[i]? s a → H' a = H a ∨ H a = none) (hs : SlotR gi K F H' en g σ[i]? u) (hn : ∀ a, Ows H' σ[i]? u a → Ows H σ[i]? s a ∨ H a = none) : R gi K en F H' g σ (ρ.set i (some u)) := by
  have hl : i < ρ.length := by
    rcases Nat.lt_or_ge i ρ.length with h | h
    · exact h
    · rw [List.getElem?_eq_none h] at hi; cases hi
  have fs := r.sl i s hi
  have same : ∀ a, F a ≠ none ∨ en.B a ≠ none ∨ gi.adr g a → H' a = H a := fun a ha => by
    rcases hH a fun z => by
      obtain ⟨z1, z2, z3, _⟩ := fs.facts z
      rcases ha with h | h | h
      · exact h z1
      · exact h z2
      · exact z3 h with q | q
    · exact q
    · obtain ⟨f1, f2, f3⟩ := r.free q
      rcases ha with h | h | h
      · exact absurd f1 h
      · exact absurd f2 h
      · exact absurd h f3
  have oth : ∀ (j : Nat) (w : Sl) (a : Addr), j ≠ i → ρ[j]? = some (some w) → Ows H σ[j]? w a → H' a = H a := fun j w a nj e ha => by
    rcases hH a fun z => nj (r.ds j i w s a e hi ha z) with q | q
    · exact q
    · exact absurd q ((r.sl j w e).facts ha).2.2.2
  have at_ : ∀ (j : Nat) (w : Sl), (ρ.set i (some u))[j]? = some (some w) → (j = i ∧ w = u) ∨ (j ≠ i ∧ ρ[j]? = some (some w)) := fun j w e => by
    by_cases hj : i = j
    · subst hj
      rw [List.getElem?_set_self hl] at e
      cases e
      exact .inl ⟨rfl, rfl⟩
    · rw [List.getElem?_set_ne hj] at e
      exact .inr ⟨Ne.symm hj, e⟩
  have dis : ∀ (j : Nat) (w : Sl) (a : Addr), j ≠ i → ρ[j]? = some (some w) → Ows H' σ[j]? w a → Ows H' σ[i]? u a → False := fun j w a nj e h1 h2 => by
    have h1 := (Ows.same (fun a ha => oth j w a nj e ha) a).mp h1
    rcases hn a h2 with q | q
    · exact nj (r.ds j i w s a e hi h1 q)
    · exact ((r.sl j w e).facts h1).2.2.2 q
  refine ⟨fun a o h => (same a (.inl (by rw [h]; exact fun z => nomatch z))).trans (r.sub a o h), r.f0, r.fz, fun a o h n => (same a (.inr (.inl (by rw [h]; exact fun z => nomatch z)))).trans (r.bs a o h n), r.fnew, r.am, r.an, gi.stab g F F H H' r.gr (Same.refl F) (fun a ha => same a (.inr (.inr ha))), r.nt, fun j w e => ?_, fun j l w x a e1 e2 e3 e4 => ?_, by rw [List.length_set]; exact r.len⟩
  · rcases at_ j w e with ⟨rfl, rfl⟩ | ⟨nj, q⟩
    · exact hs
    · refine (r.sl j w q).keep (Same.refl F) fun a ha => ?_
      obtain ⟨z1, z2, z3, _⟩ := (r.sl j w q).facts ha
      exact ⟨oth j w a nj q ha, z1, z2, z3⟩
  · rcases at_ j w e1 with ⟨rfl, rfl⟩ | ⟨nj, q1⟩
    · rcases at_ l x e2 with ⟨rfl, _⟩ | ⟨nl, q2⟩
      · rfl
      · exact (dis l x a nl q2 e4 e3).elim
    · rcases at_ l x e2 with ⟨rfl, rfl⟩ | ⟨nl, q2⟩
      · exact (dis j w a nj q1 e3 e4).elim
      · exact r.ds j l w x a q1 q2 ((Ows.same (fun a ha => oth j w a nj q1 ha) a).mp e3) ((Ows.same (fun a ha => oth l x a nl q2 ha) a).mp e4)
/-- a slot's own list changes -/
theorem R.chgO (r : R gi K en F H g σ ρ) {i : Nat} {ds es : List PyData} {p : Addr} {ys : List V} (hi : ρ[i]? = some (some (.own ds))) (hp : σ[i]? = some (some (.ref p))) (h : DvAll K F ys es) : R gi K en F (upd H p (.lst ys)) g σ (ρ.set i (some (.own es))) := by
  obtain ⟨a, xs, e, h1, h2, h3, h4, _⟩ := r.sl i _ hi
  rw [hp] at e
  cases e
  exact r.chgB hi (fun a n => .inl (upd_ne fun z => n (by rw [z]; exact hp))) ⟨p, ys, hp, upd_same, h2, h3, h4, h⟩ fun a ha => .inl ha
theorem R.nil (r : R gi K en F H g σ ρ) : R gi K en F H g [] [] := r.less (by simp) fun i s e => by simp at e
/-- into a call and back -/
theorem R.enter (r : R gi K en F H g σ ρ) : R gi K (En.of H F g) F H g [] [] :=
  ⟨r.sub, Same.refl F, r.fz, fun _ _ h _ => noT_sub h, fun _ _ h => .inl h, fun _ h => h, fun _ h => .inl h, r.gr, ⟨r.nt.1, noT_nt H⟩, fun i s e => by simp at e, fun i j s u a e => by simp at e, Nat.le_refl _⟩
theorem R.back_lone (r : R gi K en F H g σ ρ) (c : R gi K (En.of H F g) F' H' g' [] []) {q : Addr} (h3 : noT H q = none) (h2 : F' q = none) (h4 : ¬ gi.adr g' q) : Lone gi en F' H' g' σ ρ q := by
  refine ⟨h2, (r.bfree h3).resolve_left fun y => h4 (c.am q y), h4, fun i s e hs => ?_⟩
  have same : ∀ a, Ows H σ[i]? s a → H' a = H a := fun a ha => by
    obtain ⟨z1, z2, z3, z4⟩ := (r.sl i s e).facts ha
    cases q : H a with
    | none => exact absurd q z4
    | some o =>
      have nq : noT H a = some o := noT_some q fun ps z => (r.sl i s e).notT ha (by rw [q, z])
      refine c.bs a o nq fun z => ?_
      rcases c.an a z with y | y
      · exact z3 y
      · rw [show noT H a = none from y] at nq; cases nq
  have ho := (Ows.same same q).mp hs
  cases y : H q with
  | none => exact ((r.sl i s e).facts ho).2.2.2 y
  | some o =>
    have := noT_some y fun ps z => (r.sl i s e).notT ho (by rw [y, z])
    rw [h3] at this
    cases this
theorem R.back (r : R gi K en F H g σ ρ) (c : R gi K (En.of H F g) F' H' g' [] []) : R gi K en F' H' g' σ ρ := by
  have na : ∀ a, noT H a ≠ none → ¬ gi.adr g a → ¬ gi.adr g' a := fun a h n z => by
    rcases c.an a z with q | q
    · exact n q
    · exact h q
  obtain ⟨s1, s2⟩ := r.slots (en' := en) (F' := F') (H' := H') (g' := g') c.f0 fun i s a e ha => by
    obtain ⟨z1, z2, z3, z4⟩ := (r.sl i s e).facts ha
    obtain ⟨o', q⟩ : ∃ o, H a = some o := by
      cases q : H a with
      | none => exact absurd q z4
      | some o => exact ⟨o, rfl⟩
    have nq : noT H a = some o' := noT_some q fun ps z => (r.sl i s e).notT ha (by rw [q, z])
    have n' := na a (by rw [nq]; exact fun z => nomatch z) z3
    refine ⟨?_, ?_, z2, n'⟩
    · rw [q]; exact c.bs a o' nq n'
    · cases q : F' a with
      | none => rfl
      | some o =>
        rcases c.fnew a o q with z | z
        · rw [show F a = some o from z] at z1; cases z1
        · rw [show noT H a = none from z] at nq; cases nq
  refine ⟨c.sub, r.f0.trans c.f0, c.fz, fun a o h n => ?_, fun a o h => ?_, fun a h => c.am a (r.am a h), fun a h => ?_, c.gr, ⟨c.nt.1, r.nt.2⟩, s1, s2, r.len⟩
  · exact c.bs a o (noT_some (r.bs a o h fun z => n (c.am a z)) fun ps z => r.nt.2 a ps (by rw [← z]; exact h)) n
  · rcases c.fnew a o h with q | q
    · exact r.fnew a o q
    · rcases r.bfree q with y | y
      · exact absurd (c.am a y) (c.fz a o h)
      · exact .inr y
  · rcases c.an a h with q | q
    · exact r.an a q
    · rcases r.bfree q with y | y
      · exact r.an a y
      · exact .inr y
end
section
variable {G : Type} {gi : GI G} {X : Cx} {e a b c : Expr} {pos : Pos} {f fa fb fc : FE G} {fl : FL G} {st : Stmt} {rest sts sts' : List Stmt} {s1 s2 : FS G} {ta : FT G}
def sNext : FS G := fun ρ => ret (.next ρ)
def sSeq (s1 s2 : FS G) : FS G := fun ρ => bnd (s1 ρ) fun fl => match fl with
  | .next ρ' => s2 ρ'
  | .brk ρ' => ret (.brk ρ')
  | .cont ρ' => ret (.cont ρ')
  | .ret r => ret (.ret r)
theorem ds_nil : PSs X [] (tS gi X.K sNext) := PSs_weak pss_nil fun D σ H ⟨en, F, g, ρ, fl, g', r, e, k⟩ => by
  cases e
  exact k F H σ (Same.refl F) r
theorem ds_cons (h1 : PS X st (tS gi X.K s1)) (h2 : PSs X rest (tS gi X.K s2)) : PSs X (st :: rest) (tS gi X.K (sSeq s1 s2)) := PSs_weak (pss_cons h1 h2) fun D σ H ⟨en, F, g, ρ, fl, g', r, e, k⟩ => by
  obtain ⟨fl1, g1, e1, e⟩ := bnd_some e
  refine ⟨en, F, g, ρ, fl1, g1, r, e1, fun F1 H1 σ1 s1 => ?_⟩
  cases fl1 with
  | next ρ' => exact fun r1 => ⟨en, F1, g1, ρ', fl, g', r1, e, fun F2 H2 σ2 s2 => k F2 H2 σ2 (s1.trans s2)⟩
  | brk ρ' => cases e; exact k F1 H1 σ1 s1
  | cont ρ' => cases e; exact k F1 H1 σ1 s1
  | ret x => cases e; exact k F1 H1 σ1 s1
theorem ds_one (h1 : PS X st (tS gi X.K s1)) : PSs X [st] (tS gi X.K s1) := PSs_weak (pss_one h1) fun _ _ _ h => h
def sBreak : FS G := fun ρ => ret (.brk ρ)
def sCont : FS G := fun ρ => ret (.cont ρ)
def sIf (tc : FT G) (s1 s2 : FS G) : FS G := fun ρ => bnd (tc ρ) fun b => if b = true then s1 ρ else s2 ρ
theorem ds_if (hc : PT X c (tT gi X.K ta)) (h1 : PSs X sts (tS gi X.K s1)) (h2 : PSs X sts' (tS gi X.K s2)) : PS X (.If c sts sts' pos) (tS gi X.K (sIf ta s1 s2)) := PS_weak (ps_if hc h1 h2) fun D σ H ⟨en, F, g, ρ, fl, g', r, e, k⟩ => by
  obtain ⟨x, g1, e1, e⟩ := bnd_some e
  refine ⟨en, F, g, ρ, x, g1, r, e1, fun F' H' s' r' => ?_⟩
  cases x with
  | true => exact ⟨en, F', g1, ρ, fl, g', r', e, fun F2 H2 σ2 s2 => k F2 H2 σ2 (s'.trans s2)⟩
  | false => exact ⟨en, F', g1, ρ, fl, g', r', e, fun F2 H2 σ2 s2 => k F2 H2 σ2 (s'.trans s2)⟩
/-- an expression whose value is dropped -/
def sExpr (fa : FE G) : FS G := fun ρ => bnd (fa ρ) fun _ => ret (.next ρ)
def sRet (fa : FE G) : FS G := fun ρ => bnd (fa ρ) fun d => ret (.ret (.d d))
def sRetL (fl : FL G) : FS G := fun ρ => bnd (fl ρ) fun ds => ret (.ret (.l ds))
def sRetO (i : Nat) : FS G := fun ρ => match ρ[i]? with
  | some (some (.own ds)) => ret (.ret (.l ds))
  | some (some (.val d)) => ret (.ret (.d d))
  | some (some (.raw v)) => ret (.ret (.raw v))
  | _ => fail
def sRetN : FS G := fun _ => ret (.ret (.d .none))
theorem ds_ret (he : PE X e (tE gi X.K fa)) : PS X (.Return (some e) pos) (tS gi X.K (sRet fa)) := PS_weak (ps_ret he) fun D σ H ⟨en, F, g, ρ, fl, g', r, e, k⟩ => by
  obtain ⟨x, g1, e1, e⟩ := bnd_some e
  cases e
  exact ⟨en, F, g, ρ, x, _, r, e1, fun v F' H' s' r' h' => k F' H' σ s' v r'.nil h'⟩
theorem ds_retO (i : Nat) {x : Str} {p : Pos} (h : PE X (.Name x p) (tVar i)) : PS X (.Return (some (.Name x p)) pos) (tS gi X.K (sRetO i)) := PS_weak (ps_ret h) fun D σ H ⟨en, F, g, ρ, fl, g', r, e, k⟩ => by
  unfold sRetO at e
  rcases hd : ρ[i]? with _ | _ | ⟨d' | ds | w⟩ <;> rw [hd] at e <;> cases e
  · obtain ⟨v, h1, h2⟩ := r.sl i _ hd
    exact ⟨v, h1, k F H σ (Same.refl F) v r.nil h2⟩
  · obtain ⟨a, xs, h1, h2, h3, h4, h5, h6⟩ := r.sl i _ hd
    exact ⟨.ref a, h1, k F H σ (Same.refl F) _ r.nil ⟨a, xs, rfl, h2, h3, h4, h5, h6⟩⟩
  · exact ⟨w, r.sl i _ hd, k F H σ (Same.refl F) w r.nil rfl⟩
def bName (i : Nat) : FG G := fun d ρ => ret (ρ.set i (some (.val d)))
theorem dg_name {i : Nat} {x : Str} (hN : X.N.Nodup) (hi : X.N[i]? = some x) (hx : Loc X.env.scope x) (hf : X.fn x = true ∨ X.env.scope.names.lookup x = some .local := by first | exact .inl rfl | exact .inr rfl | assumption) : PG X (.Name x pos) (tG gi X.K (bName i) [i]) :=
  PG_weak (pg_name hN hi hx hf) fun v σ H Q ⟨en, F, g, ρ, d, ρ', g', r, h, e, k⟩ => by
    cases e
    exact k _ F H (Same.refl F) List.length_set (fun j hj => List.getElem?_set_ne fun z => hj (by simp [z])) (r.setV h)
def bNil : FGs G := fun ds ρ => match ds with
  | [] => ret ρ
  | _ => fail
def bCons (b : FG G) (bs : FGs G) : FGs G := fun ds ρ => match ds with
  | d :: ds => bnd (b d ρ) fun ρ1 => bs ds ρ1
  | [] => fail
def bTup (n : Nat) (bs : FGs G) : FG G := fun d ρ => match d with
  | .tuple ds => if ds.length = n then bs ds ρ else fail
  | _ => fail
theorem dgs_nil : PGs X [] (tGs gi X.K bNil []) := ⟨fun pins s σ H vs us Q I rv h => pgs_nil.run pins s σ H vs us Q I rv (by
  obtain ⟨en, F, g, ρ, ds, ρ', g', r, h, e, k⟩ := h
  cases ds with
  | nil =>
    cases h
    cases e
    exact ⟨rfl, k σ F H (Same.refl F) rfl (fun _ _ => rfl) r⟩
  | cons d ds => cases e)⟩
theorem dgs_cons {es : List Expr} {b : FG G} {bs : FGs G} {vs ws : List Nat} (h1 : PG X e (tG gi X.K b vs)) (h2 : PGs X es (tGs gi X.K bs ws))
    (hs : (assignEach (e :: es) X.env).map (·.2) = assign e X.env :: (assignEach es X.env).map (·.2) := by rfl) : PGs X (e :: es) (tGs gi X.K (bCons b bs) (vs ++ ws)) :=
  ⟨fun pins s σ H us uu Q I rv h => (pgs_cons h1 h2 hs).run pins s σ H us uu Q I rv (by
    obtain ⟨en, F, g, ρ, ds, ρ', g', r, h, e, k⟩ := h
    cases ds with
    | nil => cases e
    | cons d ds =>
      cases h with
      | cons hv ht =>
        obtain ⟨ρ1, g1, e1, e⟩ := bnd_some e
        refine ⟨_, _, rfl, en, F, g, ρ, d, ρ1, g1, r, hv, e1, fun σ1 F1 H1 s1 l1 j1 r1 => ?_⟩
        exact ⟨en, F1, g1, ρ1, ds, ρ', g', r1, dva_mono s1 ht, e, fun σ2 F2 H2 s2 l2 j2 r2 => k σ2 F2 H2 (s1.trans s2) (l2.trans l1) (fun j hj => (j2 j fun z => hj (List.mem_append_right _ z)).trans (j1 j fun z => hj (List.mem_append_left _ z))) r2⟩)⟩
theorem dg_tup {es : List Expr} {k n : Nat} {bs : FGs G} {vs : List Nat} (hc : X.calm = true) (h : PGs X es (tGs gi X.K bs vs))
    (hn : (assignEach es X.env).length = n := by rfl) (hst : (assignEach es X.env).findIdx? (·.1) = none := by rfl) : PG X (.Tuple es k pos) (tG gi X.K (bTup n bs) vs) :=
  PG_weak (pg_tup hc h hn hst) fun v σ H Q ⟨en, F, g, ρ, d, ρ', g', r, hd, e, k⟩ => by
    cases d <;> first | cases e; done | skip
    rename_i ds
    unfold bTup at e
    simp only at e
    split at e
    · rename_i hl
      cases hd with
      | tup hq ha => exact ⟨_, _, rfl, hq.sq r.sub, by rw [ha.len]; exact hl, en, F, g, ρ, ds, ρ', g', r, ha, e, k⟩
    · cases e
/-- a list of a slot's own, at an index -/
def bItem (i : Nat) (fi : FE G) : FG G := fun d ρ => match ρ[i]? with
  | some (some (.own ds)) => bnd (fi ρ) fun x => match x with
    | .int k => match ixN ds.length k with
      | some j => ret (ρ.set i (some (.own (ds.set j d))))
      | none => fail
    | _ => fail
  | _ => fail
def sAsg (fa : FE G) (b : FG G) : FS G := fun ρ => bnd (fa ρ) fun d => bnd (b d ρ) fun ρ' => ret (.next ρ')
def sSet (i : Nat) (fa : FE G) : FS G := fun ρ => bnd (fa ρ) fun d => ret (.next (ρ.set i (some (.val d))))
def sSetL (i : Nat) (fl : FL G) : FS G := fun ρ => bnd (fl ρ) fun ds => ret (.next (ρ.set i (some (.own ds))))
theorem tAsg_of {K : PySem.W.Frag} {bg : FG G} {vs : List Nat} {D : Ends} {σ : L2.St} {H : Hp} (h : tS gi K (sAsg fa bg) D σ H) : tAsg (tE gi K fa) (tG gi K bg vs) D σ H := by
  obtain ⟨en, F, g, ρ, fl, g', r, e, k⟩ := h
  obtain ⟨d, g1, e1, e⟩ := bnd_some e
  obtain ⟨ρ', g2, e2, e⟩ := bnd_some e
  cases e
  exact ⟨en, F, g, ρ, d, g1, r, e1, fun v F1 H1 s1 r1 h1 => ⟨en, F1, g1, ρ, d, ρ', _, r1, h1, e2, fun σ' F' H' s' _ _ r' => k F' H' σ' (s1.trans s') r'⟩⟩
theorem ds_asg {tg : Expr} {bg : FG G} {vs : List Nat} (he : PE X e (tE gi X.K fa)) (hg : PG X tg (tG gi X.K bg vs)) (hs : swapsWithSole [tg] e pos.line X.env = pure false := by rfl) (hw : swappedStores [tg] e X.env = pure none := by rfl)
    (h1 : (assignEach [tg] X.env).map (·.2) = [assign tg X.env] := by rfl) : PS X (.Assign [tg] e pos) (tS gi X.K (sAsg fa bg)) :=
  PS_weak (ps_asg he hg hs hw h1) fun _ _ _ h => tAsg_of h
theorem tSet_of {K : PySem.W.Frag} {i : Nat} {D : Ends} {σ : L2.St} {H : Hp} (h : tS gi K (sSet i fa) D σ H) : tAsg (tE gi K fa) (gName i) D σ H := by
  obtain ⟨en, F, g, ρ, fl, g', r, e, k⟩ := h
  obtain ⟨d, g1, e1, e⟩ := bnd_some e
  cases e
  exact ⟨en, F, g, ρ, d, _, r, e1, fun v F1 H1 s1 r1 h1 => k F1 H1 _ s1 (r1.setV h1)⟩
theorem tSetL_of {K : PySem.W.Frag} {i : Nat} {D : Ends} {σ : L2.St} {H : Hp} (h : tS gi K (sSetL i fl) D σ H) : tAsg (tL gi K fl) (gName i) D σ H := by
  obtain ⟨en, F, g, ρ, fl, g', r, e, k⟩ := h
  obtain ⟨d, g1, e1, e⟩ := bnd_some e
  cases e
  exact ⟨en, F, g, ρ, d, _, r, e1, fun p xs F1 H1 s1 r1 l hp hx => k F1 H1 _ s1 (r1.setO l hp hx)⟩
theorem ds_set (i : Nat) {x : Str} {pos' : Pos} (hN : X.N.Nodup) (hi : X.N[i]? = some x) (hx : Loc X.env.scope x) (he : PE X e (tE gi X.K fa)) (hs : swapsWith e (some (.Name x pos')) pos.line X.env = pure false := by rfl) (hf : X.fn x = true ∨ X.env.scope.names.lookup x = some .local := by first | exact .inl rfl | exact .inr rfl | assumption) :
    PS X (.Assign [.Name x pos'] e pos) (tS gi X.K (sSet i fa)) := PS_weak (ps_set hN hi hx he hs hf) fun _ _ _ h => tSet_of h
theorem ds_setL (i : Nat) {x : Str} {pos' : Pos} (hN : X.N.Nodup) (hi : X.N[i]? = some x) (hx : Loc X.env.scope x) (he : PE X e (tL gi X.K fl)) (hs : swapsWith e (some (.Name x pos')) pos.line X.env = pure false := by rfl) (hf : X.fn x = true ∨ X.env.scope.names.lookup x = some .local := by first | exact .inl rfl | exact .inr rfl | assumption) :
    PS X (.Assign [.Name x pos'] e pos) (tS gi X.K (sSetL i fl)) := PS_weak (ps_set hN hi hx he hs hf) fun _ _ _ h => tSetL_of h
def sApp (i : Nat) (fa : FE G) : FS G := fun ρ => match ρ[i]? with
  | some (some (.own _)) => bnd (fa ρ) fun d => match ρ[i]? with
    | some (some (.own ds)) => if ds.length < lim then ret (.next (ρ.set i (some (.own (ds ++ [d]))))) else fail
    | _ => fail
  | _ => fail
theorem ds_app (i : Nat) {x : Str} {p ap cp : Pos} (ho : PE X (.Name x p) (tVar i)) (ha : PE X a (tE gi X.K fa))
    (w : ∀ {t : TA} (h : PA X [a] t), PE X (.Call (.Attribute (.Name x p) "append" ap) [a] [] cp) (tBM X.K "list" rAppend (tVar i) t))
    (hs : swapsWith (.Call (.Attribute (.Name x p) "append" ap) [a] [] cp) none pos.line X.env = pure false := by rfl)
    (he2 : starEach [a] X.env = (false, eval a X.env) :: starEach [] X.env := by rfl) :
    PS X (.Expr (.Call (.Attribute (.Name x p) "append" ap) [a] [] cp) pos) (tS gi X.K (sApp i fa)) :=
  PS_weak (ps_expr (w (pa_cons ha pa_nil he2)) hs) fun D σ H ⟨en, F, g, ρ, fl, g', r, e, k⟩ => by
    unfold sApp at e
    rcases hr : ρ[i]? with _ | _ | ⟨d' | ds | w⟩ <;> rw [hr] at e <;> first | cases e; done | skip
    obtain ⟨y, g1, e1, e⟩ := bnd_some e
    obtain ⟨q, xs, h1, h2, _⟩ := r.sl i _ hr
    refine ⟨.ref q, h1, .inl ⟨rfl, xs, .inl (.inl h2)⟩, en, F, g, ρ, y, g1, r, e1, fun w F1 H1 s1 r1 hw => ?_⟩
    obtain ⟨q', us, h1', h2', _, _, _, h6⟩ := r1.sl i _ hr
    rw [h1] at h1'
    cases h1'
    simp only at e
    split at e
    · rename_i hl
      cases e
      exact ⟨q, us, w, rfl, rfl, h2', lim_lt (by rw [h6.len]; exact hl), k F1 _ σ s1 (r1.chgO hr h1 (h6.app (.cons hw .nil)))⟩
    · cases e
def sExt (i : Nat) (fa : FE G) : FS G := fun ρ => match ρ[i]? with
  | some (some (.own _)) => bnd (fa ρ) fun d => match ρ[i]?, d with
    | some (some (.own ds)), .list es => if ds.length + es.length ≤ lim then ret (.next (ρ.set i (some (.own (ds ++ es))))) else fail
    | _, _ => fail
  | _ => fail
theorem ds_ext (i : Nat) {x : Str} {p ap cp : Pos} (ho : PE X (.Name x p) (tVar i)) (ha : PE X a (tE gi X.K fa))
    (w : ∀ {t : TA} (h : PA X [a] t), PE X (.Call (.Attribute (.Name x p) "extend" ap) [a] [] cp) (tBM X.K "list" rExtend (tVar i) t))
    (hs : swapsWith (.Call (.Attribute (.Name x p) "extend" ap) [a] [] cp) none pos.line X.env = pure false := by rfl)
    (he2 : starEach [a] X.env = (false, eval a X.env) :: starEach [] X.env := by rfl) :
    PS X (.Expr (.Call (.Attribute (.Name x p) "extend" ap) [a] [] cp) pos) (tS gi X.K (sExt i fa)) :=
  PS_weak (ps_expr (w (pa_cons ha pa_nil he2)) hs) fun D σ H ⟨en, F, g, ρ, fl, g', r, e, k⟩ => by
    unfold sExt at e
    rcases hr : ρ[i]? with _ | _ | ⟨d' | ds | w⟩ <;> rw [hr] at e <;> first | cases e; done | skip
    obtain ⟨y, g1, e1, e⟩ := bnd_some e
    obtain ⟨q, xs, h1, h2, _⟩ := r.sl i _ hr
    refine ⟨.ref q, h1, .inl ⟨rfl, xs, .inl (.inl h2)⟩, en, F, g, ρ, y, g1, r, e1, fun w F1 H1 s1 r1 hw => ?_⟩
    obtain ⟨q', us, h1', h2', _, _, _, h6⟩ := r1.sl i _ hr
    rw [h1] at h1'
    cases h1'
    cases y <;> first | cases e; done | skip
    rename_i es
    simp only at e
    split at e
    · rename_i hl
      cases e
      cases hw with
      | lst hq ha =>
        exact ⟨q, _, us, _, rfl, rfl, h2', r1.sub _ _ hq, lim_ok (by rw [h6.len, ha.len]; exact hl), k F1 _ σ s1 (r1.chgO hr h1 (h6.app ha))⟩
    · cases e
end
end Dt
namespace Dt
open PySem PySem.Spec L2
/-- only the slots that were held ahead -/
def mask : Ev → Ev → Ev
  | none :: r, _ :: q => none :: mask r q
  | some _ :: r, x :: q => x :: mask r q
  | _, _ => []
theorem mask_len : ∀ (r q : Ev), (mask r q).length ≤ q.length
  | [], q => by simp [mask]
  | none :: r, [] => by simp [mask]
  | some _ :: r, [] => by simp [mask]
  | none :: r, _ :: q => by simp only [mask, List.length_cons]; exact Nat.succ_le_succ (mask_len r q)
  | some _ :: r, _ :: q => by simp only [mask, List.length_cons]; exact Nat.succ_le_succ (mask_len r q)
theorem mask_get : ∀ {r q : Ev} {i : Nat} {s : Sl}, (mask r q)[i]? = some (some s) → q[i]? = some (some s)
  | [], q, i, s, h => by simp [mask] at h
  | none :: r, [], i, s, h => by simp [mask] at h
  | some _ :: r, [], i, s, h => by simp [mask] at h
  | none :: r, x :: q, 0, s, h => by simp [mask] at h
  | none :: r, x :: q, i + 1, s, h => by
    simp only [mask, List.getElem?_cons_succ] at h ⊢
    exact mask_get h
  | some _ :: r, x :: q, 0, s, h => by
    simp only [mask, List.getElem?_cons_zero] at h ⊢
    exact h
  | some _ :: r, x :: q, i + 1, s, h => by
    simp only [mask, List.getElem?_cons_succ] at h ⊢
    exact mask_get h
def wipeE (ρ : Ev) : List Nat → Ev
  | [] => ρ
  | v :: vs => (wipeE ρ vs).set v none
theorem wipeE_length (ρ : Ev) : ∀ vs : List Nat, (wipeE ρ vs).length = ρ.length
  | [] => rfl
  | v :: vs => by unfold wipeE; rw [List.length_set, wipeE_length ρ vs]
theorem wipeE_some {ρ : Ev} {i : Nat} {x : Sl} : ∀ {vs : List Nat}, (wipeE ρ vs)[i]? = some (some x) → ρ[i]? = some (some x) ∧ i ∉ vs
  | [], h => ⟨h, by simp⟩
  | v :: vs, h => by
    unfold wipeE at h
    by_cases hi : v = i
    · subst hi
      by_cases hv : v < (wipeE ρ vs).length
      · rw [List.getElem?_set_self hv] at h; cases h
      · rw [List.getElem?_eq_none (by simpa using hv)] at h; cases h
    · rw [List.getElem?_set_ne hi] at h
      obtain ⟨h1, h2⟩ := wipeE_some h
      exact ⟨h1, by simp only [List.mem_cons, not_or]; exact ⟨fun e => hi e.symm, h2⟩⟩
theorem wipeE_out {ρ : Ev} {i : Nat} : ∀ {vs : List Nat}, i ∉ vs → (wipeE ρ vs)[i]? = ρ[i]?
  | [], _ => rfl
  | v :: vs, h => by
    unfold wipeE
    simp only [List.mem_cons, not_or] at h
    rw [List.getElem?_set_ne (Ne.symm h.1)]
    exact wipeE_out h.2
theorem wipe_out {σ : L2.St} {i : Nat} : ∀ {vs : List Nat}, i ∉ vs → (wipe σ vs)[i]? = σ[i]?
  | [], _ => rfl
  | v :: vs, h => by
    unfold wipe
    simp only [List.mem_cons, not_or] at h
    rw [List.getElem?_set_ne (Ne.symm h.1)]
    exact wipe_out h.2
theorem wipe_in {σ : L2.St} {i : Nat} (hl : i < σ.length) : ∀ {vs : List Nat}, i ∈ vs → (wipe σ vs)[i]? = some none
  | v :: vs, h => by
    unfold wipe
    by_cases e : v = i
    · subst e
      exact List.getElem?_set_self (by rw [wipe_length]; exact hl)
    · rw [List.getElem?_set_ne e]
      rcases List.mem_cons.mp h with z | z
      · exact absurd z.symm e
      · exact wipe_in hl z
/-- slots that differ at vs alone are wiped to one -/
theorem wipe_eq {σ σ' : L2.St} {vs : List Nat} (hl : σ'.length = σ.length) (h : ∀ j, j ∉ vs → σ'[j]? = σ[j]?) : wipe σ' vs = wipe σ vs := by
  apply List.ext_getElem?
  intro i
  by_cases hi : i ∈ vs
  · by_cases hk : i < σ.length
    · rw [wipe_in hk hi, wipe_in (by rw [hl]; exact hk) hi]
    · rw [List.getElem?_eq_none (by rw [wipe_length, hl]; omega), List.getElem?_eq_none (by rw [wipe_length]; omega)]
  · rw [wipe_out hi, wipe_out hi, h i hi]
theorem wipe_wipe {σ : L2.St} {vs : List Nat} : wipe (wipe σ vs) vs = wipe σ vs := wipe_eq (wipe_length σ vs) fun j hj => wipe_out hj
def isOwn : Option (Option Sl) → Bool
  | some (some (.own _)) => true
  | some (some (.big _)) => true
  | _ => false
theorem isOwn_no {s : Sl} (h : isOwn (some (some s)) = false) {H : Hp} {o : Option (Option V)} {a : Addr} : ¬ Ows H o s a := by
  cases s <;> first | exact fun z => z | cases h
def noOwn (ρ : Ev) (vs : List Nat) : Bool := vs.all fun i => !isOwn ρ[i]?
section
variable {G : Type} {gi : GI G} {K : PySem.W.Frag} {en : En G} {F F' H H' : Hp} {g g' : G} {σ : L2.St} {ρ ρ' : Ev}
theorem R.mask (r : R gi K en F H g σ ρ') : R gi K en F H g σ (mask ρ ρ') :=
  r.less (Nat.le_trans (mask_len _ _) r.len) fun i s e => ⟨mask_get e, rfl⟩
theorem R.wipe (r : R gi K en F H g σ ρ) (vs : List Nat) : R gi K en F H g (L2.wipe σ vs) (wipeE ρ vs) :=
  r.less (by rw [wipeE_length, wipe_length]; exact r.len) fun i s e => ⟨(wipeE_some e).1, wipe_out (wipeE_some e).2⟩
theorem R.unwipe (r : R gi K en F H g σ ρ) {vs : List Nat} (hn : noOwn ρ vs = true) (s : Same F F') (r' : R gi K en F' H' g' (L2.wipe σ vs) (wipeE ρ vs)) : R gi K en F' H' g' σ ρ := by
  have no : ∀ (i : Nat) (u : Sl), ρ[i]? = some (some u) → i ∈ vs → ∀ {H : Hp} {o : Option (Option V)} {a : Addr}, ¬ Ows H o u a := fun i u e hi => by
    have q := List.all_eq_true.mp hn i hi
    rw [e] at q
    intro H o a
    exact isOwn_no (by simpa using q)
  refine ⟨r'.sub, r'.f0, r'.fz, r'.bs, r'.fnew, r'.am, r'.an, r'.gr, r'.nt, fun i u e => ?_, fun i j u x a e1 e2 e3 e4 => ?_, r.len⟩
  · by_cases hi : i ∈ vs
    · exact (r.sl i u e).keep s fun a ha => absurd ha (no i u e hi)
    · have z := r'.sl i u (by rw [wipeE_out hi]; exact e)
      rw [wipe_out hi] at z
      exact z
  · have ni : i ∉ vs := fun z => no i u e1 z e3
    have nj : j ∉ vs := fun z => no j x e2 z e4
    exact r'.ds i j u x a (by rw [wipeE_out ni]; exact e1) (by rw [wipeE_out nj]; exact e2) (by rw [wipe_out ni]; exact e3) (by rw [wipe_out nj]; exact e4)
end
/-- a list of no slot, held for a while -/
def En.prot {G : Type} (en : En G) (p : Addr) (o : HO) : En G := ⟨upd en.B p o, en.F0, en.g0⟩
section
variable {G : Type} {gi : GI G} {K : PySem.W.Frag} {en : En G} {F F' H H' : Hp} {g g' : G} {σ σ' : L2.St} {ρ ρ' : Ev} {p : Addr} {o : HO}
theorem R.prot (r : R gi K en F H g σ ρ) (l : Lone gi en F H g σ ρ p) (hp : H p = some o) (ho : ∀ ps, o ≠ .tbl ps := by intro ps z; cases z) : R gi K (en.prot p o) F H g σ ρ := by
  obtain ⟨s1, s2⟩ := r.slots (en' := en.prot p o) (F' := F) (H' := H) (g' := g) (Same.refl F) fun i s a e ha => by
    obtain ⟨z1, z2, z3, z4⟩ := (r.sl i s e).facts ha
    refine ⟨rfl, z1, ?_, z3⟩
    show upd en.B p o a = none
    rw [upd_ne (show a ≠ p from fun z => l.2.2.2 i s e (z ▸ ha))]
    exact z2
  refine ⟨r.sub, r.f0, r.fz, fun a u h n => ?_, fun a u h => ?_, r.am, fun a h => ?_, r.gr, ⟨r.nt.1, nt_upd r.nt.2 ho⟩, s1, s2, r.len⟩
  · have h : upd en.B p o a = some u := h
    by_cases z : a = p
    · subst z; rw [upd_same] at h; rw [hp]; exact h
    · rw [upd_ne z] at h; exact r.bs a u h n
  · rcases r.fnew a u h with q | q
    · exact .inl q
    · refine .inr ?_
      show upd en.B p o a = none
      rw [upd_ne (show a ≠ p from fun z => by rw [z, l.1] at h; cases h)]
      exact q
  · rcases r.an a h with q | q
    · exact .inl q
    · refine .inr ?_
      show upd en.B p o a = none
      rw [upd_ne (show a ≠ p from fun z => l.2.2.1 (z ▸ h))]
      exact q
theorem R.unprot (r2 : R gi K en F H g σ ρ) (l2 : Lone gi en F H g σ ρ p) (r : R gi K (en.prot p o) F' H' g' σ' ρ') :
    R gi K en F' H' g' σ' ρ' ∧ F' p = none ∧ ¬ gi.adr g' p ∧ H' p = some o ∧ ∀ (j : Nat) (s : Sl), ρ'[j]? = some (some s) → ¬ Ows H' σ'[j]? s p := by
  have nB : ∀ a, (en.prot p o).B a = none → en.B a = none := fun a h => by
    have h : upd en.B p o a = none := h
    by_cases z : a = p
    · subst z; exact l2.2.1
    · rw [upd_ne z] at h; exact h
  have pB : (en.prot p o).B p = none → False := fun h => by
    have h : upd en.B p o p = none := h
    rw [upd_same] at h
    cases h
  have nadr : ¬ gi.adr g' p := fun h => by
    rcases r.an p h with q | q
    · exact l2.2.2.1 (r2.am p q)
    · exact pB q
  have nF : F' p = none := by
    cases q : F' p with
    | none => rfl
    | some u =>
      rcases r.fnew p u q with z | z
      · have := r2.f0 p u z
        rw [l2.1] at this
        cases this
      · exact (pB z).elim
  obtain ⟨s1, s2⟩ := r.slots (en' := en) (F' := F') (H' := H') (g' := g') (Same.refl F') fun i s a e ha => by
    obtain ⟨z1, z2, z3, z4⟩ := (r.sl i s e).facts ha
    exact ⟨rfl, z1, nB a z2, z3⟩
  refine ⟨⟨r.sub, r.f0, r.fz, fun a u h n => ?_, fun a u h => ?_, r.am, fun a h => ?_, r.gr, ⟨r.nt.1, r2.nt.2⟩, s1, s2, r.len⟩, nF, nadr, r.bs p _ (show upd en.B p o p = some o from upd_same) nadr, fun j s e hs => ?_⟩
  · exact r.bs a u (by show upd en.B p o a = some u; rw [upd_ne (show a ≠ p from fun z => by rw [z, l2.2.1] at h; cases h)]; exact h) n
  · rcases r.fnew a u h with q | q
    · exact .inl q
    · exact .inr (nB a q)
  · rcases r.an a h with q | q
    · exact .inl q
    · exact .inr (nB a q)
  · exact pB ((r.sl j s e).facts hs).2.1
end
section
variable {G : Type} (gi : GI G) (K : PySem.W.Frag)
/-- J walks the data ds while F stands and the slots are so -/
def Wk (J : It) (F : Hp) (σ : L2.St) (ρ : Ev) (ds : List PyData) : Prop := ∀ en F' H' g, Same F F' → R gi K en F' H' g σ ρ → J.stop ds.length H' ∧
  ∀ (i : Nat) (d : PyData), ds[i]? = some d → J.go i H' ∧ ∀ x H2, J.yld i H' x H2 → ∃ F2, Same F' F2 ∧ R gi K en F2 H2 g σ ρ ∧ Dv K F2 x d
def tI (f : FL G) : TI := fun σ H Rk => ∃ en F g ρ ds g', R gi K en F H g σ ρ ∧ f ρ g = some (ds, g') ∧ ∀ J F' H', Same F F' → R gi K en F' H' g' σ ρ → (∀ σ ρ, Wk gi K J F' σ ρ ds) → Rk J H'
def tIc (vs : List Nat) (f : FL G) : TI := fun σ H Rk => ∃ en F g ρ ds g', R gi K en F H g σ ρ ∧ f ρ g = some (ds, g') ∧ ∀ J F' H', Same F F' → R gi K en F' H' g' σ ρ → Wk gi K J F' (L2.wipe σ vs) (wipeE ρ vs) ds → Rk J H'
end
section
variable {G : Type} {gi : GI G} {X : Cx} {e a b c tg : Expr} {pos : Pos} {f fa fb fc : FE G} {fl q : FL G}
theorem PI_or {w1 w2 : TI} (h1 : PI X tg e w1) (h2 : PI X tg e w2) : PI X tg e (fun σ H Rk => w1 σ H Rk ∨ w2 σ H Rk) := ⟨fun pins s σ H Rk I h => h.elim (h1.run pins s σ H Rk I) (h2.run pins s σ H Rk I)⟩
theorem di_c (vs : List Nat) (h : PI X tg e (tI gi X.K q)) : PI X tg e (tIc gi X.K vs q) := PI_weak h fun σ H Rk ⟨en, F, g, ρ, ds, g', r, e, k⟩ => ⟨en, F, g, ρ, ds, g', r, e, fun J F' H' s r' w => k J F' H' s r' (w _ _)⟩
/-- the items of a list, a tuple -/
def sItems : PyData → Option (List PyData)
  | .list ds => some ds
  | .tuple ds => some ds
  | _ => none
def iSeq (fa : FE G) : FL G := fun ρ => bnd (fa ρ) fun x => lft (sItems x)
theorem wk_tup {K : PySem.W.Frag} {F : Hp} {p : Addr} {xs : List V} {ds : List PyData} (h : Tp K F p xs) (hd : DvAll K F xs ds) (σ : L2.St) (ρ : Ev) : Wk gi K (Itt K p) F σ ρ ds := fun en F' H' g s r => by
  have hq : SqT K H' p xs := h.sq (s.trans r.sub)
  refine ⟨⟨xs, hq, Nat.le_of_eq hd.len⟩, fun i d e => ?_⟩
  obtain ⟨v, h1, h2⟩ := hd.get e
  refine ⟨⟨xs, v, hq, h1⟩, fun x H2 y => ?_⟩
  obtain ⟨rfl, y⟩ := y
  have := y xs hq
  rw [h1] at this
  cases this
  exact ⟨F', Same.refl F', r, dv_mono s h2⟩
theorem wk_lst {K : PySem.W.Frag} {F : Hp} {p : Addr} {xs : List V} {ds : List PyData} (h : F p = some (.lst xs)) (hd : DvAll K F xs ds) (σ : L2.St) (ρ : Ev) : Wk gi K (Itl K p) F σ ρ ds := fun en F' H' g s r => by
  have hh : H' p = some (.lst xs) := r.sub _ _ (s _ _ h)
  have hq : SqL K H' p xs := .inl (.inl hh)
  refine ⟨⟨xs, hq, Nat.le_of_eq hd.len⟩, fun i d e => ?_⟩
  obtain ⟨v, h1, h2⟩ := hd.get e
  refine ⟨⟨xs, v, hq, h1⟩, fun x H2 y => ?_⟩
  obtain ⟨rfl, y⟩ := y
  have := y xs hq
  rw [h1] at this
  cases this
  exact ⟨F', Same.refl F', r, dv_mono s h2⟩
theorem di_seq (h : PE X e (tE gi X.K fa)) : PI X tg e (tI gi X.K (iSeq fa)) := PI_weak (PI_or (pi_list h) (pi_tup h)) fun σ H Rk ⟨en, F, g, ρ, ds, g', r, e, k⟩ => by
  obtain ⟨x, g1, e1, e⟩ := bnd_some e
  obtain ⟨e3, rfl⟩ := lft_inv e
  cases x <;> first | cases e3; done | skip
  · rename_i ls
    cases e3
    refine .inl ⟨en, F, g, ρ, _, g1, r, e1, fun v F' H' s' r' h' => ?_⟩
    cases h' with
    | lst h1 h2 => exact ⟨_, rfl, ⟨_, .inl (.inl (r'.sub _ _ h1))⟩, k _ F' H' s' r' (wk_lst h1 h2)⟩
  · rename_i ls
    cases e3
    refine .inr ⟨en, F, g, ρ, _, g1, r, e1, fun v F' H' s' r' h' => ?_⟩
    cases h' with
    | tup h1 h2 => exact ⟨_, rfl, ⟨_, h1.sq r'.sub⟩, k _ F' H' s' r' (wk_tup h1 h2)⟩
/-- a slot's own list, in a comprehension -/
def iOwn (i : Nat) : FL G := fun ρ => match ρ[i]? with
  | some (some (.own ds)) => ret ds
  | some (some (.val (.list ds))) => ret ds
  | some (some (.val (.tuple ds))) => ret ds
  | _ => fail
/-- range -/
def rng (lo : Int) (n : Nat) : List PyData := (List.range n).map fun (i : Nat) => PyData.int (lo + (i : Int))
def sRng1 : PyData → Option (List PyData)
  | .int j => if -(2 ^ 62) ≤ j ∧ j < 2 ^ 62 then some (rng 0 j.toNat) else none
  | _ => none
def rngC (lo c : Int) (n : Nat) : List PyData := (List.range n).map fun (i : Nat) => PyData.int (lo + (i : Int) * c)
def sRng3 : PyData → PyData → PyData → Option (List PyData)
  | .int i, .int j, .int c => if c ≠ 0 ∧ c.natAbs < 1073741824 ∧ Builtin.Range.small i j c = true then some (rngC i c (Builtin.Range.rangeSize i j c).toNat) else none
  | _, _, _ => none
theorem wk_rng {K : PySem.W.Frag} {F : Hp} {lo : Int} {n : Nat} (σ : L2.St) (ρ : Ev) : Wk gi K (Itr lo n) F σ ρ (rng lo n) := fun en F' H' g s r => by
  refine ⟨by unfold rng; rw [List.length_map, List.length_range]; exact Nat.le_refl _, fun i d e => ?_⟩
  unfold rng at e
  rw [List.getElem?_map] at e
  obtain ⟨j, h1, h2⟩ := Option.map_eq_some_iff.mp e
  obtain ⟨hl, hj⟩ := List.getElem?_eq_some_iff.mp h1
  rw [List.length_range] at hl
  rw [List.getElem_range] at hj
  subst hj h2
  refine ⟨hl, fun x H2 y => ?_⟩
  obtain ⟨rfl, rfl⟩ := y
  exact ⟨F', Same.refl F', r, .int _⟩
theorem wk_rngC {K : PySem.W.Frag} {F : Hp} {lo c : Int} {n : Nat} (σ : L2.St) (ρ : Ev) : Wk gi K (Itc lo c n) F σ ρ (rngC lo c n) := fun en F' H' g s r => by
  refine ⟨by unfold rngC; rw [List.length_map, List.length_range]; exact Nat.le_refl _, fun i d e => ?_⟩
  unfold rngC at e
  rw [List.getElem?_map] at e
  obtain ⟨j, h1, h2⟩ := Option.map_eq_some_iff.mp e
  obtain ⟨hl, hj⟩ := List.getElem?_eq_some_iff.mp h1
  rw [List.length_range] at hl
  rw [List.getElem_range] at hj
  subst hj h2
  refine ⟨hl, fun x H2 y => ?_⟩
  obtain ⟨rfl, rfl⟩ := y
  exact ⟨F', Same.refl F', r, .int _⟩
theorem di_rng1 {p : Pos} (hg : Gl X "range") (hm : X.mg "range" = none) (ha : PE X a (tQ gi X.K fa)) (hs : starEach [a] X.env = [(false, eval a X.env)] := by rfl) : PI X tg (.Call (.Name "range" p) [a] [] pos) (tI gi X.K (l1 sRng1 fa)) :=
  PI_weak (pi_range1 hg hm (pa_cons ha pa_nil hs) hs) fun σ H Rk ⟨en, F, g, ρ, ds, g', r, e, k⟩ => by
    obtain ⟨x, g1, e1, e⟩ := bnd_some e
    obtain ⟨e3, rfl⟩ := lft_inv e
    refine ⟨en, F, g, ρ, x, g1, r, e1, fun v F' H' s' r' h' => ?_⟩
    cases x <;> first | cases e3; done | skip
    rename_i j
    unfold sRng1 at e3
    simp only at e3
    split at e3
    · rename_i hj
      cases e3
      exact ⟨j, by rw [h'.int], hj.1, hj.2, k _ F' H' s' r' wk_rng⟩
    · cases e3
def l3 (sem : PyData → PyData → PyData → Option (List PyData)) (fa fb fc : FE G) : FL G := fun ρ => bnd (fa ρ) fun x => bnd (fb ρ) fun y => bnd (fc ρ) fun z => lft (sem x y z)
theorem rangeSize_nn (i j : Int) {c : Int} (h : c ≠ 0) : 0 ≤ Builtin.Range.rangeSize i j c := by
  unfold Builtin.Range.rangeSize
  split
  · split
    · have := Int.ediv_nonneg (show 0 ≤ j - i - 1 by omega) (show 0 ≤ c by omega)
      omega
    · exact Int.le_refl 0
  · split
    · have := Int.ediv_nonneg (show 0 ≤ i - j - 1 by omega) (show 0 ≤ -c by omega)
      omega
    · exact Int.le_refl 0
theorem di_rng3 {p : Pos} (hg : Gl X "range") (hm : X.mg "range" = none) (ha : PE X a (tQ gi X.K fa)) (hb : PE X b (tQ gi X.K fb)) (hc : PE X c (tQ gi X.K fc)) (hs : starEach [a, b, c] X.env = (false, eval a X.env) :: starEach [b, c] X.env := by rfl)
    (hs2 : starEach [b, c] X.env = (false, eval b X.env) :: starEach [c] X.env := by rfl) (hs3 : starEach [c] X.env = (false, eval c X.env) :: starEach [] X.env := by rfl) (hpl : (backTo pos (starEach [b, c] X.env)).any (·.1) = false := by rfl) : PI X tg (.Call (.Name "range" p) [a, b, c] [] pos) (tI gi X.K (l3 sRng3 fa fb fc)) :=
  PI_weak (pi_range3 hg hm (pa_cons ha (pa_cons hb (pa_cons hc pa_nil hs3) hs2) hs) hs hpl) fun σ H Rk ⟨en, F, g, ρ, ds, g', r, e, k⟩ => by
    obtain ⟨x, g1, e1, e⟩ := bnd_some e
    obtain ⟨y, g2, e2, e⟩ := bnd_some e
    obtain ⟨z, g3, e4, e⟩ := bnd_some e
    obtain ⟨e3, rfl⟩ := lft_inv e
    refine ⟨en, F, g, ρ, x, g1, r, e1, fun v F1 H1 s1 r1 h1 => ⟨en, F1, g1, ρ, y, g2, r1, e2, fun w F2 H2 s2 r2 h2 => ⟨en, F2, g2, ρ, z, g3, r2, e4, fun w F3 H3 s3 r3 h3 => ?_⟩⟩⟩
    cases x <;> first | cases e3; done | skip
    cases y <;> first | cases e3; done | skip
    cases z <;> first | cases e3; done | skip
    unfold sRng3 at e3
    simp only at e3
    split at e3
    · rename_i hj
      cases e3
      refine ⟨_, _, _, _, by rw [h1.int, h2.int, h3.int], ⟨hj.1, hj.2.1, hj.2.2, ?_⟩, k _ F3 H3 ((s1.trans s2).trans s3) r3 wk_rngC⟩
      exact (Int.toNat_of_nonneg (rangeSize_nn _ _ hj.1)).symm
    · cases e3
def sLoop (b : FG G) (body : FS G) : List PyData → FS G
  | [] => fun ρ => ret (.next ρ)
  | d :: ds => fun ρ => bnd (b d ρ) fun ρ1 => bnd (body ρ1) fun fl => match fl with
    | .next ρ2 => sLoop b body ds (mask ρ ρ2)
    | .cont ρ2 => sLoop b body ds (mask ρ ρ2)
    | .brk ρ2 => ret (.next (mask ρ ρ2))
    | .ret r => ret (.ret r)
def sFor (q : FL G) (b : FG G) (body : FS G) : FS G := fun ρ => bnd (q ρ) fun ds => sLoop b body ds ρ
theorem ds_for {iter : Expr} {body : List Stmt} {bg : FG G} {vs : List Nat} {sb : FS G} (hp : PassesOwn (model X.prog X.w) X.A X.env X.xe) (hc : X.calm = true) (hi : PI X tg iter (tI gi X.K q)) (hg : PG X tg (tG gi X.K bg vs)) (hb : PSs X body (tS gi X.K sb))
    (hs : ∀ x, foldedSetIterable iter X.env x = pure x := by intro _; rfl) : PS X (.For tg iter body [] pos) (tS gi X.K (sFor q bg sb)) :=
  PS_weak (ps_for hp hc hi hg hb hs) fun D σ H ⟨en, F, g, ρ, fl, g', r, e, k⟩ => by
    obtain ⟨ds, g1, e1, e⟩ := bnd_some e
    refine ⟨en, F, g, ρ, ds, g1, r, e1, fun J F1 H1 s1 r1 wk => ?_⟩
    refine ⟨fun i m σ H => ∃ F2 g2 ρ2, Same F1 F2 ∧ R gi X.K en F2 H g2 σ ρ2 ∧ m = ds.length - i ∧ i ≤ ds.length ∧ sLoop bg sb (ds.drop i) ρ2 g2 = some (fl, g'), ⟨ds.length, F1, g1, ρ, Same.refl F1, r1, by simp, Nat.zero_le _, e⟩, ?_⟩
    rintro i m σ2 H2 ⟨F2, g2, ρ2, s2, r2, rfl, hi, e2⟩
    obtain ⟨wstop, wgo⟩ := wk σ2 ρ2 en F2 H2 g2 s2 r2
    rcases Nat.lt_or_ge i ds.length with hlt | hge
    · obtain ⟨go, yld⟩ := wgo i ds[i] (List.getElem?_eq_getElem hlt)
      rw [List.drop_eq_getElem_cons hlt] at e2
      obtain ⟨ρ3, g3, e3, e2⟩ := bnd_some e2
      obtain ⟨fl3, g4, e4, e2⟩ := bnd_some e2
      refine .inr ⟨go, fun σ' H' => ∃ F5 g5 ρ5, Same F1 F5 ∧ R gi X.K en F5 H' g5 σ' ρ5 ∧ sLoop bg sb (ds.drop (i + 1)) ρ5 g5 = some (fl, g'), fun σ' H' hN => ?_, fun x H3 y => ?_⟩
      · obtain ⟨F5, g5, ρ5, s5, r5, e5⟩ := hN
        exact ⟨ds.length - (i + 1), by omega, F5, g5, ρ5, s5, r5, rfl, hlt, e5⟩
      · obtain ⟨F3, s3, r3, h3⟩ := yld x H3 y
        refine ⟨en, F3, g2, ρ2, ds[i], ρ3, g3, r3, h3, e3, fun σ4 F4 H4 s4 _ _ r4 => ?_⟩
        refine ⟨en, F4, g3, ρ3, fl3, g4, r4, e4, fun F6 H6 σ6 s6 => ?_⟩
        have ss : Same F1 F6 := ((s2.trans s3).trans s4).trans s6
        cases fl3 with
        | next ρ6 => exact fun r6 => ⟨F6, g4, _, ss, r6.mask, e2⟩
        | cont ρ6 => exact fun r6 => ⟨F6, g4, _, ss, r6.mask, e2⟩
        | brk ρ6 =>
          cases e2
          exact fun r6 => k F6 H6 σ6 (s1.trans ss) r6.mask
        | ret x =>
          cases e2
          exact k F6 H6 σ6 (s1.trans ss)
    · have hi' : i = ds.length := by omega
      subst hi'
      rw [List.drop_length] at e2
      cases e2
      exact .inl ⟨wstop, k F2 H2 σ2 (s1.trans s2) r2⟩
def lcM (f : PyData → M G (Option PyData)) : List PyData → M G (List PyData)
  | [] => ret []
  | d :: ds => bnd (f d) fun o => bnd (lcM f ds) fun r => ret (match o with
    | some x => x :: r
    | none => r)
def fYes : FT G := fun _ => ret true
def lcF (b : FG G) (tc : FT G) (fe : FE G) (ρ : Ev) : PyData → M G (Option PyData) := fun d => bnd (b d ρ) fun ρ1 => bnd (tc ρ1) fun t => if t = true then bnd (fe ρ1) fun x => ret (some x) else ret none
def lLC (vs : List Nat) (q : FL G) (b : FG G) (tc : FT G) (fe : FE G) : FL G := fun ρ => if noOwn ρ vs = true then bnd (q ρ) fun ds => bnd (lcM (lcF b tc fe (wipeE ρ vs)) ds) fun r => if r.length ≤ lim then ret r else fail else fail
/-- a target that binds the slots vs alone -/
def Keeps (b : FG G) (vs : List Nat) : Prop := ∀ d ρ g ρ' g', b d ρ g = some (ρ', g') → ∀ j, j ∉ vs → ρ'[j]? = ρ[j]?
def KeepsS (b : FGs G) (vs : List Nat) : Prop := ∀ ds ρ g ρ' g', b ds ρ g = some (ρ', g') → ∀ j, j ∉ vs → ρ'[j]? = ρ[j]?
theorem kp_name (i : Nat) : Keeps (bName i : FG G) [i] := fun d ρ g ρ' g' e j hj => by
  cases e
  exact List.getElem?_set_ne fun z => hj (by simp [z])
theorem kps_nil : KeepsS (bNil : FGs G) [] := fun ds ρ g ρ' g' e j _ => by
  cases ds <;> cases e
  rfl
theorem kps_cons {b : FG G} {bs : FGs G} {vs ws : List Nat} (h1 : Keeps b vs) (h2 : KeepsS bs ws) : KeepsS (bCons b bs) (vs ++ ws) := fun ds ρ g ρ' g' e j hj => by
  cases ds with
  | nil => cases e
  | cons d ds =>
    obtain ⟨ρ1, g1, e1, e⟩ := bnd_some e
    exact (h2 ds ρ1 g1 ρ' g' e j fun z => hj (List.mem_append_right _ z)).trans (h1 d ρ g ρ1 g1 e1 j fun z => hj (List.mem_append_left _ z))
theorem kp_tup {n : Nat} {bs : FGs G} {vs : List Nat} (h : KeepsS bs vs) : Keeps (bTup n bs) vs := fun d ρ g ρ' g' e j hj => by
  cases d <;> first | cases e; done | skip
  unfold bTup at e
  simp only at e
  split at e
  · exact h _ ρ g ρ' g' e j hj
  · cases e
theorem tLc_of {K : PySem.W.Frag} {vs : List Nat} {bg : FG G} {tc : FT G} {fe : FE G} {σ : L2.St} {H : Hp} {Q : VK} (hk : Keeps bg vs) (h : tL gi K (lLC vs q bg tc fe) σ H Q) : tLc (tIc gi K vs q) (tG gi K bg vs) (tT gi K tc) (tE gi K fe) vs σ H Q := by
  obtain ⟨en, F, g, ρ, res, g', r, e, k⟩ := h
  unfold lLC at e
  split at e
  · rename_i hno
    obtain ⟨ds, g1, e1, e⟩ := bnd_some e
    obtain ⟨rs, g2, e2, e⟩ := bnd_some e
    split at e
    · rename_i hlim
      cases e
      refine ⟨en, F, g, ρ, ds, g1, r, e1, fun J F1 H1 s1 r1 wk D hD => ?_⟩
      have l1 := r1.lone_of hD
      have r1w : R gi K en F1 (upd H1 D (.lst [])) g1 (L2.wipe σ vs) (wipeE ρ vs) := (r1.alloc0 hD).wipe vs
      -- D protected by the base
      refine ⟨fun i m H => ∃ F2 g2 acc dacc rest, Same F1 F2 ∧ R gi K en F2 H g2 (L2.wipe σ vs) (wipeE ρ vs) ∧ Lone gi en F2 H g2 (L2.wipe σ vs) (wipeE ρ vs) D ∧ H D = some (.lst acc) ∧ DvAll K F2 acc dacc ∧ m = ds.length - i ∧ i ≤ ds.length ∧
        lcM (lcF bg tc fe (wipeE ρ vs)) (ds.drop i) g2 = some (rest, g') ∧ res = dacc ++ rest, ⟨ds.length, F1, g1, [], [], res, Same.refl F1, r1w, ?_, upd_same, .nil, by simp, Nat.zero_le _, e2, rfl⟩, ?_⟩
      · refine ⟨l1.1, l1.2.1, l1.2.2.1, fun i es hi hs => ?_⟩
        obtain ⟨q1, q2⟩ := wipeE_some hi
        rw [wipe_out q2] at hs
        exact l1.2.2.2 i es q1 ((Ows.off (fun b h => upd_ne h) (l1.2.2.2 i es q1) D).mp hs)
      · rintro i m H2 ⟨F2, g2, acc, dacc, rest, s2, r2, l2, hD2, ha, rfl, hi, e3, hres⟩
        obtain ⟨wstop, wgo⟩ := wk en F2 H2 g2 s2 r2
        rcases Nat.lt_or_ge i ds.length with hlt | hge
        · obtain ⟨go, yld⟩ := wgo i ds[i] (List.getElem?_eq_getElem hlt)
          rw [List.drop_eq_getElem_cons hlt] at e3
          obtain ⟨o, g3, e4, e3⟩ := bnd_some e3
          obtain ⟨rest2, g5, e5, e3⟩ := bnd_some e3
          cases e3
          obtain ⟨ρ6, g6, e6, e4⟩ := bnd_some e4
          obtain ⟨t, g7, e7, e4⟩ := bnd_some e4
          refine .inr ⟨go, fun H' => ∃ F8 g8 acc8 dacc8 rest8, Same F1 F8 ∧ R gi K en F8 H' g8 (L2.wipe σ vs) (wipeE ρ vs) ∧ Lone gi en F8 H' g8 (L2.wipe σ vs) (wipeE ρ vs) D ∧ H' D = some (.lst acc8) ∧ DvAll K F8 acc8 dacc8 ∧
            lcM (lcF bg tc fe (wipeE ρ vs)) (ds.drop (i + 1)) g8 = some (rest8, g') ∧ res = dacc8 ++ rest8, fun H' hN => ?_, fun x H3 y => ?_⟩
          · obtain ⟨F8, g8, acc8, dacc8, rest8, q1, q2, q3, q4, q5, q6, q7⟩ := hN
            exact ⟨ds.length - (i + 1), by omega, F8, g8, acc8, dacc8, rest8, q1, q2, q3, q4, q5, rfl, hlt, q6, q7⟩
          · -- the item: in the base with D
            obtain ⟨_, wgo'⟩ := wk (en.prot D (.lst acc)) F2 H2 g2 s2 (r2.prot l2 hD2)
            obtain ⟨F3, s3, r3, h3⟩ := (wgo' i ds[i] (List.getElem?_eq_getElem hlt)).2 x H3 y
            refine ⟨_, F3, g2, wipeE ρ vs, ds[i], ρ6, g6, r3, h3, e6, fun σ4 F4 H4 s4 hl4 hj4 r4 => ⟨?_, ?_⟩⟩
            · rw [wipe_eq hl4 hj4, wipe_wipe]
            · refine ⟨_, F4, g6, ρ6, t, g7, r4, e7, fun F5 H5 s5 r5 => ?_⟩
              have sF5 : Same F2 F5 := (s3.trans s4).trans s5
              have back : ∀ {F' H' : Hp} {g' : G}, Same F2 F' → R gi K (en.prot D (.lst acc)) F' H' g' σ4 ρ6 → R gi K (en.prot D (.lst acc)) F' H' g' (L2.wipe σ vs) (wipeE ρ vs) := fun {F' H' g'} sF r' => by
                have z := r2.prot l2 hD2
                refine ⟨r'.sub, r'.f0, r'.fz, r'.bs, r'.fnew, r'.am, r'.an, r'.gr, r'.nt, fun j s e => ?_, fun i j s u x e1 e2 e3 e4 => r'.ds i j s u x (by rw [hk _ _ _ _ _ e6 i (wipeE_some e1).2]; exact e1) (by rw [hk _ _ _ _ _ e6 j (wipeE_some e2).2]; exact e2) (by rw [hj4 i (wipeE_some e1).2]; exact e3) (by rw [hj4 j (wipeE_some e2).2]; exact e4), z.len⟩
                have hj := (wipeE_some e).2
                have q := r'.sl j s (by rw [hk _ _ _ _ _ e6 j hj]; exact e)
                rw [hj4 j hj] at q
                exact q
              cases t with
              | false =>
                cases e4
                refine iteF ?_
                obtain ⟨q1, q2, q3, q4, q5⟩ := r2.unprot l2 (back sF5 r5)
                exact ⟨F5, _, acc, dacc, rest2, s2.trans sF5, q1, ⟨q2, l2.2.1, q3, q5⟩, q4, dva_mono sF5 ha, e5, hres⟩
              | true =>
                obtain ⟨z, g8, e8, e4⟩ := bnd_some e4
                cases e4
                refine iteT ?_
                refine ⟨_, F5, g7, ρ6, z, _, r5, e8, fun w F6 H6 s6 r6 hw => ?_⟩
                have sF6 := sF5.trans s6
                obtain ⟨q1, q2, q3, q4, q5⟩ := r2.unprot l2 (back sF6 r6)
                have lone6 : Lone gi en F6 H6 _ (L2.wipe σ vs) (wipeE ρ vs) D := ⟨q2, l2.2.1, q3, q5⟩
                refine ⟨acc, q4, lim_lt ?_, F6, _, acc ++ [w], dacc ++ [z], rest2, s2.trans sF6, q1.chg lone6, lone6.keep q2, upd_same, (dva_mono sF6 ha).app (.cons hw .nil), e5, ?_⟩
                · rw [ha.len]
                  have : res.length = dacc.length + (rest2.length + 1) := by rw [hres, List.length_append, List.length_cons]
                  omega
                · rw [hres, List.append_assoc]
                  rfl
        · have hi' : i = ds.length := by omega
          subst hi'
          rw [List.drop_length] at e3
          cases e3
          rw [List.append_nil] at hres
          subst hres
          refine .inl ⟨wstop, ?_⟩
          have r3 := r1.unwipe hno s2 r2
          refine k D acc F2 H2 (s1.trans s2) r3 ⟨l2.1, l2.2.1, l2.2.2.1, fun j es e hs => ?_⟩ hD2 ha
          by_cases hj : j ∈ vs
          · have q := List.all_eq_true.mp hno j hj
            rw [e] at q
            exact isOwn_no (by simpa using q) hs
          · exact l2.2.2.2 j es (by rw [wipeE_out hj]; exact e) (by rw [wipe_out hj]; exact hs)
    · cases e
  · cases e
/-- [elt for tg in iter if ..] -/
theorem dl_lc {elt iter : Expr} {ifs : List Expr} {scope : Scope} {own : List (Str × Nat)} {vs : List Nat} {bg : FG G} {tc : FT G} {fe : FE G} (hc : X.calm = true) (hN : X.N.Nodup) (hi : PI X tg iter (tIc gi X.K vs q)) (ok : BlkOk X.N X.env.scope scope own) (hv : own.map (·.2) = vs) (hk : Keeps bg vs)
    (hg : ∀ (s : Shared) (H : Hp) (C : Addr) (cl : List (Str × Addr)) (fp : List Addr), PG (X.blk s H scope (compEnvC scope cl C X.env) fp) tg (tG gi X.K bg vs)) (ht : ∀ (s : Shared) (H : Hp) (C : Addr) (cl : List (Str × Addr)) (fp : List Addr), PTs (X.blk s H scope (compEnvC scope cl C X.env) fp) ifs (tT gi X.K tc))
    (he : ∀ (s : Shared) (H : Hp) (C : Addr) (cl : List (Str × Addr)) (fp : List Addr), PE (X.blk s H scope (compEnvC scope cl C X.env) fp) elt (tE gi X.K fe)) (hs : ∀ x, foldedSetIterable iter X.env x = pure x := by intro _; rfl) :
    PE X (.ListComp elt [⟨tg, iter, ifs, 0⟩] scope pos) (tL gi X.K (lLC vs q bg tc fe)) := by
  subst hv
  exact PE_weak (pe_lc hc hN hi ok hg ht he hs) fun _ _ _ h => tLc_of hk h
theorem dts_nil : PTs X [] (tT gi X.K fYes) := ⟨fun pins s σ H Q I ⟨en, F, g, ρ, b, g', r, e, k⟩ => pts_nil.run pins s σ H Q I (by cases e; exact k F H (Same.refl F) r)⟩
theorem dts_one {c : Expr} {ta : FT G} (h : PT X c (tT gi X.K ta)) : PTs X [c] (tT gi X.K ta) := pts_one h
/-- .. frozen at once -/
theorem ds_setLcF (i : Nat) {y : Str} {py spos : Pos} {elt iter : Expr} {ifs : List Expr} {scope : Scope} {own : List (Str × Nat)} {vs : List Nat} {bg : FG G} {tc : FT G} {fe : FE G} (hc : X.calm = true) (hN : X.N.Nodup) (hy : X.N[i]? = some y) (hyl : X.env.scope.names.lookup y = some .local)
    (hsw : swapsWith (.ListComp elt [⟨tg, iter, ifs, 0⟩] scope pos) (some (.Name y py)) spos.line X.env = pure true) (hi : PI X tg iter (tIc gi X.K vs q)) (ok : BlkOk X.N X.env.scope scope own) (hv : own.map (·.2) = vs) (hk : Keeps bg vs)
    (hg : ∀ (s : Shared) (H : Hp) (C : Addr) (cl : List (Str × Addr)) (fp : List Addr), PG (X.blk s H scope (compEnvC scope cl C X.env) fp) tg (tG gi X.K bg vs)) (ht : ∀ (s : Shared) (H : Hp) (C : Addr) (cl : List (Str × Addr)) (fp : List Addr), PTs (X.blk s H scope (compEnvC scope cl C X.env) fp) ifs (tT gi X.K tc))
    (he : ∀ (s : Shared) (H : Hp) (C : Addr) (cl : List (Str × Addr)) (fp : List Addr), PE (X.blk s H scope (compEnvC scope cl C X.env) fp) elt (tE gi X.K fe)) (hs : ∀ x, foldedSetIterable iter X.env x = pure x := by intro _; rfl) :
    PS X (.Assign [.Name y py] (.ListComp elt [⟨tg, iter, ifs, 0⟩] scope pos) spos) (tS gi X.K (sSet i (eFz (lLC vs q bg tc fe)))) := by
  subst hv
  refine PS_weak (ps_setLc hc hN hy hyl hsw hi ok hg ht he hs) fun D σ H h => ?_
  obtain ⟨en, F, g, ρ, fl, g', r, e, k⟩ := h
  obtain ⟨d, g1, e1, e⟩ := bnd_some e
  obtain ⟨ds, g2, e2, e1⟩ := bnd_some e1
  cases e1
  cases e
  refine tLc_of hk ⟨en, F, g, ρ, ds, _, r, e2, fun p xs F' H' s r' l hp hx => ?_⟩
  have sF : Same F' (upd F' p (.lst xs)) := same_upd l.1
  exact k _ _ _ (s.trans sF) ((r'.freeze l hp).setV (.lst upd_same (dva_mono sF hx)))
end
end Dt
namespace Dt
open PySem PySem.Spec L2
section
variable {G : Type} (gi : GI G) (K : PySem.W.Frag)
/-- a def's promise: n arguments; its meaning -/
def SpD (n : Nat) (fn : List Ar → M G Rt) : Sp := fun vs H Q _ => vs.length = n ∧ ∃ F g as r g', R gi K (En.of H F g) F H g [] [] ∧ ArsR K F vs as ∧ fn as g = some (r, g') ∧
  ∀ v F' H', R gi K (En.of H F g) F' H' g' [] [] → RtR gi K (En.of H F g) F' H' g' v r → Q v H'
end
def arS : Ar → Option Sl
  | .d d => some (.val d)
  | .raw v => some (.raw v)
def startE (n : Nat) (as : List Ar) : Ev := as.map arS ++ List.replicate (n - as.length) none
def runDef {G : Type} (n : Nat) (body : FS G) : List Ar → M G Rt := fun as => bnd (body (startE n as)) fun fl => match fl with
  | .next _ => ret (.d .none)
  | .ret r => ret r
  | _ => fail
theorem ArsR.len {K : PySem.W.Frag} {F : Hp} : ∀ {vs : List V} {as : List Ar}, ArsR K F vs as → vs.length = as.length
  | _, _, .nil => rfl
  | _, _, .cons _ t => by rw [List.length_cons, List.length_cons, ArsR.len t]
theorem ArsR.get {K : PySem.W.Frag} {F : Hp} : ∀ {vs : List V} {as : List Ar} {i : Nat} {a : Ar}, ArsR K F vs as → as[i]? = some a → ∃ v, vs[i]? = some v ∧ ArR K F v a
  | _, _, _, _, .nil, h => by simp at h
  | _, _, 0, _, .cons h _, e => by simp at e; subst e; exact ⟨_, rfl, h⟩
  | _, _, i + 1, a, .cons _ t, e => by
    obtain ⟨v, h1, h2⟩ := ArsR.get (i := i) (a := a) t (by simpa using e)
    exact ⟨v, by simpa using h1, h2⟩
theorem ArsR.app {K : PySem.W.Frag} {F : Hp} : ∀ {xs ys : List V} {ds es : List Ar}, ArsR K F xs ds → ArsR K F ys es → ArsR K F (xs ++ ys) (ds ++ es)
  | _, _, _, _, .nil, s => s
  | _, _, _, _, .cons h t, s => .cons h (ArsR.app t s)
theorem ArR.mono {K : PySem.W.Frag} {F F' : Hp} (e : Same F F') {v : V} : ∀ {a : Ar}, ArR K F v a → ArR K F' v a
  | .d _, h => dv_mono e h
  | .raw _, h => h
theorem ArsR.mono {K : PySem.W.Frag} {F F' : Hp} (e : Same F F') : ∀ {vs : List V} {as : List Ar}, ArsR K F vs as → ArsR K F' vs as
  | _, _, .nil => .nil
  | _, _, .cons h t => .cons (h.mono e) (ArsR.mono e t)
section
variable {G : Type} {gi : GI G} {K : PySem.W.Frag}
theorem R.start {N : List Str} {F H : Hp} {g : G} {vs : List V} {as : List Ar} (r : R gi K (En.of H F g) F H g [] []) (ha : ArsR K F vs as) (hn : vs.length ≤ N.length) : R gi K (En.of H F g) F H g (L2.start N vs) (startE N.length as) := by
  have hl := ha.len
  have sm : ∀ (i : Nat) (s : Sl), (startE N.length as)[i]? = some (some s) → ∃ a v, as[i]? = some a ∧ arS a = some s ∧ (L2.start N vs)[i]? = some (some v) ∧ ArR K F v a := fun i s e => by
    unfold startE at e
    have hi : i < as.length := by
      rcases Nat.lt_or_ge i as.length with h | h
      · exact h
      · rw [List.getElem?_append_right (by simpa using h), List.getElem?_replicate] at e
        split at e <;> cases e
    rw [List.getElem?_append_left (by simpa using hi), List.getElem?_map] at e
    obtain ⟨a, h1, h2⟩ := Option.map_eq_some_iff.mp e
    obtain ⟨v, h3, h4⟩ := ha.get h1
    refine ⟨a, v, h1, h2, ?_, h4⟩
    unfold L2.start
    rw [List.getElem?_append_left (by rw [List.length_map]; omega), List.getElem?_map, h3]
    rfl
  refine ⟨r.sub, r.f0, r.fz, r.bs, r.fnew, r.am, r.an, r.gr, r.nt, fun i s e => ?_, fun i j s u x e _ e3 _ => ?_, ?_⟩
  · obtain ⟨a, v, h1, h2, h3, h4⟩ := sm i s e
    rw [h3]
    cases a with
    | d d => cases h2; exact ⟨v, rfl, h4⟩
    | raw w => cases h2; cases h4; rfl
  · obtain ⟨a, v, h1, h2, h3, h4⟩ := sm i _ e
    cases a <;> cases h2 <;> exact e3.elim
  · unfold startE L2.start
    rw [List.length_append, List.length_append, List.length_map, List.length_map, List.length_replicate, List.length_replicate]
    omega
variable {P : Program} {w : World} {mg : Str → Option Value} {base : Heap} {x qual : Str} {st : Stmt} {dvs : List V} {f : Addr} {fd : FuncData}
abbrev DFn (K : PySem.W.Frag) (x qual : Str) (st : Stmt) (dvs : List V) (f : Addr) (fd : FuncData) : Prop := FunD K x qual (defArgs st) (defBody st) (defScope st) dvs [] f fd
/-- THE RULE for a def -/
theorem def_ok {N ps : List Str} {k : Nat} {body : FS G} (F : DFn K x qual st dvs f fd) (S : FnScope N ps (defScope st))
    (hb : ∀ (cdv : Value) (A : Around) (outer : List Env) (s : Shared) (H : Hp) (E : XK), Room k (A.deeper (PyProof.Rows.envOfC qual (defScope st) s.heap.objs.size f cdv)) →
      PSs (cxOf CX0 P w K mg base N qual (defScope st) f cdv A outer s H E).nox (defBody st) (tS gi K body)) : FnOk P w K mg base CX0 (k + 1) f fd ps (SpD gi K ps.length (runDef N.length body)) := by
  refine F.ok S (fun vs H Q E h => h.1) fun cdv A outer s H vs Q E hr h => ⟨tS gi K body, (hb cdv A outer s H E hr).nox, ?_⟩
  obtain ⟨hl, Fz, g, as, r, g', r0, ha, e, k⟩ := h
  obtain ⟨fl, g1, e1, e⟩ := bnd_some e
  have hn : vs.length ≤ N.length := by
    have := congrArg List.length S.pre
    rw [List.length_take] at this
    omega
  refine ⟨_, Fz, g, _, fl, g1, r0.start ha hn, e1, fun F' H' σ' s' => ?_⟩
  cases fl with
  | next ρ' => cases e; exact fun r' => k .non F' H' r'.nil .non
  | brk ρ' => cases e
  | cont ρ' => cases e
  | ret x => cases e; exact fun v r' h' => k v F' H' r' h'
end
section
variable {G : Type} {gi : GI G} {X : Cx} {e a b c : Expr} {es : List Expr} {pos p : Pos} {fa : FE G} {ga : FA G}
def rNil : FA G := fun _ => ret []
def rCons (fa : FE G) (ga : FA G) : FA G := fun ρ => bnd (fa ρ) fun x => bnd (ga ρ) fun xs => ret (.d x :: xs)
def rRaw (i : Nat) (ga : FA G) : FA G := fun ρ => match ρ[i]? with
  | some (some (.raw v)) => bnd (ga ρ) fun xs => ret (.raw v :: xs)
  | some (some (.val d)) => bnd (ga ρ) fun xs => ret (.d d :: xs)
  | _ => fail
theorem da_nil : PA X [] (tA gi X.K rNil) := PA_weak pa_nil fun σ H Q ⟨en, F, g, ρ, ds, g', r, e, k⟩ => by
  cases e
  exact k [] F H (Same.refl F) r .nil
theorem da_cons (ha : PE X e (tE gi X.K fa)) (hr : PA X es (tA gi X.K ga)) (hs : starEach (e :: es) X.env = (false, eval e X.env) :: starEach es X.env := by rfl) : PA X (e :: es) (tA gi X.K (rCons fa ga)) :=
  PA_weak (pa_cons ha hr hs) fun σ H Q ⟨en, F, g, ρ, ds, g', r0, e, k⟩ => by
    obtain ⟨x, g1, e1, e⟩ := bnd_some e
    obtain ⟨xs, g2, e2, e⟩ := bnd_some e
    cases e
    exact ⟨en, F, g, ρ, x, g1, r0, e1, fun v F1 H1 s1 r1 h1 => ⟨en, F1, g1, ρ, xs, _, r1, e2, fun w F2 H2 s2 r2 h2 => k _ F2 H2 (s1.trans s2) r2 (.cons (dv_mono s2 h1) h2)⟩⟩
theorem da_raw (i : Nat) {x : Str} (ha : PE X (.Name x p) (tVar i)) (hr : PA X es (tA gi X.K ga)) (hs : starEach (.Name x p :: es) X.env = (false, eval (.Name x p) X.env) :: starEach es X.env := by rfl) : PA X (.Name x p :: es) (tA gi X.K (rRaw i ga)) :=
  PA_weak (pa_cons ha hr hs) fun σ H Q ⟨en, F, g, ρ, ds, g', r0, e, k⟩ => by
    unfold rRaw at e
    rcases hd : ρ[i]? with _ | _ | ⟨d' | ds | w⟩ <;> rw [hd] at e <;> first | cases e; done | skip
    · obtain ⟨xs, g1, e1, e⟩ := bnd_some e
      cases e
      obtain ⟨v, h1, h2⟩ := r0.sl i _ hd
      exact ⟨v, h1, en, F, g, ρ, xs, _, r0, e1, fun u F1 H1 s1 r1 h => k _ F1 H1 s1 r1 (.cons (dv_mono s1 h2) h)⟩
    · obtain ⟨xs, g1, e1, e⟩ := bnd_some e
      cases e
      exact ⟨w, r0.sl i _ hd, en, F, g, ρ, xs, _, r0, e1, fun u F1 H1 s1 r1 h => k _ F1 H1 s1 r1 (.cons rfl h)⟩
def toD : Rt → Option PyData
  | .d d => some d
  | .l ds => some (.list ds)
  | .raw _ => none
  | .obj _ => none
def toL : Rt → Option (List PyData)
  | .l ds => some ds
  | _ => none
def eCall (n : Nat) (fn : List Ar → M G Rt) (ga : FA G) (dd : List Ar) : FE G := fun ρ => bnd (ga ρ) fun as => if (as ++ dd).length = n then bnd (fn (as ++ dd)) fun r => lft (toD r) else fail
def lCall (n : Nat) (fn : List Ar → M G Rt) (ga : FA G) (dd : List Ar) : FL G := fun ρ => bnd (ga ρ) fun as => if (as ++ dd).length = n then bnd (fn (as ++ dd)) fun r => lft (toL r) else fail
/-- what comes back from a call, as data -/
theorem call_d {K : PySem.W.Frag} {n : Nat} {fn : List Ar → M G Rt} {en : En G} {F H : Hp} {g g' : G} {σ : L2.St} {ρ : Ev} {vs : List V} {as : List Ar} {rt : Rt} {d : PyData} {Q : VK} {E : XK} (r : R gi K en F H g σ ρ) (ha : ArsR K F vs as) (hl : vs.length = n) (e : fn as g = some (rt, g')) (ed : toD rt = some d)
    (k : ∀ v F' H', Same F F' → R gi K en F' H' g' σ ρ → Dv K F' v d → Q v H') : SpD gi K n fn vs H Q E := by
  refine ⟨hl, F, g, as, rt, g', r.enter, ha, e, fun v F' H' c h => ?_⟩
  have r' := r.back c
  cases rt with
  | d d' => cases ed; exact k v F' H' c.f0 r' h
  | raw w => cases ed
  | obj u => cases ed
  | l ds =>
    cases ed
    obtain ⟨q, xs, rfl, h1, h2, h3, h4, h5⟩ := h
    have lone : Lone gi en F' H' g' σ ρ q := r.back_lone c h3 h2 h4
    have sF : Same F' (upd F' q (.lst xs)) := same_upd h2
    exact k _ _ _ (c.f0.trans sF) (r'.freeze lone h1) (.lst upd_same (dva_mono sF h5))
section
variable {k n : Nat} {f : Addr} {fd : FuncData} {ps : List Str} {fn : List Ar → M G Rt} {dvs : List V} {ds : List Value} {dd : List Ar} {x : Str}
theorem de_call (F : FnOk X.prog X.w X.K X.mg X.base CX0 k f fd ps (SpD gi X.K n fn)) (hr : Room k X.A) (hg : Gl X x) (hm : X.mg x = some (.ref f)) (hk : PySem.W.keepIn X.K (.ref f) = true) (hb : Binds X.K fd ps ds) (hd : Vals dvs ds) (hdd : ∀ F, ArsR X.K F dvs dd)
    (ha : PA X (e :: es) (tA gi X.K ga)) (hdb : (x == ("__debug__" : Str)) = false := by decide) (he : starEach (e :: es) X.env = (false, eval e X.env) :: starEach es X.env := by rfl) (hpl : (backTo pos (starEach es X.env)).any (·.1) = false := by rfl) :
    PE X (.Call (.Name x p) (e :: es) [] pos) (tE gi X.K (eCall n fn ga dd)) :=
  PE_weak (pe_call F hr hg hm hk hb hd pass0 ha hdb he hpl) fun σ H Q ⟨en, Fz, g, ρ, d, g', r0, q, kk⟩ => by
    obtain ⟨as, g1, e1, q⟩ := bnd_some q
    split at q
    · rename_i hl
      obtain ⟨rt, g2, e2, q⟩ := bnd_some q
      obtain ⟨e3, rfl⟩ := lft_inv q
      exact ⟨en, Fz, g, ρ, as, g1, r0, e1, fun vs F1 H1 s1 r1 h1 => call_d r1 (h1.app (hdd F1)) (by rw [(h1.app (hdd F1)).len]; exact hl) e2 e3 fun v F' H' s' r' h' => kk v F' H' (s1.trans s') r' h'⟩
    · cases q
theorem PK_weak {X : Cx} {es : List Keyword} {t t' : TA} (h : PK X es t) (w : ∀ σ H Q, t' σ H Q → t σ H Q) : PK X es t' := ⟨fun pos pins s σ H Q I q => h.run pos pins s σ H Q I (w σ H Q q)⟩
theorem dk_nil : PK X [] (tA gi X.K rNil) := PK_weak pk_nil fun σ H Q ⟨en, F, g, ρ, ds, g', r, e, k⟩ => by
  cases e
  exact k [] F H (Same.refl F) r .nil
theorem dk_cons {kws : List Keyword} {nm : Option Str} {kpos : Pos} (ha : PE X e (tE gi X.K fa)) (hr : PK X kws (tA gi X.K ga)) : PK X (⟨nm, e, kpos⟩ :: kws) (tA gi X.K (rCons fa ga)) :=
  PK_weak (pk_cons ha hr) fun σ H Q ⟨en, F, g, ρ, ds, g', r0, e, k⟩ => by
    obtain ⟨x, g1, e1, e⟩ := bnd_some e
    obtain ⟨xs, g2, e2, e⟩ := bnd_some e
    cases e
    exact ⟨en, F, g, ρ, x, g1, r0, e1, fun v F1 H1 s1 r1 h1 => ⟨en, F1, g1, ρ, xs, _, r1, e2, fun w F2 H2 s2 r2 h2 => k _ F2 H2 (s1.trans s2) r2 (.cons (dv_mono s2 h1) h2)⟩⟩
def eCallK (n : Nat) (fn : List Ar → M G Rt) (gA : List Ar → List Ar → List Ar) (ga gk : FA G) : FE G := fun ρ => bnd (ga ρ) fun as => bnd (gk ρ) fun bs => if (gA as bs).length = n then bnd (fn (gA as bs)) fun r => lft (toD r) else fail
end
end
end Dt
namespace Dt
open PySem PySem.Spec L2
/-- the script, the dict of the draws, its dict of rests -/
structure Tw where
  aS : Addr
  aT : Addr
  aR : Addr
  tr : Bool
  ns : List Int
  count : Int
  rests : List (Key × V)
def kCount : Key := .inr "count"
def kRests : Key := .inr "rests"
def twD (g : Tw) : HO := .dK [(kCount, .int g.count), (kRests, .ref g.aR)]
def twR (K : PySem.W.Frag) (g : Tw) (H : Hp) : Prop := H g.aT = some (twD g) ∧ H g.aR = some (.dK g.rests) ∧ g.aT ≠ g.aR ∧ (g.tr = true → g.aS ≠ g.aT ∧ g.aS ≠ g.aR ∧ Rd H g.aS (.lst (g.ns.map V.int))) ∧ (g.tr = false → ∀ H', SqL K H' g.aS (g.ns.map V.int))
/-- the tables of code objects; what they tell is frozen -/
def TabF (T : List (Addr × Str)) (F H : Hp) : Prop := ∀ p ∈ T, ∃ ps : Array Value, H p.1 = some (.tbl ps) ∧ TriplesOk ps.toList ∧ ∀ (pos : Pos) (cv : Value), codeAmong pos ps.toList = some cv → ∃ c, cv = .ref c ∧ F c = some (LamX.CodeO c p.2)
def twGI (K : PySem.W.Frag) (w : World) (T : List (Addr × Str)) (cl : Str → Option Addr) : GI Tw where
  wld := w
  cls := cl
  rel := fun g F H => twR K g H ∧ TabF T F H
  adr := fun g a => (a = g.aT ∨ a = g.aR ∨ (g.tr = true ∧ a = g.aS)) ∨ ∃ p ∈ T, a = p.1
  dom := fun g F H a h ha z => by
    obtain ⟨⟨h1, h2, _, h4, _⟩, h6⟩ := h
    rcases ha with (rfl | rfl | ⟨ht, rfl⟩) | ⟨p, hp, rfl⟩
    · rw [z] at h1; cases h1
    · rw [z] at h2; cases h2
    · rcases (h4 ht).2.2 with q | ⟨o, q⟩ <;> (rw [z] at q; cases q)
    · obtain ⟨ps, q, _⟩ := h6 p hp
      rw [z] at q; cases q
  stab := fun g F F' H H' h sF k => by
    obtain ⟨⟨h1, h2, h3, h4, h5⟩, h6⟩ := h
    refine ⟨⟨(k _ (.inl (.inl rfl))).trans h1, (k _ (.inl (.inr (.inl rfl)))).trans h2, h3, fun ht => ⟨(h4 ht).1, (h4 ht).2.1, ?_⟩, h5⟩, fun p hp => ?_⟩
    · have e := k g.aS (.inl (.inr (.inr ⟨ht, rfl⟩)))
      rcases (h4 ht).2.2 with q | ⟨o, q⟩
      · exact .inl (e.trans q)
      · exact .inr ⟨o, e.trans q⟩
    · obtain ⟨ps, q1, q2, q3⟩ := h6 p hp
      refine ⟨ps, (k p.1 (.inr ⟨p, hp, rfl⟩)).trans q1, q2, fun pos cv e => ?_⟩
      obtain ⟨c, e1, e2⟩ := q3 pos cv e
      exact ⟨c, e1, sF _ _ e2⟩
theorem tw_sq {K : PySem.W.Frag} {g : Tw} {H : Hp} (h : twR K g H) : SqL K H g.aS (g.ns.map V.int) := by
  obtain ⟨_, _, _, h4, h5⟩ := h
  cases e : g.tr with
  | true => exact .inl (h4 e).2.2
  | false => exact h5 e H
def isIntV : V → Bool
  | .int _ => true
  | _ => false
def intV : V → Int
  | .int i => i
  | _ => 0
def Tw.good (g : Tw) : Bool := (g.rests.all fun p => isIntV p.2) && decide (g.rests.length < 1000)
def Tw.at_ (g : Tw) : Int := if g.ns = [] then 0 else (g.count + 1) % (g.ns.length : Int)
def Tw.cell (g : Tw) : Int := if g.ns = [] then 0 else g.ns.getD g.at_.toNat 0
def Tw.rest (g : Tw) : Int := match valV g.rests (.inl g.at_) with
  | some v => intV v
  | none => g.cell
def num1 (rest count : Int) : Int := (rest + 104729 * count) % 4294967291
def num2 (n : Int) : Int := n ^ 5 % 4294967279
def num3 (n : Int) : Int := (n / 64 * 69621 + n) % 4294967231 / 8
def Tw.next (g : Tw) (many : Int) : Int × Tw :=
  if 10 ^ 18 ≤ g.rest then (g.rest % many, { g with count := g.count + 1, rests := putK g.rests (.inl g.at_) (.int (g.rest / many)) })
  else (num3 (num2 (num1 g.rest (g.count + 1))) % many, { g with count := g.count + 1 })
def fDraw : List Ar → M Tw Rt := fun as g => match as with
  | [.raw (.ref a), .raw (.ref b), .d (.int many)] => if a = g.aS ∧ b = g.aT ∧ 0 < many ∧ many < 1073741824 ∧ g.good = true then some (.d (.int (g.next many).1), (g.next many).2) else none
  | _ => none
structure Tw.Ok (g : Tw) : Prop where
  vals : ∀ p ∈ g.rests, isIntV p.2 = true
  keys : ∀ p ∈ g.rests, ∃ i : Nat, i < g.ns.length + 1 ∧ p.1 = .inl (i : Int)
  nd : (g.rests.map (·.1)).Nodup
  ns : g.ns.length ≤ 63
section
variable {x y z : V}
theorem val_count : valV [(kCount, x), (kRests, y)] kCount = some x := valV_pos rfl
theorem count_ne : ¬ kCount = kRests := by decide
theorem val_rests : valV [(kCount, x), (kRests, y)] kRests = some y := (valV_neg (p := (kCount, x)) count_ne).trans (valV_pos rfl)
theorem put_count : putK [(kCount, x), (kRests, y)] kCount z = [(kCount, z), (kRests, y)] := by
  unfold putK
  have h1 : ([(kCount, x), (kRests, y)].any fun kv => decide (kv.1 = kCount)) = true := by simp
  have h2 : ¬ kRests = kCount := by decide
  rw [if_pos h1]
  simp [h2]
end
section
variable {K : PySem.W.Frag} {w : World} {g : Tw} {H : Hp}
theorem rel_count (h : twR K g H) (c : Int) : twR K { g with count := c } (upd H g.aT (.dK [(kCount, .int c), (kRests, .ref g.aR)])) := by
  obtain ⟨h1, h2, h3, h4, h5⟩ := h
  refine ⟨upd_same, (upd_ne (Ne.symm h3)).trans h2, h3, fun ht => ⟨(h4 ht).1, (h4 ht).2.1, ?_⟩, h5⟩
  rcases (h4 ht).2.2 with q | ⟨o, q⟩
  · exact .inl ((upd_ne (h4 ht).1).trans q)
  · exact .inr ⟨o, (upd_ne (h4 ht).1).trans q⟩
theorem rel_rests (h : twR K g H) (rs : List (Key × V)) : twR K { g with rests := rs } (upd H g.aR (.dK rs)) := by
  obtain ⟨h1, h2, h3, h4, h5⟩ := h
  refine ⟨(upd_ne h3).trans h1, upd_same, h3, fun ht => ⟨(h4 ht).1, (h4 ht).2.1, ?_⟩, h5⟩
  rcases (h4 ht).2.2 with q | ⟨o, q⟩
  · exact .inl ((upd_ne (h4 ht).2.1).trans q)
  · exact .inr ⟨o, (upd_ne (h4 ht).2.1).trans q⟩
/-- a step of the draws: nothing else changes -/
theorem R.tw {T : List (Addr × Str)} {cl : Str → Option Addr} {en : En Tw} {F H H' : Hp} {g g' : Tw} {σ : L2.St} {ρ : Ev} (r : R (twGI K w T cl) K en F H g σ ρ) (hg : twR K g' H') (ha : g'.aT = g.aT ∧ g'.aR = g.aR ∧ g'.aS = g.aS ∧ g'.tr = g.tr) (hk : ∀ a, a ≠ g.aT → a ≠ g.aR → H' a = H a) : R (twGI K w T cl) K en F H' g' σ ρ := by
  have ad : ∀ a, (twGI K w T cl).adr g' a ↔ (twGI K w T cl).adr g a := fun a => by
    show ((a = g'.aT ∨ a = g'.aR ∨ (g'.tr = true ∧ a = g'.aS)) ∨ _) ↔ ((a = g.aT ∨ a = g.aR ∨ (g.tr = true ∧ a = g.aS)) ∨ _)
    rw [ha.1, ha.2.1, ha.2.2.1, ha.2.2.2]
  have kp : ∀ a, ¬ (twGI K w T cl).adr g a → H' a = H a := fun a n => hk a (fun z => n (.inl (.inl z))) fun z => n (.inl (.inr (.inl z)))
  obtain ⟨s1, s2⟩ := r.slots (en' := en) (F' := F) (H' := H') (g' := g') (Same.refl F) fun i s a e ha => by
    obtain ⟨z1, z2, z3, z4⟩ := (r.sl i s e).facts ha
    exact ⟨kp a z3, z1, z2, fun y => z3 ((ad a).mp y)⟩
  have gr : (twGI K w T cl).rel g' F H' := by
    obtain ⟨⟨h1, h2, _⟩, h6⟩ := r.gr
    refine ⟨hg, fun p hp => ?_⟩
    obtain ⟨ps, q1, q2, q3⟩ := h6 p hp
    exact ⟨ps, (hk p.1 (fun z => by rw [z, h1] at q1; cases q1) fun z => by rw [z, h2] at q1; cases q1).trans q1, q2, q3⟩
  refine ⟨fun a o h => (kp a (r.fz a o h)).trans (r.sub a o h), r.f0, fun a o h z => r.fz a o h ((ad a).mp z), fun a o h n => (kp a fun z => n ((ad a).mpr z)).trans (r.bs a o h fun z => n ((ad a).mpr z)), r.fnew, fun a h => (ad a).mpr (r.am a h), fun a h => r.an a ((ad a).mp h), gr, r.nt, s1, s2, r.len⟩
/-- behind the two first rows of a draw -/
def tDrawB (K : PySem.W.Frag) : TS := fun D σ H => ∃ (g : Tw) (many : Int), σ = [some (.ref g.aS), some (.ref g.aT), some (.int many), some (.int g.at_), some (.int g.rest), none] ∧ twR K { g with count := g.count + 1 } H ∧ 0 < many ∧ many < 1073741824 ∧ g.good = true ∧
  ∀ H', twR K (g.next many).2 H' → (∀ a, a ≠ g.aT → a ≠ g.aR → H' a = H a) → D.rt (.int (g.next many).1) H'
theorem next_adr (g : Tw) (many : Int) : (g.next many).2.aT = g.aT ∧ (g.next many).2.aR = g.aR ∧ (g.next many).2.aS = g.aS ∧ (g.next many).2.tr = g.tr := by
  unfold Tw.next
  split <;> exact ⟨rfl, rfl, rfl, rfl⟩
theorem num1_lt (r c : Int) : 0 ≤ num1 r c ∧ num1 r c < 4294967291 := ⟨Int.emod_nonneg _ (by decide), Int.emod_lt_of_pos _ (by decide)⟩
end
end Dt
namespace Dt
open PySem PySem.Spec L2
section
variable {G : Type} {gi : GI G} {X : Cx} {e a b c : Expr} {es : List Expr} {pos p : Pos} {fa fb fc : FE G}
def eCh (s1 s2 : PyData → PyData → Option PyData) (fa fb fc : FE G) : FE G := fun ρ => bnd (fa ρ) fun x => bnd (fb ρ) fun y => bnd (lft (s1 x y)) fun r => bnd (lft (toB r)) fun t => if t = true then bnd (fc ρ) fun z => lft (s2 y z) else ret (.bool false)
theorem tCh_of {K : PySem.W.Frag} {r r' : R2} {s1 s2 : PyData → PyData → Option PyData} (h1 : Sem2 gi K r s1) (h2 : Sem2 gi K r' s2) {σ : L2.St} {H : Hp} {Q : VK} (h : tE gi K (eCh s1 s2 fa fb fc) σ H Q) : tChain r r' (tQ gi K fa) (tQ gi K fb) (tQ gi K fc) σ H Q := by
  obtain ⟨en, F, g, ρ, d, g', r0, e, k⟩ := h
  obtain ⟨x, g1, e1, e⟩ := bnd_some e
  obtain ⟨y, g2, e2, e⟩ := bnd_some e
  obtain ⟨u, g3, e3', e⟩ := bnd_some e
  obtain ⟨e3, rfl⟩ := lft_inv e3'
  obtain ⟨t, g4, e4', e7⟩ := bnd_some e
  obtain ⟨e4, rfl⟩ := lft_inv e4'
  cases toB_of e4
  refine ⟨en, F, g, ρ, x, g1, r0, e1, fun v F1 H1 s1' r1 q1 => ⟨en, F1, g1, ρ, y, g2, r1, e2, fun w F2 H2 s2' r2 q2 => ?_⟩⟩
  refine h1 en F2 H2 g2 σ ρ v w x y _ _ r2 (q1.mono s2') q2 e3 fun z F3 H3 s3 r3 q3 => ?_
  cases q3
  refine ⟨t, rfl, ?_⟩
  cases t with
  | false => cases e7; exact iteF (k _ F3 H3 ((s1'.trans s2').trans s3) r3 (.bl _))
  | true =>
    refine iteT ?_
    obtain ⟨zz, g5, e5, e8⟩ := bnd_some e7
    obtain ⟨e6, rfl⟩ := lft_inv e8
    exact ⟨en, F3, g2, ρ, zz, g5, r3, e5, fun u F4 H4 s4 r4 q4 => h2 en F4 H4 g5 σ ρ w u y zz d Q r4 (q2.mono (s3.trans s4)) q4 e6 fun v F' H' s' r' h' => k v F' H' ((((s1'.trans s2').trans s3).trans s4).trans s') r' h'⟩
theorem de_chain {op op' : CmpOp} {r r' : R2} {s1 s2 : PyData → PyData → Option PyData} (ho : OpR X (compareOp op) r) (h1 : Sem2 gi X.K r s1) (ho' : OpR X (compareOp op') r') (h2 : Sem2 gi X.K r' s2) (ha : PE X a (tQ gi X.K fa)) (hb : PE X b (tQ gi X.K fb)) (hc : PE X c (tQ gi X.K fc))
    (hm : lastMarks [op, op'] [b, c] = false := by with_unfolding_all rfl) : PE X (.Compare a [op, op'] [b, c] pos) (tE gi X.K (eCh s1 s2 fa fb fc)) := PE_weak (pe_chain ho ho' ha hb hc hm) fun _ _ _ h => tCh_of h1 h2 h
theorem dt_chain {op op' : CmpOp} {r r' : R2} {s1 s2 : PyData → PyData → Option PyData} (ho : OpR X (compareOp op) r) (h1 : Sem2 gi X.K r s1) (ho' : OpR X (compareOp op') r') (h2 : Sem2 gi X.K r' s2) (ha : PE X a (tQ gi X.K fa)) (hb : PE X b (tQ gi X.K fb)) (hc : PE X c (tQ gi X.K fc))
    (hm : lastMarks [op, op'] [b, c] = false := by with_unfolding_all rfl) : PT X (.Compare a [op, op'] [b, c] pos) (tT gi X.K (fB (eCh s1 s2 fa fb fc))) := PT_weak (pt_chain ho ho' ha hb hc hm) fun σ H Q ⟨en, F, g, ρ, d, g', r0, e, k⟩ => by
  obtain ⟨x, g1, e1, e⟩ := bnd_some e
  obtain ⟨e3, rfl⟩ := lft_inv e
  cases toB_of e3
  refine tCh_of h1 h2 ⟨en, F, g, ρ, _, g1, r0, e1, fun v F' H' s' r' h' => ?_⟩
  cases h'
  exact ⟨_, rfl, k F' H' s' r'⟩
inductive RtsR (gi : GI G) (K : PySem.W.Frag) (en : En G) (F H : Hp) (g : G) (σ : L2.St) (ρ : Ev) : List V → List Rt → List Addr → Prop
  | nil : RtsR gi K en F H g σ ρ [] [] []
  | d {v : V} {d : PyData} {vs : List V} {rs : List Rt} {ps : List Addr} : Dv K F v d → RtsR gi K en F H g σ ρ vs rs ps → RtsR gi K en F H g σ ρ (v :: vs) (.d d :: rs) ps
  | l {q : Addr} {xs : List V} {ds : List PyData} {vs : List V} {rs : List Rt} {ps : List Addr} : Lone gi en F H g σ ρ q → H q = some (.lst xs) → DvAll K F xs ds → q ∉ ps → RtsR gi K en F H g σ ρ vs rs ps → RtsR gi K en F H g σ ρ (.ref q :: vs) (.l ds :: rs) (q :: ps)
  | o {p : Addr} {u : HO} {vs : List V} {rs : List Rt} {ps : List Addr} : F p = some u → RtsR gi K en F H g σ ρ vs rs ps → RtsR gi K en F H g σ ρ (.ref p :: vs) (.obj u :: rs) ps
abbrev FX (G : Type) := Ev → M G (List Rt)
def tX (gi : GI G) (K : PySem.W.Frag) (f : FX G) : TA := fun σ H Q => ∃ en F g ρ rs g', R gi K en F H g σ ρ ∧ f ρ g = some (rs, g') ∧ ∀ vs ps F' H', Same F F' → R gi K en F' H' g' σ ρ → RtsR gi K en F' H' g' σ ρ vs rs ps → Q vs H'
def xNil : FX G := fun _ => ret []
def xD (fa : FE G) (fx : FX G) : FX G := fun ρ => bnd (fa ρ) fun x => bnd (fx ρ) fun xs => ret (.d x :: xs)
def xL (fl : FL G) (fx : FX G) : FX G := fun ρ => bnd (fl ρ) fun x => bnd (fx ρ) fun xs => ret (.l x :: xs)
theorem dx_nil : PA X [] (tX gi X.K xNil) := PA_weak pa_nil fun σ H Q ⟨en, F, g, ρ, ds, g', r, e, k⟩ => by
  cases e
  exact k [] [] F H (Same.refl F) r .nil
theorem dx_d {fx : FX G} (ha : PE X e (tE gi X.K fa)) (hr : PA X es (tX gi X.K fx)) (hs : starEach (e :: es) X.env = (false, eval e X.env) :: starEach es X.env := by rfl) : PA X (e :: es) (tX gi X.K (xD fa fx)) :=
  PA_weak (pa_cons ha hr hs) fun σ H Q ⟨en, F, g, ρ, ds, g', r0, e, k⟩ => by
    obtain ⟨x, g1, e1, e⟩ := bnd_some e
    obtain ⟨xs, g2, e2, e⟩ := bnd_some e
    cases e
    exact ⟨en, F, g, ρ, x, g1, r0, e1, fun v F1 H1 s1 r1 h1 => ⟨en, F1, g1, ρ, xs, _, r1, e2, fun w ps F2 H2 s2 r2 h2 => k _ ps F2 H2 (s1.trans s2) r2 (.d (dv_mono s2 h1) h2)⟩⟩
theorem RtsR.unprot {K : PySem.W.Frag} {en : En G} {F H : Hp} {g : G} {σ : L2.St} {ρ : Ev} {q : Addr} {o : HO} (hq : en.B q = none) : ∀ {vs : List V} {rs : List Rt} {ps : List Addr}, RtsR gi K (en.prot q o) F H g σ ρ vs rs ps → RtsR gi K en F H g σ ρ vs rs ps ∧ q ∉ ps
  | _, _, _, .nil => ⟨.nil, by simp⟩
  | _, _, _, .d h t => ⟨.d h (RtsR.unprot hq t).1, (RtsR.unprot hq t).2⟩
  | _, _, _, .o h t => ⟨.o h (RtsR.unprot hq t).1, (RtsR.unprot hq t).2⟩
  | _, _, _, .l (q := z) lo hz hd hn t => by
    obtain ⟨t1, t2⟩ := RtsR.unprot hq t
    have hB : upd en.B q o z = none := lo.2.1
    have hne : q ≠ z := fun e => by
      subst e
      rw [upd_same] at hB
      cases hB
    rw [upd_ne (Ne.symm hne)] at hB
    refine ⟨.l ⟨lo.1, hB, lo.2.2⟩ hz hd hn t1, ?_⟩
    simp only [List.mem_cons, not_or]
    exact ⟨hne, t2⟩
theorem dx_l {fl : FL G} {fx : FX G} (ha : PE X e (tL gi X.K fl)) (hr : PA X es (tX gi X.K fx)) (hs : starEach (e :: es) X.env = (false, eval e X.env) :: starEach es X.env := by rfl) : PA X (e :: es) (tX gi X.K (xL fl fx)) :=
  PA_weak (pa_cons ha hr hs) fun σ H Q ⟨en, F, g, ρ, ds, g', r0, e, k⟩ => by
    obtain ⟨x, g1, e1, e⟩ := bnd_some e
    obtain ⟨xs, g2, e2, e⟩ := bnd_some e
    cases e
    refine ⟨en, F, g, ρ, x, g1, r0, e1, fun q us F1 H1 s1 r1 l1 hq hd => ⟨en.prot q (.lst us), F1, g1, ρ, xs, _, r1.prot l1 hq, e2, fun w ps F2 H2 s2 r2 h2 => ?_⟩⟩
    obtain ⟨t1, t2⟩ := h2.unprot l1.2.1
    obtain ⟨z1, z2, z3, z4, z5⟩ := r1.unprot l1 r2
    exact k _ (q :: ps) F2 H2 (s1.trans s2) z1 (.l ⟨z2, l1.2.1, z3, z5⟩ z4 (dva_mono s2 hd) t2 t1)
def rtS : Rt → Option Sl
  | .d d => some (.val d)
  | .l ds => some (.own ds)
  | .raw v => some (.raw v)
  | .obj u => some (.obj u)
/-- the values are stored one by one -/
def setAll : List Nat → List Rt → Ev → Option Ev
  | [], [], ρ => some ρ
  | i :: is, r :: rs, ρ => setAll is rs (ρ.set i (rtS r))
  | _, _, _ => none
def setV : List Nat → List V → L2.St → L2.St
  | i :: is, v :: vs, σ => setV is vs (σ.set i (some v))
  | _, _, σ => σ
theorem Lone.set {K : PySem.W.Frag} {en : En G} {F H : Hp} {g : G} {σ : L2.St} {ρ : Ev} {q : Addr} {i : Nat} {v : V} {s : Sl} (l : Lone gi en F H g σ ρ q) (h : ¬ Ows H (some (some v)) s q) : Lone gi en F H g (σ.set i (some v)) (ρ.set i (some s)) q := by
  refine ⟨l.1, l.2.1, l.2.2.1, fun j ds e z => ?_⟩
  by_cases hj : i = j
  · subst hj
    have hl : i < ρ.length := by
      rcases Nat.lt_or_ge i ρ.length with h | h
      · exact h
      · rw [List.getElem?_eq_none (by rw [List.length_set]; exact h)] at e; cases e
    rw [List.getElem?_set_self hl] at e
    cases e
    rcases Nat.lt_or_ge i σ.length with h' | h'
    · rw [List.getElem?_set_self h'] at z
      exact h z
    · rw [List.getElem?_eq_none (by rw [List.length_set]; exact h')] at z
      cases s with
      | val d => exact z
      | raw v => exact z
      | obj u => exact z
      | fdic kvs => exact z
      | exc c => exact z
      | kdic kvs => exact z
      | own ds => cases z
      | big B => obtain ⟨_, z, _⟩ := z; cases z
  · rw [List.getElem?_set_ne hj] at e z
    exact l.2.2.2 j ds e z
theorem RtsR.set {K : PySem.W.Frag} {en : En G} {F H : Hp} {g : G} {σ : L2.St} {ρ : Ev} {i : Nat} {v : V} {s : Sl} : ∀ {vs : List V} {rs : List Rt} {ps : List Addr}, (∀ q ∈ ps, ¬ Ows H (some (some v)) s q) → RtsR gi K en F H g σ ρ vs rs ps → RtsR gi K en F H g (σ.set i (some v)) (ρ.set i (some s)) vs rs ps
  | _, _, _, _, .nil => .nil
  | _, _, _, hs, .d h t => .d h (RtsR.set hs t)
  | _, _, _, hs, .o h t => .o h (RtsR.set hs t)
  | _, _, _, hs, .l lo hz hd hn t => .l (Lone.set (K := K) lo (hs _ (List.mem_cons_self ..))) hz hd hn (RtsR.set (fun q hq => hs q (List.mem_cons_of_mem _ hq)) t)
theorem R.setAll {K : PySem.W.Frag} {en : En G} {F H : Hp} {g : G} (is : List Nat) : ∀ (σ : L2.St) (ρ ρ' : Ev) (vs : List V) (rs : List Rt) (ps : List Addr), R gi K en F H g σ ρ → RtsR gi K en F H g σ ρ vs rs ps → Dt.setAll is rs ρ = some ρ' → R gi K en F H g (Dt.setV is vs σ) ρ' := by
  induction is with
  | nil =>
    intro σ ρ ρ' vs rs ps r h e
    cases h with
    | nil => cases e; exact r
    | d => cases e
    | l => cases e
    | o => cases e
  | cons i is ih =>
    intro σ ρ ρ' vs rs ps r h e
    cases h with
    | nil => cases e
    | d hv t => exact ih _ _ _ _ _ _ (r.setV (i := i) hv) (t.set fun _ _ z => z) e
    | o hv t => exact ih _ _ _ _ _ _ (r.set (i := i) (s := .obj _) ⟨_, rfl, hv⟩ fun _ z => z.elim) (t.set fun _ _ z => z) e
    | l lo hz hd hn t => exact ih _ _ _ _ _ _ (r.setO (i := i) lo hz hd) (t.set fun q hq z => hn (by have z : some (some (V.ref _)) = some (some (V.ref q)) := z; cases z; exact hq)) e
def sPar (is : List Nat) (fx : FX G) : FS G := fun ρ => bnd (fx ρ) fun rs => bnd (lft (setAll is rs ρ)) fun ρ' => ret (.next ρ')
theorem rts_len {K : PySem.W.Frag} {en : En G} {F H : Hp} {g : G} {σ : L2.St} {ρ : Ev} : ∀ {vs : List V} {rs : List Rt} {ps : List Addr}, RtsR gi K en F H g σ ρ vs rs ps → vs.length = rs.length
  | _, _, _, .nil => rfl
  | _, _, _, .d _ t => by rw [List.length_cons, List.length_cons, rts_len t]
  | _, _, _, .o _ t => by rw [List.length_cons, List.length_cons, rts_len t]
  | _, _, _, .l _ _ _ _ t => by rw [List.length_cons, List.length_cons, rts_len t]
theorem setAll_len : ∀ {is : List Nat} {rs : List Rt} {ρ ρ' : Ev}, setAll is rs ρ = some ρ' → rs.length = is.length
  | [], [], _, _, _ => rfl
  | [], _ :: _, _, _, e => by cases e
  | _ :: _, [], _, _, e => by cases e
  | i :: is, r :: rs, ρ, ρ', e => by rw [List.length_cons, List.length_cons, setAll_len (is := is) e]
theorem rts_two {K : PySem.W.Frag} {en : En G} {F H : Hp} {g : G} {σ : L2.St} {ρ ρ' : Ev} {i j : Nat} {vs : List V} {rs : List Rt} {ps : List Addr} (h : RtsR gi K en F H g σ ρ vs rs ps) (e : setAll [i, j] rs ρ = some ρ') : ∃ v w, vs = [v, w] := by
  have hl : vs.length = 2 := (rts_len h).trans (setAll_len e)
  match vs, hl with
  | [v, w], _ => exact ⟨v, w, rfl⟩
/-- a, b = x, y: plain local names -/
theorem ds_par2 {i j : Nat} {x y : Str} {fx : FX G} {px py pt : Pos} {kt k2 : Nat} {pt2 : Pos} (hc : X.calm = true) (hN : X.N.Nodup) (hi : X.N[i]? = some x) (hj : X.N[j]? = some y) (hij : i ≠ j)
    (hx : X.env.scope.names.lookup x = some .local) (hy : X.env.scope.names.lookup y = some .local) (ha : PA X [a, b] (tX gi X.K fx))
    (hw : swappedStores [.Tuple [.Name x px, .Name y py] kt pt] (.Tuple [a, b] k2 pt2) X.env = pure (some [x, y]))
    (hs : swapsWithSole [.Tuple [.Name x px, .Name y py] kt pt] (.Tuple [a, b] k2 pt2) pos.line X.env = pure false := by rfl) :
    PS X (.Assign [.Tuple [.Name x px, .Name y py] kt pt] (.Tuple [a, b] k2 pt2) pos) (tS gi X.K (sPar [i, j] fx)) := PS_weak (ps_par hc hN hi hj hij hx hy ha hw hs) fun D σ H ⟨en, F, g, ρ, fl, g', r0, e, k⟩ => by
  obtain ⟨rs, g1, e1, e⟩ := bnd_some e
  obtain ⟨ρ', g2, e2', e⟩ := bnd_some e
  obtain ⟨e2, rfl⟩ := lft_inv e2'
  cases e
  refine ⟨en, F, g, ρ, rs, _, r0, e1, fun vs ps F' H' s' r' h' => ?_⟩
  obtain ⟨v, w, rfl⟩ := rts_two h' e2
  exact ⟨v, w, rfl, k F' H' _ s' (R.setAll _ _ _ _ _ _ _ r' h' e2)⟩
end
end Dt
namespace Dt
open PySem PySem.Spec L2
theorem PE_or {X : Cx} {e : Expr} {t u : TE} (h1 : PE X e t) (h2 : PE X e u) : PE X e (fun σ H Q => t σ H Q ∨ u σ H Q) := ⟨fun pins s σ H Q I h => h.elim (h1.run pins s σ H Q I) (h2.run pins s σ H Q I)⟩
def small (d : PyData) : Bool := d.plain && decide (d.depth ≤ 50)
def smallAll (ds : List PyData) : Bool := PyData.plainAll ds && decide (PyData.depthAll ds ≤ 50)
theorem Tp.ty {K : PySem.W.Frag} {F H : Hp} {a : Addr} {xs : List V} (h : Tp K F a xs) (e : Same F H) : TyT K (.ref a) H := by
  rcases h with ⟨us, h⟩ | ⟨o, its, n, h1, h2, h3, _⟩
  · exact ⟨a, rfl, .inl ⟨us, xs, e _ _ h⟩⟩
  · exact ⟨a, rfl, .inr ⟨o, h1, h2, h3⟩⟩
section
variable {G : Type} {gi : GI G} {X : Cx} {pos p apos : Pos} {a b o : Expr} {fa fb : FE G}
def rCountL (K : PySem.W.Frag) : V → List V → Hp → VK → Prop := fun x xs H Q => ∃ (a : Addr) (ys : List V) (y : V) (ds : List PyData) (d : PyData), x = V.ref a ∧ xs = [y] ∧ SqL K H a ys ∧ DpAll K H ys ds ∧ Dp K H y d ∧ smallAll ds = true ∧ small d = true ∧ Q (.int ((ds.countP fun z => PyData.eqv z d : Nat) : Int)) H
def rCountT (K : PySem.W.Frag) : V → List V → Hp → VK → Prop := fun x xs H Q => ∃ (a : Addr) (ys : List V) (y : V) (ds : List PyData) (d : PyData), x = V.ref a ∧ xs = [y] ∧ SqT K H a ys ∧ DpAll K H ys ds ∧ Dp K H y d ∧ smallAll ds = true ∧ small d = true ∧ Q (.int ((ds.countP fun z => PyData.eqv z d : Nat) : Int)) H
theorem mt_countL (hu : X.A.units + 64 < cLine) : MtR X "list.count" (rCountL X.K) := by
  intro pins s σ H x xs v us Q I rx rxs h
  obtain ⟨a, ys, y, ds, d, rfl, rfl, hs, hd, hy, hsm, hsd, q⟩ := h
  cases rx
  obtain ⟨u, rfl, ru⟩ := rxs.one
  obtain ⟨its, rv, pl, hz⟩ := I.list hs
  obtain ⟨as, hr⟩ := Dp.readsAll I ds ys its hd rv
  obtain ⟨bs, r2⟩ := Dp.reads I d y u hy ru
  rw [smallAll, Bool.and_eq_true, decide_eq_true_eq] at hsm
  rw [small, Bool.and_eq_true, decide_eq_true_eq] at hsd
  exact SeqAt.count_list_data pl.isList (by simpa using hr) r2 hsm.1 hsd.1 (by omega) ⟨.int _, H, I.tok _, ⟨_, rfl⟩, q⟩
theorem mt_countT (hu : X.A.units + 64 < cLine) : MtR X "tuple.count" (rCountT X.K) := by
  intro pins s σ H x xs v us Q I rx rxs h
  obtain ⟨a, ys, y, ds, d, rfl, rfl, hs, hd, hy, hsm, hsd, q⟩ := h
  cases rx
  obtain ⟨u, rfl, ru⟩ := rxs.one
  obtain ⟨its, rv, pl, hz⟩ := I.tuple hs
  obtain ⟨as, hr⟩ := Dp.readsAll I ds ys its hd rv
  obtain ⟨bs, r2⟩ := Dp.reads I d y u hy ru
  rw [smallAll, Bool.and_eq_true, decide_eq_true_eq] at hsm
  rw [small, Bool.and_eq_true, decide_eq_true_eq] at hsd
  exact SeqAt.count_tuple_data pl (by simpa using hr) r2 hsm.1 hsd.1 (by omega) ⟨.int _, H, I.tok _, ⟨_, rfl⟩, q⟩
def sCount : PyData → PyData → Option PyData
  | .list ds, d => if smallAll ds = true ∧ small d = true then some (.int ((ds.countP fun z => PyData.eqv z d : Nat) : Int)) else none
  | .tuple ds, d => if smallAll ds = true ∧ small d = true then some (.int ((ds.countP fun z => PyData.eqv z d : Nat) : Int)) else none
  | _, _ => none
theorem de_count {nm : Str} (hl : ∀ {t : TA}, PA X [b] t → PE X (.Call (.Attribute o nm apos) [b] [] pos) (tBM X.K "list" (rCountL X.K) (tQ gi X.K fa) t)) (ht : ∀ {t : TA}, PA X [b] t → PE X (.Call (.Attribute o nm apos) [b] [] pos) (tTM X.K (rCountT X.K) (tQ gi X.K fa) t))
    (hb : PE X b (tQ gi X.K fb)) (he2 : starEach [b] X.env = (false, eval b X.env) :: starEach [] X.env := by rfl) : PE X (.Call (.Attribute o nm apos) [b] [] pos) (tE gi X.K (e2 sCount fa fb)) :=
  PE_weak (PE_or (hl (pa_cons hb pa_nil he2)) (ht (pa_cons hb pa_nil he2))) fun σ H Q h => by
    obtain ⟨en, F, g, ρ, d, g', r0, e, k⟩ := h
    obtain ⟨x, g1, e1, e⟩ := bnd_some e
    obtain ⟨y, g2, e2, e⟩ := bnd_some e
    obtain ⟨e3, rfl⟩ := lft_inv e
    unfold sCount at e3
    split at e3
    · split at e3
      · rename_i hc
        cases e3
        refine .inl ⟨en, F, g, ρ, _, g1, r0, e1, fun v F1 H1 s1 r1 h1 => ?_⟩
        obtain ⟨a, us, rfl, hh, ha⟩ := h1.lst r1
        refine ⟨.inl ⟨rfl, us, .inl (.inl hh)⟩, en, F1, g1, ρ, y, g2, r1, e2, fun w F2 H2 s2 r2 h2 => ?_⟩
        obtain ⟨a', us', ea, hh', ha'⟩ := (h1.mono s2).lst r2
        cases ea
        exact ⟨a, us', w, _, y, rfl, rfl, .inl (.inl hh'), ha'.dp r2.sub, h2.dp r2, hc.1, hc.2, k _ F2 H2 (s1.trans s2) r2 (.int _)⟩
      · cases e3
    · split at e3
      · rename_i hc
        cases e3
        refine .inr ⟨en, F, g, ρ, _, g1, r0, e1, fun v F1 H1 s1 r1 h1 => ?_⟩
        obtain ⟨a, us, rfl, hf, hh, ha⟩ := h1.tup r1
        refine ⟨hf.ty r1.sub, en, F1, g1, ρ, y, g2, r1, e2, fun w F2 H2 s2 r2 h2 => ?_⟩
        exact ⟨a, us, w, _, y, rfl, rfl, hf.sq (s2.trans r2.sub), (dva_mono s2 ha).dp r2.sub, h2.dp r2, hc.1, hc.2, k _ F2 H2 (s1.trans s2) r2 (.int _)⟩
      · cases e3
    · cases e3
def sIndex : PyData → PyData → Option PyData
  | .list ds, d => if shp (.list ds) = true ∧ shp d = true then (ds.findIdx? fun z => PyData.eqv z d).map fun (j : Nat) => PyData.int (j : Int) else none
  | _, _ => none
theorem sem_index : Sem1M gi X.K "list" (rIndexD X.K) sIndex := by
  refine ⟨fun en F H g σ ρ x dx r hx ⟨dy, d, e⟩ => ?_, fun en F H g σ ρ x y dx dy d Q r hx hy e k => ?_⟩
  · unfold sIndex at e
    split at e
    · obtain ⟨a, us, rfl, hh, ha⟩ := hx.lst r
      exact .inl ⟨rfl, us, .inl (.inl hh)⟩
    · cases e
  · unfold sIndex at e
    split at e
    · split at e
      · rename_i hc
        obtain ⟨j, h1, rfl⟩ := Option.map_eq_some_iff.mp e
        obtain ⟨a, us, rfl, hh, ha⟩ := hx.lst r
        rw [List.findIdx?_eq_some_iff_getElem] at h1
        obtain ⟨hj, h2, h3⟩ := h1
        refine ⟨a, y, dy, _, j, _, rfl, rfl, hx.dp r, hy.dp r, hc.1, hc.2, List.getElem?_eq_getElem hj, h2, fun m z hm hz => ?_, k _ F H (Same.refl F) r (.int _)⟩
        obtain ⟨hm', rfl⟩ := List.getElem?_eq_some_iff.mp hz
        exact Bool.eq_false_iff.mpr (h3 m hm)
      · cases e
    · cases e
theorem de_m1' {nm : Str} {T : String} {r : V → List V → Hp → VK → Prop} {sem : PyData → PyData → Option PyData} (hs : Sem1M gi X.K T r sem)
    (w : ∀ {t : TA}, PA X [b] t → PE X (.Call (.Attribute o nm apos) [b] [] pos) (tBM X.K T r (tQ gi X.K fa) t)) (hb : PE X b (tQ gi X.K fb))
    (he2 : starEach [b] X.env = (false, eval b X.env) :: starEach [] X.env := by rfl) : PE X (.Call (.Attribute o nm apos) [b] [] pos) (tE gi X.K (e2 sem fa fb)) :=
  PE_weak (w (pa_cons hb pa_nil he2)) fun σ H Q h => by
    obtain ⟨en, F, g, ρ, d, g', r0, e, k⟩ := h
    obtain ⟨x, g1, e1, e⟩ := bnd_some e
    obtain ⟨y, g2, e2, e⟩ := bnd_some e
    obtain ⟨e3, rfl⟩ := lft_inv e
    exact ⟨en, F, g, ρ, x, g1, r0, e1, fun v F1 H1 s1 r1 h1 => ⟨hs.1 en F1 H1 g1 σ ρ v x r1 h1 ⟨y, d, e3⟩, en, F1, g1, ρ, y, g2, r1, e2, fun w F2 H2 s2 r2 h2 => hs.2 en F2 H2 g2 σ ρ v w x y d Q r2 (h1.mono s2) h2 e3 fun v F' H' s3 r3 h3 => k v F' H' ((s1.trans s2).trans s3) r3 h3⟩⟩
def isT : String → PyData → Option Bool
  | "int", d => some d.isInt
  | "bool", d => some d.isBool
  | "tuple", d => some d.isTuple
  | "str", d => some d.isStr
  | "list", d => some d.isList
  | _, _ => none
def rIsD (K : PySem.W.Frag) : List V → Hp → VK → Prop := fun vs H Q => ∃ (x : V) (d : PyData) (T : String) (k : Bool), vs = [x, .ty T] ∧ Dp K H x d ∧ isT T d = some k ∧ Q (.bl k) H
theorem cr_isD : CallR X (.builtin "isinstance") (rIsD X.K) := by
  intro pins s σ H vs us Q I r h
  obtain ⟨x, d, T, k, rfl, hd, hk, q⟩ := h
  obtain ⟨u, t, rfl, ru, rt⟩ := vals2 r
  obtain rfl : t = .type T := rt
  obtain ⟨as, hr⟩ := Dp.reads I d x u hd ru
  unfold isT at hk
  split at hk <;> first | cases hk; done | skip
  · cases hk; exact W.isinstance_int_data hr fun tk _ => ⟨.bl _, H, I.tok _, rfl, q⟩
  · cases hk; exact W.isinstance_bool_data hr fun tk _ => ⟨.bl _, H, I.tok _, rfl, q⟩
  · cases hk; exact W.isinstance_tuple_data hr fun tk _ => ⟨.bl _, H, I.tok _, rfl, q⟩
  · cases hk; exact W.isinstance_str_data hr fun tk _ => ⟨.bl _, H, I.tok _, rfl, q⟩
  · cases hk; exact W.isinstance_list_data hr fun tk _ => ⟨.bl _, H, I.tok _, rfl, q⟩
def eIs (T : String) (fa : FE G) : FE G := fun ρ => bnd (fa ρ) fun x => bnd (lft (isT T x)) fun k => ret (.bool k)
theorem de_isT {T : String} (hg : Gl X "isinstance") (hm : X.mg "isinstance" = none) (hv : bootBuiltins "isinstance" = some (.builtin "isinstance")) (ha : PE X a (tQ gi X.K fa)) (hb : PE X b (tC (.ty T)))
    (he : starEach [a, b] X.env = (false, eval a X.env) :: starEach [b] X.env := by rfl) (he2 : starEach [b] X.env = (false, eval b X.env) :: starEach [] X.env := by rfl) (hpl : (backTo pos (starEach [b] X.env)).any (·.1) = false := by rfl) :
    PE X (.Call (.Name "isinstance" p) [a, b] [] pos) (tE gi X.K (eIs T fa)) :=
  PE_weak (pe_callB cr_isD hg hm hv (pa_cons ha (pa_cons hb pa_nil he2) he) (by decide) (by decide) he hpl) fun σ H Q ⟨en, F, g, ρ, d, g', r0, e, k⟩ => by
    obtain ⟨y, g1, e1, e⟩ := bnd_some e
    obtain ⟨kk, g2, e2', e⟩ := bnd_some e
    obtain ⟨e2, rfl⟩ := lft_inv e2'
    cases e
    exact ⟨en, F, g, ρ, y, _, r0, e1, fun v F1 H1 s1 r1 h1 => ⟨v, y, T, kk, rfl, h1.dp r1, e2, k _ F1 H1 s1 r1 (.bl _)⟩⟩
end
end Dt
namespace Dt
open PySem PySem.Spec L2
section
variable {P : Program} {w : World} {K : PySem.W.Frag} {mg : Str → Option Value} {base : Heap}
theorem h64_of {A : Around} {k : Nat} (hr : Room k A) : A.units + 64 < cLine := by have := hr.un; omega
theorem h65_of {A : Around} {k : Nat} (hr : Room k A) : A.units + 65 < cLine := by have := hr.un; omega
/-- the draws begin -/
structure Begun (H : Hp) (t r : Addr) (H' : Hp) : Prop where
  ht : H t = none
  hr : H r = none
  ne : t ≠ r
  at_ : H' t = some (.dK [(kCount, .int 0), (kRests, .ref r)])
  ar : H' r = some (.dK [])
  el : ∀ a, a ≠ t → a ≠ r → H' a = H a
def spBegun : Sp := fun vs H Q _ => vs = [] ∧ ∀ t r H', Begun H t r H' → Q (.ref t) H'
theorem begun_of {H : Hp} {t r : Addr} (ht : H t = none) (hr : (upd H t (.dK [])) r = none) : Begun H t r (upd (upd (upd H t (.dK [])) r (.dK [])) t (.dK (mergeK [] [(kCount, .int 0), (kRests, .ref r)]))) := by
  have ne : t ≠ r := fun e => by
    subst e
    rw [upd_same] at hr
    cases hr
  refine ⟨ht, ?_, ne, ?_, ?_, fun a h1 h2 => ?_⟩
  · rw [upd_ne (Ne.symm ne)] at hr; exact hr
  · rw [upd_same]
    rfl
  · rw [upd_ne (Ne.symm ne), upd_same]
  · rw [upd_ne h1, upd_ne h2, upd_ne h1]
def tBegun (i : Nat) : TS := fun D σ H => ∀ t r H', Begun H t r H' → D.nx (σ.set i (some (.ref t))) H'
def tw0 (a t r : Addr) (tr : Bool) (ns : List Int) : Tw := ⟨a, t, r, tr, ns, 0, []⟩
def lawE (n : Nat) (a t : Addr) : Ev := some (.raw (.ref a)) :: some (.raw (.ref t)) :: List.replicate (n - 2) none
def spLaw (K : PySem.W.Frag) (T : List (Addr × Str)) : Sp := fun vs H Q _ => ∃ (a : Addr) (ns : List Int), vs = [.ref a] ∧ (∀ p ∈ T, H p.1 = some (.tbl #[])) ∧ SqL K H a (ns.map V.int) ∧ ns.length ≤ 63 ∧ ∀ H', Q (.bl true) H'
theorem begun_rel {H H' : Hp} {a t r : Addr} {ns : List Int} (b : Begun H t r H') (h : SqL K H a (ns.map V.int)) : ∃ tr, twR K (tw0 a t r tr ns) H' := by
  rcases h with h | h
  · have n1 : a ≠ t := fun e => by subst e; rcases h with h | ⟨o, h⟩ <;> (rw [b.ht] at h; cases h)
    have n2 : a ≠ r := fun e => by subst e; rcases h with h | ⟨o, h⟩ <;> (rw [b.hr] at h; cases h)
    refine ⟨true, b.at_, b.ar, b.ne, fun _ => ⟨n1, n2, ?_⟩, fun z => by cases z⟩
    have e := b.el a n1 n2
    rcases h with h | ⟨o, h⟩
    · exact .inl (e.trans h)
    · exact .inr ⟨o, e.trans h⟩
  · exact ⟨false, b.at_, b.ar, b.ne, fun z => (by cases z), fun _ _ => .inr h⟩
theorem tw0_ok {a t r : Addr} {tr : Bool} {ns : List Int} (h : ns.length ≤ 63) : (tw0 a t r tr ns).Ok := ⟨fun p hp => (by cases hp), fun p hp => (by cases hp), (by simp [tw0]), h⟩
theorem R.first {T : List (Addr × Str)} {cl : Str → Option Addr} {H : Hp} {g : Tw} {N : Nat} {a t : Addr} (h : twR K g H) (hT : ∀ p ∈ T, H p.1 = some (.tbl #[])) : R (twGI K w T cl) K (En.of H (fun _ => none) g) (fun _ => none) H g (some (.ref a) :: some (.ref t) :: List.replicate N none) (some (.raw (.ref a)) :: some (.raw (.ref t)) :: List.replicate N none) := by
  have hTF : TabF T (fun _ => none) H := fun p hp => by
    refine ⟨#[], hT p hp, True.intro, fun pos cv hc => ?_⟩
    have z : codeAmong pos [] = some cv := hc
    simp [codeAmong] at z
  have no : ∀ (i : Nat) (s : Sl), (some (Sl.raw (.ref a)) :: some (.raw (.ref t)) :: List.replicate N none)[i]? = some (some s) → (i = 0 ∧ s = .raw (.ref a)) ∨ (i = 1 ∧ s = .raw (.ref t)) := fun i s e => by
    match i, e with
    | 0, e => cases e; exact .inl ⟨rfl, rfl⟩
    | 1, e => cases e; exact .inr ⟨rfl, rfl⟩
    | i + 2, e =>
      simp only [List.getElem?_cons_succ, List.getElem?_replicate] at e
      split at e <;> cases e
  refine ⟨fun a o h => (by cases h), fun a o h => h, fun a o h => (by cases h), fun a o h _ => noT_sub h, fun a o h => (by cases h), fun a h => h, fun a h => .inl h, ⟨h, hTF⟩, ⟨fun a ps z => (nomatch z), noT_nt H⟩, fun i s e => ?_, fun i j s u b e _ e3 _ => ?_, by simp⟩
  · rcases no i s e with ⟨rfl, rfl⟩ | ⟨rfl, rfl⟩ <;> rfl
  · rcases no i _ e with ⟨_, z⟩ | ⟨_, z⟩ <;> (subst z; exact e3.elim)
section
variable {x qual : Str} {st : Stmt} {f : Addr} {fd : FuncData} {ps ks : List Str} {dvs : List V}
/-- a keyword call, no defaults -/
theorem kb0 {g : List Value → List Value → List Value} {gV : List V → List V → List V} (F : DFn K x qual st [] f fd) (hrel : ∀ {vs : List V} {us : List Value} {zs : List V} {ws : List Value}, Vals vs us → Vals zs ws → Vals (gV vs zs) (g us ws))
    (h : ∀ (kV doc pm : Value) (an : Option Addr) (cdv ct : Value) (us ws : List Value), (g us ws).length = ps.length → bindArgs (PySem.W.fnOf x qual (defArgs st) (defBody st) (defScope st) .none kV doc pm an cdv ct) ⟨us, ks.zip ws⟩ = pure (ps.zip (g us ws))) : KBinds K fd ps ks g gV := by
  obtain ⟨oc, od, dV, kV, doc, pm, an, cdv, ct, osl, rfl, lk, hcd, hD, hK⟩ := F.ex
  rcases hD with ⟨_, rfl⟩ | ⟨e, _⟩
  · exact ⟨fun s us ws X hl => .of_eq (h kV doc pm an cdv ct us ws hl), hrel⟩
  · exact absurd rfl e
end
end
section
theorem b_len : bootBuiltins "len" = some (.builtin "len") := by decide +kernel
theorem b_min : bootBuiltins "min" = some (.builtin "min") := by decide +kernel
theorem b_all : bootBuiltins "all" = some (.builtin "all") := by decide +kernel
theorem b_isinstance : bootBuiltins "isinstance" = some (.builtin "isinstance") := by decide +kernel
theorem b_tuple : bootBuiltins "tuple" = some (.type "tuple") := by decide +kernel
theorem b_list : bootBuiltins "list" = some (.type "list") := by decide +kernel
theorem b_int : bootBuiltins "int" = some (.type "int") := by decide +kernel
theorem b_bool : bootBuiltins "bool" = some (.type "bool") := by decide +kernel
theorem b_str : bootBuiltins "str" = some (.type "str") := by decide +kernel
end
end Dt
namespace Dt
open PySem PySem.Spec L2
end Dt
namespace Dt
open PySem PySem.Spec L2
end Dt
namespace Dt
open PySem PySem.Spec L2
section
variable {G : Type} {gi : GI G} {X : Cx} {pos p p2 q : Pos} {a b : Expr} {fa fb : FE G}
def sLrng : PyData → Option (List PyData)
  | .int n => if -1000 ≤ n ∧ n ≤ 1000000 then some (rng 0 n.toNat) else none
  | _ => none
theorem rgV_rng {K : PySem.W.Frag} {F : Hp} (n : Int) : DvAll K F (rgV 0 n) (rng 0 n.toNat) := by
  unfold rgV rng
  rw [show (n - 0).toNat = n.toNat by rw [Int.sub_zero]]
  induction List.range n.toNat with
  | nil => exact .nil
  | cons i l ih => exact .cons (.int _) ih
theorem dl_lrng (hg : Gl X "list") (hm : X.mg "list" = none) (hg2 : Gl X "range") (hm2 : X.mg "range" = none) (ha : PE X a (tE gi X.K fa)) (hc : X.calm = true := by rfl)
    (na : starEach [a] X.env = (false, eval a X.env) :: starEach [] X.env := by rfl)
    (nb : starEach [.Call (.Name "range" p2) [a] [] q] X.env = (false, eval (.Call (.Name "range" p2) [a] [] q) X.env) :: starEach [] X.env := by rfl) :
    PE X (.Call (.Name "list" p) [.Call (.Name "range" p2) [a] [] q] [] pos) (tL gi X.K (l1 sLrng fa)) :=
  PE_weak (pe_listRg hc hg hm (prg_1 hg2 hm2 ha na) nb) fun σ H Q ⟨en, F, g, ρ, ds, g', r, e, k⟩ => by
    obtain ⟨x, g1, e1, e⟩ := bnd_some e
    obtain ⟨e3, rfl⟩ := lft_inv e
    refine ⟨en, F, g, ρ, x, g1, r, e1, fun v F1 H1 s1 r1 h1 => ?_⟩
    unfold sLrng at e3
    split at e3
    · split at e3
      · rename_i n hn
        cases e3
        cases h1
        refine ⟨n, rfl, ⟨by decide, by decide, by omega, by omega, by omega⟩, fun w hw => ?_⟩
        exact k w _ F1 _ s1 (r1.alloc0 hw) ((r1.lone_of hw).keep (r1.free hw).1) upd_same (rgV_rng n)
      · cases e3
    · cases e3
def sPop (i j : Nat) (fa : FE G) : FS G := fun ρ => match ρ[j]? with
  | some (some (.own ds)) => bnd (fa ρ) fun d => match d with
    | .int k => if 0 ≤ k ∧ k < (ds.length : Int) ∧ ds.length ≤ lim then bnd (lft ds[k.toNat]?) fun y => ret (.next ((ρ.set j (some (.own (ds.eraseIdx k.toNat)))).set i (some (.val y)))) else fail
    | _ => fail
  | _ => fail
theorem ds_pop (i j : Nat) {x l : Str} {px pl ap cp : Pos} (hN : X.N.Nodup) (hi : X.N[i]? = some x) (hx : Loc X.env.scope x)
    (w : ∀ {t : TA}, PA X [a] t → PE X (.Call (.Attribute (.Name l pl) "pop" ap) [a] [] cp) (tBM X.K "list" rPopAt (tVar j) t)) (ha : PE X a (tE gi X.K fa))
    (he2 : starEach [a] X.env = (false, eval a X.env) :: starEach [] X.env := by rfl)
    (hs : swapsWith (.Call (.Attribute (.Name l pl) "pop" ap) [a] [] cp) (some (.Name x px)) pos.line X.env = pure false := by rfl)
    (hf : X.fn x = true ∨ X.env.scope.names.lookup x = some .local := by first | exact .inl rfl | exact .inr rfl | assumption) :
    PS X (.Assign [.Name x px] (.Call (.Attribute (.Name l pl) "pop" ap) [a] [] cp) pos) (tS gi X.K (sPop i j fa)) :=
  PS_weak (ps_set (i := i) hN hi hx (w (pa_cons ha pa_nil he2)) hs hf) fun D σ H ⟨en, F, g, ρ, fl, g', r, e, k⟩ => by
    unfold sPop at e
    rcases hr : ρ[j]? with _ | _ | ⟨d' | ds | w⟩ <;> rw [hr] at e <;> first | cases e; done | skip
    obtain ⟨y, g1, e1, e⟩ := bnd_some e
    obtain ⟨q, xs, h1, h2, _⟩ := r.sl j _ hr
    refine ⟨.ref q, h1, .inl ⟨rfl, xs, .inl (.inl h2)⟩, en, F, g, ρ, y, g1, r, e1, fun w F1 H1 s1 r1 hw => ?_⟩
    obtain ⟨q', us, h1', h2', _, _, _, h6⟩ := r1.sl j _ hr
    rw [h1] at h1'
    cases h1'
    cases y <;> first | cases e; done | skip
    rename_i z
    simp only at e
    split at e
    · rename_i hz
      obtain ⟨y, g2, e2, e⟩ := bnd_some e
      obtain ⟨e3, rfl⟩ := lft_inv e2
      cases e
      cases hw
      obtain ⟨v, h7, h8⟩ := h6.get e3
      have hlen := h6.len
      refine ⟨q, us, z, z.toNat, v, rfl, rfl, h2', by omega, ?_, ?_, h7, ?_⟩
      · have : ds.length ≤ 16000000 := hz.2.2
        omega
      · unfold seqIndex?
        rw [if_neg (show ¬ z < 0 by omega)]
        have c : (decide (0 ≤ z) && decide (z < ((us.length : Nat) : Int))) = true := by
          rw [Bool.and_eq_true, decide_eq_true_eq, decide_eq_true_eq]
          omega
        show (if (decide (0 ≤ z) && decide (z < ((us.length : Nat) : Int))) = true then some z.toNat else none) = some z.toNat
        rw [if_pos c]
      · exact k F1 _ _ s1 ((r1.chgO hr h1 (h6.erase z.toNat)).setV h8)
    · cases e
def ddp (ns : List Int) : List Int := ns.foldl PyProof.Rows.step_dedup []
theorem firstMet_all (ns : List Int) : PyProof.Rows.firstMet (fun i => ns.getD i 0) ns.length = ddp ns := by
  unfold PyProof.Rows.firstMet ddp
  congr 1
  apply List.ext_getElem?
  intro i
  rw [List.getElem?_map]
  rcases Nat.lt_or_ge i ns.length with h | h
  · rw [List.getElem?_range h, List.getElem?_eq_getElem h]
    show some (ns.getD i 0) = _
    rw [List.getD_eq_getElem?_getD, List.getElem?_eq_getElem h]
    rfl
  · rw [List.getElem?_eq_none (by simpa using h), List.getElem?_eq_none h]
    rfl
def sLenSet : PyData → Option PyData
  | .list ds => match allM toI ds with
    | some ns => if ns.length ≤ 1000 then some (.int (ddp ns).length) else none
    | none => none
  | _ => none
theorem intsAre_of : ∀ {ns : List Int} {us : List Value}, Vals (ns.map V.int) us → PyProof.Rows.IntsAre us ns
  | [], _, .nil => .nil
  | n :: ns, _, .cons r t => by
    obtain ⟨k, rfl⟩ := r
    exact .cons n k (intsAre_of t)
theorem de_lenset (hc : X.calm = true) (hg : Gl X "len") (hm : X.mg "len" = none) (hg2 : Gl X "set") (hm2 : X.mg "set" = none) (ha : PE X a (tQ gi X.K fa))
    (na : starEach [a] X.env = (false, eval a X.env) :: starEach [] X.env := by rfl) : PE X (.Call (.Name "len" p) [.Call (.Name "set" p2) [a] [] q] [] pos) (tE gi X.K (e1 sLenSet fa)) := by
  refine PE_weak (t := fun σ H Q => tQ gi X.K fa σ H fun x H1 => ∃ (l : Addr) (ns : List Int), x = .ref l ∧ SqL X.K H1 l (ns.map V.int) ∧ ns.length ≤ 1000 ∧ Q (.int (ddp ns).length) H1) ⟨fun pins s σ H Q I h => ?_⟩ fun σ H Q ⟨en, F, g, ρ, d, g', r, e, k⟩ => ?_
  · refine PyProof.Rows.Call_ (ld_blt I hg hm PySem.boot_len (PyProof.Rows.callWith_builtin1 (PyProof.Rows.args_cons (PyProof.Rows.Call_ (ld_blt I hg2 hm2 PyProof.Rows.boot_set (PyProof.Rows.callWith_type1 (PyProof.Rows.args_cons (thn (ha.run pins s σ H _ I h) fun v s1 ⟨x, H1, I1, r1, q1⟩ => PyProof.Rows.args_nil ?_) na) na rfl))) rfl) rfl rfl))
    obtain ⟨l, ns, rfl, hq, hl, q1⟩ := q1
    cases r1
    obtain ⟨its, rv, pl, hz⟩ := I1.list hq
    have hlen : its.toArray.size = ns.length := by rw [List.size_toArray, ← rv.length, List.length_map]
    refine call_set_list (I1.ok.hd hc) pl.isList (by simpa using intsAre_of rv) (by rw [hlen]; unfold scanBound; omega) fun h' tk hS hk => ?_
    rw [hlen, firstMet_all] at hS
    obtain ⟨o, es, ep, t, ho, hex, hd, _, _, _, hf, hn⟩ := hS
    have I2 : Inv X pins σ H1 { s1 with heap := h', toks := tk } := I1.kept fun b o e => hk b o (Heap.lt_size e) e
    refine PyProof.Rows.args_nil (call_len_set ho hex hd hf ?_ ⟨.int (ddp ns).length, H1, I2.tok _, ⟨_, by rw [hn]⟩, q1⟩)
    rw [hn]
    have : ∀ (ns acc : List Int), (ns.foldl PyProof.Rows.step_dedup acc).length ≤ acc.length + ns.length := fun ns => by
      induction ns with
      | nil => intro acc; simp
      | cons n ns ih =>
        intro acc
        rw [List.foldl_cons, List.length_cons]
        have h1 := ih (PyProof.Rows.step_dedup acc n)
        have h2 : (PyProof.Rows.step_dedup acc n).length ≤ acc.length + 1 := by
          unfold PyProof.Rows.step_dedup
          split
          · omega
          · rw [List.length_append]; simp
        omega
    have := this ns []
    unfold ddp
    simp only [List.length_nil] at this
    omega
  · obtain ⟨x, g1, e1, e⟩ := bnd_some e
    obtain ⟨e3, rfl⟩ := lft_inv e
    refine ⟨en, F, g, ρ, x, g1, r, e1, fun v F1 H1 s1 r1 h1 => ?_⟩
    unfold sLenSet at e3
    split at e3
    · split at e3
      · rename_i ns hns
        split at e3
        · rename_i hl
          cases e3
          cases allM_ints hns
          obtain ⟨a, us, rfl, hh, ha⟩ := h1.lst r1
          exact ⟨a, ns, rfl, .inl (.inl (by rw [hh, ha.of_ints])), hl, k _ F1 H1 s1 r1 (.int _)⟩
        · cases e3
      · cases e3
    · cases e3
def sAug (i : Nat) (fa : FE G) : FS G := fun ρ => match ρ[i]? with
  | some (some (.val (.int n))) => bnd (fa ρ) fun d => match d with
    | .int m => ret (.next (ρ.set i (some (.val (.int (n + m))))))
    | _ => fail
  | _ => fail
end
end Dt
namespace Dt
open PySem PySem.Spec PyProof.Rows L2
end Dt
namespace Dt
open PySem PySem.Spec PyProof.Rows HT L2
end Dt
namespace Dt
open PySem PySem.Spec L2
section
variable {G : Type} {gi : GI G} {X : Cx} {a b c tg : Expr} {pos : Pos}
theorem Lone.keepA {K : PySem.W.Frag} {en : En G} {F H : Hp} {g : G} {σ : L2.St} {ρ : Ev} {p z : Addr} {o : HO} (r : R gi K en F H g σ ρ) (hp : H p = none) (l : Lone gi en F H g σ ρ z) : Lone gi en F (upd H p o) g σ ρ z :=
  ⟨l.1, l.2.1, l.2.2.1, fun i s e h => l.2.2.2 i s e ((Ows.off (fun b h => upd_ne h) ((r.lone_of hp).2.2.2 i s e) z).mp h)⟩
theorem RtsR.alloc {K : PySem.W.Frag} {en : En G} {F H : Hp} {g : G} {σ : L2.St} {ρ : Ev} {p : Addr} {o : HO} (r : R gi K en F H g σ ρ) (hp : H p = none) : ∀ {vs : List V} {rs : List Rt} {ps : List Addr}, RtsR gi K en F H g σ ρ vs rs ps → RtsR gi K en F (upd H p o) g σ ρ vs rs ps
  | _, _, _, .nil => .nil
  | _, _, _, .d h t => .d h (RtsR.alloc r hp t)
  | _, _, _, .o h t => .o h (RtsR.alloc r hp t)
  | _, _, _, .l (q := z) lo hz hd hn t => .l (lo.keepA r hp) (by rw [upd_ne (fun e => by rw [e, hp] at hz; cases hz)]; exact hz) hd hn (RtsR.alloc r hp t)
end
end Dt
namespace Dt
open PySem PySem.Spec L2
def kOf : PyData → Option Key
  | .int i => some (.inl i)
  | .str x => some (.inr x)
  | _ => none
def dV : PyData → Option V
  | .int i => some (.int i)
  | .str x => some (.str x)
  | .bool b => some (.bl b)
  | .none => some .non
  | _ => none
theorem kOf_dv {K : PySem.W.Frag} {F : Hp} {v : V} {d : PyData} {k : Key} (h : Dv K F v d) (e : kOf d = some k) : v = kV k := by
  cases h <;> cases e <;> rfl
theorem b_dict : bootBuiltins "dict" = some (.type "dict") := by decide +kernel
theorem h1_of {A : Around} {k : Nat} (hr : Room k A) : A.units + 1 < cLine := by have := hr.un; omega
section
variable {G : Type} {gi : GI G} {X : Cx} {e a b c o : Expr} {es : List Expr} {pos p apos cpos : Pos} {fa fb fk fd : FE G} {ga : FA G}
/-- the thing at q, no table -/
def Is (H : Hp) (q : Addr) (u : HO) : Prop := H q = some u ∧ ∀ ps, u ≠ .tbl ps
abbrev FP (G : Type) := HO → Ev → M G HO
variable {i : Nat} {f1 f2 : FP G} {st : Stmt} {sts sts' rest : List Stmt} {tc : FT G} {fv : FE G}
end
end Dt
namespace Dt
open PySem PySem.Spec L2
end Dt
namespace Dt
open PySem PySem.Spec L2
section
variable {G : Type} {gi : GI G} {X : Cx} {e a b c tg : Expr} {pos : Pos} {q : FL G}
theorem LsR.len {K : PySem.W.Frag} {F H : Hp} : ∀ {ps : List Addr} {dss : List (List PyData)}, LsR K F H ps dss → ps.length = dss.length
  | _, _, .nil => rfl
  | _, _, .cons _ _ t => by rw [List.length_cons, List.length_cons, LsR.len t]
theorem LsR.app {K : PySem.W.Frag} {F H : Hp} : ∀ {ps qs : List Addr} {dss ess : List (List PyData)}, LsR K F H ps dss → LsR K F H qs ess → LsR K F H (ps ++ qs) (dss ++ ess)
  | _, _, _, _, .nil, s => s
  | _, _, _, _, .cons h h' t, s => .cons h h' (LsR.app t s)
theorem LsR.get {K : PySem.W.Frag} {F H : Hp} : ∀ {ps : List Addr} {dss : List (List PyData)} {i : Nat} {ds : List PyData}, LsR K F H ps dss → dss[i]? = some ds → ∃ p xs, ps[i]? = some p ∧ H p = some (.lst xs) ∧ DvAll K F xs ds
  | _, _, _, _, .nil, h => by simp at h
  | _, _, 0, _, .cons a b _, e => by simp at e; subst e; exact ⟨_, _, rfl, a, b⟩
  | _, _, i + 1, d, .cons _ _ t, e => by
    obtain ⟨p, xs, h1, h2⟩ := LsR.get (i := i) (ds := d) t (by simpa using e)
    exact ⟨p, xs, by simpa using h1, h2⟩
theorem LsR.set {K : PySem.W.Frag} {F H : Hp} {p : Addr} {ys : List V} {es : List PyData} (hy : DvAll K F ys es) : ∀ {ps : List Addr} {dss : List (List PyData)} {j : Nat}, ps.Nodup → ps[j]? = some p → LsR K F H ps dss → LsR K F (upd H p (.lst ys)) ps (dss.set j es)
  | _, _, _, _, h, .nil => by simp at h
  | q :: ps, _ :: dss, 0, nd, h, .cons a b t => by
    simp at h
    subst h
    rw [List.nodup_cons] at nd
    exact .cons upd_same hy (t.keep (Same.refl F) fun x hx => upd_ne fun z => nd.1 (z ▸ hx))
  | q :: ps, _ :: dss, j + 1, nd, h, .cons a b t => by
    rw [List.nodup_cons] at nd
    have h : ps[j]? = some p := (List.getElem?_cons_succ).symm.trans h
    have ne : q ≠ p := fun z => nd.1 (z ▸ List.mem_of_getElem? h)
    exact .cons (by rw [upd_ne ne]; exact a) b (LsR.set hy nd.2 h t)
open Classical in
noncomputable def frzH (F H : Hp) (o : Option (Option V)) (s : Sl) : Hp := fun a => if Ows H o s a then H a else F a
theorem R.frz {K : PySem.W.Frag} {en : En G} {F H : Hp} {g : G} {σ : L2.St} {ρ : Ev} (r : R gi K en F H g σ ρ) {i : Nat} {s u : Sl} (hi : ρ[i]? = some (some s)) (hu : SlotR gi K (frzH F H σ[i]? s) H en g σ[i]? u) (no : isOwn (some (some u)) = false) :
    R gi K en (frzH F H σ[i]? s) H g σ (ρ.set i (some u)) ∧ Same F (frzH F H σ[i]? s) := by
  have fs := r.sl i s hi
  have sF : Same F (frzH F H σ[i]? s) := fun a o h => by
    unfold frzH
    split
    · rename_i c
      rw [(fs.facts c).1] at h
      cases h
    · exact h
  have cs : ∀ a o, frzH F H σ[i]? s a = some o → (Ows H σ[i]? s a ∧ H a = some o) ∨ F a = some o := fun a o h => by
    unfold frzH at h
    split at h
    · rename_i c; exact .inl ⟨c, h⟩
    · exact .inr h
  have hl : i < ρ.length := by
    rcases Nat.lt_or_ge i ρ.length with h | h
    · exact h
    · rw [List.getElem?_eq_none h] at hi; cases hi
  have at_ : ∀ (j : Nat) (w : Sl), (ρ.set i (some u))[j]? = some (some w) → (j = i ∧ w = u) ∨ (j ≠ i ∧ ρ[j]? = some (some w)) := fun j w e => by
    by_cases hj : i = j
    · subst hj
      rw [List.getElem?_set_self hl] at e
      cases e
      exact .inl ⟨rfl, rfl⟩
    · rw [List.getElem?_set_ne hj] at e
      exact .inr ⟨Ne.symm hj, e⟩
  refine ⟨⟨fun a o h => ?_, r.f0.trans sF, fun a o h => ?_, r.bs, fun a o h => ?_, r.am, r.an, gi.stab g F _ H H r.gr sF fun _ _ => rfl, ⟨fun a ps z => by
    rcases cs a _ z with ⟨q, y⟩ | q
    · exact fs.notT q y
    · exact r.nt.1 a ps q, r.nt.2⟩, fun j w e => ?_, fun j l w x a e1 e2 e3 e4 => ?_, by rw [List.length_set]; exact r.len⟩, sF⟩
  · rcases cs a o h with ⟨_, q⟩ | q
    · exact q
    · exact r.sub a o q
  · rcases cs a o h with ⟨q, _⟩ | q
    · exact (fs.facts q).2.2.1
    · exact r.fz a o q
  · rcases cs a o h with ⟨q, _⟩ | q
    · exact .inr (fs.facts q).2.1
    · exact r.fnew a o q
  · rcases at_ j w e with ⟨rfl, rfl⟩ | ⟨nj, q⟩
    · exact hu
    · refine (r.sl j w q).keep sF fun a ha => ?_
      obtain ⟨z1, z2, z3, _⟩ := (r.sl j w q).facts ha
      refine ⟨rfl, ?_, z2, z3⟩
      unfold frzH
      rw [if_neg fun c => nj (r.ds j i w s a q hi ha c)]
      exact z1
  · rcases at_ j w e1 with ⟨rfl, rfl⟩ | ⟨nj, q1⟩
    · exact absurd e3 (isOwn_no no)
    · rcases at_ l x e2 with ⟨rfl, rfl⟩ | ⟨nl, q2⟩
      · exact absurd e4 (isOwn_no no)
      · exact r.ds j l w x a q1 q2 e3 e4
end
end Dt
namespace Dt
open PySem PySem.Spec L2
inductive EK (w : World) (h : Heap) : List DictEntry → List NestedKey → Prop
  | nil : EK w h [] []
  | cons {e : DictEntry} {k : NestedKey} {es : List DictEntry} {ks : List NestedKey} : NestedIs h k e.key → k.depth ≤ 8 → e.hash = k.hash w → EK w h es ks → EK w h (e :: es) (k :: ks)
theorem EK.len {w : World} {h : Heap} : ∀ {es : List DictEntry} {ks : List NestedKey}, EK w h es ks → es.length = ks.length
  | _, _, .nil => rfl
  | _, _, .cons _ _ _ t => by rw [List.length_cons, List.length_cons, EK.len t]
theorem EK.get {w : World} {h : Heap} : ∀ {es : List DictEntry} {ks : List NestedKey} {i : Nat} {e : DictEntry}, EK w h es ks → es[i]? = some e → ∃ k, ks[i]? = some k ∧ NestedIs h k e.key ∧ k.depth ≤ 8 ∧ e.hash = k.hash w
  | _, _, _, _, .nil, z => by simp at z
  | _, _, 0, _, .cons a b c _, z => by simp at z; subst z; exact ⟨_, rfl, a, b, c⟩
  | _, _, i + 1, e, .cons _ _ _ t, z => by
    obtain ⟨k, h1, h2⟩ := EK.get (i := i) (e := e) t (by simpa using z)
    exact ⟨k, by simpa using h1, h2⟩
theorem EK.get' {w : World} {h : Heap} {es : List DictEntry} {ks : List NestedKey} (x : EK w h es ks) {i : Nat} {k : NestedKey} (z : ks[i]? = some k) : ∃ e, es[i]? = some e ∧ NestedIs h k e.key ∧ k.depth ≤ 8 ∧ e.hash = k.hash w := by
  have hl := (List.getElem?_eq_some_iff.mp z).1
  rw [← x.len] at hl
  obtain ⟨k', h1, h2⟩ := x.get (List.getElem?_eq_getElem hl)
  rw [z] at h1
  cases h1
  exact ⟨_, List.getElem?_eq_getElem hl, h2⟩
section
variable {prog : Program} {w : World} {A : Around} {E : Value → Shared → Prop} {s : Shared}
theorem places_mem {es : Array DictEntry} {h : Int} {i : Nat} : i ∈ placesWithHash es.size (fun i => es[i]?.map (·.hash)) h ↔ ∃ e, es[i]? = some e ∧ e.hash = h := by
  unfold placesWithHash
  rw [List.mem_filter, List.mem_range]
  constructor
  · rintro ⟨h1, h2⟩
    refine ⟨es[i], Array.getElem?_eq_getElem h1, ?_⟩
    dsimp only at h2
    rw [Array.getElem?_eq_getElem h1] at h2
    simpa using h2
  · rintro ⟨e, h1, rfl⟩
    refine ⟨(Array.getElem?_eq_some_iff.mp h1).1, ?_⟩
    dsimp only
    rw [h1]
    simp
/-- a key that is no text -/
def NoTx (v : Value) : Prop := ∀ x t, v ≠ .str x t
structure Fnd (w : World) (s : Shared) (d : Addr) (es : Array DictEntry) (ks : List NestedKey) (key : Value) (k : NestedKey) : Prop where
  ent : ∃ o ep, s.heap.get? d = some o ∧ o.data = .dict es ep
  ek : EK w s.heap es.toList ks
  nd : ks.Nodup
  is : NestedIs s.heap k key
  dep : k.depth ≤ 8
theorem Fnd.at_ {d : Addr} {es : Array DictEntry} {ks : List NestedKey} {key : Value} {k : NestedKey} (f : Fnd w s d es ks key k) {i : Nat} {e : DictEntry} (he : es[i]? = some e) : ∃ k', ks[i]? = some k' ∧ NestedIs s.heap k' e.key ∧ k'.depth ≤ 8 ∧ e.hash = k'.hash w := f.ek.get (by rw [Array.getElem?_toList]; exact he)
theorem Fnd.none {d : Addr} {es : Array DictEntry} {ks : List NestedKey} {key : Value} {k : NestedKey} (f : Fnd w s d es ks key k) (h : ∀ i ∈ placesWithHash es.size (fun i => es[i]?.map (·.hash)) (k.hash w), ks[i]? ≠ some k) : k ∉ ks := fun hm => by
  obtain ⟨i, hi⟩ := List.getElem?_of_mem hm
  obtain ⟨e, h1, _, _, h2⟩ := f.ek.get' hi
  exact h i (places_mem.mpr ⟨e, by rw [← Array.getElem?_toList]; exact h1, h2⟩) hi
structure DV (w : World) (h : Heap) (d : Addr) (es : List DictEntry) (ks : List NestedKey) : Prop where
  ob : dicP d es h
  ek : EK w h es ks
  nd : ks.Nodup
theorem DV.ty {d : Addr} {es : List DictEntry} {ks : List NestedKey} (x : DV w s.heap d es ks) : s.TypeIs (.ref d) "dict" := by
  obtain ⟨o, _, _, h1, h2, _⟩ := x.ob
  exact ⟨o, h1, h2.1⟩
def setAt (es : List DictEntry) (j : Nat) (v : Value) : List DictEntry := es.modify j fun e => { e with val := v }
end
end Dt
namespace Dt
open PySem PySem.Spec PyProof.Rows L2
section
variable {X : Cx} {pins : List (Addr × Obj)} {σ : L2.St} {H F : Hp} {s : Shared}
mutual
theorem dv_nested (I : Inv X pins σ H s) (sF : Same F H) : ∀ {v : V} {d : PyData} {u : Value} {nk : NestedKey}, Dv X.K F v d → RelV v u → keyN d = some nk → NestedIs s.heap nk u
  | _, _, _, _, .non, r, e => by
    cases r
    cases e
    exact .none
  | _, _, _, _, .bl b, r, e => by
    cases r
    cases e
    exact .bool rfl
  | _, _, _, _, .int i, r, e => by
    obtain ⟨t, rfl⟩ := r
    cases e
    exact .int i t
  | _, _, _, _, .str x, r, e => by
    obtain ⟨t, rfl⟩ := r
    cases e
    exact .text x t
  | _, _, _, _, .lst _ _, r, e => by cases e
  | _, .tuple ds, _, _, .tup h a, r, e => by
    cases r
    unfold keyN at e
    obtain ⟨ks, e1, rfl⟩ := Option.map_eq_some_iff.mp e
    obtain ⟨its, rv, ⟨o, ho, hc, n, hd⟩, _⟩ := I.tuple (h.sq sF)
    exact .tup ho hc hd (by simpa using dva_nested I sF a rv e1)
theorem dva_nested (I : Inv X pins σ H s) (sF : Same F H) : ∀ {vs : List V} {ds : List PyData} {us : List Value} {ks : List NestedKey}, DvAll X.K F vs ds → Vals vs us → keyNs ds = some ks → NestedAll s.heap ks us
  | _, _, _, _, .nil, r, e => by
    cases r
    cases e
    exact .nil
  | _, d :: ds, _, _, .cons h t, r, e => by
    cases r with
    | cons r1 r2 =>
      unfold keyNs at e
      cases h1 : keyN d with
      | none => rw [h1] at e; cases e
      | some k =>
        cases h2 : keyNs ds with
        | none => rw [h1, h2] at e; cases e
        | some ks =>
          rw [h1, h2] at e
          cases e
          exact .cons (dv_nested I sF h r1 h1) (dva_nested I sF t r2 h2)
end
theorem key_ek (I : Inv X pins σ H s) (sF : Same F H) {e : DictEntry} {k : PyData} (h : KeyR X.w X.K F e k) : ∃ nk, keyN k = some nk ∧ NestedIs s.heap nk e.key ∧ nk.depth ≤ 8 ∧ e.hash = nk.hash X.w := by
  obtain ⟨nk, v, h1, h2, h3, h4, h5⟩ := h
  exact ⟨nk, h1, dv_nested I sF h5 h4 h1, h2, h3⟩
theorem EnR.ek (I : Inv X pins σ H s) (sF : Same F H) : ∀ {es : List DictEntry} {kvs : List (PyData × PyData)}, EnR X.w X.K F es kvs → ∃ ks, (kvs.map fun p => keyN p.1) = ks.map some ∧ EK X.w s.heap es ks
  | _, _, .nil => ⟨[], rfl, .nil⟩
  | _, _, .cons a b c t => by
    obtain ⟨ks, h1, h2⟩ := EnR.ek I sF t
    obtain ⟨nk, a1, a2, a3, a4⟩ := key_ek I sF a
    exact ⟨nk :: ks, by rw [List.map_cons, List.map_cons, h1, a1], .cons a2 a3 a4 h2⟩
theorem EnL.ek (I : Inv X pins σ H s) (sF : Same F H) : ∀ {es : List DictEntry} {kvs : List (PyData × List PyData)}, EnL X.w X.K F H es kvs → ∃ ks, (kvs.map fun p => keyN p.1) = ks.map some ∧ EK X.w s.heap es ks
  | _, _, .nil => ⟨[], rfl, .nil⟩
  | _, _, .cons a b c d t => by
    obtain ⟨ks, h1, h2⟩ := EnL.ek I sF t
    obtain ⟨nk, a1, a2, a3, a4⟩ := key_ek I sF a
    exact ⟨nk :: ks, by rw [List.map_cons, List.map_cons, h1, a1], .cons a2 a3 a4 h2⟩
theorem nd_some {ks : List NestedKey} (h : (ks.map some).Nodup) : ks.Nodup := h.of_map _ fun _ _ h e => h (by rw [e])
end
end Dt
namespace Dt
open PySem PySem.Spec PyProof.Rows L2
section
variable {X : Cx} {pos : Pos}
/-- the key at hand, the keys that stand -/
structure KAt (w : World) (K : PySem.W.Frag) (H : Hp) (x : V) (nk : NestedKey) : Prop where
  ex : ∃ F d, Same F H ∧ Dv K F x d ∧ keyN d = some nk
  nt : ∀ z, x ≠ .str z
  dep : nk.depth ≤ 8
def ESt (w : World) (K : PySem.W.Frag) (H : Hp) (es : List DictEntry) (oks : List (Option NestedKey)) : Prop := (∃ F kvs, Same F H ∧ EnR w K F es kvs ∧ oks = kvs.map fun p => keyN p.1) ∨ ∃ F kvs, Same F H ∧ EnL w K F H es kvs ∧ oks = kvs.map fun p => keyN p.1
theorem KAt.is {pins : List (Addr × Obj)} {σ : L2.St} {H : Hp} {s : Shared} {x : V} {u : Value} {nk : NestedKey} (k : KAt X.w X.K H x nk) (I : Inv X pins σ H s) (r : RelV x u) : NestedIs s.heap nk u ∧ NoTx u := by
  obtain ⟨F, d, h1, h2, h3⟩ := k.ex
  refine ⟨dv_nested I h1 h2 r h3, fun z t e => ?_⟩
  subst e
  cases x <;> first | cases r; done | (obtain ⟨_, r⟩ := r; cases r; exact k.nt _ rfl) | (obtain ⟨_, r⟩ := r; cases r)
theorem ESt.ek {pins : List (Addr × Obj)} {σ : L2.St} {H : Hp} {s : Shared} {es : List DictEntry} {oks : List (Option NestedKey)} (h : ESt X.w X.K H es oks) (I : Inv X pins σ H s) (nd : oks.Nodup) : ∃ ks, oks = ks.map some ∧ EK X.w s.heap es ks ∧ ks.Nodup := by
  rcases h with ⟨F, kvs, h1, h2, rfl⟩ | ⟨F, kvs, h1, h2, rfl⟩
  · obtain ⟨ks, e1, e2⟩ := h2.ek I h1
    exact ⟨ks, e1, e2, nd_some (e1 ▸ nd)⟩
  · obtain ⟨ks, e1, e2⟩ := h2.ek I h1
    exact ⟨ks, e1, e2, nd_some (e1 ▸ nd)⟩
end
end Dt
namespace Dt
open PySem PySem.Spec L2
section
variable {w : World} {K : PySem.W.Frag} {F H : Hp}
theorem EnR.len : ∀ {es : List DictEntry} {kvs : List (PyData × PyData)}, EnR w K F es kvs → es.length = kvs.length
  | _, _, .nil => rfl
  | _, _, .cons _ _ _ t => by rw [List.length_cons, List.length_cons, EnR.len t]
theorem EnL.len : ∀ {es : List DictEntry} {kvs : List (PyData × List PyData)}, EnL w K F H es kvs → es.length = kvs.length
  | _, _, .nil => rfl
  | _, _, .cons _ _ _ _ t => by rw [List.length_cons, List.length_cons, EnL.len t]
theorem EnR.app : ∀ {es es' : List DictEntry} {kvs kvs' : List (PyData × PyData)}, EnR w K F es kvs → EnR w K F es' kvs' → EnR w K F (es ++ es') (kvs ++ kvs')
  | _, _, _, _, .nil, s => s
  | _, _, _, _, .cons a b c t, s => .cons a b c (EnR.app t s)
theorem EnL.app : ∀ {es es' : List DictEntry} {kvs kvs' : List (PyData × List PyData)}, EnL w K F H es kvs → EnL w K F H es' kvs' → EnL w K F H (es ++ es') (kvs ++ kvs')
  | _, _, _, _, .nil, s => s
  | _, _, _, _, .cons a b c d t, s => .cons a b c d (EnL.app t s)
theorem KeyR.val {e : DictEntry} {k : PyData} {v : Value} (h : KeyR w K F e k) : KeyR w K F { e with val := v } k := h
theorem map_no {kvs : List (PyData × PyData)} {nk : NestedKey} {d : PyData} (h : some nk ∉ kvs.map fun p => keyN p.1) : (kvs.map fun p => if keyN p.1 = some nk then (p.1, d) else p) = kvs := by
  induction kvs with
  | nil => rfl
  | cons p kvs ih =>
    rw [List.map_cons, List.mem_cons, not_or] at h
    rw [List.map_cons, if_neg (fun z => h.1 z.symm), ih h.2]
theorem EnR.put {v : V} {u : Value} {d : PyData} {nk : NestedKey} (hv : RelV v u) (hd : Dv K F v d) : ∀ {es : List DictEntry} {kvs : List (PyData × PyData)} {j : Nat}, (kvs.map fun p => keyN p.1).Nodup → (kvs.map fun p => keyN p.1)[j]? = some (some nk) → EnR w K F es kvs →
    EnR w K F (setAt es j u) (kvs.map fun p => if keyN p.1 = some nk then (p.1, d) else p)
  | _, [], _, _, h, _ => by simp at h
  | _, p :: kvs, 0, nd, h, .cons a b c t => by
    rw [List.map_cons] at h nd
    rw [List.nodup_cons] at nd
    have e : keyN p.1 = some nk := by simpa using h
    rw [List.map_cons, if_pos e, map_no (by rw [← e]; exact nd.1)]
    exact .cons a.val hv hd t
  | _, p :: kvs, j + 1, nd, h, .cons a b c t => by
    rw [List.map_cons] at h nd
    rw [List.nodup_cons] at nd
    have h : (kvs.map fun p => keyN p.1)[j]? = some (some nk) := by simpa using h
    have ne : ¬ keyN p.1 = some nk := fun z => nd.1 (by rw [z]; exact List.mem_of_getElem? h)
    rw [List.map_cons, if_neg ne]
    exact .cons a b c (EnR.put hv hd nd.2 h t)
end
end Dt
namespace Dt
open PySem PySem.Spec L2
section
variable {w : World} {K : PySem.W.Frag} {F H : Hp}
theorem EnL.get : ∀ {es : List DictEntry} {kvs : List (PyData × List PyData)} {j : Nat} {e : DictEntry}, EnL w K F H es kvs → es[j]? = some e → ∃ p q us, kvs[j]? = some p ∧ e.val = .ref q ∧ H q = some (.lst us) ∧ DvAll K F us p.2
  | _, _, _, _, .nil, z => by simp at z
  | _, _, 0, _, .cons a b c d _, z => by simp at z; subst z; exact ⟨_, _, _, rfl, b, c, d⟩
  | _, _, j + 1, e, .cons _ _ _ _ t, z => by
    obtain ⟨p, q, us, h1, h2⟩ := EnL.get (j := j) (e := e) t (by simpa using z)
    exact ⟨p, q, us, by simpa using h1, h2⟩
end
end Dt
namespace Dt
open PySem PySem.Spec L2
theorem h9_of {A : Around} {k : Nat} (hr : Room k A) : A.units + 9 < cLine := by have := hr.un; omega
section
variable {G : Type} {gi : GI G} {X : Cx} {e tg : Expr} {pos : Pos}
theorem EnL.frz {w : World} {K : PySem.W.Frag} {F F' H H' : Hp} (s : Same F F') : ∀ {es : List DictEntry} {kvs : List (PyData × List PyData)}, (∀ e ∈ es, ∀ p, e.val = .ref p → F' p = H p) → EnL w K F H es kvs → EnR w K F' es (kvs.map fun p => (p.1, .list p.2))
  | _, _, _, .nil => .nil
  | _, _, h, .cons a b c d t => .cons (v := .ref _) (a.mono s) b (.lst ((h _ (List.mem_cons_self ..) _ b).trans c) (dva_mono s d)) (EnL.frz (H' := H') s (fun e he => h e (List.mem_cons_of_mem _ he)) t)
theorem EnR.vals {w : World} {K : PySem.W.Frag} {F : Hp} : ∀ {es : List DictEntry} {kvs : List (PyData × PyData)}, EnR w K F es kvs → ∃ vs, Vals vs (es.map (·.val)) ∧ DvAll K F vs (kvs.map (·.2))
  | _, _, .nil => ⟨[], .nil, .nil⟩
  | _, _, .cons a b c t => by
    obtain ⟨vs, h1, h2⟩ := EnR.vals t
    exact ⟨_ :: vs, .cons b h1, .cons c h2⟩
theorem EnR.keys {w : World} {K : PySem.W.Frag} {F : Hp} : ∀ {es : List DictEntry} {kvs : List (PyData × PyData)}, EnR w K F es kvs → ∃ vs, Vals vs (es.map (·.key)) ∧ DvAll K F vs (kvs.map (·.1))
  | _, _, .nil => ⟨[], .nil, .nil⟩
  | _, _, .cons a b c t => by
    obtain ⟨vs, h1, h2⟩ := EnR.keys t
    obtain ⟨nk, v, _, _, _, a4, a5⟩ := a
    exact ⟨v :: vs, .cons a4 h1, .cons a5 h2⟩
end
end Dt
namespace Dt
open PySem PySem.Spec L2
inductive Fx where
  | fl (f : Fl)
  | exc (c : Xc)
inductive Rx where
  | ok (r : Rt)
  | exc (c : Xc)
abbrev FXc (G : Type) := Ev → M G Fx
section
variable {G : Type} (gi : GI G) (K : PySem.W.Frag)
/-- statements that may raise: W, what is wished of an exception -/
def tXc (W : WX) (f : FXc G) : TS := fun D σ H => ∃ en F g ρ fx g', R gi K en F H g σ ρ ∧ f ρ g = some (fx, g') ∧ ∀ F' H' σ', Same F F' → match fx with
  | .fl (.next ρ') => R gi K en F' H' g' σ' ρ' → D.nx σ' H'
  | .fl (.brk ρ') => R gi K en F' H' g' σ' ρ' → D.bk σ' H'
  | .fl (.cont ρ') => R gi K en F' H' g' σ' ρ' → D.ct σ' H'
  | .fl (.ret r) => ∀ v, R gi K en F' H' g' [] [] → RtR gi K en F' H' g' v r → D.rt v H'
  | .exc c => R gi K en F' H' g' [] [] → ∀ C d, XcR K gi.cls F' c C d → W (.ref C) d σ' H'
/-- the promise of a def that may raise -/
def SpX (n : Nat) (fn : List Ar → M G Rx) : Sp := fun vs H Q E => vs.length = n ∧ ∃ F g as x g', R gi K (En.of H F g) F H g [] [] ∧ ArsR K F vs as ∧ fn as g = some (x, g') ∧ ∀ F' H', R gi K (En.of H F g) F' H' g' [] [] → match x with
  | .ok r => ∀ v, RtR gi K (En.of H F g) F' H' g' v r → Q v H'
  | .exc c => ∀ C d, XcR K gi.cls F' c C d → E (.ref C) d H'
end
section
variable {G : Type}
def xEmb (s : FS G) : FXc G := fun ρ => bnd (s ρ) fun fl => ret (.fl fl)
def xSeq (f1 f2 : FXc G) : FXc G := fun ρ => bnd (f1 ρ) fun fx => match fx with
  | .fl (.next ρ') => f2 ρ'
  | .fl (.brk ρ') => ret (.fl (.brk ρ'))
  | .fl (.cont ρ') => ret (.fl (.cont ρ'))
  | .fl (.ret r) => ret (.fl (.ret r))
  | .exc c => ret (.exc c)
def xIf (tc : FT G) (f1 f2 : FXc G) : FXc G := fun ρ => bnd (tc ρ) fun b => if b = true then f1 ρ else f2 ρ
def xRaise (x : Str) : FXc G := fun _ => ret (.exc ⟨x, none⟩)
def runDefX (n : Nat) (body : FXc G) : List Ar → M G Rx := fun as => bnd (body (startE n as)) fun fx => match fx with
  | .fl (.next _) => ret (.ok (.d .none))
  | .fl (.ret r) => ret (.ok r)
  | .exc c => ret (.exc c)
  | _ => fail
/-- where nothing is raised -/
def okOf (fn : List Ar → M G Rx) : List Ar → M G Rt := fun as => bnd (fn as) fun x => match x with
  | .ok r => ret r
  | .exc _ => fail
end
section
variable {G : Type} {gi : GI G} {X : Cx} {W : WX} {c : Expr} {st : Stmt} {rest sts sts' : List Stmt} {s : FS G} {f1 f2 : FXc G} {tc : FT G} {pos : Pos}
theorem emb_of {D : Ends} {σ : L2.St} {H : Hp} (h : tXc gi X.K W (xEmb s) D σ H) : tS gi X.K s D σ H := by
  obtain ⟨en, F, g, ρ, fx, g', r, e, k⟩ := h
  obtain ⟨fl, g1, e1, e⟩ := bnd_some e
  cases e
  refine ⟨en, F, g, ρ, fl, _, r, e1, fun F' H' σ' s' => ?_⟩
  have := k F' H' σ' s'
  cases fl <;> exact this
theorem dx_emb (h : PS X st (tS gi X.K s)) : PS X st (tXc gi X.K W (xEmb s)) := PS_weak h fun _ _ _ => emb_of
theorem dxs_emb (h : PSs X sts (tS gi X.K s)) : PSs X sts (tXc gi X.K W (xEmb s)) := PSs_weak h fun _ _ _ => emb_of
theorem dx_one (h : PS X st (tXc gi X.K W f1)) : PSs X [st] (tXc gi X.K W f1) := PSs_weak (pss_one h) fun _ _ _ h => h
theorem dx_cons (h1 : PS X st (tXc gi X.K W f1)) (h2 : PSs X rest (tXc gi X.K W f2)) : PSs X (st :: rest) (tXc gi X.K W (xSeq f1 f2)) := PSs_weak (pss_cons h1 h2) fun D σ H ⟨en, F, g, ρ, fx, g', r, e, k⟩ => by
  obtain ⟨fx1, g1, e1, e⟩ := bnd_some e
  refine ⟨en, F, g, ρ, fx1, g1, r, e1, fun F1 H1 σ1 s1 => ?_⟩
  cases fx1 with
  | exc c => cases e; exact k F1 H1 σ1 s1
  | fl fl1 =>
    cases fl1 with
    | next ρ' => exact fun r1 => ⟨en, F1, g1, ρ', fx, g', r1, e, fun F2 H2 σ2 s2 => k F2 H2 σ2 (s1.trans s2)⟩
    | brk ρ' => cases e; exact k F1 H1 σ1 s1
    | cont ρ' => cases e; exact k F1 H1 σ1 s1
    | ret x => cases e; exact k F1 H1 σ1 s1
theorem dx_if (hc : PT X c (tT gi X.K tc)) (h1 : PSs X sts (tXc gi X.K W f1)) (h2 : PSs X sts' (tXc gi X.K W f2)) : PS X (.If c sts sts' pos) (tXc gi X.K W (xIf tc f1 f2)) := PS_weak (ps_if hc h1 h2) fun D σ H ⟨en, F, g, ρ, fl, g', r, e, k⟩ => by
  obtain ⟨x, g1, e1, e⟩ := bnd_some e
  refine ⟨en, F, g, ρ, x, g1, r, e1, fun F' H' s' r' => ?_⟩
  cases x with
  | true => exact ⟨en, F', g1, ρ, fl, g', r', e, fun F2 H2 σ2 s2 => k F2 H2 σ2 (s'.trans s2)⟩
  | false => exact ⟨en, F', g1, ρ, fl, g', r', e, fun F2 H2 σ2 s2 => k F2 H2 σ2 (s'.trans s2)⟩
/-- raise x('m') -/
theorem dx_raise {B newId initId : String} {bmB : List Value} {C : Addr} {x m : Str} {j : Nat} {p p2 pos2 : Pos} (hc : X.calm = true) (tk : Takes X W) (E : ExcBaseFacts B newId initId bmB) (q : PySem.W.excIn X.K C bmB newId = true) (gC : X.mg x = some (.ref C)) (kC : PySem.W.keepIn X.K (.ref C) = true)
    (hr : Raises X (.ref C)) (hg : Gl X x) (hcl : gi.cls x = some C) (hdb : (x == ("__debug__" : Str)) = false := by decide) : PS X (.Raise (some (.Call (.Name x p) [.Constant (.str m) j p2] [] pos2)) none pos) (tXc gi X.K W (xRaise x)) :=
  PS_weak (ps_raise hc tk (pmk_own E q gC kC hr hg hdb)) fun D σ H ⟨en, F, g, ρ, fx, g', r, e, k⟩ => by
    cases e
    exact k F H σ (Same.refl F) r.nil C none ⟨hcl, rfl⟩
end
section
variable {G : Type} {gi : GI G} {K : PySem.W.Frag} {P : Program} {w : World} {mg : Str → Option Value} {base : Heap} {x qual : Str} {st : Stmt} {dvs : List V} {f : Addr} {fd : FuncData}
/-- THE RULE for a def that may raise -/
theorem def_okX {N ps : List Str} {k : Nat} {body : FXc G} (F : DFn K x qual st dvs f fd) (S : FnScope N ps (defScope st))
    (hb : ∀ (cdv : Value) (A : Around) (outer : List Env) (s : Shared) (H : Hp) (E : XK), Room k (A.deeper (PyProof.Rows.envOfC qual (defScope st) s.heap.objs.size f cdv)) → Takes (cxOf (L2.CX P w) P w K mg base N qual (defScope st) f cdv A outer s H E) (fun cls d _ H => E cls d H) →
      PSs (cxOf (L2.CX P w) P w K mg base N qual (defScope st) f cdv A outer s H E) (defBody st) (tXc gi K (fun cls d _ H => E cls d H) body)) : FnOk P w K mg base (L2.CX P w) (k + 1) f fd ps (SpX gi K ps.length (runDefX N.length body)) := by
  refine F.ok S (fun vs H Q E h => h.1) fun cdv A outer s H vs Q E hr h => ⟨_, hb cdv A outer s H E hr (takes_of rfl rfl rfl rfl), ?_⟩
  obtain ⟨hl, Fz, g, as, x, g', r0, ha, e, k⟩ := h
  obtain ⟨fx, g1, e1, e⟩ := bnd_some e
  have hn : vs.length ≤ N.length := by
    have := congrArg List.length S.pre
    rw [List.length_take] at this
    omega
  refine ⟨_, Fz, g, _, fx, g1, r0.start ha hn, e1, fun F' H' σ' s' => ?_⟩
  cases fx with
  | exc c => cases e; exact fun r' => k F' H' r'
  | fl fl =>
    cases fl with
    | next ρ' => cases e; exact fun r' => k F' H' r'.nil .non .non
    | brk ρ' => cases e
    | cont ρ' => cases e
    | ret x => cases e; exact fun v r' h' => k F' H' r' v h'
/-- .. called where nothing is raised -/
theorem FnOk.noX {ps : List Str} {k n : Nat} {fn : List Ar → M G Rx} (F : FnOk P w K mg base (L2.CX P w) k f fd ps (SpX gi K n fn)) : FnOk P w K mg base CX0 k f fd ps (SpD gi K n (okOf fn)) := by
  have key : ∀ vs H Q E, SpD gi K n (okOf fn) vs H Q E → SpX gi K n fn vs H Q (fun _ _ _ => False) := fun vs H Q E ⟨hl, Fz, g, as, r, g', r0, ha, e, kk⟩ => by
    obtain ⟨x, g1, e1, e⟩ := bnd_some e
    cases x with
    | exc c => cases e
    | ok r1 =>
      cases e
      exact ⟨hl, Fz, g, as, .ok r, _, r0, ha, e1, fun F' H' r' v h' => kk v F' H' r' h'⟩
  refine ⟨fun vs H Q E h => F.len vs H Q _ (key vs H Q E h), fun A outer s H args us vs Q E hr e0 hb hv hs => ?_⟩
  refine codeAny_mono (F.run A outer s H args us vs Q _ hr e0 hb hv (key vs H Q E hs)) fun r s' hq => ?_
  cases r with
  | ok fl => cases fl <;> exact hq
  | error e =>
    obtain ⟨_, _, _, _, _, _, _, _, _, _, _, _, z⟩ := hq
    exact z.elim
end
end Dt
namespace Dt
open PySem PySem.Spec L2 PyProof.Rows
theorem kptO_ok {P : Program} {w : World} {H : Hp} {h : Heap} {a C : Addr} {d : Option Addr} {oe : Obj} {vs : Array Value} (ha : h.get? a = some oe) (hc : oe.cls = .ref C) (hi : oe.dict = d) (hd : oe.data = .fields vs) : ObjOk P w H h a (KptO C d a) :=
  ⟨⟨oe, vs, ha, hc, hi, hd⟩, ⟨oe, ha⟩, fun _ _ ⟨o, v, q, r⟩ k => ⟨o, v, k o q, r⟩⟩
section
variable {X : Cx} {pins : List (Addr × Obj)} {σ : L2.St} {H : Hp} {s : Shared}
/-- an object that is known by its pin is known by the abstract heap -/
theorem trackK (I : Inv X pins σ H s) {a C : Addr} {d : Option Addr} {oe : Obj} {vs : Array Value} (ha : s.heap.get? a = some oe) (hc : oe.cls = .ref C) (hi : oe.dict = d) (hd : oe.data = .fields vs) (na : H a = none) (n0 : X.s_0.heap.get? a = none)
    (nL : a ≠ X.env.locals) (nC : ∀ y c, X.env.cells.lookup y = some c → c ≠ a) (nP : ∀ p ∈ X.pn ++ pins, p.1 ≠ a) : Inv X pins σ (upd H a (KptO C d a)) s := by
  have ne : ∀ {b : Addr} {o : HO}, H b = some o → b ≠ a := fun e => ne_of_none e na
  refine ⟨I.ok, I.os, I.bare, ⟨I.base.keep, I.base.slot, fun b o e n hx => ?_, I.base.there, fun b xs e => ?_, fun b o u e => ?_, fun b ps e => ?_⟩, I.loc, I.cell, ?_, fun y c e => ?_, fun p hp => ?_, fun b o e => ?_, I.len⟩
  · rw [upd_ne (fun z => by rw [z, n0] at e; cases e)]; exact I.base.free b o e n hx
  · have q := I.base.tups b xs e
    rw [upd_ne (ne q)]; exact q
  · have q := I.base.frzs b o u e
    rw [upd_ne (ne q)]; exact q
  · obtain ⟨more, q⟩ := I.base.tbls b ps e
    exact ⟨more, by rw [upd_ne (ne q)]; exact q⟩
  · rw [upd_ne (Ne.symm nL)]; exact I.free
  · rw [upd_ne (nC y c e)]; exact I.freeC y c e
  · obtain ⟨q1, q2, q3⟩ := I.pin p hp
    exact ⟨q1, by rw [upd_ne (nP p hp)]; exact q2, q3⟩
  · by_cases hb : b = a
    · subst hb
      rw [upd_same] at e
      cases e
      exact kptO_ok ha hc hi hd
    · rw [upd_ne hb] at e
      exact (I.hok b o e).stay (fun _ _ _ q => q) (fun c q => by rw [upd_ne (ne q)]; exact q) fun c xs q => by rw [upd_ne (ne q)]; exact q
end
/-- what the clause 'except x as n: k = n' wishes of an exception: slot i is n's, j is k's -/
def wKeep (K : PySem.W.Frag) (c : Value) (i j n : Nat) (D : Ends) : WX := fun cls d σ H =>
  PySem.W.exmOne K cls c = some true ∧ ∃ C, cls = .ref C ∧ ∀ a, H a = none → σ.length = n → D.nx (((σ.set i (some (.ref a))).set j (some (.ref a))).set i none) (upd H a (KptO C d a))
section
variable {X : Cx} {x n kx : Str} {c : Value} {i j : Nat} {body : List Stmt} {np np2 kp apos pos pos' : Pos} {tb : WX → TS}
theorem ps_try_keep (hex : X.ex = []) (hs : X.stack = X.env :: X.outer) (hf : X.env.frame = some X.env.locals) (hN : X.N.Nodup) (hi : X.N[i]? = some n) (hln : X.env.kindOf n = some .local) (hj : X.N[j]? = some kx) (hlj : X.env.kindOf kx = some .local) (hc : Names X x c) (hnd : (n == ("__debug__" : Str)) = false) (hncd : (n == ("__classdict__" : Str)) = false)
    (hb : ∀ (W : WX) (pn : List (Addr × Obj)) (xe : Value → Shared → Prop), Takes (X.tr pn xe) W → PSs (X.tr pn xe) body (tb W))
    (hsw : ∀ (a : Addr) (pn : List (Addr × Obj)), swapsWith (.Name n np2) (some (.Name kx kp)) apos.line (X.suite a pn).env = pure false := by intro a pn; rfl) :
    PS X (.Try body [.ExceptHandler (some (.Name x np)) (some n) [.Assign [.Name kx kp] (.Name n np2) apos] pos'] [] [] pos) (fun D σ H => tb (wKeep X.K c i j X.N.length D) D σ H) := by
  refine ⟨fun pins s σ H D I h => ?_⟩
  have ok := I.ok
  have hfr : X.A.frames = some (X.env :: X.outer) := by rw [ok.frames, hs]
  refine wpAny_Try_except ?_
  refine wpAny_mono ((hb (wKeep X.K c i j X.N.length D) (X.pn ++ pins) (fun e s₁ => wpAny (model X.prog X.w) X.A (noteFrame e X.env) (fun _ s₂ => wpAny (model X.prog X.w) X.A (setFlight e none) (fun _ s₃ =>
    wpAny (model X.prog X.w) X.A (handleBy e X.env [.ExceptHandler (some (.Name x np)) (some n) [.Assign [.Name kx kp] (.Name n np2) apos] pos']) (SP X pins D) X.xe s₃) X.xe s₂) X.xe s₁) (fun u s' xx => ?_)).run [] s σ H D (I.toTry _) h) (fun f s1 hsp => ?_) (fun e s1 he => he)
  · obtain ⟨a, B, sI, pins', σ', H', cls, d, rfl, J', nb, up, sky, na, os, ag, hb1, C, rfl, hyes⟩ := xx
    have J : Inv X pins σ' H' sI := J'.ofTry ok
    have sky' : Sky B (X.env :: X.outer) a (Zc (.ref C) d) X.env.locals s'.heap := by rw [← hs]; exact sky
    show wpAny (model X.prog X.w) X.A (noteFrame (.ref a) X.env) _ _ _
    refine Sky.land Zc.steady hfr hf sky' fun h3 fl3 up3 => ?_
    have J3 : Inv X pins σ' H' { s' with heap := h3 } := J.landed nb fl3.1 (up.trans up3) os ag
    obtain ⟨oe3, vs3, he3, hz3, hd3⟩ := fl3.there
    have nfr : a ∉ frs (X.env :: X.outer) := fun hm => by
      obtain ⟨_, o', e', hnf⟩ := fl3.2.2.1.mem hm
      rw [he3] at e'; cases e'
      exact hnf _ hd3
    -- nothing of ours was at a
    have aI : sI.heap.get? a = none := by
      cases q : sI.heap.get? a with
      | none => rfl
      | some o =>
        have := nb a o q (by rw [hs]; exact nfr)
        rw [fl3.2.1] at this
        cases this
    have nL : a ≠ X.env.locals := fun z => nfr (List.mem_filterMap.mpr ⟨X.env, List.mem_cons_self, by rw [hf, z]⟩)
    have nF : a ∉ X.fs := fun hm => by
      obtain ⟨e, he, q⟩ := List.mem_filterMap.mp hm
      exact nfr (List.mem_filterMap.mpr ⟨e, List.mem_cons_of_mem _ he, q⟩)
    have n0 : X.s_0.heap.get? a = none := by
      cases q : X.s_0.heap.get? a with
      | none => rfl
      | some o =>
        obtain ⟨o', q'⟩ := J.base.there a o q (by rw [hex]; exact fun z => nomatch z)
        rw [aI] at q'
        cases q'
    have nC : ∀ y c, X.env.cells.lookup y = some c → c ≠ a := fun y c e z => by
      obtain ⟨v, o, ho, _⟩ := J.cell y c e
      rw [z, aI] at ho
      cases ho
    have nP : ∀ p ∈ X.pn ++ pins, p.1 ≠ a := fun p hp z => by
      obtain ⟨q, _⟩ := J.pin p hp
      rw [z, aI] at q
      cases q
    have S3 := J3.suite he3 hd3 na nL nF
    refine wpAny_handleBy_cons (codeAny_handlers_test ?_) (by intro q; cases q)
    have LT : PySem.W.Looks (model X.prog X.w) h3 (typeOf (.ref a)) (.ref C) := fun A Q E s k q => wpAny_typeOf_ref (k _ _ he3) (by rw [hz3.1]; exact q)
    have LM := PySem.W.exm_one (M := model X.prog X.w) (J3.kIn) LT hb1
    have test : ∀ {Q : Value → Shared → Prop} {E : Value → Shared → Prop}, Q c { s' with heap := h3 } → wpAny (model X.prog X.w) (X.A.mark (some (.ref a))) (eval (.Name x np) X.env) Q E { s' with heap := h3 } := fun {Q E} q => by
      obtain ⟨hg, hdbg, hm | ⟨hm, hv, hnn⟩⟩ := hc
      · exact ld_glob (X := X.suite a ((a, oe3) :: (X.pn ++ pins))) S3 hg hm q hdbg
      · exact ld_blt (X := X.suite a ((a, oe3) :: (X.pn ++ pins))) S3 hg hm hv q hnn hdbg
    refine test (LM.here ?_)
    refine codeAny_handlers_suite_as ?_
    refine HandSPX.lands_againZ fl3 fun h4 fl4 up4 => ?_
    have J4 : Inv X pins σ' H' { s' with heap := h4 } := J.landed nb fl4.1 ((up.trans up3).trans up4) os ag
    obtain ⟨oe4, vs4, he4, hz4, hd4⟩ := fl4.there
    have S4 := J4.suite he4 hd4 na nL nF
    refine store_ok (X := X.suite a ((a, oe4) :: (X.pn ++ pins))) (v := .ref a) S4 hN hi (.inl hln) rfl (fun s5 S5 => ?_) (.inr hln)
    have hl : i < σ'.length := by rw [J.len]; exact (List.getElem?_eq_some_iff.mp hi).1
    have hsu : PSs (X.suite a ((a, oe4) :: (X.pn ++ pins))) [.Assign [.Name kx kp] (.Name n np2) apos] _ := pss_one (ps_set (i := j) hN hj (.inl hlj) (pe_var (i := i) hi (.inl hln) hnd hncd) (hsw a _) (.inr hlj))
    refine wpAny_mono (hsu.run [] s5 _ H' { nx := fun σ6 H6 => σ6 = (σ'.set i (some (.ref a))).set j (some (.ref a)) ∧ H6 = H', rt := fun _ _ => False, bk := fun _ _ => False, ct := fun _ _ => False } S5 ?_) (fun f s6 hsp => ?_) (fun _ _ z => False.elim z)
    · exact ⟨.ref a, List.getElem?_set_self hl, rfl, rfl⟩
    · cases f with
      | next =>
        obtain ⟨σ6, H6, S6, rfl, rfl⟩ := hsp
        refine gone_ok (X := X.suite a ((a, oe4) :: (X.pn ++ pins))) S6 hN hi hln fun s7 S7 => ?_
        obtain ⟨ha7, _⟩ := S7.pin (a, oe4) (List.mem_append.mpr (.inl List.mem_cons_self))
        exact ⟨_, _, trackK (S7.unsuite ok) ha7 hz4.1 hz4.2 hd4 na n0 nL nC nP, hyes a na J.len⟩
      | brk => obtain ⟨_, _, _, z⟩ := hsp; exact z.elim
      | cont => obtain ⟨_, _, _, z⟩ := hsp; exact z.elim
      | ret u => obtain ⟨_, _, _, _, _, z⟩ := hsp; exact z.elim
  · cases f with
    | next =>
      obtain ⟨σ', H', J', q⟩ := hsp
      exact wpAny_execs_nil ⟨σ', H', J'.ofTry ok, q⟩
    | brk =>
      obtain ⟨σ', H', J', q⟩ := hsp
      exact ⟨σ', H', J'.ofTry ok, q⟩
    | cont =>
      obtain ⟨σ', H', J', q⟩ := hsp
      exact ⟨σ', H', J'.ofTry ok, q⟩
    | ret u =>
      obtain ⟨v, σ', H', J', r, q⟩ := hsp
      exact ⟨v, σ', H', J'.ofTry ok, r, q⟩
end
end Dt
namespace Dt
open PySem PySem.Spec L2 PyProof.Rows
def rIsK (K : PySem.W.Frag) : List V → Hp → VK → Prop := fun xs H Q => ∃ (a C : Addr) (c : V) (cv : Value) (b : Bool), xs = [.ref a, c] ∧ H a = some (KptO C none a) ∧ ExcC K C ∧ (∀ u, RelV c u → u = cv) ∧ PySem.W.kitOne K (.ref C) cv = some b ∧ Q (.bl b) H
theorem call_isK {X : Cx} : CallR X (.builtin "isinstance") (rIsK X.K) := by
  intro pins s σ H xs us Q I r h
  obtain ⟨a, C, c, cv, b, rfl, ha, E, hcv, e, q⟩ := h
  cases r with
  | cons rx rr =>
    cases rr with
    | cons rt rr =>
      cases rr
      cases rx
      have ec := hcv _ rt
      subst ec
      have x : ObjOk X.prog X.w H s.heap a (.ext fun h => ∃ (oe : Obj) (vs : Array Value), h.get? a = some oe ∧ oe.cls = .ref C ∧ oe.dict = none ∧ oe.data = .fields vs) := I.hok a _ ha
      obtain ⟨⟨oe, vs, hget, h1, h2, hv⟩, _, _⟩ := x
      have J : PySem.W.InstAt s.heap a oe C none := by
        obtain ⟨oc, od, oda, osl⟩ := oe
        dsimp only at h1 h2 hv
        subst h1 h2 hv
        exact ⟨hget, rfl, rfl, trivial⟩
      exact PySem.W.kia_one (PySem.W.handS_kitx_exc E.hg E.hk E.hs E.hd E.ha E.hn E.ht E.hm) I.kIn J e (fun z => nomatch z) fun tk => ⟨.bl b, H, I.kept (t' := tk) fun _ _ z => z, rfl, q⟩
/-- is the class c one of d's -/
def subX (c d : Str) : Bool := decide (c = d) || decide (d = "EdgeError") || decide (d = "ValueError")
section
variable {G : Type} {gi : GI G} {X : Cx}
def excAt (ρ : Ev) (i : Nat) : Option Xc := match ρ[i]? with
  | some (some (.exc c)) => some c
  | _ => none
theorem excAt_some {ρ : Ev} {i : Nat} {c : Xc} (h : excAt ρ i = some c) : ρ[i]? = some (some (.exc c)) := by
  unfold excAt at h
  split at h
  · rename_i q; cases h; exact q
  · cases h
def isX (c : Xc) (x : Str) : Option PyData := match c.num with
  | none => some (.bool (subX c.cls x))
  | some _ => none
def eIsX (i : Nat) (x : Str) : FE G := fun ρ => bnd (lft (excAt ρ i)) fun c => lft (isX c x)
/-- what is known of the classes -/
structure ClsOk (K : PySem.W.Frag) (cl : Str → Option Addr) (x : Str) (cv : Value) : Prop where
  exc : ∀ c C, cl c = some C → ExcC K C
  sub : ∀ c C, cl c = some C → PySem.W.kitOne K (.ref C) cv = some (subX c x)
theorem de_isX {i : Nat} {n x : Str} {c : V} {cv : Value} {b : Expr} {p p1 pos : Pos} (hg : Gl X "isinstance") (hm : X.mg "isinstance" = none) (hv : bootBuiltins "isinstance" = some (.builtin "isinstance")) (ha : PE X (.Name n p1) (tVar i)) (hb : PE X b (tC c)) (hcv : ∀ u, RelV c u → u = cv) (hK : ClsOk X.K gi.cls x cv)
    (he : starEach [.Name n p1, b] X.env = (false, eval (.Name n p1) X.env) :: starEach [b] X.env := by rfl) (he2 : starEach [b] X.env = (false, eval b X.env) :: starEach [] X.env := by rfl) (hpl : (backTo pos (starEach [b] X.env)).any (·.1) = false := by rfl) :
    PE X (.Call (.Name "isinstance" p) [.Name n p1, b] [] pos) (tE gi X.K (eIsX i x)) :=
  PE_weak (pe_callB call_isK hg hm hv (pa_cons ha (pa_cons hb pa_nil he2) he) (hpl := hpl)) fun σ H Q ⟨en, F, g, ρ, d, g', r, e, k⟩ => by
    obtain ⟨c', g1, e1, e⟩ := bnd_some e
    obtain ⟨e1', rfl⟩ := lft_inv e1
    obtain ⟨e2, rfl⟩ := lft_inv e
    unfold isX at e2
    obtain ⟨a, C, dd, h1, h2, h3, h4⟩ := r.sl i _ (excAt_some e1')
    split at e2
    · rename_i hn
      cases e2
      rw [hn] at h4
      cases h4
      exact ⟨.ref a, h1, a, C, c, cv, _, rfl, r.sub _ _ h2, hK.exc _ _ h3, hcv, hK.sub _ _ h3, k _ F H (Same.refl F) r (.bl _)⟩
    · cases e2
end
/-- H1: as H, the lambda's code object found in the table at P, or new there -/
def Lam1 (P : Addr) (q : Str) (H : Hp) (c' : Addr) (H1 : Hp) : Prop := (H1 = H ∧ H c' = some (LamX.CodeO c' q)) ∨ ∃ (ps : Array Value) (pos : Pos), H P = some (.tbl ps) ∧ TriplesOk ps.toList ∧ H c' = none ∧
  H1 = upd (upd H P (.tbl (ps ++ #[rawInt pos.line, rawInt pos.col, .ref c']))) c' (LamX.CodeO c' q)
theorem Lam1.code {P c' : Addr} {q : Str} {H H1 : Hp} (h : Lam1 P q H c' H1) : H1 c' = some (LamX.CodeO c' q) := by
  rcases h with ⟨rfl, h⟩ | ⟨ps, pos, _, _, _, rfl⟩
  · exact h
  · exact upd_same
section
variable {X : Cx} {pins : List (Addr × Obj)} {σ : L2.St} {H : Hp} {s : Shared}
theorem lam_make3 {c P : Addr} {params : Arguments} {body : Expr} {scope : Scope} {pos : Pos} {E : Value → Shared → Prop} {Q : Value → Shared → Prop} (I : Inv X pins σ H s) (TB : LamX.TabB X.base X.mg c P) (hcode : X.env.code = .ref c)
    (hT : LamX.TabS H P (X.env.qual ++ "<lambda>")) (hdef : defaultsOf params X.env = ([], [])) (hfree : ∀ y ∈ scope.names, y.2 = .free → ∃ c, X.env.cells.lookup y.1 = some c)
    (h : ∀ (f c' : Addr) (pm ctv : Value) (H1 : Hp) (s' : Shared), Inv X pins σ H1 s' → Lam1 P (X.env.qual ++ "<lambda>") H c' H1 →
      s'.heap.get? f = some (PySem.W.kla_obj "<lambda>" (X.env.qual ++ "<lambda>") params body scope (cloFrom X.env.cells scope.names []) pm c' ctv) → H1 f = none → f ∉ frs X.stack → Q (.ref f) s') :
    wpAny (model X.prog X.w) X.A (eval (.Lambda params body scope pos) X.env) Q E s := by
  obtain ⟨ps, hP, ht, ha⟩ := hT
  have hP' : s.heap.get? P = some { cls := .none, data := .fields ps } := I.hok P _ hP
  have nofr : ∀ f, s.heap.objs.size ≤ f → f ∉ frs X.stack := fun f hf z => by
    rcases List.mem_cons.mp (I.stkSub _ z) with e | e
    · have h1 := I.lt
      rw [← e] at h1
      exact Nat.lt_irrefl _ (Nat.lt_of_lt_of_le h1 hf)
    · exact I.nofs hf e
  refine PySem.W.kla_eval hdef ?_
  have bP : s.heap.BuiltinsAt X.mg P := TB.bm.keeps I.bk
  cases hc : codeAmong pos ps.toList with
  | some cv =>
    obtain ⟨c', e, hco⟩ := ha pos cv hc
    subst e
    refine PySem.W.kla_makeFunctionHit (mg := X.mg) (c := c) (P := P) (ps := ps) (closure_ok hfree) I.ok.glob (I.mod.glob.keeps I.bk) hcode (TB.code.keeps I.bk) hP' ht hc bP fun ctv h' tk hx hsz => ?_
    exact h h'.objs.size c' ((X.mg "__name__").getD .none) ctv H _ (I.kept fun b o e => Heap.get?_push_of_some _ (hx b o e)) (.inl ⟨rfl, hco⟩) (Heap.get?_push_size _ rfl) (I.hok.fresh hsz) (nofr _ hsz)
  | none =>
    refine PySem.W.kla_makeFunction (mg := X.mg) (c := c) (P := P) (ps := ps) (closure_ok hfree) I.ok.glob (I.mod.glob.keeps I.bk) hcode (TB.code.keeps I.bk) hP' ht hc TB.gP bP fun c' ctv h' tk hx hge hlt hrec htb => ?_
    obtain ⟨c2, oc, vs, t, e2, hoc, hd, hv⟩ := hrec
    cases e2
    have hsz : s.heap.objs.size ≤ h'.objs.size := Nat.le_trans hge (Nat.le_of_lt hlt)
    have I1 := LamX.inv_table (t' := tk) (more := #[rawInt pos.line, rawInt pos.col, .ref c']) (h' := h'.push (PySem.W.kla_obj "<lambda>" (X.env.qual ++ "<lambda>") params body scope (cloFrom X.env.cells scope.names []) ((X.mg "__name__").getD .none) c' ctv)) I hP
      (fun b o hb e => Heap.get?_push_of_some _ (hx b o hb e)) (Heap.get?_push_of_some _ htb) hge ⟨oc, vs, t, Heap.get?_push_of_some _ hoc, hd, hv⟩
    refine h h'.objs.size c' ((X.mg "__name__").getD .none) ctv _ _ I1 (.inr ⟨ps, pos, hP, ht, I.hok.fresh hge, rfl⟩) (Heap.get?_push_size _ rfl) ?_ (nofr _ hsz)
    rw [upd_ne (Nat.ne_of_gt hlt), upd_ne (Nat.ne_of_gt (Nat.lt_of_lt_of_le (Heap.lt_size hP') hsz))]
    exact I.hok.fresh hsz
end
section
variable {K : PySem.W.Frag} {w : World} {T : List (Addr × Str)} {cl : Str → Option Addr} {en : En Tw} {F H : Hp} {g : Tw} {σ : L2.St} {ρ : Ev}
/-- a table grows; what it tells is frozen -/
theorem R.tab (r : R (twGI K w T cl) K en F H g σ ρ) {P : Addr} {ps : Array Value} (hP : ∃ q, (P, q) ∈ T) (ht : TriplesOk ps.toList) (hc : ∀ p ∈ T, p.1 = P → ∀ (pos : Pos) (cv : Value), codeAmong pos ps.toList = some cv → ∃ c, cv = .ref c ∧ F c = some (LamX.CodeO c p.2)) : R (twGI K w T cl) K en F (upd H P (.tbl ps)) g σ ρ := by
  obtain ⟨q, hq⟩ := hP
  obtain ⟨⟨g1, g2, g3, g4, g5⟩, g6⟩ := r.gr
  obtain ⟨ps0, hP0, _⟩ := g6 _ hq
  have hP0 : H P = some (.tbl ps0) := hP0
  have ad : (twGI K w T cl).adr g P := .inr ⟨_, hq, rfl⟩
  have ne : ∀ {b : Addr} {o : HO}, H b = some o → (∀ ps, o ≠ .tbl ps) → b ≠ P := fun e n z => by rw [z, hP0] at e; exact n _ (Option.some.inj e).symm
  have nP : ∀ a, ¬ (twGI K w T cl).adr g a → a ≠ P := fun a n z => n (by rw [z]; exact ad)
  obtain ⟨s1, s2⟩ := r.slots (en' := en) (F' := F) (H' := upd H P (.tbl ps)) (g' := g) (Same.refl F) fun i s a e ha => by
    obtain ⟨z1, z2, z3, z4⟩ := (r.sl i s e).facts ha
    exact ⟨upd_ne (nP a z3), z1, z2, z3⟩
  refine ⟨fun a o h => (upd_ne (nP a (r.fz a o h))).trans (r.sub a o h), r.f0, r.fz, fun a o h n => (upd_ne (nP a n)).trans (r.bs a o h n), r.fnew, r.am, r.an, ⟨⟨(upd_ne (ne g1 fun ps z => nomatch z)).trans g1, (upd_ne (ne g2 fun ps z => nomatch z)).trans g2, g3, fun h => ⟨(g4 h).1, (g4 h).2.1, ?_⟩, g5⟩, fun p hp => ?_⟩, r.nt, s1, s2, r.len⟩
  · rcases (g4 h).2.2 with y | ⟨o, y⟩
    · exact .inl ((upd_ne (ne y fun ps z => nomatch z)).trans y)
    · exact .inr ⟨o, (upd_ne (ne y fun ps z => nomatch z)).trans y⟩
  · by_cases z : p.1 = P
    · exact ⟨ps, by rw [z, upd_same], ht, hc p hp z⟩
    · obtain ⟨ps', y1, y2, y3⟩ := g6 p hp
      exact ⟨ps', (upd_ne z).trans y1, y2, y3⟩
/-- a lambda was made -/
theorem R.lam (r : R (twGI K w T cl) K en F H g σ ρ) {P c' : Addr} {q : Str} {H1 : Hp} (hm : (P, q) ∈ T) (hu : ∀ p ∈ T, p.1 = P → p.2 = q) (h : Lam1 P q H c' H1) : ∃ F1, Same F F1 ∧ R (twGI K w T cl) K en F1 H1 g σ ρ := by
  rcases h with ⟨rfl, _⟩ | ⟨ps, pos, hP, ht, hn, rfl⟩
  · exact ⟨F, Same.refl F, r⟩
  · obtain ⟨_, g6⟩ := r.gr
    obtain ⟨ps0, y1, y2, y3⟩ := g6 _ hm
    rw [show H P = _ from y1] at hP
    cases hP
    have sF : Same F (upd F c' (LamX.CodeO c' q)) := same_upd (r.free hn).1
    have ne : P ≠ c' := ne_of_none (show H P = _ from y1) hn
    have r1 : R (twGI K w T cl) K en (upd F c' (LamX.CodeO c' q)) (upd H c' (LamX.CodeO c' q)) g σ ρ := r.alloc hn LamX.codeO_ne
    have eL : (ps ++ #[rawInt pos.line, rawInt pos.col, .ref c']).toList = ps.toList ++ [rawInt pos.line, rawInt pos.col, .ref c'] := by simp
    have r2 := r1.tab (P := P) (ps := ps ++ #[rawInt pos.line, rawInt pos.col, .ref c']) ⟨q, hm⟩ (by rw [eL]; exact PySem.TriplesOk_snoc _ _ _ _ ht) fun p hp z p' cv hcv => by
      rw [eL] at hcv
      rw [hu p hp z]
      rcases LamX.among_app _ ht hcv with y | y
      · obtain ⟨c0, e1, e2⟩ := y3 p' cv y
        exact ⟨c0, e1, sF _ _ e2⟩
      · exact ⟨c', y, upd_same⟩
    refine ⟨_, sF, ?_⟩
    have e : upd (upd H c' (LamX.CodeO c' q)) P (.tbl (ps ++ #[rawInt pos.line, rawInt pos.col, .ref c'])) = upd (upd H P (.tbl (ps ++ #[rawInt pos.line, rawInt pos.col, .ref c']))) c' (LamX.CodeO c' q) := by
      funext b
      by_cases h1 : b = P
      · rw [h1, upd_same, upd_ne ne, upd_same]
      · rw [upd_ne h1]
        by_cases h2 : b = c'
        · rw [h2, upd_same, upd_same]
        · rw [upd_ne h2, upd_ne h2, upd_ne h1]
    rw [e] at r2
    exact r2
theorem R.tabS (r : R (twGI K w T cl) K en F H g σ ρ) {P : Addr} {q : Str} (hm : (P, q) ∈ T) : LamX.TabS H P q := by
  obtain ⟨ps, y1, y2, y3⟩ := r.gr.2 _ hm
  refine ⟨ps, y1, y2, fun pos cv h => ?_⟩
  obtain ⟨c, e1, e2⟩ := y3 pos cv h
  exact ⟨c, e1, r.sub _ _ e2⟩
end
section
variable {G : Type} {gi : GI G} {K : PySem.W.Frag} {en : En G} {F H H' : Hp} {g : G} {σ : L2.St} {ρ : Ev}
/-- more is known of the heap -/
theorem R.grow (r : R gi K en F H g σ ρ) (s : Same H H') : R gi K en F H' g σ ρ := by
  have kp : ∀ a, H a ≠ none → H' a = H a := fun a h => by
    cases q : H a with
    | none => exact absurd q h
    | some o => exact s a o q
  obtain ⟨s1, s2⟩ := r.slots (en' := en) (F' := F) (H' := H') (g' := g) (Same.refl F) fun i u a e ha => by
    obtain ⟨z1, z2, z3, z4⟩ := (r.sl i u e).facts ha
    exact ⟨kp a z4, z1, z2, z3⟩
  exact ⟨fun a o h => s a o (r.sub a o h), r.f0, r.fz, fun a o h n => s a o (r.bs a o h n), r.fnew, r.am, r.an, gi.stab g F F H H' r.gr (Same.refl F) fun a ha => kp a (gi.dom g F H a r.gr ha), r.nt, s1, s2, r.len⟩
/-- slots that own nothing -/
theorem R.with (r : R gi K en F H g [] []) (hs : ∀ (i : Nat) (s : Sl), ρ[i]? = some (some s) → SlotR gi K F H en g σ[i]? s ∧ ∀ a, ¬ Ows H σ[i]? s a) (hl : ρ.length ≤ σ.length) : R gi K en F H g σ ρ :=
  ⟨r.sub, r.f0, r.fz, r.bs, r.fnew, r.am, r.an, r.gr, r.nt, fun i s e => (hs i s e).1, fun i j s u a e1 _ e3 _ => absurd e3 ((hs i s e1).2 a), hl⟩
end
end Dt
namespace Dt
open PySem PySem.Spec L2 PyProof.Rows
section
variable {G : Type}
def exE (n : Nat) (c : Xc) : Ev := some (.exc c) :: List.replicate (n - 1) none
def runC (n : Nat) (body : FS G) : Xc → M G Rt := fun c => bnd (body (exE n c)) fun fl => match fl with
  | .next _ => ret (.d .none)
  | .ret r => ret r
  | _ => fail
def SpC (gi : GI G) (K : PySem.W.Frag) (fn : Xc → M G Rt) : Sp := fun vs H Q _ => ∃ a C d F g c r g', vs = [.ref a] ∧ R gi K (En.of H F g) F H g [] [] ∧ F a = some (KptO C d a) ∧ XcR K gi.cls F c C d ∧ fn c g = some (r, g') ∧
  ∀ v F' H', R gi K (En.of H F g) F' H' g' [] [] → RtR gi K (En.of H F g) F' H' g' v r → Q v H'
theorem class_ok {gi : GI G} {K : PySem.W.Frag} {P : Program} {w : World} {mg : Str → Option Value} {base : Heap} {x qual p : Str} {st : Stmt} {dvs : List V} {f : Addr} {fd : FuncData} {N : List Str} {k : Nat} {body : FS G} (F : DFn K x qual st dvs f fd) (S : FnScope N [p] (defScope st))
    (hb : ∀ (cdv : Value) (A : Around) (outer : List Env) (s : Shared) (H : Hp) (E : XK), Room k (A.deeper (PyProof.Rows.envOfC qual (defScope st) s.heap.objs.size f cdv)) →
      PSs (cxOf CX0 P w K mg base N qual (defScope st) f cdv A outer s H E).nox (defBody st) (tS gi K body)) : FnOk P w K mg base CX0 (k + 1) f fd [p] (SpC gi K (runC N.length body)) := by
  refine F.ok S (fun vs H Q E h => by obtain ⟨a, _, _, _, _, _, _, _, rfl, _⟩ := h; rfl) fun cdv A outer s H vs Q E hr h => ⟨tS gi K body, (hb cdv A outer s H E hr).nox, ?_⟩
  obtain ⟨a, C, d, Fz, g, c, r, g', rfl, r0, h1, h2, e, k⟩ := h
  obtain ⟨fl, g1, e1, e⟩ := bnd_some e
  have hn : 1 ≤ N.length := by
    have := congrArg List.length S.pre
    rw [List.length_take] at this
    have e1 : ([p] : List Str).length = 1 := rfl
    omega
  have r1 : R gi K (En.of H Fz g) Fz H g (L2.start N [.ref a]) (exE N.length c) := by
    refine r0.with (fun i s e => ?_) ?_
    · match i, e with
      | 0, e => cases e; exact ⟨⟨a, C, d, rfl, h1, h2⟩, fun _ z => z.elim⟩
      | i + 1, e =>
        unfold exE at e
        rw [List.getElem?_cons_succ, List.getElem?_replicate] at e
        split at e <;> cases e
    · unfold exE L2.start
      simp
  refine ⟨_, Fz, g, _, fl, g1, r1, e1, fun F' H' σ' s' => ?_⟩
  cases fl with
  | next ρ' => cases e; exact fun r' => k .non F' H' r'.nil .non
  | brk ρ' => cases e
  | cont ρ' => cases e
  | ret x => cases e; exact fun v r' h' => k v F' H' r' h'
def eCallC (i : Nat) (fn : Xc → M G Rt) : FE G := fun ρ => bnd (lft (excAt ρ i)) fun c => bnd (fn c) fun r => lft (toD r)
theorem de_callC {gi : GI G} {X : Cx} {k : Nat} {f : Addr} {fd : FuncData} {pp x n : Str} {fn : Xc → M G Rt} {i : Nat} {p p1 pos : Pos} (F : FnOk X.prog X.w X.K X.mg X.base CX0 k f fd [pp] (SpC gi X.K fn)) (hr : Room k X.A) (hg : Gl X x) (hm : X.mg x = some (.ref f)) (hk : PySem.W.keepIn X.K (.ref f) = true) (hb : Binds X.K fd [pp] [])
    (ha : PE X (.Name n p1) (tVar i)) (hdb : (x == ("__debug__" : Str)) = false := by decide) (he : starEach [.Name n p1] X.env = (false, eval (.Name n p1) X.env) :: starEach [] X.env := by rfl) (hpl : (backTo pos (starEach [] X.env)).any (·.1) = false := by rfl) :
    PE X (.Call (.Name x p) [.Name n p1] [] pos) (tE gi X.K (eCallC i fn)) :=
  PE_weak (pe_call F hr hg hm hk hb .nil pass0 (pa_cons ha pa_nil he) hdb he hpl) fun σ H Q ⟨en, Fz, g, ρ, d, g', r0, q, kk⟩ => by
    obtain ⟨c, g1, e1', q⟩ := bnd_some q
    obtain ⟨e1, rfl⟩ := lft_inv e1'
    obtain ⟨rt, g2, e2, q⟩ := bnd_some q
    obtain ⟨e3, rfl⟩ := lft_inv q
    obtain ⟨a, C, dd, h1, h2, h3⟩ := r0.sl i _ (excAt_some e1)
    refine ⟨.ref a, h1, a, C, dd, Fz, _, c, rt, _, rfl, r0.enter, h2, h3, e2, fun v F' H' cc h => ?_⟩
    have r' := r0.back cc
    cases rt with
    | d d' => cases e3; exact kk v F' H' cc.f0 r' h
    | raw w => cases e3
    | obj u => cases e3
    | l ds =>
      cases e3
      obtain ⟨q, xs, rfl, h1, h2, h3, h4, h5⟩ := h
      have lone : Lone gi en F' H' _ σ ρ q := r0.back_lone cc h3 h2 h4
      have sF : Same F' (upd F' q (.lst xs)) := same_upd h2
      exact kk _ _ _ (cc.f0.trans sF) (r'.freeze lone h1) (.lst upd_same (dva_mono sF h5))
def hdE (n jk : Nat) (c : Xc) : Ev := (List.replicate n none).set jk (some (.exc c))
def okE (n jk jf : Nat) (d : PyData) : Ev := ((List.replicate n none).set jk (some (.val .none))).set jf (some (.val d))
/-- m: what is done behind the try -/
def hdP (gi : GI G) (K : PySem.W.Frag) (n jk : Nat) (m : FS G) (Q : VK) : XK := fun cls d H' => ∃ C F g c r g', cls = .ref C ∧ R gi K (En.of H' F g) F H' g [] [] ∧ XcR K gi.cls F c C d ∧ m (hdE n jk c) g = some (.ret r, g') ∧ ∀ v F' H2, R gi K (En.of H' F g) F' H2 g' [] [] → RtR gi K (En.of H' F g) F' H2 g' v r → Q v H2
def okP (gi : GI G) (K : PySem.W.Frag) (n jk jf : Nat) (m : FS G) (Q : VK) : VK := fun u H' => ∃ F g d r g', R gi K (En.of H' F g) F H' g [] [] ∧ Dv K F u d ∧ m (okE n jk jf d) g = some (.ret r, g') ∧ ∀ v F' H2, R gi K (En.of H' F g) F' H2 g' [] [] → RtR gi K (En.of H' F g) F' H2 g' v r → Q v H2
def TTh (gi : GI G) (K : PySem.W.Frag) (n jk jf : Nat) (m : FS G) : (XK → Hp → VK → Prop) → Hp → VK → Prop := fun tl H Q => ∀ (H1 : Hp) (Q' : VK), Same H H1 → (∀ u H', okP gi K n jk jf m Q u H' → Q' u H') → tl (hdP gi K n jk m Q) H1 Q'
theorem rep_set {n i j : Nat} {s u : Sl} (e : ((List.replicate n none).set i (some s) : Ev)[j]? = some (some u)) : j = i ∧ u = s ∧ i < n := by
  by_cases h : i = j
  · subst h
    rcases Nat.lt_or_ge i n with q | q
    · rw [List.getElem?_set_self (by simpa using q)] at e
      cases e
      exact ⟨rfl, rfl, q⟩
    · rw [List.getElem?_eq_none (by simpa using q)] at e
      cases e
  · rw [List.getElem?_set_ne h, List.getElem?_replicate] at e
    split at e <;> cases e
theorem heard_gives {gi : GI G} {X : Cx} {Ng : List Str} {x a kx fx n e q : Str} {sg : Scope} {g CE : Addr} {cdg : Value} {jk jf i kt k2 u1 u2 : Nat} {rest : List Stmt} {m : FS G} {o1 o2 o3 o4 o5 o6 o7 p0 p1 p2 p3 p4 p5 p6 p7 p8 p9 : Pos}
    (hN : Ng.Nodup) (hk : Ng[jk]? = some kx) (hf : Ng[jf]? = some fx) (hi : Ng[i]? = some n) (lk : sg.names.lookup kx = some .local) (lf : sg.names.lookup fx = some .local) (ln : sg.names.lookup n = some .local)
    (hge : sg.names.lookup e = some .globalImplicit) (hme : X.mg e = some (.ref CE)) (hde : (e == ("__debug__" : Str)) = false) (hnd : (n == ("__debug__" : Str)) = false) (hncd : (n == ("__classdict__" : Str)) = false)
    (z1 : jk ≠ 0) (z2 : jf ≠ 0) (z3 : jk ≠ jf) (z4 : i ≠ jk)
    (hcl : ∀ c C, gi.cls c = some C → PySem.W.exmOne X.K (.ref C) (.ref CE) = some true)
    (hs1 : ∀ E : Env, E.scope = sg → swapsWithSole [.Tuple [.Name kx o1, .Name fx o2] kt o3] (.Tuple [.Constant .none u1 o4, .Constant .none u2 o5] k2 o6) o7.line E = pure false) (hw1 : ∀ E : Env, E.scope = sg → swappedStores [.Tuple [.Name kx o1, .Name fx o2] kt o3] (.Tuple [.Constant .none u1 o4, .Constant .none u2 o5] k2 o6) E = pure none)
    (hs2 : ∀ E : Env, E.scope = sg → swapsWith (.Call (.Name a p1) [] [] p2) (some (.Name fx p0)) p3.line E = pure false) (hs3 : ∀ E : Env, E.scope = sg → swapsWith (.Name n p6) (some (.Name kx p5)) p7.line E = pure false)
    (hrest : ∀ (s : Shared) (H : Hp), PSs (cxOf C8.CX0 X.prog X.w X.K X.mg X.base Ng x sg g cdg X.A X.stack s H C8.E0).nox rest (tS gi X.K m)) :
    LamX.GivesTo X Ng x sg g cdg (.Assign [.Tuple [.Name kx o1, .Name fx o2] kt o3] (.Tuple [.Constant .none u1 o4, .Constant .none u2 o5] k2 o6) o7 :: .Try [.Assign [.Name fx p0] (.Call (.Name a p1) [] [] p2) p3] [.ExceptHandler (some (.Name e p4)) (some n) [.Assign [.Name kx p5] (.Name n p6) p7] p8] [] [] p9 :: rest) a q (TTh gi X.K Ng.length jk jf m) := by
  intro f c' s H Q tl act hc h
  have hgl : Gl (cxOf C8.CX0 X.prog X.w X.K X.mg X.base Ng x sg g cdg X.A X.stack s H C8.E0).nox e := hge
  have jkl : jk < Ng.length := (List.getElem?_eq_some_iff.mp hk).1
  have jfl : jf < Ng.length := (List.getElem?_eq_some_iff.mp hf).1
  have il : i < Ng.length := (List.getElem?_eq_some_iff.mp hi).1
  refine ⟨_, pss_cons (ps_asg (X := (cxOf C8.CX0 X.prog X.w X.K X.mg X.base Ng x sg g cdg X.A X.stack s H C8.E0).nox) (pe_tup (pa_cons pe_non (pa_cons pe_non pa_nil))) (pg_tup rfl (pgs_cons (pg_name (i := jk) hN hk (.inl lk)) (pgs_cons (pg_name (i := jf) hN hf (.inl lf)) pgs_nil))) (hs1 _ rfl) (hw1 _ rfl))
    (pss_cons (ps_try_keep (X := (cxOf C8.CX0 X.prog X.w X.K X.mg X.base Ng x sg g cdg X.A X.stack s H C8.E0).nox) (c := .ref CE) (i := i) (j := jk)
      (tb := fun W D σ H => ∃ Ech : XK, (∀ cls d σ' H', Ech cls d H' → W cls d σ' H') ∧ σ[0]? = some (some (.ref f)) ∧ H c' = some (LamX.CodeO c' q) ∧ tl Ech H fun v H' => D.nx (σ.set jf (some v)) H')
      rfl rfl rfl hN hi ln hk lk ⟨hgl, hde, .inl hme⟩ hnd hncd (fun W pn xe tk => ?_) (fun a pn => hs3 _ rfl)) (hrest s H)), ?_⟩
  · refine ⟨fun pins s' σ H' D I h' => ?_⟩
    obtain ⟨Ech, hW, h1, h2, h3⟩ := h'
    have hp := act W pn xe Ech p1 p2 tk hW
    have hq := pss_one (ps_set (i := jf) (pos := p3) (pos' := p0) hN hf (.inl lf) hp (hs2 _ rfl) (.inr lf))
    exact hq.run pins s' σ H' D I ⟨h1, h2, h3⟩
  · refine ⟨by show 2 ≤ sizeLine; decide, fun p hp => ⟨p, [.non, .non], rfl, .inl (.inl upd_same), rfl, .non, [.non], rfl, .non, [], rfl, rfl, ?_⟩⟩
    have lenS : (L2.start Ng [V.ref f]).length = Ng.length := by unfold L2.start; simp; omega
    have at0 : (L2.start Ng [V.ref f])[0]? = some (some (V.ref f)) := rfl
    have sH : Same H (upd H p (.tup [.non, .non])) := same_upd hp
    refine ⟨hdP gi X.K Ng.length jk m Q, fun cls d σ' H' hE => ?_, ?_, sH _ _ hc, ?_⟩
    · obtain ⟨C, F, g, c, r, g', rfl, r0, hx, em, kk⟩ := hE
      refine ⟨hcl _ _ hx.1, C, rfl, fun a' ha hl => ?_⟩
      have hl : σ'.length = Ng.length := hl
      have f1 := (r0.free ha).1
      have r1 : R gi X.K (En.of H' F g) (upd F a' (KptO C d a')) (upd H' a' (KptO C d a')) g [] [] := r0.alloc ha (fun ps z => by unfold KptO at z; cases z)
      have r2 : R gi X.K (En.of H' F g) (upd F a' (KptO C d a')) (upd H' a' (KptO C d a')) g (((σ'.set i (some (.ref a'))).set jk (some (.ref a'))).set i none) (hdE Ng.length jk c) := by
        refine r1.with (fun j s e => ?_) ?_
        · obtain ⟨rfl, rfl, _⟩ := rep_set e
          refine ⟨⟨a', C, d, ?_, upd_same, hx.mono (same_upd f1)⟩, fun _ z => z.elim⟩
          rw [List.getElem?_set_ne z4, List.getElem?_set_self (by rw [List.length_set]; omega)]
        · unfold hdE
          simp only [List.length_set, List.length_replicate]
          omega
      exact ⟨_, _, g, _, .ret r, g', r2, em, fun F' H2 σ2 s2 v r' h' => kk v F' H2 r' h'⟩
    · rw [List.getElem?_set_ne z2, List.getElem?_set_ne z1]
      exact at0
    · refine h _ _ sH fun u H' hu => ?_
      obtain ⟨F, g, d, r, g', r0, hd, em, kk⟩ := hu
      refine ⟨_, F, g, _, .ret r, g', r0.with (fun j s e => ?_) ?_, em, fun F' H2 σ2 s2 v r' h' => kk v F' H2 r' h'⟩
      · unfold okE at e
        by_cases hj : jf = j
        · subst hj
          rw [List.getElem?_set_self (by simp only [List.length_set, List.length_replicate]; exact jfl)] at e
          cases e
          exact ⟨⟨u, by rw [List.getElem?_set_self (by simp only [List.length_set]; omega)], hd⟩, fun _ z => z.elim⟩
        · rw [List.getElem?_set_ne hj] at e
          obtain ⟨rfl, rfl, _⟩ := rep_set e
          refine ⟨⟨.non, ?_, .non⟩, fun _ z => z.elim⟩
          rw [List.getElem?_set_ne hj, List.getElem?_set_ne hj, List.getElem?_set_self (by omega)]
      · unfold okE
        simp only [List.length_set, List.length_replicate]
        omega
end
end Dt
namespace Dt
open PySem PySem.Spec L2 PyProof.Rows
/-- a def is given a lambda -/
theorem pe_lam3 {X : Cx} {TT : (XK → Hp → VK → Prop) → Hp → VK → Prop} {x a : Str} {g c P : Addr} {k : Nat} {pg : Arguments} {bg : List Stmt} {sg : Scope} {dV kV doc pm cdv ct oc : Value} {an od : Option Addr} {osl : Array (Option Value)} {Ng : List Str}
    {params : Arguments} {body : Expr} {scope : Scope} {t : XK → TE} {p lpos pos : Pos} (hg : Gl X x) (hm : X.mg x = some (.ref g)) (hk : PySem.W.keepIn X.K (.ref g) = true)
    (lk : X.K.lookup g = some ⟨oc, od, .func (PySem.W.fnOf x x pg bg sg dV kV doc pm an cdv ct), osl⟩) (hcg : PySem.W.codeIn X.K cdv x = true) (hb : L2.Binds X.K (PySem.W.fnOf x x pg bg sg dV kV doc pm an cdv ct) [a] []) (Sg : FnScope Ng [a] sg) (hNg : Ng[0]? = some a) (hva : Vis sg a)
    (hG : LamX.GivesTo X Ng x sg g cdv bg a (X.env.qual ++ "<lambda>") TT)
    (TB : LamX.TabB X.base X.mg c P) (hcode : X.env.code = .ref c) (hr : Room (k + 2) X.A) (L : LamX.LamS X.env.scope scope) (hdef : defaultsOf params X.env = ([], []))
    (hbind : ∀ (q : Str) (cl : List (Str × Addr)) (pm cv ctv : Value), bindArgs (PySem.W.kla_fn "<lambda>" q params body scope cl pm cv ctv) ⟨[], []⟩ = pure [])
    (hbody : ∀ (A : Around) (outer : List Env) (s : Shared) (H : Hp) (E : XK) (f c' : Addr), Room k (A.deeper (LamX.lamEnv X scope s.heap.objs.size f c')) → PE (LamX.lamCx X A outer s H E scope f c') body (t E))
    (hdb : (x == ("__debug__" : Str)) = false := by decide) (hd : (a == ("__debug__" : Str)) = false := by decide) (hcd : (a == ("__classdict__" : Str)) = false := by decide) :
    PE X (.Call (.Name x p) [.Lambda params body scope lpos] [] pos) (fun σ H Q => LamX.TabS H P (X.env.qual ++ "<lambda>") ∧ ∀ c' H1, Lam1 P (X.env.qual ++ "<lambda>") H c' H1 → TT (fun E H' Q' => t E σ H' Q') H1 Q) := by
  refine ⟨fun pins s σ H Q I h => ?_⟩
  obtain ⟨hT, h⟩ := h
  refine wpAny_Call_Name_kw (ld_glob I hg hm ?_ hdb)
  refine PySem.W.callWith_K (h₀ := X.base) I.ok.mod.kin hk ?_ (by rfl) (by rfl)
  show wpAny _ _ (spliced ((false, eval (.Lambda params body scope lpos) X.env) :: backTo pos (starEach [] X.env))) _ _ s
  refine Calls.spliced_cons (lam_make3 I TB hcode hT hdef (L.has I.ok) fun f c' pm' ctv H1 s' I1 l1 hf hfn hfr => ?_)
  refine Calls.spliced_nil ⟨I1.kIn, ?_⟩
  have rc : codeAny (model X.prog X.w) X.A (.call (.ref g) ⟨[.ref f], []⟩) (CR C8.CX0 X.stack X.prog X.w H1 s' Q C8.E0) s' := by
    refine LamX.run_ofS (N := Ng) (ps := [a]) (us := [.ref f]) (vs := [.ref f]) lk hcg Sg hr I1.env0 (hb s' [.ref f] I1.kIn rfl) (.cons rfl .nil) rfl fun hr' => ?_
    obtain ⟨t', ht', hq'⟩ := hG f c' s' H1 Q (fun E H' Q' => t E σ H' Q') (fun W pn xe E p1 p2 tk hW => LamX.pe_act (i := 0) I1 L hf hfn hfr (hbind _ _ _ _ _) tk hW hr' (fun A outer s H hr2 => hbody A outer s H E f c' hr2) hNg hva hd hcd) l1.code (h c' H1 l1)
    exact ⟨t', ht'.nox, hq'⟩
  refine wpAny_call (codeAny_mono rc fun r s2 hq => ?_)
  cases r with
  | error e => exact (show False from hq).elim
  | ok fl =>
    cases fl with
    | ret u => exact I1.after hq
    | next => exact False.elim hq
    | brk => exact False.elim hq
    | cont => exact False.elim hq
inductive Rd where
  | ok (d : PyData)
  | exc (c : Xc)
abbrev FEX (G : Type) := Ev → M G Rd
def toRd : Rx → Option Rd
  | .ok r => (toD r).map .ok
  | .exc c => some (.exc c)
/-- what is wished of what comes back -/
def RdR (K : PySem.W.Frag) (cl : Str → Option Addr) (Q : VK) (E : XK) (F' H' : Hp) : Rd → Prop
  | .ok d => ∀ v, Dv K F' v d → Q v H'
  | .exc c => ∀ C d, XcR K cl F' c C d → E (.ref C) d H'
section
variable {G : Type} {gi : GI G}
def tEX (gi : GI G) (K : PySem.W.Frag) (f : FEX G) (E : XK) : TE := fun σ H Q => ∃ en F g ρ x g', R gi K en F H g σ ρ ∧ f ρ g = some (x, g') ∧ ∀ F' H', Same F F' → R gi K en F' H' g' σ ρ → RdR K gi.cls Q E F' H' x
theorem call_x {K : PySem.W.Frag} {n : Nat} {fn : List Ar → M G Rx} {en : En G} {F H : Hp} {g g' : G} {σ : L2.St} {ρ : Ev} {vs : List V} {as : List Ar} {x : Rx} {y : Rd} {Q : VK} {E : XK} (r : R gi K en F H g σ ρ) (ha : ArsR K F vs as) (hl : vs.length = n) (e : fn as g = some (x, g')) (ed : toRd x = some y)
    (k : ∀ F' H', Same F F' → R gi K en F' H' g' σ ρ → RdR K gi.cls Q E F' H' y) : SpX gi K n fn vs H Q E := by
  refine ⟨hl, F, g, as, x, g', r.enter, ha, e, fun F' H' c => ?_⟩
  have r' := r.back c
  cases x with
  | exc xc => cases ed; exact k F' H' c.f0 r'
  | ok rt =>
    intro v h
    cases rt with
    | d d' => cases ed; exact k F' H' c.f0 r' v h
    | raw w => cases ed
    | obj u => cases ed
    | l ds =>
      cases ed
      obtain ⟨q, xs, rfl, h1, h2, h3, h4, h5⟩ := h
      have lone : Lone gi en F' H' g' σ ρ q := r.back_lone c h3 h2 h4
      have sF : Same F' (upd F' q (.lst xs)) := same_upd h2
      exact k _ _ (c.f0.trans sF) (r'.freeze lone h1) _ (.lst upd_same (dva_mono sF h5))
def eCallX (n : Nat) (fn : List Ar → M G Rx) (ga : FA G) : FEX G := fun ρ => bnd (ga ρ) fun as => if as.length = n then bnd (fn as) fun x => lft (toRd x) else fail
def eCallKX (n : Nat) (fn : List Ar → M G Rx) (gA : List Ar → List Ar → List Ar) (ga gk : FA G) : FEX G := fun ρ => bnd (ga ρ) fun as => bnd (gk ρ) fun bs => if (gA as bs).length = n then bnd (fn (gA as bs)) fun x => lft (toRd x) else fail
variable {X : Cx} {E : XK} {k n : Nat} {f : Addr} {fd : FuncData} {ps : List Str} {fn : List Ar → M G Rx} {x : Str} {e : Expr} {es : List Expr} {p pos : Pos} {ga : FA G}
theorem de_callKX {kws : List Keyword} {ks : List Str} {gg : List Value → List Value → List Value} {gV : List V → List V → List V} {gA : List Ar → List Ar → List Ar} {gk : FA G}
    (F : FnOk X.prog X.w X.K X.mg X.base (L2.CX X.prog X.w) k f fd ps (SpX gi X.K n fn)) (tk : Takes X fun cls d _ H => E cls d H) (hr : Room k X.A) (hg : Gl X x) (hm : X.mg x = some (.ref f)) (hk : PySem.W.keepIn X.K (.ref f) = true) (hb : KBinds X.K fd ps ks gg gV) (hA : ∀ F vs as zs bs, ArsR X.K F vs as → ArsR X.K F zs bs → ArsR X.K F (gV vs zs) (gA as bs))
    (ha : PA X (e :: es) (tA gi X.K ga)) (hkw : PK X kws (tA gi X.K gk)) (hall : (backToKw pos (keywordEach kws X.env)).all (·.1.isSome) = true := by rfl) (hks : (backToKw pos (keywordEach kws X.env)).filterMap (·.1) = ks := by rfl)
    (hdb : (x == ("__debug__" : Str)) = false := by decide) (he : starEach (e :: es) X.env = (false, eval e X.env) :: starEach es X.env := by rfl)
    (hpl : ((backTo pos (starEach (e :: es) X.env)).any (·.1) || (backToKw pos (keywordEach kws X.env)).any (·.1.isNone)) = false := by rfl) :
    PE X (.Call (.Name x p) (e :: es) kws pos) (tEX gi X.K (eCallKX n fn gA ga gk) E) :=
  PE_weak (pe_callK F hr hg hm hk hb (passes_call tk fun _ _ _ _ h => h) ha hkw hall hks hdb he hpl) fun σ H Q ⟨en, Fz, g, ρ, d, g', r0, q, kk⟩ => by
    obtain ⟨as, g1, e1, q⟩ := bnd_some q
    obtain ⟨bs, g2, e2, q⟩ := bnd_some q
    split at q
    · rename_i hl
      obtain ⟨rt, g3, e3, q⟩ := bnd_some q
      obtain ⟨e4, rfl⟩ := lft_inv q
      refine ⟨en, Fz, g, ρ, as, g1, r0, e1, fun vs F1 H1 s1 r1 h1 => ⟨en, F1, g1, ρ, bs, g2, r1, e2, fun zs F2 H2 s2 r2 h2 => ?_⟩⟩
      have hh := hA F2 vs as zs bs (h1.mono s2) h2
      exact call_x r2 hh (by rw [hh.len]; exact hl) e3 e4 fun F' H' s' r' => kk F' H' ((s1.trans s2).trans s') r'
    · cases q
theorem de_callX (F : FnOk X.prog X.w X.K X.mg X.base (L2.CX X.prog X.w) k f fd ps (SpX gi X.K n fn)) (tk : Takes X fun cls d _ H => E cls d H) (hr : Room k X.A) (hg : Gl X x) (hm : X.mg x = some (.ref f)) (hk : PySem.W.keepIn X.K (.ref f) = true) (hb : Binds X.K fd ps [])
    (ha : PA X (e :: es) (tA gi X.K ga)) (hdb : (x == ("__debug__" : Str)) = false := by decide) (he : starEach (e :: es) X.env = (false, eval e X.env) :: starEach es X.env := by rfl) (hpl : (backTo pos (starEach es X.env)).any (·.1) = false := by rfl) :
    PE X (.Call (.Name x p) (e :: es) [] pos) (tEX gi X.K (eCallX n fn ga) E) :=
  PE_weak (pe_call F hr hg hm hk hb .nil (passes_call tk fun _ _ _ _ h => h) ha hdb he hpl) fun σ H Q ⟨en, Fz, g, ρ, d, g', r0, q, kk⟩ => by
    obtain ⟨as, g1, e1, q⟩ := bnd_some q
    split at q
    · rename_i hl
      obtain ⟨rt, g2, e2, q⟩ := bnd_some q
      obtain ⟨e3, rfl⟩ := lft_inv q
      exact ⟨en, Fz, g, ρ, as, g1, r0, e1, fun vs F1 H1 s1 r1 h1 => by
        show SpX gi X.K n fn (vs ++ []) H1 Q E
        rw [List.append_nil]
        exact call_x r1 h1 (by rw [h1.len]; exact hl) e2 e3 fun F' H' s' r' => kk F' H' (s1.trans s') r'⟩
    · cases q
end
def flD : Fl → Option PyData
  | .ret (.d v) => some v
  | _ => none
def eHeard (n jk jf : Nat) (m : FS Tw) (f : FEX Tw) : FE Tw := fun ρ => bnd (f ρ) fun y => match y with
  | .ok d => bnd (m (okE n jk jf d)) fun fl => lft (flD fl)
  | .exc c => bnd (m (hdE n jk c)) fun fl => lft (flD fl)
theorem flD_some {fl : Fl} {d : PyData} (h : flD fl = some d) : fl = .ret (.d d) := by
  unfold flD at h
  split at h
  · cases h; rfl
  · cases h
section
variable {X : Cx} {T : List (Addr × Str)} {cl : Str → Option Addr} {w : World} {P : Addr} {n jk jf : Nat} {m : FS Tw} {f : FEX Tw}
theorem heard_reads {e : Expr} {q : Str} (hm : (P, q) ∈ T) (hu : ∀ p ∈ T, p.1 = P → p.2 = q)
    (h : PE X e (fun σ H Q => LamX.TabS H P q ∧ ∀ c' H1, Lam1 P q H c' H1 → TTh (twGI X.K w T cl) X.K n jk jf m (fun E H' Q' => tEX (twGI X.K w T cl) X.K f E σ H' Q') H1 Q)) : PE X e (tE (twGI X.K w T cl) X.K (eHeard n jk jf m f)) :=
  PE_weak h fun σ H Q ⟨en, F, g, ρ, d, g', r, e, k⟩ => by
    obtain ⟨y, g1, e1, e⟩ := bnd_some e
    refine ⟨r.tabS hm, fun c' H1 hl H2 Q' sH hQ => ?_⟩
    obtain ⟨F1, s1, r1⟩ := r.lam hm hu hl
    refine ⟨en, F1, g, ρ, y, g1, r1.grow sH, e1, fun F2 H3 s2 r2 => ?_⟩
    cases y with
    | ok dd =>
      obtain ⟨fl, g2, e2, e⟩ := bnd_some e
      obtain ⟨e3, rfl⟩ := lft_inv e
      have := flD_some e3
      subst this
      intro v hv
      exact hQ v H3 ⟨F2, g1, dd, .d d, _, r2.enter, hv, e2, fun u F' H4 c hu' => k u F' H4 ((s1.trans s2).trans c.f0) (r2.back c) hu'⟩
    | exc xc =>
      obtain ⟨fl, g2, e2, e⟩ := bnd_some e
      obtain ⟨e3, rfl⟩ := lft_inv e
      have := flD_some e3
      subst this
      intro C dx hx
      exact ⟨C, F2, g1, xc, .d d, _, rfl, r2.enter, hx, e2, fun u F' H4 c hu' => k u F' H4 ((s1.trans s2).trans c.f0) (r2.back c) hu'⟩
end
end Dt
namespace Dt
open PySem PySem.Spec L2 PyProof.Rows
section
variable {G : Type} {gi : GI G} {X : Cx}
/-- an expression that is never asked -/
def eFail : FE G := fun _ => fail
theorem de_fail {e : Expr} : PE X e (tE gi X.K eFail) := ⟨fun pins s σ H Q I h => by
  obtain ⟨_, _, _, _, _, _, _, z, _⟩ := h
  cases z⟩
/-- kept is None -/
def isNoX (ρ : Ev) (i : Nat) : Option Bool := match ρ[i]? with
  | some (some (.exc _)) => some false
  | some (some (.val .none)) => some true
  | _ => none
def fNoX (i : Nat) : FT G := fun ρ => lft (isNoX ρ i)
theorem dt_noX (i : Nat) {n : Str} {p pos : Pos} {u : Nat} {p2 : Pos} (hv : PE X (.Name n p) (tVar i)) : PT X (.Compare (.Name n p) [.Is] [.Constant .none u p2] pos) (tT gi X.K (fNoX i)) :=
  PT_weak (pt_cmpR op_isN hv pe_non (nomark _)) fun σ H Q ⟨en, F, g, ρ, b, g', r, e, k⟩ => by
    obtain ⟨e1, rfl⟩ := lft_inv e
    unfold isNoX at e1
    split at e1
    · rename_i c hρ
      cases e1
      obtain ⟨a, C, d, h1, h2, h3⟩ := r.sl i _ hρ
      exact ⟨.ref a, h1, rfl, _, rfl, k F H (Same.refl F) r⟩
    · rename_i hρ
      cases e1
      obtain ⟨v, h1, h2⟩ := r.sl i _ hρ
      cases h2
      exact ⟨.non, h1, rfl, _, rfl, k F H (Same.refl F) r⟩
    · cases e1
end
section
variable {X : Cx} {T : List (Addr × Str)} {cl : Str → Option Addr} {P : Addr} {jk jf : Nat} {m : FS Tw} {f : FEX Tw}
/-- x(lambda: ..), x the def that hears -/
theorem de_heard {x a : Str} {st : Stmt} {g c : Addr} {fd : FuncData} {k : Nat} {Ng : List Str} {params : Arguments} {body : Expr} {scope : Scope} {p lpos pos : Pos} (F : DFn X.K x x st [] g fd) (Sg : FnScope Ng [a] (defScope st)) (hb : L2.Binds X.K fd [a] []) (hg : Gl X x) (hm : X.mg x = some (.ref g)) (hNg : Ng[0]? = some a) (hva : Vis (defScope st) a)
    (hG : ∀ cdv, LamX.GivesTo X Ng x (defScope st) g cdv (defBody st) a (X.env.qual ++ "<lambda>") (TTh (twGI X.K X.w T cl) X.K Ng.length jk jf m))
    (TB : LamX.TabB X.base X.mg c P) (hcode : X.env.code = .ref c) (hT : (P, X.env.qual ++ "<lambda>") ∈ T) (hu : ∀ p ∈ T, p.1 = P → p.2 = X.env.qual ++ "<lambda>") (hr : Room (k + 2) X.A) (L : LamX.lamSB X.env.scope scope = true)
    (hbody : ∀ (A : Around) (outer : List Env) (s : Shared) (H : Hp) (E : XK) (f' c' : Addr), Room k (A.deeper (LamX.lamEnv X scope s.heap.objs.size f' c')) → PE (LamX.lamCx X A outer s H E scope f' c') body (tEX (twGI X.K X.w T cl) X.K f E))
    (hdef : defaultsOf params X.env = ([], []) := by rfl)
    (hbind : ∀ (q : Str) (cl : List (Str × Addr)) (pm cv ctv : Value), bindArgs (PySem.W.kla_fn "<lambda>" q params body scope cl pm cv ctv) ⟨[], []⟩ = pure [] := by intros; rfl)
    (hdb : (x == ("__debug__" : Str)) = false := by decide) (hd : (a == ("__debug__" : Str)) = false := by decide) (hcd : (a == ("__classdict__" : Str)) = false := by decide) :
    PE X (.Call (.Name x p) [.Lambda params body scope lpos] [] pos) (tE (twGI X.K X.w T cl) X.K (eHeard Ng.length jk jf m f)) := by
  obtain ⟨oc, od, dV, kV, doc, pm, an, cdv, ct, osl, rfl, lk, hcd', _, _⟩ := F.ex
  exact heard_reads hT hu (pe_lam3 (k := k) hg hm F.kp lk hcd' hb Sg hNg hva (hG cdv) TB hcode hr (LamX.lamS_by L) hdef hbind hbody hdb hd hcd)
end
/-- THE RULE for the law's def, its code object known -/
theorem law_okT {P : Program} {w : World} {K : PySem.W.Frag} {mg : Str → Option Value} {base : Heap} (T : List (Addr × Str)) (cl : Str → Option Addr) {N : List Str} {k : Nat} {x : Stmt} {f c : Addr} {st0 : Stmt} {rest : List Stmt} {body : FS Tw} {oc : Value} {od an : Option Addr} {osl : Array (Option Value)} {dV kV doc pm ct : Value}
    (lk : K.lookup f = some ⟨oc, od, .func (PySem.W.fnOf "law" "law" (defArgs x) (defBody x) (defScope x) dV kV doc pm an (.ref c) ct), osl⟩) (hcd : PySem.W.codeIn K (.ref c) "law" = true) (S : FnScope N ["script"] (defScope x)) (hN : 2 ≤ N.length) (hx : defBody x = st0 :: rest)
    (hb : ∀ (A : Around) (outer : List Env) (s : Shared) (H : Hp) (E : XK), Room k (A.deeper (PyProof.Rows.envOfC "law" (defScope x) s.heap.objs.size f (.ref c))) →
      PS (cxOf CX0 P w K mg base N "law" (defScope x) f (.ref c) A outer s H E).nox st0 (tBegun 1) ∧ PSs (cxOf CX0 P w K mg base N "law" (defScope x) f (.ref c) A outer s H E).nox rest (tS (twGI K w T cl) K body))
    (h : ∀ (a t r : Addr) (tr : Bool) (ns : List Int), ns.length ≤ 63 → ∃ g', body (lawE N.length a t) (tw0 a t r tr ns) = some (.ret (.d (.bool true)), g')) : FnOk P w K mg base CX0 (k + 1) f (PySem.W.fnOf "law" "law" (defArgs x) (defBody x) (defScope x) dV kV doc pm an (.ref c) ct) ["script"] (spLaw K T) := by
  refine fn_of lk hcd S (fun vs H Q E h => by obtain ⟨a, ns, rfl, _⟩ := h; rfl) fun A outer s H vs Q E hr hh => ?_
  obtain ⟨a, ns, rfl, hT, hs, hl, q⟩ := hh
  obtain ⟨h1, h2⟩ := hb A outer s H E hr
  rw [hx]
  refine ⟨_, PSs.nox (pss_cons h1 h2), fun t r H' b => ?_⟩
  obtain ⟨tr, hrel⟩ := begun_rel b hs
  obtain ⟨g', hg⟩ := h a t r tr ns hl
  have e1 : (L2.start N [.ref a]).set 1 (some (.ref t)) = some (.ref a) :: some (.ref t) :: List.replicate (N.length - 2) none := by
    obtain ⟨m, hm⟩ : ∃ m, N.length = m + 2 := ⟨N.length - 2, by omega⟩
    unfold L2.start
    simp [hm, List.replicate_succ]
  rw [e1]
  exact ⟨_, _, _, _, _, _, R.first hrel (fun p hp => (b.el p.1 (fun z => by have y := hT p hp; rw [z, b.ht] at y; cases y) fun z => by have y := hT p hp; rw [z, b.hr] at y; cases y).trans (hT p hp)), hg, fun F' H2 σ' s' v r' hv => by cases hv; exact q H2⟩
end Dt
namespace Dt
open PySem PySem.Spec PyProof.Rows L2
end Dt
namespace Dt
open PySem PySem.Spec PyProof.Rows L2
section
variable {G : Type} {gi : GI G} {X : Cx} {a b c tg : Expr} {pos : Pos}
def ownAt (ρ : Ev) (i : Nat) : Option (List PyData) := match ρ[i]? with
  | some (some (.own ds)) => some ds
  | _ => none
theorem ownAt_some {ρ : Ev} {i : Nat} {ds : List PyData} (h : ownAt ρ i = some ds) : ρ[i]? = some (some (.own ds)) := by
  unfold ownAt at h
  split at h
  · cases h; assumption
  · cases h
end
end Dt
namespace Dt
open PySem PySem.Spec L2
def f_l_draw : List Ar → M Tw Rt := fDraw
/-- k01_things -/
noncomputable def m_is_whole_number : FS Tw :=
  (sRet (eAnd (eIs "int" (eVarQ 0)) (eAnd (eNot (eIs "bool" (eVarQ 0))) (eCh sLe sLe (eVarQ 1) (eVarQ 0) (eVarQ 2)))))
noncomputable def f_is_whole_number : List Ar → M Tw Rt := runDef 3 m_is_whole_number
/-- k01_things -/
noncomputable def m_l_a_piece : FS Tw :=
  (sSeq (sSet 2 (e2 sIx (eFz (lLst (aCons (eC (.int 1)) (aCons (eC (.int 3)) (aCons (eC (.int 9)) aNil))))) (eCall 3 f_l_draw (rRaw 0 (rRaw 1 (rCons (eC (.int 3)) rNil))) [])))
  (sSeq (sSet 3 (eTup aNil))
  (sSeq (sFor (l1 sRng1 (eC (.int 4))) (bName 4) (sSeq (sSet 5 (e2 sSub (eCall 3 f_l_draw (rRaw 0 (rRaw 1 (rCons (e2 sAdd (e2 sMul (eC (.int 2)) (eVarQ 2)) (eC (.int 1))) rNil))) []) (eVarQ 2)))
  (sSet 3 (e2 sAdd (eVarQ 3) (eTup (aCons (eIf (fB (e2 sGt (eCall 3 f_l_draw (rRaw 0 (rRaw 1 (rCons (eC (.int 4)) rNil))) []) (eC (.int 0)))) (eVar 5) (eC (.int 0))) aNil))))))
  (sRet (eVar 3)))))
noncomputable def f_l_a_piece : List Ar → M Tw Rt := runDef 6 m_l_a_piece
/-- k05_layings -/
noncomputable def m_is_entry : FS Tw :=
  (sSeq (sIf (fOr (fNot (fTru (eIs "tuple" (eVarQ 1)))) (fB (e2 sNe (e1 sLen (eVarQ 1)) (eC (.int 2))))) (sRet (eC (.bool false))) sNext)
  (sRet (eAnd (eCall 3 f_is_whole_number (rCons (e2 sIx (eVarQ 1) (eC (.int 0))) (rCons (eC (.int 0)) (rCons (e2 sSub (e1 sLen (eVarQ 0)) (eC (.int 1))) rNil))) []) (eCall 3 f_is_whole_number (rCons (e2 sIx (eVarQ 1) (eC (.int 1))) (rCons (eC (.int 0)) (rCons (eC (.int 3)) rNil))) []))))
noncomputable def f_is_entry : List Ar → M Tw Rt := runDef 2 m_is_entry
/-- k05_layings -/
noncomputable def m_is_row : FS Tw :=
  (sRet (eAnd (eIs "tuple" (eVarQ 1)) (eAnd (e2 sNe (eVarQ 1) (eTup aNil)) (e1 sAll (eFz (lLC [2] (iSeq (eVar 1)) (bName 2) fYes (eCall 2 f_is_entry (rCons (eVar 0) (rCons (eVar 2) rNil)) [])))))))
noncomputable def f_is_row : List Ar → M Tw Rt := runDef 3 m_is_row
/-- k05_layings -/
noncomputable def m_entries_of : FS Tw :=
  (sSeq (sSetL 1 (lLst aNil))
  (sSeq (sFor (iSeq (eVar 0)) (bName 2) (sExt 1 (eFz (l1 sList (eVarQ 2)))))
  (sRetO 1)))
noncomputable def f_entries_of : List Ar → M Tw Rt := runDef 3 m_entries_of
/-- k05_layings -/
noncomputable def m_is_laying : FS Tw :=
  (sSeq (sIf (fOr (fNot (fTru (eIs "tuple" (eVarQ 1)))) (fOr (fB (e2 sEq (eVarQ 1) (eTup aNil))) (fNot (fTru (e1 sAll (eFz (lLC [3] (iSeq (eVar 1)) (bName 3) fYes (eCall 2 f_is_row (rCons (eVar 0) (rCons (eVar 3) rNil)) [])))))))) (sRet (eC (.bool false))) sNext)
  (sSeq (sSet 2 (eFz (lLC [4, 5] (iSeq (eCall 1 f_entries_of (rCons (eVar 1) rNil) [])) (bTup 2 (bCons (bName 4) (bCons (bName 5) bNil))) fYes (eVar 4))))
  (sRet (eAnd (e1 sAll (eFz (lLC [3] (iSeq (eVar 1)) (bName 3) fYes (e2 sEq (e1 sLen (eVarQ 3)) (e1 sLen (e2 sIx (eVarQ 1) (eC (.int 0)))))))) (e2 sEq (e1 sLenSet (eVarQ 2)) (e1 sLen (eVarQ 2)))))))
noncomputable def f_is_laying : List Ar → M Tw Rt := runDef 6 m_is_laying
/-- k05_layings -/
noncomputable def m_l_an_order : FS Tw :=
  (sSeq (sPar [3, 4] (xL (l1 sLrng (eVar 2)) (xD (eTup aNil) xNil)))
  (sSeq (sFor (l1 sRng1 (eVarQ 2)) (bName 5) (sSeq (sPop 6 3 (eCall 3 f_l_draw (rRaw 0 (rRaw 1 (rCons (e1 sLen (eVarQ 3)) rNil))) []))
  (sSet 4 (e2 sAdd (eVarQ 4) (eTup (aCons (eTup (aCons (eVar 6) (aCons (eCall 3 f_l_draw (rRaw 0 (rRaw 1 (rCons (eC (.int 4)) rNil))) []) aNil))) aNil))))))
  (sRet (eVar 4))))
noncomputable def f_l_an_order : List Ar → M Tw Rt := runDef 7 m_l_an_order
/-- k10_cut -/
noncomputable def m_l_class : FS Tw :=
  (sSeq (sSetL 1 (lLst (aCons (eIsX 0 "NoRows") (aCons (eIsX 0 "NoPiece") (aCons (eIsX 0 "Joined") (aCons (eIsX 0 "NoFit") aNil))))))
  (sSeq (sSetL 1 (l2 lAdd (eVarQ 1) (eFz (lLst (aCons (eIsX 0 "NoRoom") (aCons (eIsX 0 "Alone") (aCons (eIsX 0 "NoBack") aNil)))))))
  (sSeq (sApp 1 (eIsX 0 "NoText"))
  (sSeq (sIf (fOr (fB (e2 sNe (e2 sCount (eVarQ 1) (eC (.bool true))) (eC (.int 1)))) (fNot (fTru (eIsX 0 "ValueError")))) (sRet (eC (.str "is wrong"))) sNext)
  (sRet (e2 sIx (eFz (lLst (aCons (eC (.str "no rows")) (aCons (eC (.str "no piece")) (aCons (eC (.str "joined")) (aCons (eC (.str "no fit")) (aCons (eC (.str "no room")) (aCons (eC (.str "alone")) (aCons (eC (.str "no back")) (aCons (eC (.str "no text")) aNil)))))))))) (e2 sIndex (eVarQ 1) (eC (.bool true)))))))))
noncomputable def f_l_class : Xc → M Tw Rt := runC 2 m_l_class
/-- k10_cut -/
noncomputable def m_l_heard : FS Tw :=
  (sSeq (sIf (fNoX 1) (sRet (eTup (aCons (eC (.str "told")) (aCons (eVar 2) aNil)))) sNext)
  (sSeq (sSet 4 (eCallC 1 f_l_class))
  (sRet (eIf (fB (e2 sEq (eVarQ 4) (eC (.str "no piece")))) (eTup (aCons (eVar 4) (aCons eFail aNil))) (eTup (aCons (eVar 4) aNil))))))
end Dt
namespace Dt
open PySem PySem.Spec L2
section
variable {G : Type}
theorem eFz_ap (fl : FL G) (ρ : Ev) : eFz fl ρ = ((bnd (fl ρ) fun ds => ret (.list ds)) : M G _) := id rfl
theorem eVar_ap (i : Nat) (ρ : Ev) : eVar i ρ = ((match ρ[i]? with
  | some (some (.val d)) => ret d
  | _ => fail) : M G _) := id rfl
theorem eVarQ_ap (i : Nat) (ρ : Ev) : eVarQ i ρ = ((match ρ[i]? with
  | some (some (.val d)) => ret d
  | some (some (.own ds)) => ret (.list ds)
  | _ => fail) : M G _) := id rfl
theorem eC_ap (d : PyData) (ρ : Ev) : eC d ρ = ((ret d) : M G _) := id rfl
theorem e1_ap (sem : PyData → Option PyData) (fa : FE G) (ρ : Ev) : e1 sem fa ρ = ((bnd (fa ρ) fun x => lft (sem x)) : M G _) := id rfl
theorem e2_ap (sem : PyData → PyData → Option PyData) (fa fb : FE G) (ρ : Ev) : e2 sem fa fb ρ = ((bnd (fa ρ) fun x => bnd (fb ρ) fun y => lft (sem x y)) : M G _) := id rfl
theorem l1_ap (sem : PyData → Option (List PyData)) (fa : FE G) (ρ : Ev) : l1 sem fa ρ = ((bnd (fa ρ) fun x => lft (sem x)) : M G _) := id rfl
theorem l2_ap (sem : PyData → PyData → Option (List PyData)) (fa fb : FE G) (ρ : Ev) : l2 sem fa fb ρ = ((bnd (fa ρ) fun x => bnd (fb ρ) fun y => lft (sem x y)) : M G _) := id rfl
theorem aNil_ap (ρ : Ev) : aNil  ρ = ((ret []) : M G _) := id rfl
theorem aCons_ap (fa : FE G) (fl : FL G) (ρ : Ev) : aCons fa fl ρ = ((bnd (fa ρ) fun x => bnd (fl ρ) fun xs => ret (x :: xs)) : M G _) := id rfl
theorem eTup_ap (fl : FL G) (ρ : Ev) : eTup fl ρ = ((bnd (fl ρ) fun ds => if ds.length ≤ lim then ret (.tuple ds) else fail) : M G _) := id rfl
theorem lLst_ap (fl : FL G) (ρ : Ev) : lLst fl ρ = ((bnd (fl ρ) fun ds => if ds.length ≤ lim then ret ds else fail) : M G _) := id rfl
theorem fTru_ap (fa : FE G) (ρ : Ev) : fTru fa ρ = ((bnd (fa ρ) fun x => lft (tTru x)) : M G _) := id rfl
theorem fB_ap (fa : FE G) (ρ : Ev) : fB fa ρ = ((bnd (fa ρ) fun x => lft (toB x)) : M G _) := id rfl
theorem fNot_ap (ta : FT G) (ρ : Ev) : fNot ta ρ = ((bnd (ta ρ) fun b => ret (!b)) : M G _) := id rfl
theorem fAnd_ap (ta tb : FT G) (ρ : Ev) : fAnd ta tb ρ = ((bnd (ta ρ) fun b => if b = true then tb ρ else ret false) : M G _) := id rfl
theorem fOr_ap (ta tb : FT G) (ρ : Ev) : fOr ta tb ρ = ((bnd (ta ρ) fun b => if b = true then ret true else tb ρ) : M G _) := id rfl
theorem eNot_ap (fa : FE G) (ρ : Ev) : eNot fa ρ = ((bnd (fa ρ) fun x => bnd (lft (toB x)) fun b => ret (.bool (!b))) : M G _) := id rfl
theorem eAnd_ap (fa fb : FE G) (ρ : Ev) : eAnd fa fb ρ = ((bnd (fa ρ) fun x => bnd (lft (toB x)) fun b => if b = true then fb ρ else ret (.bool false)) : M G _) := id rfl
theorem eOr_ap (fa fb : FE G) (ρ : Ev) : eOr fa fb ρ = ((bnd (fa ρ) fun x => bnd (lft (toB x)) fun b => if b = true then ret (.bool true) else fb ρ) : M G _) := id rfl
theorem eIf_ap (tc : FT G) (fa fb : FE G) (ρ : Ev) : eIf tc fa fb ρ = ((bnd (tc ρ) fun b => if b = true then fa ρ else fb ρ) : M G _) := id rfl
theorem lIf_ap (tc : FT G) (fa fb : FL G) (ρ : Ev) : lIf tc fa fb ρ = ((bnd (tc ρ) fun b => if b = true then fa ρ else fb ρ) : M G _) := id rfl
theorem oNone_ap (ρ : Ev) : oNone  ρ = ((ret none) : M G _) := id rfl
theorem oSome_ap (fa : FE G) (ρ : Ev) : oSome fa ρ = ((bnd (fa ρ) fun x => lft ((toI x).map some)) : M G _) := id rfl
theorem eCut_ap (fa : FE G) (fl fh : FO G) (ρ : Ev) : eCut fa fl fh ρ = ((bnd (fa ρ) fun x => bnd (fl ρ) fun l => bnd (fh ρ) fun h => lft (sCut x l h)) : M G _) := id rfl
theorem lCut_ap (fa : FE G) (fl fh : FO G) (ρ : Ev) : lCut fa fl fh ρ = ((bnd (fa ρ) fun x => bnd (fl ρ) fun l => bnd (fh ρ) fun h => match x with
  | .list ds => ret (cut ds l h)
  | _ => fail) : M G _) := id rfl
theorem sNext_ap (ρ : Ev) : sNext  ρ = ((ret (.next ρ)) : M G _) := id rfl
theorem sBreak_ap (ρ : Ev) : sBreak  ρ = ((ret (.brk ρ)) : M G _) := id rfl
theorem sCont_ap (ρ : Ev) : sCont  ρ = ((ret (.cont ρ)) : M G _) := id rfl
theorem sIf_ap (tc : FT G) (s1 s2 : FS G) (ρ : Ev) : sIf tc s1 s2 ρ = ((bnd (tc ρ) fun b => if b = true then s1 ρ else s2 ρ) : M G _) := id rfl
theorem sExpr_ap (fa : FE G) (ρ : Ev) : sExpr fa ρ = ((bnd (fa ρ) fun _ => ret (.next ρ)) : M G _) := id rfl
theorem sRet_ap (fa : FE G) (ρ : Ev) : sRet fa ρ = ((bnd (fa ρ) fun d => ret (.ret (.d d))) : M G _) := id rfl
theorem sRetL_ap (fl : FL G) (ρ : Ev) : sRetL fl ρ = ((bnd (fl ρ) fun ds => ret (.ret (.l ds))) : M G _) := id rfl
theorem sRetO_ap (i : Nat) (ρ : Ev) : sRetO i ρ = ((match ρ[i]? with
  | some (some (.own ds)) => ret (.ret (.l ds))
  | some (some (.val d)) => ret (.ret (.d d))
  | some (some (.raw v)) => ret (.ret (.raw v))
  | _ => fail) : M G _) := id rfl
theorem sRetN_ap (ρ : Ev) : sRetN  ρ = ((ret (.ret (.d .none))) : M G _) := id rfl
theorem bName_ap (i : Nat) (d : PyData) (ρ : Ev) : bName i d ρ = ((ret (ρ.set i (some (.val d)))) : M G _) := id rfl
theorem bNil_ap (ds : List PyData) (ρ : Ev) : bNil  ds ρ = ((match ds with
  | [] => ret ρ
  | _ => fail) : M G _) := id rfl
theorem bCons_ap (b : FG G) (bs : FGs G) (ds : List PyData) (ρ : Ev) : bCons b bs ds ρ = ((match ds with
  | d :: ds => bnd (b d ρ) fun ρ1 => bs ds ρ1
  | [] => fail) : M G _) := id rfl
theorem bTup_ap (n : Nat) (bs : FGs G) (d : PyData) (ρ : Ev) : bTup n bs d ρ = ((match d with
  | .tuple ds => if ds.length = n then bs ds ρ else fail
  | _ => fail) : M G _) := id rfl
theorem bItem_ap (i : Nat) (fi : FE G) (d : PyData) (ρ : Ev) : bItem i fi d ρ = ((match ρ[i]? with
  | some (some (.own ds)) => bnd (fi ρ) fun x => match x with
    | .int k => match ixN ds.length k with
      | some j => ret (ρ.set i (some (.own (ds.set j d))))
      | none => fail
    | _ => fail
  | _ => fail) : M G _) := id rfl
theorem sAsg_ap (fa : FE G) (b : FG G) (ρ : Ev) : sAsg fa b ρ = ((bnd (fa ρ) fun d => bnd (b d ρ) fun ρ' => ret (.next ρ')) : M G _) := id rfl
theorem sSet_ap (i : Nat) (fa : FE G) (ρ : Ev) : sSet i fa ρ = ((bnd (fa ρ) fun d => ret (.next (ρ.set i (some (.val d))))) : M G _) := id rfl
theorem sSetL_ap (i : Nat) (fl : FL G) (ρ : Ev) : sSetL i fl ρ = ((bnd (fl ρ) fun ds => ret (.next (ρ.set i (some (.own ds))))) : M G _) := id rfl
theorem sApp_ap (i : Nat) (fa : FE G) (ρ : Ev) : sApp i fa ρ = ((match ρ[i]? with
  | some (some (.own _)) => bnd (fa ρ) fun d => match ρ[i]? with
    | some (some (.own ds)) => if ds.length < lim then ret (.next (ρ.set i (some (.own (ds ++ [d]))))) else fail
    | _ => fail
  | _ => fail) : M G _) := id rfl
theorem sExt_ap (i : Nat) (fa : FE G) (ρ : Ev) : sExt i fa ρ = ((match ρ[i]? with
  | some (some (.own _)) => bnd (fa ρ) fun d => match ρ[i]?, d with
    | some (some (.own ds)), .list es => if ds.length + es.length ≤ lim then ret (.next (ρ.set i (some (.own (ds ++ es))))) else fail
    | _, _ => fail
  | _ => fail) : M G _) := id rfl
theorem iSeq_ap (fa : FE G) (ρ : Ev) : iSeq fa ρ = ((bnd (fa ρ) fun x => lft (sItems x)) : M G _) := id rfl
theorem iOwn_ap (i : Nat) (ρ : Ev) : iOwn i ρ = ((match ρ[i]? with
  | some (some (.own ds)) => ret ds
  | some (some (.val (.list ds))) => ret ds
  | some (some (.val (.tuple ds))) => ret ds
  | _ => fail) : M G _) := id rfl
theorem l3_ap (sem : PyData → PyData → PyData → Option (List PyData)) (fa fb fc : FE G) (ρ : Ev) : l3 sem fa fb fc ρ = ((bnd (fa ρ) fun x => bnd (fb ρ) fun y => bnd (fc ρ) fun z => lft (sem x y z)) : M G _) := id rfl
theorem sFor_ap (q : FL G) (b : FG G) (body : FS G) (ρ : Ev) : sFor q b body ρ = ((bnd (q ρ) fun ds => sLoop b body ds ρ) : M G _) := id rfl
theorem fYes_ap (ρ : Ev) : fYes  ρ = ((ret true) : M G _) := id rfl
theorem rNil_ap (ρ : Ev) : rNil  ρ = ((ret []) : M G _) := id rfl
theorem rCons_ap (fa : FE G) (ga : FA G) (ρ : Ev) : rCons fa ga ρ = ((bnd (fa ρ) fun x => bnd (ga ρ) fun xs => ret (.d x :: xs)) : M G _) := id rfl
theorem rRaw_ap (i : Nat) (ga : FA G) (ρ : Ev) : rRaw i ga ρ = ((match ρ[i]? with
  | some (some (.raw v)) => bnd (ga ρ) fun xs => ret (.raw v :: xs)
  | some (some (.val d)) => bnd (ga ρ) fun xs => ret (.d d :: xs)
  | _ => fail) : M G _) := id rfl
theorem eCall_ap (n : Nat) (fn : List Ar → M G Rt) (ga : FA G) (dd : List Ar) (ρ : Ev) : eCall n fn ga dd ρ = ((bnd (ga ρ) fun as => if (as ++ dd).length = n then bnd (fn (as ++ dd)) fun r => lft (toD r) else fail) : M G _) := id rfl
theorem lCall_ap (n : Nat) (fn : List Ar → M G Rt) (ga : FA G) (dd : List Ar) (ρ : Ev) : lCall n fn ga dd ρ = ((bnd (ga ρ) fun as => if (as ++ dd).length = n then bnd (fn (as ++ dd)) fun r => lft (toL r) else fail) : M G _) := id rfl
theorem eCallK_ap (n : Nat) (fn : List Ar → M G Rt) (gA : List Ar → List Ar → List Ar) (ga gk : FA G) (ρ : Ev) : eCallK n fn gA ga gk ρ = ((bnd (ga ρ) fun as => bnd (gk ρ) fun bs => if (gA as bs).length = n then bnd (fn (gA as bs)) fun r => lft (toD r) else fail) : M G _) := id rfl
theorem eCh_ap (s1 s2 : PyData → PyData → Option PyData) (fa fb fc : FE G) (ρ : Ev) : eCh s1 s2 fa fb fc ρ = ((bnd (fa ρ) fun x => bnd (fb ρ) fun y => bnd (lft (s1 x y)) fun r => bnd (lft (toB r)) fun t => if t = true then bnd (fc ρ) fun z => lft (s2 y z) else ret (.bool false)) : M G _) := id rfl
theorem xNil_ap (ρ : Ev) : xNil  ρ = ((ret []) : M G _) := id rfl
theorem xD_ap (fa : FE G) (fx : FX G) (ρ : Ev) : xD fa fx ρ = ((bnd (fa ρ) fun x => bnd (fx ρ) fun xs => ret (.d x :: xs)) : M G _) := id rfl
theorem xL_ap (fl : FL G) (fx : FX G) (ρ : Ev) : xL fl fx ρ = ((bnd (fl ρ) fun x => bnd (fx ρ) fun xs => ret (.l x :: xs)) : M G _) := id rfl
theorem sPar_ap (is : List Nat) (fx : FX G) (ρ : Ev) : sPar is fx ρ = ((bnd (fx ρ) fun rs => bnd (lft (setAll is rs ρ)) fun ρ' => ret (.next ρ')) : M G _) := id rfl
theorem eIs_ap (T : String) (fa : FE G) (ρ : Ev) : eIs T fa ρ = ((bnd (fa ρ) fun x => bnd (lft (isT T x)) fun k => ret (.bool k)) : M G _) := id rfl
theorem sPop_ap (i j : Nat) (fa : FE G) (ρ : Ev) : sPop i j fa ρ = ((match ρ[j]? with
  | some (some (.own ds)) => bnd (fa ρ) fun d => match d with
    | .int k => if 0 ≤ k ∧ k < (ds.length : Int) ∧ ds.length ≤ lim then bnd (lft ds[k.toNat]?) fun y => ret (.next ((ρ.set j (some (.own (ds.eraseIdx k.toNat)))).set i (some (.val y)))) else fail
    | _ => fail
  | _ => fail) : M G _) := id rfl
theorem sAug_ap (i : Nat) (fa : FE G) (ρ : Ev) : sAug i fa ρ = ((match ρ[i]? with
  | some (some (.val (.int n))) => bnd (fa ρ) fun d => match d with
    | .int m => ret (.next (ρ.set i (some (.val (.int (n + m))))))
    | _ => fail
  | _ => fail) : M G _) := id rfl
def seqM (s2 : FS G) (fl : Fl) : M G Fl := match fl with
  | .next ρ' => s2 ρ'
  | .brk ρ' => ret (.brk ρ')
  | .cont ρ' => ret (.cont ρ')
  | .ret r => ret (.ret r)
theorem sSeq_ap (s1 s2 : FS G) (ρ : Ev) : sSeq s1 s2 ρ = bnd (s1 ρ) (seqM s2) := id rfl
theorem seqM_next (s2 : FS G) (ρ : Ev) : seqM s2 (.next ρ) = s2 ρ := id rfl
theorem seqM_brk (s2 : FS G) (ρ : Ev) : seqM s2 (.brk ρ) = ret (.brk ρ) := id rfl
theorem seqM_cont (s2 : FS G) (ρ : Ev) : seqM s2 (.cont ρ) = ret (.cont ρ) := id rfl
theorem seqM_ret (s2 : FS G) (r : Rt) : seqM s2 (.ret r) = ret (.ret r) := id rfl
def defM (fl : Fl) : M G Rt := match fl with
  | .next _ => ret (.d .none)
  | .ret r => ret r
  | _ => fail
theorem runDef_ap (n : Nat) (body : FS G) (as : List Ar) : runDef n body as = bnd (body (startE n as)) defM := id rfl
theorem defM_next (ρ : Ev) : (defM (.next ρ) : M G Rt) = ret (.d .none) := id rfl
theorem defM_ret (r : Rt) : (defM (.ret r) : M G Rt) = ret r := id rfl
def loopM (b : FG G) (body : FS G) (ds : List PyData) (ρ : Ev) (fl : Fl) : M G Fl := match fl with
  | .next ρ2 => sLoop b body ds (mask ρ ρ2)
  | .cont ρ2 => sLoop b body ds (mask ρ ρ2)
  | .brk ρ2 => ret (.next (mask ρ ρ2))
  | .ret r => ret (.ret r)
def stepM (b : FG G) (body : FS G) (ds : List PyData) (ρ ρ1 : Ev) : M G Fl := bnd (body ρ1) (loopM b body ds ρ)
theorem sLoop_nil (b : FG G) (body : FS G) (ρ : Ev) : sLoop b body [] ρ = ret (.next ρ) := id rfl
theorem sLoop_cons (b : FG G) (body : FS G) (d : PyData) (ds : List PyData) (ρ : Ev) : sLoop b body (d :: ds) ρ = bnd (b d ρ) (stepM b body ds ρ) := id rfl
theorem stepM_ap (b : FG G) (body : FS G) (ds : List PyData) (ρ ρ1 : Ev) : stepM b body ds ρ ρ1 = bnd (body ρ1) (loopM b body ds ρ) := id rfl
theorem loopM_next (b : FG G) (body : FS G) (ds : List PyData) (ρ ρ2 : Ev) : loopM b body ds ρ (.next ρ2) = sLoop b body ds (mask ρ ρ2) := id rfl
theorem loopM_cont (b : FG G) (body : FS G) (ds : List PyData) (ρ ρ2 : Ev) : loopM b body ds ρ (.cont ρ2) = sLoop b body ds (mask ρ ρ2) := id rfl
theorem loopM_brk (b : FG G) (body : FS G) (ds : List PyData) (ρ ρ2 : Ev) : loopM b body ds ρ (.brk ρ2) = ret (.next (mask ρ ρ2)) := id rfl
theorem loopM_ret (b : FG G) (body : FS G) (ds : List PyData) (ρ : Ev) (r : Rt) : loopM b body ds ρ (.ret r) = ret (.ret r) := id rfl
def lcH (tc : FT G) (fe : FE G) (ρ1 : Ev) : M G (Option PyData) := bnd (tc ρ1) fun t => if t = true then bnd (fe ρ1) fun x => ret (some x) else ret none
theorem lcF_ap (b : FG G) (tc : FT G) (fe : FE G) (ρ : Ev) (d : PyData) : lcF b tc fe ρ d = bnd (b d ρ) (lcH tc fe) := id rfl
theorem lcH_ap (tc : FT G) (fe : FE G) (ρ1 : Ev) : lcH tc fe ρ1 = bnd (tc ρ1) fun t => if t = true then bnd (fe ρ1) fun x => ret (some x) else ret none := id rfl
theorem lcM_nil (f : PyData → M G (Option PyData)) : lcM f [] = ret [] := id rfl
def lcC (o : Option PyData) (r : List PyData) : List PyData := match o with
  | some x => x :: r
  | none => r
theorem lcC_some (x : PyData) (r : List PyData) : lcC (some x) r = x :: r := id rfl
theorem lcC_none (r : List PyData) : lcC none r = r := id rfl
theorem lcM_cons (f : PyData → M G (Option PyData)) (d : PyData) (ds : List PyData) : lcM f (d :: ds) = bnd (f d) fun o => bnd (lcM f ds) fun r => ret (lcC o r) := by
  show bnd (f d) _ = _
  congr 1
def limM (r : List PyData) : M G (List PyData) := if r.length ≤ lim then ret r else fail
theorem limM_ap (r : List PyData) : (limM r : M G _) = if r.length ≤ lim then ret r else fail := id rfl
theorem lLC_ap (vs : List Nat) (q : FL G) (b : FG G) (tc : FT G) (fe : FE G) (ρ : Ev) : lLC vs q b tc fe ρ = if noOwn ρ vs = true then bnd (q ρ) fun ds => bnd (lcM (lcF b tc fe (wipeE ρ vs)) ds) limM else fail := id rfl
end
section
variable (i j : Int) (b : Bool) (d : PyData) (xs ys : List PyData) (x y : Str)
theorem sAdd_i : sAdd (.int i) (.int j) = some (.int (i + j)) := id rfl
theorem sAdd_t : sAdd (.tuple xs) (.tuple ys) = if xs.length + ys.length ≤ lim then some (.tuple (xs ++ ys)) else none := id rfl
theorem sAdd_l : sAdd (.list xs) (.list ys) = if xs.length + ys.length ≤ lim then some (.list (xs ++ ys)) else none := id rfl
theorem lAdd_l : lAdd (.list xs) (.list ys) = if xs.length + ys.length ≤ lim then some (xs ++ ys) else none := id rfl
theorem sSub_i : sSub (.int i) (.int j) = some (.int (i - j)) := id rfl
theorem sMul_i : sMul (.int i) (.int j) = if (-(2 ^ 64) < i ∧ i < 2 ^ 64) ∨ (-(2 ^ 64) < j ∧ j < 2 ^ 64) then some (.int (i * j)) else none := id rfl
theorem sMul_t : sMul (.tuple xs) (.int i) = if xs ≠ [] ∧ 2 ≤ i ∧ i ≤ 1000 ∧ xs.length ≤ 1000 then some (.tuple (List.replicate i.toNat xs).flatten) else none := id rfl
theorem sMul_l : sMul (.list xs) (.int i) = if 0 ≤ i ∧ i ≤ 1000 ∧ xs.length ≤ 1000 then some (.list (List.replicate i.toNat xs).flatten) else none := id rfl
theorem sMod_i : sMod (.int i) (.int j) = if 0 < j then some (.int (i % j)) else none := id rfl
theorem sFdiv_i : sFdiv (.int i) (.int j) = if 0 < j ∧ j < 1073741824 then some (.int (i / j)) else none := id rfl
theorem sNeg_i : sNeg (.int i) = some (.int (-i)) := id rfl
theorem sLt_i : sLt (.int i) (.int j) = some (.bool (decide (i < j))) := id rfl
theorem sLe_i : sLe (.int i) (.int j) = some (.bool (decide (i ≤ j))) := id rfl
theorem sGt_i : sGt (.int i) (.int j) = some (.bool (decide (j < i))) := id rfl
theorem sGe_i : sGe (.int i) (.int j) = some (.bool (decide (j ≤ i))) := id rfl
theorem sIs_n : sIs d .none = some (.bool (isN d)) := id rfl
theorem sIsNot_n : sIsNot d .none = some (.bool (!isN d)) := id rfl
theorem isN_n : isN .none = true := id rfl
theorem isN_i : isN (.int i) = false := id rfl
theorem isN_t : isN (.tuple xs) = false := id rfl
theorem isN_l : isN (.list xs) = false := id rfl
theorem isN_s : isN (.str x) = false := id rfl
theorem isN_b : isN (.bool b) = false := id rfl
theorem toB_b : toB (.bool b) = some b := id rfl
theorem toI_i : toI (.int i) = some i := id rfl
theorem toD_d : toD (.d d) = some d := id rfl
theorem toD_l : toD (.l xs) = some (.list xs) := id rfl
theorem toL_l : toL (.l xs) = some xs := id rfl
theorem tTru_n : tTru .none = some false := id rfl
theorem tTru_b : tTru (.bool b) = some b := id rfl
theorem tTru_i : tTru (.int i) = some (i != 0) := id rfl
theorem tTru_l : tTru (.list xs) = some (!xs.isEmpty) := id rfl
theorem tTru_t : tTru (.tuple xs) = some (!xs.isEmpty) := id rfl
theorem isT_int : isT "int" d = some d.isInt := id rfl
theorem isT_bool : isT "bool" d = some d.isBool := id rfl
theorem isT_tuple : isT "tuple" d = some d.isTuple := id rfl
theorem isT_str : isT "str" d = some d.isStr := id rfl
theorem isT_list : isT "list" d = some d.isList := id rfl
theorem sCut_l (o1 o2 : Option Int) : sCut (.list xs) o1 o2 = some (.list (cut xs o1 o2)) := id rfl
theorem sCut_t (o1 o2 : Option Int) : sCut (.tuple xs) o1 o2 = some (.tuple (cut xs o1 o2)) := id rfl
end
end Dt
namespace Dt
open PySem PySem.Spec L2
section
variable {G a b : Type}
def Sat (m : M G a) (g : G) (Q : a → G → Prop) [Tg Q] : Prop := ∃ x g', m g = some (x, g') ∧ Q x g'
theorem sat_ret {x : a} {g : G} {Q : a → G → Prop} {t : Tg Q} : @Sat G a (ret x) g Q t ↔ Q x g := ⟨fun ⟨_, _, e, h⟩ => by cases e; exact h, fun h => ⟨x, g, rfl, h⟩⟩
theorem sat_fail {g : G} {Q : a → G → Prop} {t : Tg Q} : @Sat G a (fail : M G a) g Q t ↔ False := ⟨fun ⟨_, _, e, h⟩ => (by cases e), fun h => h.elim⟩
theorem sat_bnd {m : M G a} {f : a → M G b} {g : G} {Q : b → G → Prop} {t1 : Tg f} {t : Tg Q} : @Sat G b (@bnd G a b m f t1) g Q t ↔ Sat m g fun x g' => Sat (f x) g' Q := by
  constructor
  · rintro ⟨x, g', e, h⟩
    obtain ⟨y, g1, e1, e2⟩ := bnd_someT e
    exact ⟨y, g1, e1, x, g', e2, h⟩
  · rintro ⟨y, g1, e1, x, g', e2, h⟩
    exact ⟨x, g', by rw [bnd_eq e1]; exact e2, h⟩
theorem sat_some {x : a} {g : G} {Q : a → G → Prop} {t : Tg Q} : @Sat G a (lft (some x) : M G a) g Q t ↔ Q x g := sat_ret
theorem sat_none {g : G} {Q : a → G → Prop} {t : Tg Q} : @Sat G a (lft none : M G a) g Q t ↔ False := sat_fail
theorem Sat.mono {m : M G a} {g : G} {Q Q' : a → G → Prop} {t : Tg Q} {t' : Tg Q'} (h : @Sat G a m g Q t) (k : ∀ x g', Q x g' → Q' x g') : @Sat G a m g Q' t' := by
  obtain ⟨x, g', e, h⟩ := h
  exact ⟨x, g', e, k x g' h⟩
theorem sat_of {m : M G a} {g g' : G} {x : a} {Q : a → G → Prop} {t : Tg Q} (e : m g = some (x, g')) (h : Q x g') : @Sat G a m g Q t := ⟨x, g', e, h⟩
end
theorem nodup_lt : ∀ (n : Nat) (l : List Nat), l.Nodup → (∀ x ∈ l, x < n) → l.length ≤ n
  | 0, l, _, h => by
    cases l with
    | nil => simp
    | cons x l => exact absurd (h x (List.mem_cons_self ..)) (Nat.not_lt_zero _)
  | n + 1, l, hn, h => by
    have h1 := nodup_lt n (l.erase n) (hn.erase n) fun x hx => by
      have hx2 := (hn.mem_erase_iff.mp hx)
      have := h x hx2.2
      have := hx2.1
      omega
    rcases Classical.em (n ∈ l) with hm | hm
    · rw [List.length_erase_of_mem hm] at h1
      omega
    · rw [List.erase_of_not_mem hm] at h1
      omega
theorem keyNat {r : List (Key × V)} {n : Nat} (hk : ∀ p ∈ r, ∃ i : Nat, i < n ∧ p.1 = .inl (i : Int)) : ∃ l : List Nat, r.map (·.1) = l.map (fun (i : Nat) => Sum.inl (i : Int)) ∧ ∀ x ∈ l, x < n := by
  induction r with
  | nil => exact ⟨[], rfl, fun x hx => by cases hx⟩
  | cons p r ih =>
    obtain ⟨l, h1, h2⟩ := ih fun q hq => hk q (List.mem_cons_of_mem _ hq)
    obtain ⟨i, hi, e⟩ := hk p (List.mem_cons_self ..)
    refine ⟨i :: l, by rw [List.map_cons, List.map_cons, h1, e], fun x hx => ?_⟩
    rcases List.mem_cons.mp hx with rfl | hx
    · exact hi
    · exact h2 x hx
theorem keys_le {r : List (Key × V)} {n : Nat} (hk : ∀ p ∈ r, ∃ i : Nat, i < n ∧ p.1 = .inl (i : Int)) (hn : (r.map (·.1)).Nodup) : r.length ≤ n := by
  obtain ⟨l, h1, h2⟩ := keyNat hk
  have e : r.length = l.length := by
    have := congrArg List.length h1
    simpa using this
  rw [e]
  refine nodup_lt n l ?_ h2
  rw [h1] at hn
  exact hn.of_map _ (fun _ _ h e => h (by rw [e]))
theorem Tw.Ok.good {g : Tw} (h : g.Ok) : g.good = true := by
  unfold Tw.good
  rw [Bool.and_eq_true, List.all_eq_true, decide_eq_true_eq]
  refine ⟨h.vals, ?_⟩
  have := keys_le h.keys h.nd
  have := h.ns
  omega
theorem putK_keys {r : List (Key × V)} {k : Key} {v : V} : (putK r k v).map (·.1) = r.map (·.1) ∧ k ∈ r.map (·.1) ∨ (putK r k v).map (·.1) = r.map (·.1) ++ [k] ∧ k ∉ r.map (·.1) := by
  unfold putK
  by_cases h : (r.any fun kv => decide (kv.1 = k)) = true
  · rw [if_pos h]
    refine .inl ⟨?_, ?_⟩
    · rw [List.map_map]
      apply List.map_congr_left
      intro p hp
      simp only [Function.comp]
      split
      · rfl
      · rfl
    · obtain ⟨p, hp, e⟩ := List.any_eq_true.mp h
      exact List.mem_map.mpr ⟨p, hp, of_decide_eq_true e⟩
  · rw [if_neg h]
    refine .inr ⟨by rw [List.map_append]; rfl, fun hm => h ?_⟩
    obtain ⟨p, hp, e⟩ := List.mem_map.mp hm
    exact List.any_eq_true.mpr ⟨p, hp, decide_eq_true e⟩
theorem putK_vals {r : List (Key × V)} {k : Key} {v : V} (h : ∀ p ∈ r, isIntV p.2 = true) (hv : isIntV v = true) : ∀ p ∈ putK r k v, isIntV p.2 = true := by
  intro p hp
  unfold putK at hp
  split at hp
  · obtain ⟨q, hq, e⟩ := List.mem_map.mp hp
    rw [← e]
    split
    · exact hv
    · exact h q hq
  · rcases List.mem_append.mp hp with hp | hp
    · exact h p hp
    · rw [List.mem_singleton.mp hp]; exact hv
theorem Tw.Ok.next {g : Tw} (h : g.Ok) {many : Int} (h0 : 0 < many) : (g.next many).2.Ok ∧ 0 ≤ (g.next many).1 ∧ (g.next many).1 < many := by
  unfold Tw.next
  split
  · refine ⟨⟨putK_vals h.vals rfl, ?_, ?_, h.ns⟩, Int.emod_nonneg _ (by omega), Int.emod_lt_of_pos _ h0⟩ <;> skip
    all_goals
      have hat : ∃ i : Nat, i < g.ns.length + 1 ∧ g.at_ = (i : Int) := by
        unfold Tw.at_
        by_cases hn : g.ns = []
        · rw [if_pos hn]; exact ⟨0, by omega, rfl⟩
        · rw [if_neg hn]
          have hp : 0 < g.ns.length := List.length_pos_iff.mpr hn
          have a1 := Int.emod_nonneg (g.count + 1) (show (g.ns.length : Int) ≠ 0 by omega)
          have a2 := Int.emod_lt_of_pos (g.count + 1) (show (0 : Int) < (g.ns.length : Int) by omega)
          exact ⟨((g.count + 1) % (g.ns.length : Int)).toNat, by omega, by omega⟩
      have hk := putK_keys (r := g.rests) (k := .inl g.at_) (v := .int (g.rest / many))
    · intro p hp
      have hp2 : p.1 ∈ (putK g.rests (.inl g.at_) (.int (g.rest / many))).map (·.1) := List.mem_map.mpr ⟨p, hp, rfl⟩
      have old : p.1 ∈ g.rests.map (·.1) → ∃ i : Nat, i < g.ns.length + 1 ∧ p.1 = .inl (i : Int) := fun hm => by
        obtain ⟨q, hq, e⟩ := List.mem_map.mp hm
        rw [← e]
        exact h.keys q hq
      rcases hk with ⟨e, _⟩ | ⟨e, _⟩
      · rw [e] at hp2; exact old hp2
      · rw [e] at hp2
        rcases List.mem_append.mp hp2 with hp2 | hp2
        · exact old hp2
        · obtain ⟨i, hi, e2⟩ := hat
          exact ⟨i, hi, by rw [List.mem_singleton.mp hp2, e2]⟩
    · rcases hk with ⟨e, _⟩ | ⟨e, hm⟩
      · show ((putK g.rests (.inl g.at_) (.int (g.rest / many))).map (·.1)).Nodup
        rw [e]; exact h.nd
      · show ((putK g.rests (.inl g.at_) (.int (g.rest / many))).map (·.1)).Nodup
        rw [e, List.nodup_append]
        refine ⟨h.nd, by simp, fun x hx y hy e => hm ?_⟩
        rw [List.mem_singleton.mp hy] at e
        rw [← e]; exact hx
  · exact ⟨⟨h.vals, h.keys, h.nd, h.ns⟩, Int.emod_nonneg _ (by omega), Int.emod_lt_of_pos _ h0⟩
end Dt
namespace Dt
open PySem PySem.Spec L2
theorem sIx_l (ds : List PyData) (i : Int) : sIx (.list ds) (.int i) = atI ds i := rfl
theorem sIx_t (ds : List PyData) (i : Int) : sIx (.tuple ds) (.int i) = atI ds i := rfl
theorem sLen_l (ds : List PyData) : sLen (.list ds) = some (.int ds.length) := rfl
theorem sLen_t (ds : List PyData) : sLen (.tuple ds) = some (.int ds.length) := rfl
theorem sItems_l (ds : List PyData) : sItems (.list ds) = some ds := rfl
theorem sItems_t (ds : List PyData) : sItems (.tuple ds) = some ds := rfl
theorem sTuple_l (ds : List PyData) : sTuple (.list ds) = some (.tuple ds) := rfl
theorem sTuple_t (ds : List PyData) : sTuple (.tuple ds) = some (.tuple ds) := rfl
theorem sList_l (ds : List PyData) : sList (.list ds) = some ds := rfl
theorem sList_t (ds : List PyData) : sList (.tuple ds) = some ds := rfl
def bi (b : Bool) : Int := if b = true then 1 else 0
theorem bi_t : bi true = 1 := rfl
theorem bi_f : bi false = 0 := rfl
theorem eqv_int (x y : Int) : PyData.eqv (.int x) (.int y) = decide (x = y) := by
  simp only [PyData.eqv]
  rfl
theorem sEq_int (x y : Int) : sEq (.int x) (.int y) = some (.bool (decide (x = y))) := by
  unfold sEq
  rw [if_pos ⟨rfl, rfl⟩, eqv_int]
theorem sNe_int (x y : Int) : sNe (.int x) (.int y) = some (.bool (!decide (x = y))) := by
  unfold sNe
  rw [if_pos ⟨rfl, rfl⟩, eqv_int]
theorem eqv_str (x y : Str) : PyData.eqv (.str x) (.str y) = decide (x = y) := by
  simp only [PyData.eqv]
  first | rfl | (by_cases h : x = y <;> simp [h])
theorem eqv_self {d : PyData} (h : shp d = true) : PyData.eqv d d = true := SeqAt.eqv_refl d (SeqAt.canLay_of_shaped h)
theorem sEq_self {d : PyData} (h : shp d = true) : sEq d d = some (.bool true) := by
  unfold sEq
  rw [if_pos ⟨h, h⟩, eqv_self h]
theorem sNe_self {d : PyData} (h : shp d = true) : sNe d d = some (.bool false) := by
  unfold sNe
  rw [if_pos ⟨h, h⟩, eqv_self h]
  rfl
theorem sEq_str {x y : Str} (h1 : shp (.str x) = true) (h2 : shp (.str y) = true) : sEq (.str x) (.str y) = some (.bool (decide (x = y))) := by
  unfold sEq
  rw [if_pos ⟨h1, h2⟩, eqv_str]
theorem sRng1_ok {j : Int} (h0 : 0 ≤ j) (h1 : j < 1000000) : sRng1 (.int j) = some (rng 0 j.toNat) := by
  unfold sRng1
  exact if_pos ⟨by omega, by omega⟩
theorem rngL0 : sRng1 (.int 0) = some [] := by rw [sRng1_ok (by decide) (by decide)]; rfl
theorem rngL1 : sRng1 (.int 1) = some [.int 0] := by rw [sRng1_ok (by decide) (by decide)]; rfl
theorem rngL2 : sRng1 (.int 2) = some [.int 0, .int 1] := by rw [sRng1_ok (by decide) (by decide)]; rfl
theorem rngL3 : sRng1 (.int 3) = some [.int 0, .int 1, .int 2] := by rw [sRng1_ok (by decide) (by decide)]; rfl
theorem rngL4 : sRng1 (.int 4) = some [.int 0, .int 1, .int 2, .int 3] := by rw [sRng1_ok (by decide) (by decide)]; rfl
theorem rngL5 : sRng1 (.int 5) = some [.int 0, .int 1, .int 2, .int 3, .int 4] := by rw [sRng1_ok (by decide) (by decide)]; rfl
theorem rngL6 : sRng1 (.int 6) = some [.int 0, .int 1, .int 2, .int 3, .int 4, .int 5] := by rw [sRng1_ok (by decide) (by decide)]; rfl
def at4 {α : Type} (x0 x1 x2 x3 : α) (i : Int) : α := if i = 0 then x0 else if i = 1 then x1 else if i = 2 then x2 else x3
/-- a piece -/
structure Pc where
  u : Int
  r : Int
  d : Int
  l : Int
def Pc.D (p : Pc) : PyData := .tuple [.int p.u, .int p.r, .int p.d, .int p.l]
def Pc.rot (p : Pc) : Pc := ⟨p.l, p.u, p.r, p.d⟩
def Pc.rotN : Nat → Pc → Pc
  | 0, p => p
  | n + 1, p => Pc.rotN n p.rot
theorem rotN_0 (p : Pc) : Pc.rotN 0 p = p := rfl
theorem rotN_1 (p : Pc) : Pc.rotN 1 p = p.rot := rfl
theorem rotN_2 (p : Pc) : Pc.rotN 2 p = p.rot.rot := rfl
theorem rotN_3 (p : Pc) : Pc.rotN 3 p = p.rot.rot.rot := rfl
def Pc.L (p : Pc) : List Int := [p.u, p.r, p.d, p.l]
theorem Pc.ext {p q : Pc} (h : p.L = q.L) : p = q := by
  obtain ⟨a, b, c, d⟩ := p
  obtain ⟨a', b', c', d'⟩ := q
  simp only [Pc.L, List.cons.injEq, and_true] at h
  obtain ⟨rfl, rfl, rfl, rfl⟩ := h
  rfl
noncomputable def tt (p q : Pc) : PyData := if p.L = q.L then .int 0 else if p.rot.L = q.L then .int 1 else if p.rot.rot.L = q.L then .int 2 else if p.rot.rot.rot.L = q.L then .int 3 else .none
end Dt
namespace Dt
open PySem PySem.Spec L2
theorem lim_if.{u} {α : Sort u} {n k : Nat} {a b : α} {inst : Decidable (n ≤ k)} (h : n ≤ k) : @ite α (n ≤ k) inst a b = a := if_pos h
theorem lim_if2.{u} {α : Sort u} {n k : Nat} {a b : α} {inst : Decidable (n < k)} (h : n < k) : @ite α (n < k) inst a b = a := if_pos h
theorem at1_0 {α : Type} (x : α) : atI [x] 0 = some x := rfl
theorem at2_0 {α : Type} (x y : α) : atI [x, y] 0 = some x := rfl
theorem at2_1 {α : Type} (x y : α) : atI [x, y] 1 = some y := rfl
theorem at3_0 {α : Type} (x y z : α) : atI [x, y, z] 0 = some x := rfl
theorem at3_1 {α : Type} (x y z : α) : atI [x, y, z] 1 = some y := rfl
theorem at3_2 {α : Type} (x y z : α) : atI [x, y, z] 2 = some z := rfl
structure St (a t : Addr) (g : Tw) : Prop where
  ok : g.Ok
  hs : g.aS = a
  ht : g.aT = t
theorem sat_draw {a t : Addr} {g : Tw} {many : Int} {Q : Rt → Tw → Prop} {tg : Tg Q} (st : St a t g) (h0 : 0 < many) (h1 : many < 1073741824) (k : ∀ v g', 0 ≤ v → v < many → St a t g' → Q (.d (.int v)) g') : @Sat Tw Rt (f_l_draw [.raw (.ref a), .raw (.ref t), .d (.int many)]) g Q tg := by
  obtain ⟨n1, n2, n3⟩ := st.ok.next h0
  have na := next_adr g many
  refine sat_of (x := .d (.int (g.next many).1)) (g' := (g.next many).2) ?_ (k _ _ n2 n3 ⟨n1, na.2.2.1.trans st.hs, na.1.trans st.ht⟩)
  show fDraw _ g = _
  unfold fDraw
  exact if_pos ⟨st.hs.symm, st.ht.symm, h0, h1, st.ok.good⟩
section
variable {G : Type}
def loopQ (I : Ev → G → Prop) (ρ : Ev) (Q : Fl → G → Prop) : Fl → G → Prop := fun fl g => match fl with
  | .next ρ2 => I (mask ρ ρ2) g
  | .cont ρ2 => I (mask ρ ρ2) g
  | .brk ρ2 => Q (.next (mask ρ ρ2)) g
  | .ret r => Q (.ret r) g
theorem sat_loop {b : FG G} {body : FS G} {Q : Fl → G → Prop} {tg : Tg Q} : ∀ {ds : List PyData} {ρ : Ev} {g : G} (I : Nat → Ev → G → Prop), I 0 ρ g →
    (∀ i d ρ g, ds[i]? = some d → I i ρ g → Sat (b d ρ) g fun ρ1 g1 => Sat (body ρ1) g1 (loopQ (I (i + 1)) ρ Q)) → (∀ ρ g, I ds.length ρ g → Q (.next ρ) g) → @Sat G Fl (sLoop b body ds ρ) g Q tg
  | [], ρ, g, I, h0, _, fin => sat_ret.mpr (fin ρ g h0)
  | d :: ds, ρ, g, I, h0, step, fin => by
    unfold sLoop
    rw [sat_bnd]
    refine (step 0 d ρ g rfl h0).mono fun ρ1 g1 h1 => ?_
    rw [sat_bnd]
    refine h1.mono fun fl g2 h2 => ?_
    have next : ∀ ρ3, I 1 ρ3 g2 → Sat (sLoop b body ds ρ3) g2 Q := fun ρ3 h3 => sat_loop (fun i => I (i + 1)) h3 (fun i d ρ g e h => step (i + 1) d ρ g (by simpa using e) h) fun ρ g h => fin ρ g (by simpa using h)
    cases fl with
    | next ρ2 => exact next _ h2
    | cont ρ2 => exact next _ h2
    | brk ρ2 => exact sat_ret.mpr h2
    | ret r => exact sat_ret.mpr h2
/-- a comprehension: what each item gives -/
theorem sat_lcM {f : PyData → M G (Option PyData)} {Q : List PyData → G → Prop} {tg : Tg Q} : ∀ {ds : List PyData} {g : G} (I : Nat → List PyData → G → Prop), I 0 [] g →
    (∀ i d r g, ds[i]? = some d → I i r g → Sat (f d) g fun o g1 => I (i + 1) (r ++ o.toList) g1) → (∀ r g, I ds.length r g → Q r g) → @Sat G (List PyData) (lcM f ds) g Q tg := by
  have go : ∀ (ds : List PyData) (g : G) (I : Nat → List PyData → G → Prop) (r0 : List PyData) (Q : List PyData → G → Prop), I 0 r0 g →
    (∀ i d r g, ds[i]? = some d → I i r g → Sat (f d) g fun o g1 => I (i + 1) (r ++ o.toList) g1) → (∀ r g, I ds.length (r0 ++ r) g → Q r g) → Sat (lcM f ds) g Q := by
    intro ds
    induction ds with
    | nil =>
      intro g I r0 Q h0 _ fin
      exact sat_ret.mpr (fin [] g (by rw [List.append_nil]; exact h0))
    | cons d ds ih =>
      intro g I r0 Q h0 step fin
      unfold lcM
      rw [sat_bnd]
      refine (step 0 d r0 g rfl h0).mono fun o g1 h1 => ?_
      rw [sat_bnd]
      refine ih g1 (fun i => I (i + 1)) (r0 ++ o.toList) _ h1 (fun i d r g e h => step (i + 1) d r g (by simpa using e) h) fun r g h => ?_
      rw [sat_ret]
      refine fin _ g ?_
      cases o with
      | none => simpa using h
      | some x => simpa using h
  intro ds g I h0 step fin
  exact go ds g I [] Q h0 step fun r g h => fin r g (by simpa using h)
end
def Pc.ok (p : Pc) : Prop := (-9 ≤ p.u ∧ p.u ≤ 9) ∧ (-9 ≤ p.r ∧ p.r ≤ 9) ∧ (-9 ≤ p.d ∧ p.d ≤ 9) ∧ (-9 ≤ p.l ∧ p.l ≤ 9)
theorem sat_a_piece {a t : Addr} {g : Tw} {Q : Rt → Tw → Prop} {tg : Tg Q} (st : St a t g) (k : ∀ p g', Pc.ok p → St a t g' → Q (.d p.D) g') : @Sat Tw Rt (f_l_a_piece [.raw (.ref a), .raw (.ref t)]) g Q tg := by
  simp -dsimp only [f_l_a_piece, m_l_a_piece, eFz_ap, eVar_ap, eVarQ_ap, eC_ap, e1_ap, e2_ap, l1_ap, l2_ap, aNil_ap, aCons_ap, eTup_ap, lLst_ap, fTru_ap, fB_ap, fNot_ap, fAnd_ap, fOr_ap, eNot_ap, eAnd_ap, eOr_ap, eIf_ap, lIf_ap, oNone_ap, oSome_ap, eCut_ap, lCut_ap, sNext_ap, sBreak_ap, sCont_ap, sIf_ap, sExpr_ap, sRet_ap, sRetL_ap, sRetO_ap, sRetN_ap, bName_ap, bNil_ap, bCons_ap, bTup_ap, bItem_ap, sAsg_ap, sSet_ap, sSetL_ap, sApp_ap, sExt_ap, iSeq_ap, iOwn_ap, l3_ap, sFor_ap, fYes_ap, rNil_ap, rCons_ap, rRaw_ap, eCall_ap, lCall_ap, eCallK_ap, eCh_ap, xNil_ap, xD_ap, xL_ap, sPar_ap, eIs_ap, sSeq_ap, seqM_next, seqM_brk, seqM_cont, seqM_ret, runDef_ap, defM_next, defM_ret, stepM_ap, loopM_next, loopM_cont, loopM_brk, loopM_ret, lcF_ap, lcH_ap, lcM_nil, lcM_cons, lcC_some, lcC_none, limM_ap, lLC_ap, startE, arS, mask, wipeE, noOwn, isOwn, setAll, rtS, sItems_l, sItems_t, lim, sIx_l, sIx_t, sLen_l, sLen_t, sTuple_l, sTuple_t, sList_l, sList_t, rngL0, rngL1, rngL2, rngL3, rngL4, rngL5, rngL6, sat_ret, sat_bnd, sat_some, sat_none, sat_fail, bnd_ret, bnd_bnd, bnd_fail, lft_some, lft_none, Option.map_some, Option.map_none, List.map_cons, List.map_nil, List.length_cons, List.length_nil, List.replicate, List.cons_append, List.nil_append, List.append_nil, List.all_cons, List.all_nil, Bool.and_true, Bool.true_and, Bool.and_false, Bool.false_and, Bool.not_false, Bool.not_true, Bool.not_not, Bool.or_true, Bool.true_or, Bool.or_false, Bool.false_or, List.getElem?_cons_succ, List.getElem?_cons_zero, List.getElem?_nil, if_true, if_false, ite_true, ite_false, List.set_cons_succ, List.set_cons_zero, List.set_nil, Int.reduceLT, Int.reduceLE, Int.reduceNeg, Int.reducePow, Int.reduceMul, Int.reduceAdd, Int.reduceSub, Int.reduceToNat, Int.reduceEq, Nat.reduceAdd, Nat.reduceSub, Nat.reduceLeDiff, Nat.reduceLT, Nat.reduceEqDiff, Nat.reduceMul, and_self, and_true, true_and, and_false, false_and, or_true, true_or, or_false, false_or, or_self, reduceIte, Bool.false_eq_true, Bool.true_eq_false, decide_true, decide_false, Option.some.injEq, List.isEmpty_cons, List.isEmpty_nil, reduceCtorEq, ne_eq, not_false_eq_true, not_true_eq_false, List.replicate_zero, Int.reduceMod, sEq_int, sNe_int, rotN_0, rotN_1, rotN_2, rotN_3, bi_t, bi_f, sAdd_i, sAdd_t, sAdd_l, lAdd_l, sSub_i, sMul_i, sMul_t, sMul_l, sMod_i, sFdiv_i, sNeg_i, sLt_i, sLe_i, sGt_i, sGe_i, sIs_n, sIsNot_n, isN_n, isN_i, isN_t, isN_l, isN_s, isN_b, toB_b, toI_i, toD_d, toD_l, toL_l, tTru_n, tTru_b, tTru_i, tTru_l, tTru_t, isT_int, isT_bool, isT_tuple, isT_str, isT_list, sCut_l, sCut_t, sAug_ap, sPop_ap]
  refine sat_draw st (by decide) (by decide) fun v g1 v0 v1 st1 => ?_
  have hv : ∃ far : Int, atI [PyData.int 1, .int 3, .int 9] v = some (.int far) ∧ 1 ≤ far ∧ far ≤ 9 := by
    have : v = 0 ∨ v = 1 ∨ v = 2 := by omega
    rcases this with rfl | rfl | rfl
    · exact ⟨1, rfl, by decide, by decide⟩
    · exact ⟨3, rfl, by decide, by decide⟩
    · exact ⟨9, rfl, by decide, by decide⟩
  obtain ⟨far, hv, f0, f1⟩ := hv
  simp -dsimp only [hv, eFz_ap, eVar_ap, eVarQ_ap, eC_ap, e1_ap, e2_ap, l1_ap, l2_ap, aNil_ap, aCons_ap, eTup_ap, lLst_ap, fTru_ap, fB_ap, fNot_ap, fAnd_ap, fOr_ap, eNot_ap, eAnd_ap, eOr_ap, eIf_ap, lIf_ap, oNone_ap, oSome_ap, eCut_ap, lCut_ap, sNext_ap, sBreak_ap, sCont_ap, sIf_ap, sExpr_ap, sRet_ap, sRetL_ap, sRetO_ap, sRetN_ap, bName_ap, bNil_ap, bCons_ap, bTup_ap, bItem_ap, sAsg_ap, sSet_ap, sSetL_ap, sApp_ap, sExt_ap, iSeq_ap, iOwn_ap, l3_ap, sFor_ap, fYes_ap, rNil_ap, rCons_ap, rRaw_ap, eCall_ap, lCall_ap, eCallK_ap, eCh_ap, xNil_ap, xD_ap, xL_ap, sPar_ap, eIs_ap, sSeq_ap, seqM_next, seqM_brk, seqM_cont, seqM_ret, runDef_ap, defM_next, defM_ret, stepM_ap, loopM_next, loopM_cont, loopM_brk, loopM_ret, lcF_ap, lcH_ap, lcM_nil, lcM_cons, lcC_some, lcC_none, limM_ap, lLC_ap, startE, arS, mask, wipeE, noOwn, isOwn, setAll, rtS, sItems_l, sItems_t, lim, sIx_l, sIx_t, sLen_l, sLen_t, sTuple_l, sTuple_t, sList_l, sList_t, rngL0, rngL1, rngL2, rngL3, rngL4, rngL5, rngL6, sat_ret, sat_bnd, sat_some, sat_none, sat_fail, bnd_ret, bnd_bnd, bnd_fail, lft_some, lft_none, Option.map_some, Option.map_none, List.map_cons, List.map_nil, List.length_cons, List.length_nil, List.replicate, List.cons_append, List.nil_append, List.append_nil, List.all_cons, List.all_nil, Bool.and_true, Bool.true_and, Bool.and_false, Bool.false_and, Bool.not_false, Bool.not_true, Bool.not_not, Bool.or_true, Bool.true_or, Bool.or_false, Bool.false_or, List.getElem?_cons_succ, List.getElem?_cons_zero, List.getElem?_nil, if_true, if_false, ite_true, ite_false, List.set_cons_succ, List.set_cons_zero, List.set_nil, Int.reduceLT, Int.reduceLE, Int.reduceNeg, Int.reducePow, Int.reduceMul, Int.reduceAdd, Int.reduceSub, Int.reduceToNat, Int.reduceEq, Nat.reduceAdd, Nat.reduceSub, Nat.reduceLeDiff, Nat.reduceLT, Nat.reduceEqDiff, Nat.reduceMul, and_self, and_true, true_and, and_false, false_and, or_true, true_or, or_false, false_or, or_self, reduceIte, Bool.false_eq_true, Bool.true_eq_false, decide_true, decide_false, Option.some.injEq, List.isEmpty_cons, List.isEmpty_nil, reduceCtorEq, ne_eq, not_false_eq_true, not_true_eq_false, List.replicate_zero, Int.reduceMod, sEq_int, sNe_int, rotN_0, rotN_1, rotN_2, rotN_3, bi_t, bi_f, sAdd_i, sAdd_t, sAdd_l, lAdd_l, sSub_i, sMul_i, sMul_t, sMul_l, sMod_i, sFdiv_i, sNeg_i, sLt_i, sLe_i, sGt_i, sGe_i, sIs_n, sIsNot_n, isN_n, isN_i, isN_t, isN_l, isN_s, isN_b, toB_b, toI_i, toD_d, toD_l, toL_l, tTru_n, tTru_b, tTru_i, tTru_l, tTru_t, isT_int, isT_bool, isT_tuple, isT_str, isT_list, sCut_l, sCut_t, sAug_ap, sPop_ap]
  refine sat_loop (fun i ρ g => ∃ es : List Int, es.length = i ∧ (∀ e ∈ es, -9 ≤ e ∧ e ≤ 9) ∧ ρ = [some (.raw (.ref a)), some (.raw (.ref t)), some (.val (.int far)), some (.val (.tuple (es.map .int))), none, none] ∧ St a t g) ⟨[], rfl, by simp, rfl, st1⟩ ?_ ?_
  · rintro i d ρ g hd ⟨es, hl, he, rfl, st2⟩
    have h4 : i < 4 := by
      have := (List.getElem?_eq_some_iff.mp hd).1
      simpa using this
    have mul : ((-(2 ^ 64) < (2 : Int) ∧ (2 : Int) < 2 ^ 64) ∨ (-(2 ^ 64) < far ∧ far < 2 ^ 64)) := .inl ⟨by decide, by decide⟩
    simp -dsimp only [eFz_ap, eVar_ap, eVarQ_ap, eC_ap, e1_ap, e2_ap, l1_ap, l2_ap, aNil_ap, aCons_ap, eTup_ap, lLst_ap, fTru_ap, fB_ap, fNot_ap, fAnd_ap, fOr_ap, eNot_ap, eAnd_ap, eOr_ap, eIf_ap, lIf_ap, oNone_ap, oSome_ap, eCut_ap, lCut_ap, sNext_ap, sBreak_ap, sCont_ap, sIf_ap, sExpr_ap, sRet_ap, sRetL_ap, sRetO_ap, sRetN_ap, bName_ap, bNil_ap, bCons_ap, bTup_ap, bItem_ap, sAsg_ap, sSet_ap, sSetL_ap, sApp_ap, sExt_ap, iSeq_ap, iOwn_ap, l3_ap, sFor_ap, fYes_ap, rNil_ap, rCons_ap, rRaw_ap, eCall_ap, lCall_ap, eCallK_ap, eCh_ap, xNil_ap, xD_ap, xL_ap, sPar_ap, eIs_ap, sSeq_ap, seqM_next, seqM_brk, seqM_cont, seqM_ret, runDef_ap, defM_next, defM_ret, stepM_ap, loopM_next, loopM_cont, loopM_brk, loopM_ret, lcF_ap, lcH_ap, lcM_nil, lcM_cons, lcC_some, lcC_none, limM_ap, lLC_ap, startE, arS, mask, wipeE, noOwn, isOwn, setAll, rtS, sItems_l, sItems_t, lim, sIx_l, sIx_t, sLen_l, sLen_t, sTuple_l, sTuple_t, sList_l, sList_t, rngL0, rngL1, rngL2, rngL3, rngL4, rngL5, rngL6, sat_ret, sat_bnd, sat_some, sat_none, sat_fail, bnd_ret, bnd_bnd, bnd_fail, lft_some, lft_none, Option.map_some, Option.map_none, List.map_cons, List.map_nil, List.length_cons, List.length_nil, List.replicate, List.cons_append, List.nil_append, List.append_nil, List.all_cons, List.all_nil, Bool.and_true, Bool.true_and, Bool.and_false, Bool.false_and, Bool.not_false, Bool.not_true, Bool.not_not, Bool.or_true, Bool.true_or, Bool.or_false, Bool.false_or, List.getElem?_cons_succ, List.getElem?_cons_zero, List.getElem?_nil, if_true, if_false, ite_true, ite_false, List.set_cons_succ, List.set_cons_zero, List.set_nil, Int.reduceLT, Int.reduceLE, Int.reduceNeg, Int.reducePow, Int.reduceMul, Int.reduceAdd, Int.reduceSub, Int.reduceToNat, Int.reduceEq, Nat.reduceAdd, Nat.reduceSub, Nat.reduceLeDiff, Nat.reduceLT, Nat.reduceEqDiff, Nat.reduceMul, and_self, and_true, true_and, and_false, false_and, or_true, true_or, or_false, false_or, or_self, reduceIte, Bool.false_eq_true, Bool.true_eq_false, decide_true, decide_false, Option.some.injEq, List.isEmpty_cons, List.isEmpty_nil, reduceCtorEq, ne_eq, not_false_eq_true, not_true_eq_false, List.replicate_zero, Int.reduceMod, sEq_int, sNe_int, rotN_0, rotN_1, rotN_2, rotN_3, bi_t, bi_f, sAdd_i, sAdd_t, sAdd_l, lAdd_l, sSub_i, sMul_i, sMul_t, sMul_l, sMod_i, sFdiv_i, sNeg_i, sLt_i, sLe_i, sGt_i, sGe_i, sIs_n, sIsNot_n, isN_n, isN_i, isN_t, isN_l, isN_s, isN_b, toB_b, toI_i, toD_d, toD_l, toL_l, tTru_n, tTru_b, tTru_i, tTru_l, tTru_t, isT_int, isT_bool, isT_tuple, isT_str, isT_list, sCut_l, sCut_t, sAug_ap, sPop_ap]
    refine sat_draw st2 (by omega) (by omega) fun v g3 v0 v1 st3 => ?_
    simp -dsimp only [eFz_ap, eVar_ap, eVarQ_ap, eC_ap, e1_ap, e2_ap, l1_ap, l2_ap, aNil_ap, aCons_ap, eTup_ap, lLst_ap, fTru_ap, fB_ap, fNot_ap, fAnd_ap, fOr_ap, eNot_ap, eAnd_ap, eOr_ap, eIf_ap, lIf_ap, oNone_ap, oSome_ap, eCut_ap, lCut_ap, sNext_ap, sBreak_ap, sCont_ap, sIf_ap, sExpr_ap, sRet_ap, sRetL_ap, sRetO_ap, sRetN_ap, bName_ap, bNil_ap, bCons_ap, bTup_ap, bItem_ap, sAsg_ap, sSet_ap, sSetL_ap, sApp_ap, sExt_ap, iSeq_ap, iOwn_ap, l3_ap, sFor_ap, fYes_ap, rNil_ap, rCons_ap, rRaw_ap, eCall_ap, lCall_ap, eCallK_ap, eCh_ap, xNil_ap, xD_ap, xL_ap, sPar_ap, eIs_ap, sSeq_ap, seqM_next, seqM_brk, seqM_cont, seqM_ret, runDef_ap, defM_next, defM_ret, stepM_ap, loopM_next, loopM_cont, loopM_brk, loopM_ret, lcF_ap, lcH_ap, lcM_nil, lcM_cons, lcC_some, lcC_none, limM_ap, lLC_ap, startE, arS, mask, wipeE, noOwn, isOwn, setAll, rtS, sItems_l, sItems_t, lim, sIx_l, sIx_t, sLen_l, sLen_t, sTuple_l, sTuple_t, sList_l, sList_t, rngL0, rngL1, rngL2, rngL3, rngL4, rngL5, rngL6, sat_ret, sat_bnd, sat_some, sat_none, sat_fail, bnd_ret, bnd_bnd, bnd_fail, lft_some, lft_none, Option.map_some, Option.map_none, List.map_cons, List.map_nil, List.length_cons, List.length_nil, List.replicate, List.cons_append, List.nil_append, List.append_nil, List.all_cons, List.all_nil, Bool.and_true, Bool.true_and, Bool.and_false, Bool.false_and, Bool.not_false, Bool.not_true, Bool.not_not, Bool.or_true, Bool.true_or, Bool.or_false, Bool.false_or, List.getElem?_cons_succ, List.getElem?_cons_zero, List.getElem?_nil, if_true, if_false, ite_true, ite_false, List.set_cons_succ, List.set_cons_zero, List.set_nil, Int.reduceLT, Int.reduceLE, Int.reduceNeg, Int.reducePow, Int.reduceMul, Int.reduceAdd, Int.reduceSub, Int.reduceToNat, Int.reduceEq, Nat.reduceAdd, Nat.reduceSub, Nat.reduceLeDiff, Nat.reduceLT, Nat.reduceEqDiff, Nat.reduceMul, and_self, and_true, true_and, and_false, false_and, or_true, true_or, or_false, false_or, or_self, reduceIte, Bool.false_eq_true, Bool.true_eq_false, decide_true, decide_false, Option.some.injEq, List.isEmpty_cons, List.isEmpty_nil, reduceCtorEq, ne_eq, not_false_eq_true, not_true_eq_false, List.replicate_zero, Int.reduceMod, sEq_int, sNe_int, rotN_0, rotN_1, rotN_2, rotN_3, bi_t, bi_f, sAdd_i, sAdd_t, sAdd_l, lAdd_l, sSub_i, sMul_i, sMul_t, sMul_l, sMod_i, sFdiv_i, sNeg_i, sLt_i, sLe_i, sGt_i, sGe_i, sIs_n, sIsNot_n, isN_n, isN_i, isN_t, isN_l, isN_s, isN_b, toB_b, toI_i, toD_d, toD_l, toL_l, tTru_n, tTru_b, tTru_i, tTru_l, tTru_t, isT_int, isT_bool, isT_tuple, isT_str, isT_list, sCut_l, sCut_t, sAug_ap, sPop_ap]
    refine sat_draw st3 (by decide) (by decide) fun w g4 w0 w1 st4 => ?_
    have fin : ∀ e : Int, -9 ≤ e → e ≤ 9 → ∃ es' : List Int, es'.length = i + 1 ∧ (∀ x ∈ es', -9 ≤ x ∧ x ≤ 9) ∧ (es.map PyData.int ++ [.int e]) = es'.map .int := fun e e0 e1 => ⟨es ++ [e], by simp [hl], fun x hx => by
      rcases List.mem_append.mp hx with hx | hx
      · exact he x hx
      · rw [List.mem_singleton.mp hx]; exact ⟨e0, e1⟩, by simp⟩
    have hlim : es.length ≤ 15999999 := by omega
    by_cases hw : 0 < w
    · obtain ⟨es', z1, z2, z3⟩ := fin (v - far) (by omega) (by omega)
      simp -dsimp only [hw, hlim, List.length_map, z3, loopQ, eFz_ap, eVar_ap, eVarQ_ap, eC_ap, e1_ap, e2_ap, l1_ap, l2_ap, aNil_ap, aCons_ap, eTup_ap, lLst_ap, fTru_ap, fB_ap, fNot_ap, fAnd_ap, fOr_ap, eNot_ap, eAnd_ap, eOr_ap, eIf_ap, lIf_ap, oNone_ap, oSome_ap, eCut_ap, lCut_ap, sNext_ap, sBreak_ap, sCont_ap, sIf_ap, sExpr_ap, sRet_ap, sRetL_ap, sRetO_ap, sRetN_ap, bName_ap, bNil_ap, bCons_ap, bTup_ap, bItem_ap, sAsg_ap, sSet_ap, sSetL_ap, sApp_ap, sExt_ap, iSeq_ap, iOwn_ap, l3_ap, sFor_ap, fYes_ap, rNil_ap, rCons_ap, rRaw_ap, eCall_ap, lCall_ap, eCallK_ap, eCh_ap, xNil_ap, xD_ap, xL_ap, sPar_ap, eIs_ap, sSeq_ap, seqM_next, seqM_brk, seqM_cont, seqM_ret, runDef_ap, defM_next, defM_ret, stepM_ap, loopM_next, loopM_cont, loopM_brk, loopM_ret, lcF_ap, lcH_ap, lcM_nil, lcM_cons, lcC_some, lcC_none, limM_ap, lLC_ap, startE, arS, mask, wipeE, noOwn, isOwn, setAll, rtS, sItems_l, sItems_t, lim, sIx_l, sIx_t, sLen_l, sLen_t, sTuple_l, sTuple_t, sList_l, sList_t, rngL0, rngL1, rngL2, rngL3, rngL4, rngL5, rngL6, sat_ret, sat_bnd, sat_some, sat_none, sat_fail, bnd_ret, bnd_bnd, bnd_fail, lft_some, lft_none, Option.map_some, Option.map_none, List.map_cons, List.map_nil, List.length_cons, List.length_nil, List.replicate, List.cons_append, List.nil_append, List.append_nil, List.all_cons, List.all_nil, Bool.and_true, Bool.true_and, Bool.and_false, Bool.false_and, Bool.not_false, Bool.not_true, Bool.not_not, Bool.or_true, Bool.true_or, Bool.or_false, Bool.false_or, List.getElem?_cons_succ, List.getElem?_cons_zero, List.getElem?_nil, if_true, if_false, ite_true, ite_false, List.set_cons_succ, List.set_cons_zero, List.set_nil, Int.reduceLT, Int.reduceLE, Int.reduceNeg, Int.reducePow, Int.reduceMul, Int.reduceAdd, Int.reduceSub, Int.reduceToNat, Int.reduceEq, Nat.reduceAdd, Nat.reduceSub, Nat.reduceLeDiff, Nat.reduceLT, Nat.reduceEqDiff, Nat.reduceMul, and_self, and_true, true_and, and_false, false_and, or_true, true_or, or_false, false_or, or_self, reduceIte, Bool.false_eq_true, Bool.true_eq_false, decide_true, decide_false, Option.some.injEq, List.isEmpty_cons, List.isEmpty_nil, reduceCtorEq, ne_eq, not_false_eq_true, not_true_eq_false, List.replicate_zero, Int.reduceMod, sEq_int, sNe_int, rotN_0, rotN_1, rotN_2, rotN_3, bi_t, bi_f, sAdd_i, sAdd_t, sAdd_l, lAdd_l, sSub_i, sMul_i, sMul_t, sMul_l, sMod_i, sFdiv_i, sNeg_i, sLt_i, sLe_i, sGt_i, sGe_i, sIs_n, sIsNot_n, isN_n, isN_i, isN_t, isN_l, isN_s, isN_b, toB_b, toI_i, toD_d, toD_l, toL_l, tTru_n, tTru_b, tTru_i, tTru_l, tTru_t, isT_int, isT_bool, isT_tuple, isT_str, isT_list, sCut_l, sCut_t, sAug_ap, sPop_ap]
      exact ⟨es', z1, z2, rfl, st4⟩
    · obtain ⟨es', z1, z2, z3⟩ := fin 0 (by omega) (by omega)
      simp -dsimp only [hw, hlim, List.length_map, z3, loopQ, eFz_ap, eVar_ap, eVarQ_ap, eC_ap, e1_ap, e2_ap, l1_ap, l2_ap, aNil_ap, aCons_ap, eTup_ap, lLst_ap, fTru_ap, fB_ap, fNot_ap, fAnd_ap, fOr_ap, eNot_ap, eAnd_ap, eOr_ap, eIf_ap, lIf_ap, oNone_ap, oSome_ap, eCut_ap, lCut_ap, sNext_ap, sBreak_ap, sCont_ap, sIf_ap, sExpr_ap, sRet_ap, sRetL_ap, sRetO_ap, sRetN_ap, bName_ap, bNil_ap, bCons_ap, bTup_ap, bItem_ap, sAsg_ap, sSet_ap, sSetL_ap, sApp_ap, sExt_ap, iSeq_ap, iOwn_ap, l3_ap, sFor_ap, fYes_ap, rNil_ap, rCons_ap, rRaw_ap, eCall_ap, lCall_ap, eCallK_ap, eCh_ap, xNil_ap, xD_ap, xL_ap, sPar_ap, eIs_ap, sSeq_ap, seqM_next, seqM_brk, seqM_cont, seqM_ret, runDef_ap, defM_next, defM_ret, stepM_ap, loopM_next, loopM_cont, loopM_brk, loopM_ret, lcF_ap, lcH_ap, lcM_nil, lcM_cons, lcC_some, lcC_none, limM_ap, lLC_ap, startE, arS, mask, wipeE, noOwn, isOwn, setAll, rtS, sItems_l, sItems_t, lim, sIx_l, sIx_t, sLen_l, sLen_t, sTuple_l, sTuple_t, sList_l, sList_t, rngL0, rngL1, rngL2, rngL3, rngL4, rngL5, rngL6, sat_ret, sat_bnd, sat_some, sat_none, sat_fail, bnd_ret, bnd_bnd, bnd_fail, lft_some, lft_none, Option.map_some, Option.map_none, List.map_cons, List.map_nil, List.length_cons, List.length_nil, List.replicate, List.cons_append, List.nil_append, List.append_nil, List.all_cons, List.all_nil, Bool.and_true, Bool.true_and, Bool.and_false, Bool.false_and, Bool.not_false, Bool.not_true, Bool.not_not, Bool.or_true, Bool.true_or, Bool.or_false, Bool.false_or, List.getElem?_cons_succ, List.getElem?_cons_zero, List.getElem?_nil, if_true, if_false, ite_true, ite_false, List.set_cons_succ, List.set_cons_zero, List.set_nil, Int.reduceLT, Int.reduceLE, Int.reduceNeg, Int.reducePow, Int.reduceMul, Int.reduceAdd, Int.reduceSub, Int.reduceToNat, Int.reduceEq, Nat.reduceAdd, Nat.reduceSub, Nat.reduceLeDiff, Nat.reduceLT, Nat.reduceEqDiff, Nat.reduceMul, and_self, and_true, true_and, and_false, false_and, or_true, true_or, or_false, false_or, or_self, reduceIte, Bool.false_eq_true, Bool.true_eq_false, decide_true, decide_false, Option.some.injEq, List.isEmpty_cons, List.isEmpty_nil, reduceCtorEq, ne_eq, not_false_eq_true, not_true_eq_false, List.replicate_zero, Int.reduceMod, sEq_int, sNe_int, rotN_0, rotN_1, rotN_2, rotN_3, bi_t, bi_f, sAdd_i, sAdd_t, sAdd_l, lAdd_l, sSub_i, sMul_i, sMul_t, sMul_l, sMod_i, sFdiv_i, sNeg_i, sLt_i, sLe_i, sGt_i, sGe_i, sIs_n, sIsNot_n, isN_n, isN_i, isN_t, isN_l, isN_s, isN_b, toB_b, toI_i, toD_d, toD_l, toL_l, tTru_n, tTru_b, tTru_i, tTru_l, tTru_t, isT_int, isT_bool, isT_tuple, isT_str, isT_list, sCut_l, sCut_t, sAug_ap, sPop_ap]
      exact ⟨es', z1, z2, rfl, st4⟩
  · rintro ρ g ⟨es, hl, he, rfl, st2⟩
    simp -dsimp only [eFz_ap, eVar_ap, eVarQ_ap, eC_ap, e1_ap, e2_ap, l1_ap, l2_ap, aNil_ap, aCons_ap, eTup_ap, lLst_ap, fTru_ap, fB_ap, fNot_ap, fAnd_ap, fOr_ap, eNot_ap, eAnd_ap, eOr_ap, eIf_ap, lIf_ap, oNone_ap, oSome_ap, eCut_ap, lCut_ap, sNext_ap, sBreak_ap, sCont_ap, sIf_ap, sExpr_ap, sRet_ap, sRetL_ap, sRetO_ap, sRetN_ap, bName_ap, bNil_ap, bCons_ap, bTup_ap, bItem_ap, sAsg_ap, sSet_ap, sSetL_ap, sApp_ap, sExt_ap, iSeq_ap, iOwn_ap, l3_ap, sFor_ap, fYes_ap, rNil_ap, rCons_ap, rRaw_ap, eCall_ap, lCall_ap, eCallK_ap, eCh_ap, xNil_ap, xD_ap, xL_ap, sPar_ap, eIs_ap, sSeq_ap, seqM_next, seqM_brk, seqM_cont, seqM_ret, runDef_ap, defM_next, defM_ret, stepM_ap, loopM_next, loopM_cont, loopM_brk, loopM_ret, lcF_ap, lcH_ap, lcM_nil, lcM_cons, lcC_some, lcC_none, limM_ap, lLC_ap, startE, arS, mask, wipeE, noOwn, isOwn, setAll, rtS, sItems_l, sItems_t, lim, sIx_l, sIx_t, sLen_l, sLen_t, sTuple_l, sTuple_t, sList_l, sList_t, rngL0, rngL1, rngL2, rngL3, rngL4, rngL5, rngL6, sat_ret, sat_bnd, sat_some, sat_none, sat_fail, bnd_ret, bnd_bnd, bnd_fail, lft_some, lft_none, Option.map_some, Option.map_none, List.map_cons, List.map_nil, List.length_cons, List.length_nil, List.replicate, List.cons_append, List.nil_append, List.append_nil, List.all_cons, List.all_nil, Bool.and_true, Bool.true_and, Bool.and_false, Bool.false_and, Bool.not_false, Bool.not_true, Bool.not_not, Bool.or_true, Bool.true_or, Bool.or_false, Bool.false_or, List.getElem?_cons_succ, List.getElem?_cons_zero, List.getElem?_nil, if_true, if_false, ite_true, ite_false, List.set_cons_succ, List.set_cons_zero, List.set_nil, Int.reduceLT, Int.reduceLE, Int.reduceNeg, Int.reducePow, Int.reduceMul, Int.reduceAdd, Int.reduceSub, Int.reduceToNat, Int.reduceEq, Nat.reduceAdd, Nat.reduceSub, Nat.reduceLeDiff, Nat.reduceLT, Nat.reduceEqDiff, Nat.reduceMul, and_self, and_true, true_and, and_false, false_and, or_true, true_or, or_false, false_or, or_self, reduceIte, Bool.false_eq_true, Bool.true_eq_false, decide_true, decide_false, Option.some.injEq, List.isEmpty_cons, List.isEmpty_nil, reduceCtorEq, ne_eq, not_false_eq_true, not_true_eq_false, List.replicate_zero, Int.reduceMod, sEq_int, sNe_int, rotN_0, rotN_1, rotN_2, rotN_3, bi_t, bi_f, sAdd_i, sAdd_t, sAdd_l, lAdd_l, sSub_i, sMul_i, sMul_t, sMul_l, sMod_i, sFdiv_i, sNeg_i, sLt_i, sLe_i, sGt_i, sGe_i, sIs_n, sIsNot_n, isN_n, isN_i, isN_t, isN_l, isN_s, isN_b, toB_b, toI_i, toD_d, toD_l, toL_l, tTru_n, tTru_b, tTru_i, tTru_l, tTru_t, isT_int, isT_bool, isT_tuple, isT_str, isT_list, sCut_l, sCut_t, sAug_ap, sPop_ap]
    match es, hl, he with
    | [u, r, d, l], _, he => exact k ⟨u, r, d, l⟩ g ⟨he u (by simp), he r (by simp), he d (by simp), he l (by simp)⟩ st2
end Dt
namespace Dt
open PySem PySem.Spec L2
theorem law_of {m : FS Tw} {n : Nat} (h : ∀ (a t : Addr) (g : Tw), St a t g → Sat (m (lawE n a t)) g fun fl _ => fl = .ret (.d (.bool true))) : ∀ (a t r : Addr) (tr : Bool) (ns : List Int), ns.length ≤ 63 → ∃ g', m (lawE n a t) (tw0 a t r tr ns) = some (.ret (.d (.bool true)), g') := fun a t r tr ns hl => by
  obtain ⟨x, g', e, rfl⟩ := h a t (tw0 a t r tr ns) ⟨tw0_ok hl, rfl, rfl⟩
  exact ⟨g', e⟩
end Dt
namespace Dt
open PySem PySem.Spec L2
theorem all_map_bool (p : PyData → Bool) (ds : List PyData) : sAll (.list (ds.map fun d => .bool (p d))) = some (.bool (ds.all p)) := by
  have e : (ds.map fun d => PyData.bool (p d)) = (ds.map p).map PyData.bool := by rw [List.map_map]; rfl
  unfold sAll
  simp only
  rw [e, allM_toB]
  simp
end Dt
namespace Dt
open PySem PySem.Spec L2
structure Sh (n : Nat) (d : PyData) : Prop where
  lay : d.canLay0 = true
  dep : d.depth ≤ n
theorem Sh.mono {m n : Nat} {d : PyData} (h : Sh m d) (hl : m ≤ n) : Sh n d := ⟨h.lay, Nat.le_trans h.dep hl⟩
theorem Sh.shp {n : Nat} {d : PyData} (h : Sh n d) (hn : n ≤ 64) : shp d = true := by
  show (d.canLay0 && decide (d.depth ≤ 64)) = true
  rw [h.lay, Bool.true_and, decide_eq_true_eq]
  exact Nat.le_trans h.dep hn
theorem layAll_of : ∀ {ds : List PyData}, (∀ d ∈ ds, d.canLay0 = true) → PyData.canLayAll0 ds = true
  | [], _ => rfl
  | d :: ds, h => by rw [PyData.canLayAll0, h d (List.mem_cons_self ..), layAll_of fun x hx => h x (List.mem_cons_of_mem _ hx)]; rfl
theorem depthAll_of {n : Nat} : ∀ {ds : List PyData}, (∀ d ∈ ds, d.depth ≤ n) → PyData.depthAll ds ≤ n
  | [], _ => by rw [PyData.depthAll]; exact Nat.zero_le _
  | d :: ds, h => by
    rw [PyData.depthAll]
    have h1 := h d (List.mem_cons_self ..)
    have h2 := depthAll_of fun x hx => h x (List.mem_cons_of_mem _ hx)
    omega
theorem Sh.tuple {n : Nat} {ds : List PyData} (h : ∀ d ∈ ds, Sh n d) : Sh (n + 1) (.tuple ds) := ⟨by rw [PyData.canLay0]; exact layAll_of fun d hd => (h d hd).lay, by
  rw [PyData.depth]
  have := depthAll_of fun d hd => (h d hd).dep
  omega⟩
theorem Sh.list {n : Nat} {ds : List PyData} (h : ∀ d ∈ ds, Sh n d) : Sh (n + 1) (.list ds) := ⟨by rw [PyData.canLay0]; exact layAll_of fun d hd => (h d hd).lay, by
  rw [PyData.depth]
  have := depthAll_of fun d hd => (h d hd).dep
  omega⟩
theorem Sh.int (i : Int) : Sh 0 (.int i) := ⟨rfl, Nat.le_refl _⟩
theorem Pc.sh (p : Pc) : Sh 1 p.D := ⟨rfl, Nat.le_refl _⟩
theorem cut_mem {α : Type} {xs : List α} {lo hi : Option Int} {x : α} (h : x ∈ cut xs lo hi) : x ∈ xs := List.mem_of_mem_drop (List.mem_of_mem_take h)
theorem cut_len {α : Type} (xs : List α) (lo hi : Option Int) : (cut xs lo hi).length ≤ xs.length := by
  unfold cut
  rw [List.length_take, List.length_drop]
  omega
theorem lcM_pureM {f : PyData → M Tw (Option PyData)} {h : PyData → PyData} : ∀ {ds : List PyData}, (∀ d ∈ ds, f d = ret (some (h d))) → lcM f ds = ret (ds.map h)
  | [], _ => rfl
  | d :: ds, hf => by rw [lcM_cons, hf d (List.mem_cons_self ..), bnd_ret, lcM_pureM fun x hx => hf x (List.mem_cons_of_mem _ hx), bnd_ret]; rfl
theorem eqv_empty (ds : List PyData) : PyData.eqv (.tuple ds) (.tuple []) = ds.isEmpty := by
  cases ds <;> simp [PyData.eqv, PyData.eqvAll]
theorem sat_pcs {a t : Addr} {f : PyData → M Tw (Option PyData)} {ds : List PyData} {g : Tw} {Q : List PyData → Tw → Prop} {tg : Tg Q} (st : St a t g)
    (hf : ∀ d g (Q : Option PyData → Tw → Prop) (tg : Tg Q), St a t g → (∀ p g', Pc.ok p → St a t g' → Q (some p.D) g') → @Sat Tw (Option PyData) (f d) g Q tg) (k : ∀ (ps : List Pc) g', ps.length = ds.length → (∀ p ∈ ps, p.ok) → St a t g' → Q (ps.map Pc.D) g') : @Sat Tw (List PyData) (lcM f ds) g Q tg := by
  refine sat_lcM (fun i r g => ∃ ps : List Pc, ps.length = i ∧ (∀ p ∈ ps, p.ok) ∧ r = ps.map Pc.D ∧ St a t g) ⟨[], rfl, by simp, rfl, st⟩ ?_ ?_
  · rintro i d r g _ ⟨ps, h1, h2, rfl, st⟩
    refine hf d g _ _ st fun p g' hp st' => ⟨ps ++ [p], by simp [h1], fun q hq => ?_, by simp, st'⟩
    rcases List.mem_append.mp hq with hq | hq
    · exact h2 q hq
    · rw [List.mem_singleton.mp hq]; exact hp
  · rintro r g ⟨ps, h1, h2, rfl, st⟩
    exact k ps g h1 h2 st
def ft (a b : Int) : Bool := !decide (a = 0) && decide (a + b = 0)
end Dt
namespace Dt
open PySem PySem.Spec L2
inductive Okd : Nat → PyData → Prop
  | non (n : Nat) : Okd n .none
  | bl (n : Nat) (b : Bool) : Okd n (.bool b)
  | int (n : Nat) (i : Int) : Okd n (.int i)
  | str (n : Nat) {x : Str} : PyData.canLay0 (.str x) = true → Okd n (.str x)
  | list {n : Nat} {ds : List PyData} : ds.length ≤ 1000 → (∀ d ∈ ds, Okd n d) → Okd (n + 1) (.list ds)
  | tuple {n : Nat} {ds : List PyData} : ds.length ≤ 1000 → (∀ d ∈ ds, Okd n d) → Okd (n + 1) (.tuple ds)
theorem Okd.mono {m : Nat} {d : PyData} (h : Okd m d) : ∀ {n : Nat}, m ≤ n → Okd n d := by
  induction h with
  | non => intro n _; exact .non n
  | bl _ b => intro n _; exact .bl n b
  | int _ i => intro n _; exact .int n i
  | str _ h => intro n _; exact .str n h
  | list h1 _ ih => intro n hn; cases n with
    | zero => omega
    | succ n => exact .list h1 fun d hd => ih d hd (by omega)
  | tuple h1 _ ih => intro n hn; cases n with
    | zero => omega
    | succ n => exact .tuple h1 fun d hd => ih d hd (by omega)
theorem Okd.sh {n : Nat} {d : PyData} (h : Okd n d) : Sh n d := by
  induction h with
  | non => exact ⟨rfl, Nat.zero_le _⟩
  | bl => exact ⟨rfl, Nat.zero_le _⟩
  | int => exact ⟨rfl, Nat.zero_le _⟩
  | str _ h => exact ⟨h, Nat.zero_le _⟩
  | list h1 _ ih => exact .list ih
  | tuple h1 _ ih => exact .tuple ih
theorem Okd.shp {n : Nat} {d : PyData} (h : Okd n d) (hn : n ≤ 64) : Dt.shp d = true := h.sh.shp hn
theorem Okd.tup {n : Nat} {ds : List PyData} (h : Okd n (.tuple ds)) : ds.length ≤ 1000 ∧ ∀ d ∈ ds, Okd n d := by
  cases h with
  | tuple h1 h2 => exact ⟨h1, fun d hd => (h2 d hd).mono (by omega)⟩
theorem Okd.lst {n : Nat} {ds : List PyData} (h : Okd n (.list ds)) : ds.length ≤ 1000 ∧ ∀ d ∈ ds, Okd n d := by
  cases h with
  | list h1 h2 => exact ⟨h1, fun d hd => (h2 d hd).mono (by omega)⟩
theorem Okd.app {n : Nat} {xs ys : List PyData} (h1 : Okd n (.tuple xs)) (h2 : Okd n (.tuple ys)) (hl : xs.length + ys.length ≤ 1000) : Okd n (.tuple (xs ++ ys)) := by
  cases h1 with
  | tuple _ a => cases h2 with
    | tuple _ b => exact .tuple (by rw [List.length_append]; exact hl) fun d hd => (List.mem_append.mp hd).elim (a d) (b d)
theorem Okd.cut {n : Nat} {xs : List PyData} (h : Okd n (.tuple xs)) (lo hi : Option Int) : Okd n (.tuple (cut xs lo hi)) := by
  cases h with
  | tuple a b => exact .tuple (Nat.le_trans (cut_len xs lo hi) a) fun d hd => b d (cut_mem hd)
theorem Pc.okd (p : Pc) : Okd 1 p.D := .tuple (by simp) fun d hd => by
  simp only [List.mem_cons, List.not_mem_nil, or_false] at hd
  rcases hd with rfl | rfl | rfl | rfl <;> exact .int _ _
theorem sEq_empty {ds : List PyData} (h : shp (.tuple ds) = true) : sEq (.tuple ds) (.tuple []) = some (.bool ds.isEmpty) := by
  unfold sEq
  rw [if_pos ⟨h, rfl⟩, eqv_empty]
theorem sNe_empty {ds : List PyData} (h : shp (.tuple ds) = true) : sNe (.tuple ds) (.tuple []) = some (.bool (!ds.isEmpty)) := by
  unfold sNe
  rw [if_pos ⟨h, rfl⟩, eqv_empty]
def isNumR (lo hi : Int) (d : PyData) : Bool := match d with
  | .int i => decide (lo ≤ i) && decide (i ≤ hi)
  | _ => false
theorem is_whole_R (lo hi : Int) (d : PyData) : f_is_whole_number [.d d, .d (.int lo), .d (.int hi)] = ret (.d (.bool (isNumR lo hi d))) := by
  cases d with
  | int i =>
    unfold isNumR
    by_cases h : lo ≤ i
    · simp -dsimp only [f_is_whole_number, m_is_whole_number, PyData.isInt, PyData.isBool, h, eFz_ap, eVar_ap, eVarQ_ap, eC_ap, e1_ap, e2_ap, l1_ap, l2_ap, aNil_ap, aCons_ap, eTup_ap, lLst_ap, fTru_ap, fB_ap, fNot_ap, fAnd_ap, fOr_ap, eNot_ap, eAnd_ap, eOr_ap, eIf_ap, lIf_ap, oNone_ap, oSome_ap, eCut_ap, lCut_ap, sNext_ap, sBreak_ap, sCont_ap, sIf_ap, sExpr_ap, sRet_ap, sRetL_ap, sRetO_ap, sRetN_ap, bName_ap, bNil_ap, bCons_ap, bTup_ap, bItem_ap, sAsg_ap, sSet_ap, sSetL_ap, sApp_ap, sExt_ap, iSeq_ap, iOwn_ap, l3_ap, sFor_ap, fYes_ap, rNil_ap, rCons_ap, rRaw_ap, eCall_ap, lCall_ap, eCallK_ap, eCh_ap, xNil_ap, xD_ap, xL_ap, sPar_ap, eIs_ap, sSeq_ap, seqM_next, seqM_brk, seqM_cont, seqM_ret, runDef_ap, defM_next, defM_ret, stepM_ap, loopM_next, loopM_cont, loopM_brk, loopM_ret, lcF_ap, lcH_ap, lcM_nil, lcM_cons, lcC_some, lcC_none, limM_ap, lLC_ap, startE, arS, mask, wipeE, noOwn, isOwn, setAll, rtS, sItems_l, sItems_t, lim, sIx_l, sIx_t, sLen_l, sLen_t, sTuple_l, sTuple_t, sList_l, sList_t, rngL0, rngL1, rngL2, rngL3, rngL4, rngL5, rngL6, sat_ret, sat_bnd, sat_some, sat_none, sat_fail, bnd_ret, bnd_bnd, bnd_fail, lft_some, lft_none, Option.map_some, Option.map_none, List.map_cons, List.map_nil, List.length_cons, List.length_nil, List.replicate, List.cons_append, List.nil_append, List.append_nil, List.all_cons, List.all_nil, Bool.and_true, Bool.true_and, Bool.and_false, Bool.false_and, Bool.not_false, Bool.not_true, Bool.not_not, Bool.or_true, Bool.true_or, Bool.or_false, Bool.false_or, List.getElem?_cons_succ, List.getElem?_cons_zero, List.getElem?_nil, if_true, if_false, ite_true, ite_false, List.set_cons_succ, List.set_cons_zero, List.set_nil, Int.reduceLT, Int.reduceLE, Int.reduceNeg, Int.reducePow, Int.reduceMul, Int.reduceAdd, Int.reduceSub, Int.reduceToNat, Int.reduceEq, Nat.reduceAdd, Nat.reduceSub, Nat.reduceLeDiff, Nat.reduceLT, Nat.reduceEqDiff, Nat.reduceMul, and_self, and_true, true_and, and_false, false_and, or_true, true_or, or_false, false_or, or_self, reduceIte, Bool.false_eq_true, Bool.true_eq_false, decide_true, decide_false, Option.some.injEq, List.isEmpty_cons, List.isEmpty_nil, reduceCtorEq, ne_eq, not_false_eq_true, not_true_eq_false, List.replicate_zero, Int.reduceMod, sEq_int, sNe_int, rotN_0, rotN_1, rotN_2, rotN_3, bi_t, bi_f, sAdd_i, sAdd_t, sAdd_l, lAdd_l, sSub_i, sMul_i, sMul_t, sMul_l, sMod_i, sFdiv_i, sNeg_i, sLt_i, sLe_i, sGt_i, sGe_i, sIs_n, sIsNot_n, isN_n, isN_i, isN_t, isN_l, isN_s, isN_b, toB_b, toI_i, toD_d, toD_l, toL_l, tTru_n, tTru_b, tTru_i, tTru_l, tTru_t, isT_int, isT_bool, isT_tuple, isT_str, isT_list, sCut_l, sCut_t, sAug_ap, sPop_ap]
    · simp -dsimp only [f_is_whole_number, m_is_whole_number, PyData.isInt, PyData.isBool, h, eFz_ap, eVar_ap, eVarQ_ap, eC_ap, e1_ap, e2_ap, l1_ap, l2_ap, aNil_ap, aCons_ap, eTup_ap, lLst_ap, fTru_ap, fB_ap, fNot_ap, fAnd_ap, fOr_ap, eNot_ap, eAnd_ap, eOr_ap, eIf_ap, lIf_ap, oNone_ap, oSome_ap, eCut_ap, lCut_ap, sNext_ap, sBreak_ap, sCont_ap, sIf_ap, sExpr_ap, sRet_ap, sRetL_ap, sRetO_ap, sRetN_ap, bName_ap, bNil_ap, bCons_ap, bTup_ap, bItem_ap, sAsg_ap, sSet_ap, sSetL_ap, sApp_ap, sExt_ap, iSeq_ap, iOwn_ap, l3_ap, sFor_ap, fYes_ap, rNil_ap, rCons_ap, rRaw_ap, eCall_ap, lCall_ap, eCallK_ap, eCh_ap, xNil_ap, xD_ap, xL_ap, sPar_ap, eIs_ap, sSeq_ap, seqM_next, seqM_brk, seqM_cont, seqM_ret, runDef_ap, defM_next, defM_ret, stepM_ap, loopM_next, loopM_cont, loopM_brk, loopM_ret, lcF_ap, lcH_ap, lcM_nil, lcM_cons, lcC_some, lcC_none, limM_ap, lLC_ap, startE, arS, mask, wipeE, noOwn, isOwn, setAll, rtS, sItems_l, sItems_t, lim, sIx_l, sIx_t, sLen_l, sLen_t, sTuple_l, sTuple_t, sList_l, sList_t, rngL0, rngL1, rngL2, rngL3, rngL4, rngL5, rngL6, sat_ret, sat_bnd, sat_some, sat_none, sat_fail, bnd_ret, bnd_bnd, bnd_fail, lft_some, lft_none, Option.map_some, Option.map_none, List.map_cons, List.map_nil, List.length_cons, List.length_nil, List.replicate, List.cons_append, List.nil_append, List.append_nil, List.all_cons, List.all_nil, Bool.and_true, Bool.true_and, Bool.and_false, Bool.false_and, Bool.not_false, Bool.not_true, Bool.not_not, Bool.or_true, Bool.true_or, Bool.or_false, Bool.false_or, List.getElem?_cons_succ, List.getElem?_cons_zero, List.getElem?_nil, if_true, if_false, ite_true, ite_false, List.set_cons_succ, List.set_cons_zero, List.set_nil, Int.reduceLT, Int.reduceLE, Int.reduceNeg, Int.reducePow, Int.reduceMul, Int.reduceAdd, Int.reduceSub, Int.reduceToNat, Int.reduceEq, Nat.reduceAdd, Nat.reduceSub, Nat.reduceLeDiff, Nat.reduceLT, Nat.reduceEqDiff, Nat.reduceMul, and_self, and_true, true_and, and_false, false_and, or_true, true_or, or_false, false_or, or_self, reduceIte, Bool.false_eq_true, Bool.true_eq_false, decide_true, decide_false, Option.some.injEq, List.isEmpty_cons, List.isEmpty_nil, reduceCtorEq, ne_eq, not_false_eq_true, not_true_eq_false, List.replicate_zero, Int.reduceMod, sEq_int, sNe_int, rotN_0, rotN_1, rotN_2, rotN_3, bi_t, bi_f, sAdd_i, sAdd_t, sAdd_l, lAdd_l, sSub_i, sMul_i, sMul_t, sMul_l, sMod_i, sFdiv_i, sNeg_i, sLt_i, sLe_i, sGt_i, sGe_i, sIs_n, sIsNot_n, isN_n, isN_i, isN_t, isN_l, isN_s, isN_b, toB_b, toI_i, toD_d, toD_l, toL_l, tTru_n, tTru_b, tTru_i, tTru_l, tTru_t, isT_int, isT_bool, isT_tuple, isT_str, isT_list, sCut_l, sCut_t, sAug_ap, sPop_ap]
  | _ => simp -dsimp only [f_is_whole_number, m_is_whole_number, PyData.isInt, PyData.isBool, isNumR, eFz_ap, eVar_ap, eVarQ_ap, eC_ap, e1_ap, e2_ap, l1_ap, l2_ap, aNil_ap, aCons_ap, eTup_ap, lLst_ap, fTru_ap, fB_ap, fNot_ap, fAnd_ap, fOr_ap, eNot_ap, eAnd_ap, eOr_ap, eIf_ap, lIf_ap, oNone_ap, oSome_ap, eCut_ap, lCut_ap, sNext_ap, sBreak_ap, sCont_ap, sIf_ap, sExpr_ap, sRet_ap, sRetL_ap, sRetO_ap, sRetN_ap, bName_ap, bNil_ap, bCons_ap, bTup_ap, bItem_ap, sAsg_ap, sSet_ap, sSetL_ap, sApp_ap, sExt_ap, iSeq_ap, iOwn_ap, l3_ap, sFor_ap, fYes_ap, rNil_ap, rCons_ap, rRaw_ap, eCall_ap, lCall_ap, eCallK_ap, eCh_ap, xNil_ap, xD_ap, xL_ap, sPar_ap, eIs_ap, sSeq_ap, seqM_next, seqM_brk, seqM_cont, seqM_ret, runDef_ap, defM_next, defM_ret, stepM_ap, loopM_next, loopM_cont, loopM_brk, loopM_ret, lcF_ap, lcH_ap, lcM_nil, lcM_cons, lcC_some, lcC_none, limM_ap, lLC_ap, startE, arS, mask, wipeE, noOwn, isOwn, setAll, rtS, sItems_l, sItems_t, lim, sIx_l, sIx_t, sLen_l, sLen_t, sTuple_l, sTuple_t, sList_l, sList_t, rngL0, rngL1, rngL2, rngL3, rngL4, rngL5, rngL6, sat_ret, sat_bnd, sat_some, sat_none, sat_fail, bnd_ret, bnd_bnd, bnd_fail, lft_some, lft_none, Option.map_some, Option.map_none, List.map_cons, List.map_nil, List.length_cons, List.length_nil, List.replicate, List.cons_append, List.nil_append, List.append_nil, List.all_cons, List.all_nil, Bool.and_true, Bool.true_and, Bool.and_false, Bool.false_and, Bool.not_false, Bool.not_true, Bool.not_not, Bool.or_true, Bool.true_or, Bool.or_false, Bool.false_or, List.getElem?_cons_succ, List.getElem?_cons_zero, List.getElem?_nil, if_true, if_false, ite_true, ite_false, List.set_cons_succ, List.set_cons_zero, List.set_nil, Int.reduceLT, Int.reduceLE, Int.reduceNeg, Int.reducePow, Int.reduceMul, Int.reduceAdd, Int.reduceSub, Int.reduceToNat, Int.reduceEq, Nat.reduceAdd, Nat.reduceSub, Nat.reduceLeDiff, Nat.reduceLT, Nat.reduceEqDiff, Nat.reduceMul, and_self, and_true, true_and, and_false, false_and, or_true, true_or, or_false, false_or, or_self, reduceIte, Bool.false_eq_true, Bool.true_eq_false, decide_true, decide_false, Option.some.injEq, List.isEmpty_cons, List.isEmpty_nil, reduceCtorEq, ne_eq, not_false_eq_true, not_true_eq_false, List.replicate_zero, Int.reduceMod, sEq_int, sNe_int, rotN_0, rotN_1, rotN_2, rotN_3, bi_t, bi_f, sAdd_i, sAdd_t, sAdd_l, lAdd_l, sSub_i, sMul_i, sMul_t, sMul_l, sMod_i, sFdiv_i, sNeg_i, sLt_i, sLe_i, sGt_i, sGe_i, sIs_n, sIsNot_n, isN_n, isN_i, isN_t, isN_l, isN_s, isN_b, toB_b, toI_i, toD_d, toD_l, toL_l, tTru_n, tTru_b, tTru_i, tTru_l, tTru_t, isT_int, isT_bool, isT_tuple, isT_str, isT_list, sCut_l, sCut_t, sAug_ap, sPop_ap]
def isEnt (n : Nat) (d : PyData) : Bool := match d with
  | .tuple [x, y] => isNumR 0 ((n : Int) - 1) x && isNumR 0 3 y
  | _ => false
theorem len2 {ds : List PyData} (h : ds.length = 2) : ∃ x y, ds = [x, y] := by
  match ds, h with
  | [x, y], _ => exact ⟨x, y, rfl⟩
theorem isEnt_len {n : Nat} {ds : List PyData} (h : ds.length ≠ 2) : isEnt n (.tuple ds) = false := by
  match ds, h with
  | [], _ => rfl
  | [_], _ => rfl
  | [_, _], h => exact absurd rfl h
  | _ :: _ :: _ :: _, _ => rfl
theorem is_entry_ok (box : List PyData) (d : PyData) : f_is_entry [.d (.tuple box), .d d] = ret (.d (.bool (isEnt box.length d))) := by
  cases d with
  | tuple ds =>
    by_cases h2 : ds.length = 2
    · obtain ⟨x, y, rfl⟩ := len2 h2
      have a0 : atI [x, y] 0 = some x := rfl
      have a1 : atI [x, y] 1 = some y := rfl
      have e2 : (((0 + 1 + 1 : Nat) : Int) = 2) = True := eq_true rfl
      have e2' : (((2 : Nat) : Int) = 2) = True := eq_true rfl
      cases hx : isNumR 0 ((box.length : Int) - 1) x with
      | true => simp -dsimp only [f_is_entry, m_is_entry, PyData.isTuple, is_whole_R, a0, a1, e2, e2', isEnt, hx, eFz_ap, eVar_ap, eVarQ_ap, eC_ap, e1_ap, e2_ap, l1_ap, l2_ap, aNil_ap, aCons_ap, eTup_ap, lLst_ap, fTru_ap, fB_ap, fNot_ap, fAnd_ap, fOr_ap, eNot_ap, eAnd_ap, eOr_ap, eIf_ap, lIf_ap, oNone_ap, oSome_ap, eCut_ap, lCut_ap, sNext_ap, sBreak_ap, sCont_ap, sIf_ap, sExpr_ap, sRet_ap, sRetL_ap, sRetO_ap, sRetN_ap, bName_ap, bNil_ap, bCons_ap, bTup_ap, bItem_ap, sAsg_ap, sSet_ap, sSetL_ap, sApp_ap, sExt_ap, iSeq_ap, iOwn_ap, l3_ap, sFor_ap, fYes_ap, rNil_ap, rCons_ap, rRaw_ap, eCall_ap, lCall_ap, eCallK_ap, eCh_ap, xNil_ap, xD_ap, xL_ap, sPar_ap, eIs_ap, sSeq_ap, seqM_next, seqM_brk, seqM_cont, seqM_ret, runDef_ap, defM_next, defM_ret, stepM_ap, loopM_next, loopM_cont, loopM_brk, loopM_ret, lcF_ap, lcH_ap, lcM_nil, lcM_cons, lcC_some, lcC_none, limM_ap, lLC_ap, startE, arS, mask, wipeE, noOwn, isOwn, setAll, rtS, sItems_l, sItems_t, lim, sIx_l, sIx_t, sLen_l, sLen_t, sTuple_l, sTuple_t, sList_l, sList_t, rngL0, rngL1, rngL2, rngL3, rngL4, rngL5, rngL6, sat_ret, sat_bnd, sat_some, sat_none, sat_fail, bnd_ret, bnd_bnd, bnd_fail, lft_some, lft_none, Option.map_some, Option.map_none, List.map_cons, List.map_nil, List.length_cons, List.length_nil, List.replicate, List.cons_append, List.nil_append, List.append_nil, List.all_cons, List.all_nil, Bool.and_true, Bool.true_and, Bool.and_false, Bool.false_and, Bool.not_false, Bool.not_true, Bool.not_not, Bool.or_true, Bool.true_or, Bool.or_false, Bool.false_or, List.getElem?_cons_succ, List.getElem?_cons_zero, List.getElem?_nil, if_true, if_false, ite_true, ite_false, List.set_cons_succ, List.set_cons_zero, List.set_nil, Int.reduceLT, Int.reduceLE, Int.reduceNeg, Int.reducePow, Int.reduceMul, Int.reduceAdd, Int.reduceSub, Int.reduceToNat, Int.reduceEq, Nat.reduceAdd, Nat.reduceSub, Nat.reduceLeDiff, Nat.reduceLT, Nat.reduceEqDiff, Nat.reduceMul, and_self, and_true, true_and, and_false, false_and, or_true, true_or, or_false, false_or, or_self, reduceIte, Bool.false_eq_true, Bool.true_eq_false, decide_true, decide_false, Option.some.injEq, List.isEmpty_cons, List.isEmpty_nil, reduceCtorEq, ne_eq, not_false_eq_true, not_true_eq_false, List.replicate_zero, Int.reduceMod, sEq_int, sNe_int, rotN_0, rotN_1, rotN_2, rotN_3, bi_t, bi_f, sAdd_i, sAdd_t, sAdd_l, lAdd_l, sSub_i, sMul_i, sMul_t, sMul_l, sMod_i, sFdiv_i, sNeg_i, sLt_i, sLe_i, sGt_i, sGe_i, sIs_n, sIsNot_n, isN_n, isN_i, isN_t, isN_l, isN_s, isN_b, toB_b, toI_i, toD_d, toD_l, toL_l, tTru_n, tTru_b, tTru_i, tTru_l, tTru_t, isT_int, isT_bool, isT_tuple, isT_str, isT_list, sCut_l, sCut_t, sAug_ap, sPop_ap]
      | false => simp -dsimp only [f_is_entry, m_is_entry, PyData.isTuple, is_whole_R, a0, a1, e2, e2', isEnt, hx, eFz_ap, eVar_ap, eVarQ_ap, eC_ap, e1_ap, e2_ap, l1_ap, l2_ap, aNil_ap, aCons_ap, eTup_ap, lLst_ap, fTru_ap, fB_ap, fNot_ap, fAnd_ap, fOr_ap, eNot_ap, eAnd_ap, eOr_ap, eIf_ap, lIf_ap, oNone_ap, oSome_ap, eCut_ap, lCut_ap, sNext_ap, sBreak_ap, sCont_ap, sIf_ap, sExpr_ap, sRet_ap, sRetL_ap, sRetO_ap, sRetN_ap, bName_ap, bNil_ap, bCons_ap, bTup_ap, bItem_ap, sAsg_ap, sSet_ap, sSetL_ap, sApp_ap, sExt_ap, iSeq_ap, iOwn_ap, l3_ap, sFor_ap, fYes_ap, rNil_ap, rCons_ap, rRaw_ap, eCall_ap, lCall_ap, eCallK_ap, eCh_ap, xNil_ap, xD_ap, xL_ap, sPar_ap, eIs_ap, sSeq_ap, seqM_next, seqM_brk, seqM_cont, seqM_ret, runDef_ap, defM_next, defM_ret, stepM_ap, loopM_next, loopM_cont, loopM_brk, loopM_ret, lcF_ap, lcH_ap, lcM_nil, lcM_cons, lcC_some, lcC_none, limM_ap, lLC_ap, startE, arS, mask, wipeE, noOwn, isOwn, setAll, rtS, sItems_l, sItems_t, lim, sIx_l, sIx_t, sLen_l, sLen_t, sTuple_l, sTuple_t, sList_l, sList_t, rngL0, rngL1, rngL2, rngL3, rngL4, rngL5, rngL6, sat_ret, sat_bnd, sat_some, sat_none, sat_fail, bnd_ret, bnd_bnd, bnd_fail, lft_some, lft_none, Option.map_some, Option.map_none, List.map_cons, List.map_nil, List.length_cons, List.length_nil, List.replicate, List.cons_append, List.nil_append, List.append_nil, List.all_cons, List.all_nil, Bool.and_true, Bool.true_and, Bool.and_false, Bool.false_and, Bool.not_false, Bool.not_true, Bool.not_not, Bool.or_true, Bool.true_or, Bool.or_false, Bool.false_or, List.getElem?_cons_succ, List.getElem?_cons_zero, List.getElem?_nil, if_true, if_false, ite_true, ite_false, List.set_cons_succ, List.set_cons_zero, List.set_nil, Int.reduceLT, Int.reduceLE, Int.reduceNeg, Int.reducePow, Int.reduceMul, Int.reduceAdd, Int.reduceSub, Int.reduceToNat, Int.reduceEq, Nat.reduceAdd, Nat.reduceSub, Nat.reduceLeDiff, Nat.reduceLT, Nat.reduceEqDiff, Nat.reduceMul, and_self, and_true, true_and, and_false, false_and, or_true, true_or, or_false, false_or, or_self, reduceIte, Bool.false_eq_true, Bool.true_eq_false, decide_true, decide_false, Option.some.injEq, List.isEmpty_cons, List.isEmpty_nil, reduceCtorEq, ne_eq, not_false_eq_true, not_true_eq_false, List.replicate_zero, Int.reduceMod, sEq_int, sNe_int, rotN_0, rotN_1, rotN_2, rotN_3, bi_t, bi_f, sAdd_i, sAdd_t, sAdd_l, lAdd_l, sSub_i, sMul_i, sMul_t, sMul_l, sMod_i, sFdiv_i, sNeg_i, sLt_i, sLe_i, sGt_i, sGe_i, sIs_n, sIsNot_n, isN_n, isN_i, isN_t, isN_l, isN_s, isN_b, toB_b, toI_i, toD_d, toD_l, toL_l, tTru_n, tTru_b, tTru_i, tTru_l, tTru_t, isT_int, isT_bool, isT_tuple, isT_str, isT_list, sCut_l, sCut_t, sAug_ap, sPop_ap]
    · have hi : ¬ ((ds.length : Nat) : Int) = 2 := by omega
      simp -dsimp only [f_is_entry, m_is_entry, PyData.isTuple, isEnt_len h2, hi, eFz_ap, eVar_ap, eVarQ_ap, eC_ap, e1_ap, e2_ap, l1_ap, l2_ap, aNil_ap, aCons_ap, eTup_ap, lLst_ap, fTru_ap, fB_ap, fNot_ap, fAnd_ap, fOr_ap, eNot_ap, eAnd_ap, eOr_ap, eIf_ap, lIf_ap, oNone_ap, oSome_ap, eCut_ap, lCut_ap, sNext_ap, sBreak_ap, sCont_ap, sIf_ap, sExpr_ap, sRet_ap, sRetL_ap, sRetO_ap, sRetN_ap, bName_ap, bNil_ap, bCons_ap, bTup_ap, bItem_ap, sAsg_ap, sSet_ap, sSetL_ap, sApp_ap, sExt_ap, iSeq_ap, iOwn_ap, l3_ap, sFor_ap, fYes_ap, rNil_ap, rCons_ap, rRaw_ap, eCall_ap, lCall_ap, eCallK_ap, eCh_ap, xNil_ap, xD_ap, xL_ap, sPar_ap, eIs_ap, sSeq_ap, seqM_next, seqM_brk, seqM_cont, seqM_ret, runDef_ap, defM_next, defM_ret, stepM_ap, loopM_next, loopM_cont, loopM_brk, loopM_ret, lcF_ap, lcH_ap, lcM_nil, lcM_cons, lcC_some, lcC_none, limM_ap, lLC_ap, startE, arS, mask, wipeE, noOwn, isOwn, setAll, rtS, sItems_l, sItems_t, lim, sIx_l, sIx_t, sLen_l, sLen_t, sTuple_l, sTuple_t, sList_l, sList_t, rngL0, rngL1, rngL2, rngL3, rngL4, rngL5, rngL6, sat_ret, sat_bnd, sat_some, sat_none, sat_fail, bnd_ret, bnd_bnd, bnd_fail, lft_some, lft_none, Option.map_some, Option.map_none, List.map_cons, List.map_nil, List.length_cons, List.length_nil, List.replicate, List.cons_append, List.nil_append, List.append_nil, List.all_cons, List.all_nil, Bool.and_true, Bool.true_and, Bool.and_false, Bool.false_and, Bool.not_false, Bool.not_true, Bool.not_not, Bool.or_true, Bool.true_or, Bool.or_false, Bool.false_or, List.getElem?_cons_succ, List.getElem?_cons_zero, List.getElem?_nil, if_true, if_false, ite_true, ite_false, List.set_cons_succ, List.set_cons_zero, List.set_nil, Int.reduceLT, Int.reduceLE, Int.reduceNeg, Int.reducePow, Int.reduceMul, Int.reduceAdd, Int.reduceSub, Int.reduceToNat, Int.reduceEq, Nat.reduceAdd, Nat.reduceSub, Nat.reduceLeDiff, Nat.reduceLT, Nat.reduceEqDiff, Nat.reduceMul, and_self, and_true, true_and, and_false, false_and, or_true, true_or, or_false, false_or, or_self, reduceIte, Bool.false_eq_true, Bool.true_eq_false, decide_true, decide_false, Option.some.injEq, List.isEmpty_cons, List.isEmpty_nil, reduceCtorEq, ne_eq, not_false_eq_true, not_true_eq_false, List.replicate_zero, Int.reduceMod, sEq_int, sNe_int, rotN_0, rotN_1, rotN_2, rotN_3, bi_t, bi_f, sAdd_i, sAdd_t, sAdd_l, lAdd_l, sSub_i, sMul_i, sMul_t, sMul_l, sMod_i, sFdiv_i, sNeg_i, sLt_i, sLe_i, sGt_i, sGe_i, sIs_n, sIsNot_n, isN_n, isN_i, isN_t, isN_l, isN_s, isN_b, toB_b, toI_i, toD_d, toD_l, toL_l, tTru_n, tTru_b, tTru_i, tTru_l, tTru_t, isT_int, isT_bool, isT_tuple, isT_str, isT_list, sCut_l, sCut_t, sAug_ap, sPop_ap]
  | _ => simp -dsimp only [f_is_entry, m_is_entry, PyData.isTuple, isEnt, eFz_ap, eVar_ap, eVarQ_ap, eC_ap, e1_ap, e2_ap, l1_ap, l2_ap, aNil_ap, aCons_ap, eTup_ap, lLst_ap, fTru_ap, fB_ap, fNot_ap, fAnd_ap, fOr_ap, eNot_ap, eAnd_ap, eOr_ap, eIf_ap, lIf_ap, oNone_ap, oSome_ap, eCut_ap, lCut_ap, sNext_ap, sBreak_ap, sCont_ap, sIf_ap, sExpr_ap, sRet_ap, sRetL_ap, sRetO_ap, sRetN_ap, bName_ap, bNil_ap, bCons_ap, bTup_ap, bItem_ap, sAsg_ap, sSet_ap, sSetL_ap, sApp_ap, sExt_ap, iSeq_ap, iOwn_ap, l3_ap, sFor_ap, fYes_ap, rNil_ap, rCons_ap, rRaw_ap, eCall_ap, lCall_ap, eCallK_ap, eCh_ap, xNil_ap, xD_ap, xL_ap, sPar_ap, eIs_ap, sSeq_ap, seqM_next, seqM_brk, seqM_cont, seqM_ret, runDef_ap, defM_next, defM_ret, stepM_ap, loopM_next, loopM_cont, loopM_brk, loopM_ret, lcF_ap, lcH_ap, lcM_nil, lcM_cons, lcC_some, lcC_none, limM_ap, lLC_ap, startE, arS, mask, wipeE, noOwn, isOwn, setAll, rtS, sItems_l, sItems_t, lim, sIx_l, sIx_t, sLen_l, sLen_t, sTuple_l, sTuple_t, sList_l, sList_t, rngL0, rngL1, rngL2, rngL3, rngL4, rngL5, rngL6, sat_ret, sat_bnd, sat_some, sat_none, sat_fail, bnd_ret, bnd_bnd, bnd_fail, lft_some, lft_none, Option.map_some, Option.map_none, List.map_cons, List.map_nil, List.length_cons, List.length_nil, List.replicate, List.cons_append, List.nil_append, List.append_nil, List.all_cons, List.all_nil, Bool.and_true, Bool.true_and, Bool.and_false, Bool.false_and, Bool.not_false, Bool.not_true, Bool.not_not, Bool.or_true, Bool.true_or, Bool.or_false, Bool.false_or, List.getElem?_cons_succ, List.getElem?_cons_zero, List.getElem?_nil, if_true, if_false, ite_true, ite_false, List.set_cons_succ, List.set_cons_zero, List.set_nil, Int.reduceLT, Int.reduceLE, Int.reduceNeg, Int.reducePow, Int.reduceMul, Int.reduceAdd, Int.reduceSub, Int.reduceToNat, Int.reduceEq, Nat.reduceAdd, Nat.reduceSub, Nat.reduceLeDiff, Nat.reduceLT, Nat.reduceEqDiff, Nat.reduceMul, and_self, and_true, true_and, and_false, false_and, or_true, true_or, or_false, false_or, or_self, reduceIte, Bool.false_eq_true, Bool.true_eq_false, decide_true, decide_false, Option.some.injEq, List.isEmpty_cons, List.isEmpty_nil, reduceCtorEq, ne_eq, not_false_eq_true, not_true_eq_false, List.replicate_zero, Int.reduceMod, sEq_int, sNe_int, rotN_0, rotN_1, rotN_2, rotN_3, bi_t, bi_f, sAdd_i, sAdd_t, sAdd_l, lAdd_l, sSub_i, sMul_i, sMul_t, sMul_l, sMod_i, sFdiv_i, sNeg_i, sLt_i, sLe_i, sGt_i, sGe_i, sIs_n, sIsNot_n, isN_n, isN_i, isN_t, isN_l, isN_s, isN_b, toB_b, toI_i, toD_d, toD_l, toL_l, tTru_n, tTru_b, tTru_i, tTru_l, tTru_t, isT_int, isT_bool, isT_tuple, isT_str, isT_list, sCut_l, sCut_t, sAug_ap, sPop_ap]
def isRow (n : Nat) (d : PyData) : Bool := match d with
  | .tuple ds => !ds.isEmpty && ds.all (isEnt n)
  | _ => false
theorem is_row_ok (box : List PyData) (d : PyData) (hd : Okd 50 d) : f_is_row [.d (.tuple box), .d d] = ret (.d (.bool (isRow box.length d))) := by
  cases d with
  | tuple ds =>
    obtain ⟨h1, h2⟩ := hd.tup
    have hf : ∀ x ∈ ds, lcF (bName 2) fYes (eCall 2 f_is_entry (rCons (eVar 0) (rCons (eVar 2) rNil)) []) [some (.val (.tuple box)), some (.val (.tuple ds)), none] x = (ret (some (.bool (isEnt box.length x))) : M Tw _) := fun x hx => by
      simp -dsimp only [is_entry_ok, eFz_ap, eVar_ap, eVarQ_ap, eC_ap, e1_ap, e2_ap, l1_ap, l2_ap, aNil_ap, aCons_ap, eTup_ap, lLst_ap, fTru_ap, fB_ap, fNot_ap, fAnd_ap, fOr_ap, eNot_ap, eAnd_ap, eOr_ap, eIf_ap, lIf_ap, oNone_ap, oSome_ap, eCut_ap, lCut_ap, sNext_ap, sBreak_ap, sCont_ap, sIf_ap, sExpr_ap, sRet_ap, sRetL_ap, sRetO_ap, sRetN_ap, bName_ap, bNil_ap, bCons_ap, bTup_ap, bItem_ap, sAsg_ap, sSet_ap, sSetL_ap, sApp_ap, sExt_ap, iSeq_ap, iOwn_ap, l3_ap, sFor_ap, fYes_ap, rNil_ap, rCons_ap, rRaw_ap, eCall_ap, lCall_ap, eCallK_ap, eCh_ap, xNil_ap, xD_ap, xL_ap, sPar_ap, eIs_ap, sSeq_ap, seqM_next, seqM_brk, seqM_cont, seqM_ret, runDef_ap, defM_next, defM_ret, stepM_ap, loopM_next, loopM_cont, loopM_brk, loopM_ret, lcF_ap, lcH_ap, lcM_nil, lcM_cons, lcC_some, lcC_none, limM_ap, lLC_ap, startE, arS, mask, wipeE, noOwn, isOwn, setAll, rtS, sItems_l, sItems_t, lim, sIx_l, sIx_t, sLen_l, sLen_t, sTuple_l, sTuple_t, sList_l, sList_t, rngL0, rngL1, rngL2, rngL3, rngL4, rngL5, rngL6, sat_ret, sat_bnd, sat_some, sat_none, sat_fail, bnd_ret, bnd_bnd, bnd_fail, lft_some, lft_none, Option.map_some, Option.map_none, List.map_cons, List.map_nil, List.length_cons, List.length_nil, List.replicate, List.cons_append, List.nil_append, List.append_nil, List.all_cons, List.all_nil, Bool.and_true, Bool.true_and, Bool.and_false, Bool.false_and, Bool.not_false, Bool.not_true, Bool.not_not, Bool.or_true, Bool.true_or, Bool.or_false, Bool.false_or, List.getElem?_cons_succ, List.getElem?_cons_zero, List.getElem?_nil, if_true, if_false, ite_true, ite_false, List.set_cons_succ, List.set_cons_zero, List.set_nil, Int.reduceLT, Int.reduceLE, Int.reduceNeg, Int.reducePow, Int.reduceMul, Int.reduceAdd, Int.reduceSub, Int.reduceToNat, Int.reduceEq, Nat.reduceAdd, Nat.reduceSub, Nat.reduceLeDiff, Nat.reduceLT, Nat.reduceEqDiff, Nat.reduceMul, and_self, and_true, true_and, and_false, false_and, or_true, true_or, or_false, false_or, or_self, reduceIte, Bool.false_eq_true, Bool.true_eq_false, decide_true, decide_false, Option.some.injEq, List.isEmpty_cons, List.isEmpty_nil, reduceCtorEq, ne_eq, not_false_eq_true, not_true_eq_false, List.replicate_zero, Int.reduceMod, sEq_int, sNe_int, rotN_0, rotN_1, rotN_2, rotN_3, bi_t, bi_f, sAdd_i, sAdd_t, sAdd_l, lAdd_l, sSub_i, sMul_i, sMul_t, sMul_l, sMod_i, sFdiv_i, sNeg_i, sLt_i, sLe_i, sGt_i, sGe_i, sIs_n, sIsNot_n, isN_n, isN_i, isN_t, isN_l, isN_s, isN_b, toB_b, toI_i, toD_d, toD_l, toL_l, tTru_n, tTru_b, tTru_i, tTru_l, tTru_t, isT_int, isT_bool, isT_tuple, isT_str, isT_list, sCut_l, sCut_t, sAug_ap, sPop_ap]
    have e := lcM_pureM (h := fun x => .bool (isEnt box.length x)) hf
    have ne := sNe_empty (hd.shp (by decide))
    have hlim : ds.length ≤ 16000000 := by omega
    cases hds : ds.isEmpty with
    | true => simp -dsimp only [f_is_row, m_is_row, PyData.isTuple, ne, hds, isRow, eFz_ap, eVar_ap, eVarQ_ap, eC_ap, e1_ap, e2_ap, l1_ap, l2_ap, aNil_ap, aCons_ap, eTup_ap, lLst_ap, fTru_ap, fB_ap, fNot_ap, fAnd_ap, fOr_ap, eNot_ap, eAnd_ap, eOr_ap, eIf_ap, lIf_ap, oNone_ap, oSome_ap, eCut_ap, lCut_ap, sNext_ap, sBreak_ap, sCont_ap, sIf_ap, sExpr_ap, sRet_ap, sRetL_ap, sRetO_ap, sRetN_ap, bName_ap, bNil_ap, bCons_ap, bTup_ap, bItem_ap, sAsg_ap, sSet_ap, sSetL_ap, sApp_ap, sExt_ap, iSeq_ap, iOwn_ap, l3_ap, sFor_ap, fYes_ap, rNil_ap, rCons_ap, rRaw_ap, eCall_ap, lCall_ap, eCallK_ap, eCh_ap, xNil_ap, xD_ap, xL_ap, sPar_ap, eIs_ap, sSeq_ap, seqM_next, seqM_brk, seqM_cont, seqM_ret, runDef_ap, defM_next, defM_ret, stepM_ap, loopM_next, loopM_cont, loopM_brk, loopM_ret, lcF_ap, lcH_ap, lcM_nil, lcM_cons, lcC_some, lcC_none, limM_ap, lLC_ap, startE, arS, mask, wipeE, noOwn, isOwn, setAll, rtS, sItems_l, sItems_t, lim, sIx_l, sIx_t, sLen_l, sLen_t, sTuple_l, sTuple_t, sList_l, sList_t, rngL0, rngL1, rngL2, rngL3, rngL4, rngL5, rngL6, sat_ret, sat_bnd, sat_some, sat_none, sat_fail, bnd_ret, bnd_bnd, bnd_fail, lft_some, lft_none, Option.map_some, Option.map_none, List.map_cons, List.map_nil, List.length_cons, List.length_nil, List.replicate, List.cons_append, List.nil_append, List.append_nil, List.all_cons, List.all_nil, Bool.and_true, Bool.true_and, Bool.and_false, Bool.false_and, Bool.not_false, Bool.not_true, Bool.not_not, Bool.or_true, Bool.true_or, Bool.or_false, Bool.false_or, List.getElem?_cons_succ, List.getElem?_cons_zero, List.getElem?_nil, if_true, if_false, ite_true, ite_false, List.set_cons_succ, List.set_cons_zero, List.set_nil, Int.reduceLT, Int.reduceLE, Int.reduceNeg, Int.reducePow, Int.reduceMul, Int.reduceAdd, Int.reduceSub, Int.reduceToNat, Int.reduceEq, Nat.reduceAdd, Nat.reduceSub, Nat.reduceLeDiff, Nat.reduceLT, Nat.reduceEqDiff, Nat.reduceMul, and_self, and_true, true_and, and_false, false_and, or_true, true_or, or_false, false_or, or_self, reduceIte, Bool.false_eq_true, Bool.true_eq_false, decide_true, decide_false, Option.some.injEq, List.isEmpty_cons, List.isEmpty_nil, reduceCtorEq, ne_eq, not_false_eq_true, not_true_eq_false, List.replicate_zero, Int.reduceMod, sEq_int, sNe_int, rotN_0, rotN_1, rotN_2, rotN_3, bi_t, bi_f, sAdd_i, sAdd_t, sAdd_l, lAdd_l, sSub_i, sMul_i, sMul_t, sMul_l, sMod_i, sFdiv_i, sNeg_i, sLt_i, sLe_i, sGt_i, sGe_i, sIs_n, sIsNot_n, isN_n, isN_i, isN_t, isN_l, isN_s, isN_b, toB_b, toI_i, toD_d, toD_l, toL_l, tTru_n, tTru_b, tTru_i, tTru_l, tTru_t, isT_int, isT_bool, isT_tuple, isT_str, isT_list, sCut_l, sCut_t, sAug_ap, sPop_ap]
    | false => simp -dsimp only [f_is_row, m_is_row, PyData.isTuple, ne, hds, isRow, e, all_map_bool, List.length_map, hlim, eFz_ap, eVar_ap, eVarQ_ap, eC_ap, e1_ap, e2_ap, l1_ap, l2_ap, aNil_ap, aCons_ap, eTup_ap, lLst_ap, fTru_ap, fB_ap, fNot_ap, fAnd_ap, fOr_ap, eNot_ap, eAnd_ap, eOr_ap, eIf_ap, lIf_ap, oNone_ap, oSome_ap, eCut_ap, lCut_ap, sNext_ap, sBreak_ap, sCont_ap, sIf_ap, sExpr_ap, sRet_ap, sRetL_ap, sRetO_ap, sRetN_ap, bName_ap, bNil_ap, bCons_ap, bTup_ap, bItem_ap, sAsg_ap, sSet_ap, sSetL_ap, sApp_ap, sExt_ap, iSeq_ap, iOwn_ap, l3_ap, sFor_ap, fYes_ap, rNil_ap, rCons_ap, rRaw_ap, eCall_ap, lCall_ap, eCallK_ap, eCh_ap, xNil_ap, xD_ap, xL_ap, sPar_ap, eIs_ap, sSeq_ap, seqM_next, seqM_brk, seqM_cont, seqM_ret, runDef_ap, defM_next, defM_ret, stepM_ap, loopM_next, loopM_cont, loopM_brk, loopM_ret, lcF_ap, lcH_ap, lcM_nil, lcM_cons, lcC_some, lcC_none, limM_ap, lLC_ap, startE, arS, mask, wipeE, noOwn, isOwn, setAll, rtS, sItems_l, sItems_t, lim, sIx_l, sIx_t, sLen_l, sLen_t, sTuple_l, sTuple_t, sList_l, sList_t, rngL0, rngL1, rngL2, rngL3, rngL4, rngL5, rngL6, sat_ret, sat_bnd, sat_some, sat_none, sat_fail, bnd_ret, bnd_bnd, bnd_fail, lft_some, lft_none, Option.map_some, Option.map_none, List.map_cons, List.map_nil, List.length_cons, List.length_nil, List.replicate, List.cons_append, List.nil_append, List.append_nil, List.all_cons, List.all_nil, Bool.and_true, Bool.true_and, Bool.and_false, Bool.false_and, Bool.not_false, Bool.not_true, Bool.not_not, Bool.or_true, Bool.true_or, Bool.or_false, Bool.false_or, List.getElem?_cons_succ, List.getElem?_cons_zero, List.getElem?_nil, if_true, if_false, ite_true, ite_false, List.set_cons_succ, List.set_cons_zero, List.set_nil, Int.reduceLT, Int.reduceLE, Int.reduceNeg, Int.reducePow, Int.reduceMul, Int.reduceAdd, Int.reduceSub, Int.reduceToNat, Int.reduceEq, Nat.reduceAdd, Nat.reduceSub, Nat.reduceLeDiff, Nat.reduceLT, Nat.reduceEqDiff, Nat.reduceMul, and_self, and_true, true_and, and_false, false_and, or_true, true_or, or_false, false_or, or_self, reduceIte, Bool.false_eq_true, Bool.true_eq_false, decide_true, decide_false, Option.some.injEq, List.isEmpty_cons, List.isEmpty_nil, reduceCtorEq, ne_eq, not_false_eq_true, not_true_eq_false, List.replicate_zero, Int.reduceMod, sEq_int, sNe_int, rotN_0, rotN_1, rotN_2, rotN_3, bi_t, bi_f, sAdd_i, sAdd_t, sAdd_l, lAdd_l, sSub_i, sMul_i, sMul_t, sMul_l, sMod_i, sFdiv_i, sNeg_i, sLt_i, sLe_i, sGt_i, sGe_i, sIs_n, sIsNot_n, isN_n, isN_i, isN_t, isN_l, isN_s, isN_b, toB_b, toI_i, toD_d, toD_l, toL_l, tTru_n, tTru_b, tTru_i, tTru_l, tTru_t, isT_int, isT_bool, isT_tuple, isT_str, isT_list, sCut_l, sCut_t, sAug_ap, sPop_ap]
  | _ => simp -dsimp only [f_is_row, m_is_row, PyData.isTuple, isRow, eFz_ap, eVar_ap, eVarQ_ap, eC_ap, e1_ap, e2_ap, l1_ap, l2_ap, aNil_ap, aCons_ap, eTup_ap, lLst_ap, fTru_ap, fB_ap, fNot_ap, fAnd_ap, fOr_ap, eNot_ap, eAnd_ap, eOr_ap, eIf_ap, lIf_ap, oNone_ap, oSome_ap, eCut_ap, lCut_ap, sNext_ap, sBreak_ap, sCont_ap, sIf_ap, sExpr_ap, sRet_ap, sRetL_ap, sRetO_ap, sRetN_ap, bName_ap, bNil_ap, bCons_ap, bTup_ap, bItem_ap, sAsg_ap, sSet_ap, sSetL_ap, sApp_ap, sExt_ap, iSeq_ap, iOwn_ap, l3_ap, sFor_ap, fYes_ap, rNil_ap, rCons_ap, rRaw_ap, eCall_ap, lCall_ap, eCallK_ap, eCh_ap, xNil_ap, xD_ap, xL_ap, sPar_ap, eIs_ap, sSeq_ap, seqM_next, seqM_brk, seqM_cont, seqM_ret, runDef_ap, defM_next, defM_ret, stepM_ap, loopM_next, loopM_cont, loopM_brk, loopM_ret, lcF_ap, lcH_ap, lcM_nil, lcM_cons, lcC_some, lcC_none, limM_ap, lLC_ap, startE, arS, mask, wipeE, noOwn, isOwn, setAll, rtS, sItems_l, sItems_t, lim, sIx_l, sIx_t, sLen_l, sLen_t, sTuple_l, sTuple_t, sList_l, sList_t, rngL0, rngL1, rngL2, rngL3, rngL4, rngL5, rngL6, sat_ret, sat_bnd, sat_some, sat_none, sat_fail, bnd_ret, bnd_bnd, bnd_fail, lft_some, lft_none, Option.map_some, Option.map_none, List.map_cons, List.map_nil, List.length_cons, List.length_nil, List.replicate, List.cons_append, List.nil_append, List.append_nil, List.all_cons, List.all_nil, Bool.and_true, Bool.true_and, Bool.and_false, Bool.false_and, Bool.not_false, Bool.not_true, Bool.not_not, Bool.or_true, Bool.true_or, Bool.or_false, Bool.false_or, List.getElem?_cons_succ, List.getElem?_cons_zero, List.getElem?_nil, if_true, if_false, ite_true, ite_false, List.set_cons_succ, List.set_cons_zero, List.set_nil, Int.reduceLT, Int.reduceLE, Int.reduceNeg, Int.reducePow, Int.reduceMul, Int.reduceAdd, Int.reduceSub, Int.reduceToNat, Int.reduceEq, Nat.reduceAdd, Nat.reduceSub, Nat.reduceLeDiff, Nat.reduceLT, Nat.reduceEqDiff, Nat.reduceMul, and_self, and_true, true_and, and_false, false_and, or_true, true_or, or_false, false_or, or_self, reduceIte, Bool.false_eq_true, Bool.true_eq_false, decide_true, decide_false, Option.some.injEq, List.isEmpty_cons, List.isEmpty_nil, reduceCtorEq, ne_eq, not_false_eq_true, not_true_eq_false, List.replicate_zero, Int.reduceMod, sEq_int, sNe_int, rotN_0, rotN_1, rotN_2, rotN_3, bi_t, bi_f, sAdd_i, sAdd_t, sAdd_l, lAdd_l, sSub_i, sMul_i, sMul_t, sMul_l, sMod_i, sFdiv_i, sNeg_i, sLt_i, sLe_i, sGt_i, sGe_i, sIs_n, sIsNot_n, isN_n, isN_i, isN_t, isN_l, isN_s, isN_b, toB_b, toI_i, toD_d, toD_l, toL_l, tTru_n, tTru_b, tTru_i, tTru_l, tTru_t, isT_int, isT_bool, isT_tuple, isT_str, isT_list, sCut_l, sCut_t, sAug_ap, sPop_ap]
/-- the items of a tuple -/
def its (d : PyData) : List PyData := match d with
  | .tuple ds => ds
  | _ => []
theorem entries_loop (x : Sl) : ∀ (rows : List PyData) (acc : List PyData), (∀ r ∈ rows, ∃ ds, r = .tuple ds) → acc.length + (rows.flatMap its).length ≤ 1000000 →
    sLoop (bName 2) (sExt 1 (eFz (l1 sList (eVarQ 2)))) rows [some x, some (.own acc), none] = (ret (.next [some x, some (.own (acc ++ rows.flatMap its)), none]) : M Tw Fl)
  | [], acc, _, _ => by rw [sLoop_nil]; simp
  | r :: rows, acc, h, hl => by
    obtain ⟨ds, rfl⟩ := h r (List.mem_cons_self ..)
    rw [List.flatMap_cons, List.length_append] at hl
    have hl2 : acc.length + ds.length ≤ 16000000 := by
      have : (its (.tuple ds)).length = ds.length := rfl
      omega
    have e := entries_loop x rows (acc ++ ds) (fun r hr => h r (List.mem_cons_of_mem _ hr)) (by rw [List.length_append]; have : (its (.tuple ds)).length = ds.length := rfl; omega)
    simp -dsimp only [sLoop_cons, hl2, e, eFz_ap, eVar_ap, eVarQ_ap, eC_ap, e1_ap, e2_ap, l1_ap, l2_ap, aNil_ap, aCons_ap, eTup_ap, lLst_ap, fTru_ap, fB_ap, fNot_ap, fAnd_ap, fOr_ap, eNot_ap, eAnd_ap, eOr_ap, eIf_ap, lIf_ap, oNone_ap, oSome_ap, eCut_ap, lCut_ap, sNext_ap, sBreak_ap, sCont_ap, sIf_ap, sExpr_ap, sRet_ap, sRetL_ap, sRetO_ap, sRetN_ap, bName_ap, bNil_ap, bCons_ap, bTup_ap, bItem_ap, sAsg_ap, sSet_ap, sSetL_ap, sApp_ap, sExt_ap, iSeq_ap, iOwn_ap, l3_ap, sFor_ap, fYes_ap, rNil_ap, rCons_ap, rRaw_ap, eCall_ap, lCall_ap, eCallK_ap, eCh_ap, xNil_ap, xD_ap, xL_ap, sPar_ap, eIs_ap, sSeq_ap, seqM_next, seqM_brk, seqM_cont, seqM_ret, runDef_ap, defM_next, defM_ret, stepM_ap, loopM_next, loopM_cont, loopM_brk, loopM_ret, lcF_ap, lcH_ap, lcM_nil, lcM_cons, lcC_some, lcC_none, limM_ap, lLC_ap, startE, arS, mask, wipeE, noOwn, isOwn, setAll, rtS, sItems_l, sItems_t, lim, sIx_l, sIx_t, sLen_l, sLen_t, sTuple_l, sTuple_t, sList_l, sList_t, rngL0, rngL1, rngL2, rngL3, rngL4, rngL5, rngL6, sat_ret, sat_bnd, sat_some, sat_none, sat_fail, bnd_ret, bnd_bnd, bnd_fail, lft_some, lft_none, Option.map_some, Option.map_none, List.map_cons, List.map_nil, List.length_cons, List.length_nil, List.replicate, List.cons_append, List.nil_append, List.append_nil, List.all_cons, List.all_nil, Bool.and_true, Bool.true_and, Bool.and_false, Bool.false_and, Bool.not_false, Bool.not_true, Bool.not_not, Bool.or_true, Bool.true_or, Bool.or_false, Bool.false_or, List.getElem?_cons_succ, List.getElem?_cons_zero, List.getElem?_nil, if_true, if_false, ite_true, ite_false, List.set_cons_succ, List.set_cons_zero, List.set_nil, Int.reduceLT, Int.reduceLE, Int.reduceNeg, Int.reducePow, Int.reduceMul, Int.reduceAdd, Int.reduceSub, Int.reduceToNat, Int.reduceEq, Nat.reduceAdd, Nat.reduceSub, Nat.reduceLeDiff, Nat.reduceLT, Nat.reduceEqDiff, Nat.reduceMul, and_self, and_true, true_and, and_false, false_and, or_true, true_or, or_false, false_or, or_self, reduceIte, Bool.false_eq_true, Bool.true_eq_false, decide_true, decide_false, Option.some.injEq, List.isEmpty_cons, List.isEmpty_nil, reduceCtorEq, ne_eq, not_false_eq_true, not_true_eq_false, List.replicate_zero, Int.reduceMod, sEq_int, sNe_int, rotN_0, rotN_1, rotN_2, rotN_3, bi_t, bi_f, sAdd_i, sAdd_t, sAdd_l, lAdd_l, sSub_i, sMul_i, sMul_t, sMul_l, sMod_i, sFdiv_i, sNeg_i, sLt_i, sLe_i, sGt_i, sGe_i, sIs_n, sIsNot_n, isN_n, isN_i, isN_t, isN_l, isN_s, isN_b, toB_b, toI_i, toD_d, toD_l, toL_l, tTru_n, tTru_b, tTru_i, tTru_l, tTru_t, isT_int, isT_bool, isT_tuple, isT_str, isT_list, sCut_l, sCut_t, sAug_ap, sPop_ap]
    rw [List.flatMap_cons, List.append_assoc]
    rfl
theorem entries_of_ok (rows : List PyData) (h : ∀ r ∈ rows, ∃ ds, r = .tuple ds) (hl : (rows.flatMap its).length ≤ 1000000) : f_entries_of [.d (.tuple rows)] = ret (.l (rows.flatMap its)) := by
  have e := entries_loop (.val (.tuple rows)) rows [] h (by simpa using hl)
  rw [List.nil_append] at e
  simp -dsimp only [f_entries_of, m_entries_of, e, eFz_ap, eVar_ap, eVarQ_ap, eC_ap, e1_ap, e2_ap, l1_ap, l2_ap, aNil_ap, aCons_ap, eTup_ap, lLst_ap, fTru_ap, fB_ap, fNot_ap, fAnd_ap, fOr_ap, eNot_ap, eAnd_ap, eOr_ap, eIf_ap, lIf_ap, oNone_ap, oSome_ap, eCut_ap, lCut_ap, sNext_ap, sBreak_ap, sCont_ap, sIf_ap, sExpr_ap, sRet_ap, sRetL_ap, sRetO_ap, sRetN_ap, bName_ap, bNil_ap, bCons_ap, bTup_ap, bItem_ap, sAsg_ap, sSet_ap, sSetL_ap, sApp_ap, sExt_ap, iSeq_ap, iOwn_ap, l3_ap, sFor_ap, fYes_ap, rNil_ap, rCons_ap, rRaw_ap, eCall_ap, lCall_ap, eCallK_ap, eCh_ap, xNil_ap, xD_ap, xL_ap, sPar_ap, eIs_ap, sSeq_ap, seqM_next, seqM_brk, seqM_cont, seqM_ret, runDef_ap, defM_next, defM_ret, stepM_ap, loopM_next, loopM_cont, loopM_brk, loopM_ret, lcF_ap, lcH_ap, lcM_nil, lcM_cons, lcC_some, lcC_none, limM_ap, lLC_ap, startE, arS, mask, wipeE, noOwn, isOwn, setAll, rtS, sItems_l, sItems_t, lim, sIx_l, sIx_t, sLen_l, sLen_t, sTuple_l, sTuple_t, sList_l, sList_t, rngL0, rngL1, rngL2, rngL3, rngL4, rngL5, rngL6, sat_ret, sat_bnd, sat_some, sat_none, sat_fail, bnd_ret, bnd_bnd, bnd_fail, lft_some, lft_none, Option.map_some, Option.map_none, List.map_cons, List.map_nil, List.length_cons, List.length_nil, List.replicate, List.cons_append, List.nil_append, List.append_nil, List.all_cons, List.all_nil, Bool.and_true, Bool.true_and, Bool.and_false, Bool.false_and, Bool.not_false, Bool.not_true, Bool.not_not, Bool.or_true, Bool.true_or, Bool.or_false, Bool.false_or, List.getElem?_cons_succ, List.getElem?_cons_zero, List.getElem?_nil, if_true, if_false, ite_true, ite_false, List.set_cons_succ, List.set_cons_zero, List.set_nil, Int.reduceLT, Int.reduceLE, Int.reduceNeg, Int.reducePow, Int.reduceMul, Int.reduceAdd, Int.reduceSub, Int.reduceToNat, Int.reduceEq, Nat.reduceAdd, Nat.reduceSub, Nat.reduceLeDiff, Nat.reduceLT, Nat.reduceEqDiff, Nat.reduceMul, and_self, and_true, true_and, and_false, false_and, or_true, true_or, or_false, false_or, or_self, reduceIte, Bool.false_eq_true, Bool.true_eq_false, decide_true, decide_false, Option.some.injEq, List.isEmpty_cons, List.isEmpty_nil, reduceCtorEq, ne_eq, not_false_eq_true, not_true_eq_false, List.replicate_zero, Int.reduceMod, sEq_int, sNe_int, rotN_0, rotN_1, rotN_2, rotN_3, bi_t, bi_f, sAdd_i, sAdd_t, sAdd_l, lAdd_l, sSub_i, sMul_i, sMul_t, sMul_l, sMod_i, sFdiv_i, sNeg_i, sLt_i, sLe_i, sGt_i, sGe_i, sIs_n, sIsNot_n, isN_n, isN_i, isN_t, isN_l, isN_s, isN_b, toB_b, toI_i, toD_d, toD_l, toL_l, tTru_n, tTru_b, tTru_i, tTru_l, tTru_t, isT_int, isT_bool, isT_tuple, isT_str, isT_list, sCut_l, sCut_t, sAug_ap, sPop_ap]
/-- the number of an entry -/
def eNum (d : PyData) : Int := match d with
  | .tuple (.int i :: _) => i
  | _ => 0
def lNums (rows : List PyData) : List Int := (rows.flatMap its).map eNum
def isLay (n : Nat) (d : PyData) : Bool := match d with
  | .tuple rows => !rows.isEmpty && rows.all (isRow n) && rows.all (fun r => decide ((its r).length = (its (rows.headD .none)).length)) && decide ((ddp (lNums rows)).length = (lNums rows).length)
  | _ => false
theorem isRow_tup {n : Nat} {d : PyData} (h : isRow n d = true) : ∃ ds, d = .tuple ds ∧ ds ≠ [] ∧ ∀ x ∈ ds, isEnt n x = true := by
  cases d with
  | tuple ds =>
    unfold isRow at h
    simp only [Bool.and_eq_true, List.all_eq_true] at h
    exact ⟨ds, rfl, fun e => by subst e; exact absurd h.1 (by simp), h.2⟩
  | _ => cases h
theorem isEnt_pair {n : Nat} {d : PyData} (h : isEnt n d = true) : ∃ i t : Int, d = .tuple [.int i, .int t] ∧ 0 ≤ i ∧ i < n ∧ 0 ≤ t ∧ t < 4 := by
  cases d with
  | tuple ds =>
    by_cases h2 : ds.length = 2
    · obtain ⟨x, y, rfl⟩ := len2 h2
      unfold isEnt at h
      simp only [Bool.and_eq_true] at h
      obtain ⟨k1, k2⟩ := h
      cases x <;> first | cases k1; done | skip
      cases y <;> first | cases k2; done | skip
      rename_i i t
      unfold isNumR at k1 k2
      simp only [Bool.and_eq_true, decide_eq_true_eq] at k1 k2
      exact ⟨i, t, rfl, k1.1, by omega, k2.1, by omega⟩
    · rw [isEnt_len h2] at h; cases h
  | _ => cases h
theorem allM_eNum {es : List PyData} (h : ∀ x ∈ es, ∃ i t : Int, x = .tuple [.int i, .int t]) : allM toI (es.map fun x => .int (eNum x)) = some (es.map eNum) := by
  rw [show (es.map fun x => PyData.int (eNum x)) = (es.map eNum).map PyData.int by rw [List.map_map]; rfl, allM_toI]
theorem is_laying_ok (box : List PyData) (d : PyData) (hd : Okd 50 d) (hl : ∀ rows, d = .tuple rows → (rows.flatMap its).length ≤ 1000) : f_is_laying [.d (.tuple box), .d d] = ret (.d (.bool (isLay box.length d))) := by
  cases d with
  | tuple rows =>
    obtain ⟨h1, h2⟩ := hd.tup
    have hfl := hl rows rfl
    have hf : ∀ x ∈ rows, lcF (bName 3) fYes (eCall 2 f_is_row (rCons (eVar 0) (rCons (eVar 3) rNil)) []) [some (.val (.tuple box)), some (.val (.tuple rows)), none, none, none, none] x = (ret (some (.bool (isRow box.length x))) : M Tw _) := fun x hx => by
      simp -dsimp only [is_row_ok box x (h2 x hx), eFz_ap, eVar_ap, eVarQ_ap, eC_ap, e1_ap, e2_ap, l1_ap, l2_ap, aNil_ap, aCons_ap, eTup_ap, lLst_ap, fTru_ap, fB_ap, fNot_ap, fAnd_ap, fOr_ap, eNot_ap, eAnd_ap, eOr_ap, eIf_ap, lIf_ap, oNone_ap, oSome_ap, eCut_ap, lCut_ap, sNext_ap, sBreak_ap, sCont_ap, sIf_ap, sExpr_ap, sRet_ap, sRetL_ap, sRetO_ap, sRetN_ap, bName_ap, bNil_ap, bCons_ap, bTup_ap, bItem_ap, sAsg_ap, sSet_ap, sSetL_ap, sApp_ap, sExt_ap, iSeq_ap, iOwn_ap, l3_ap, sFor_ap, fYes_ap, rNil_ap, rCons_ap, rRaw_ap, eCall_ap, lCall_ap, eCallK_ap, eCh_ap, xNil_ap, xD_ap, xL_ap, sPar_ap, eIs_ap, sSeq_ap, seqM_next, seqM_brk, seqM_cont, seqM_ret, runDef_ap, defM_next, defM_ret, stepM_ap, loopM_next, loopM_cont, loopM_brk, loopM_ret, lcF_ap, lcH_ap, lcM_nil, lcM_cons, lcC_some, lcC_none, limM_ap, lLC_ap, startE, arS, mask, wipeE, noOwn, isOwn, setAll, rtS, sItems_l, sItems_t, lim, sIx_l, sIx_t, sLen_l, sLen_t, sTuple_l, sTuple_t, sList_l, sList_t, rngL0, rngL1, rngL2, rngL3, rngL4, rngL5, rngL6, sat_ret, sat_bnd, sat_some, sat_none, sat_fail, bnd_ret, bnd_bnd, bnd_fail, lft_some, lft_none, Option.map_some, Option.map_none, List.map_cons, List.map_nil, List.length_cons, List.length_nil, List.replicate, List.cons_append, List.nil_append, List.append_nil, List.all_cons, List.all_nil, Bool.and_true, Bool.true_and, Bool.and_false, Bool.false_and, Bool.not_false, Bool.not_true, Bool.not_not, Bool.or_true, Bool.true_or, Bool.or_false, Bool.false_or, List.getElem?_cons_succ, List.getElem?_cons_zero, List.getElem?_nil, if_true, if_false, ite_true, ite_false, List.set_cons_succ, List.set_cons_zero, List.set_nil, Int.reduceLT, Int.reduceLE, Int.reduceNeg, Int.reducePow, Int.reduceMul, Int.reduceAdd, Int.reduceSub, Int.reduceToNat, Int.reduceEq, Nat.reduceAdd, Nat.reduceSub, Nat.reduceLeDiff, Nat.reduceLT, Nat.reduceEqDiff, Nat.reduceMul, and_self, and_true, true_and, and_false, false_and, or_true, true_or, or_false, false_or, or_self, reduceIte, Bool.false_eq_true, Bool.true_eq_false, decide_true, decide_false, Option.some.injEq, List.isEmpty_cons, List.isEmpty_nil, reduceCtorEq, ne_eq, not_false_eq_true, not_true_eq_false, List.replicate_zero, Int.reduceMod, sEq_int, sNe_int, rotN_0, rotN_1, rotN_2, rotN_3, bi_t, bi_f, sAdd_i, sAdd_t, sAdd_l, lAdd_l, sSub_i, sMul_i, sMul_t, sMul_l, sMod_i, sFdiv_i, sNeg_i, sLt_i, sLe_i, sGt_i, sGe_i, sIs_n, sIsNot_n, isN_n, isN_i, isN_t, isN_l, isN_s, isN_b, toB_b, toI_i, toD_d, toD_l, toL_l, tTru_n, tTru_b, tTru_i, tTru_l, tTru_t, isT_int, isT_bool, isT_tuple, isT_str, isT_list, sCut_l, sCut_t, sAug_ap, sPop_ap]
    have e := lcM_pureM (h := fun x => .bool (isRow box.length x)) hf
    have ne := sEq_empty (hd.shp (by decide))
    have hlim : rows.length ≤ 16000000 := by omega
    cases hds : rows.isEmpty with
    | true => simp -dsimp only [f_is_laying, m_is_laying, PyData.isTuple, ne, hds, isLay, eFz_ap, eVar_ap, eVarQ_ap, eC_ap, e1_ap, e2_ap, l1_ap, l2_ap, aNil_ap, aCons_ap, eTup_ap, lLst_ap, fTru_ap, fB_ap, fNot_ap, fAnd_ap, fOr_ap, eNot_ap, eAnd_ap, eOr_ap, eIf_ap, lIf_ap, oNone_ap, oSome_ap, eCut_ap, lCut_ap, sNext_ap, sBreak_ap, sCont_ap, sIf_ap, sExpr_ap, sRet_ap, sRetL_ap, sRetO_ap, sRetN_ap, bName_ap, bNil_ap, bCons_ap, bTup_ap, bItem_ap, sAsg_ap, sSet_ap, sSetL_ap, sApp_ap, sExt_ap, iSeq_ap, iOwn_ap, l3_ap, sFor_ap, fYes_ap, rNil_ap, rCons_ap, rRaw_ap, eCall_ap, lCall_ap, eCallK_ap, eCh_ap, xNil_ap, xD_ap, xL_ap, sPar_ap, eIs_ap, sSeq_ap, seqM_next, seqM_brk, seqM_cont, seqM_ret, runDef_ap, defM_next, defM_ret, stepM_ap, loopM_next, loopM_cont, loopM_brk, loopM_ret, lcF_ap, lcH_ap, lcM_nil, lcM_cons, lcC_some, lcC_none, limM_ap, lLC_ap, startE, arS, mask, wipeE, noOwn, isOwn, setAll, rtS, sItems_l, sItems_t, lim, sIx_l, sIx_t, sLen_l, sLen_t, sTuple_l, sTuple_t, sList_l, sList_t, rngL0, rngL1, rngL2, rngL3, rngL4, rngL5, rngL6, sat_ret, sat_bnd, sat_some, sat_none, sat_fail, bnd_ret, bnd_bnd, bnd_fail, lft_some, lft_none, Option.map_some, Option.map_none, List.map_cons, List.map_nil, List.length_cons, List.length_nil, List.replicate, List.cons_append, List.nil_append, List.append_nil, List.all_cons, List.all_nil, Bool.and_true, Bool.true_and, Bool.and_false, Bool.false_and, Bool.not_false, Bool.not_true, Bool.not_not, Bool.or_true, Bool.true_or, Bool.or_false, Bool.false_or, List.getElem?_cons_succ, List.getElem?_cons_zero, List.getElem?_nil, if_true, if_false, ite_true, ite_false, List.set_cons_succ, List.set_cons_zero, List.set_nil, Int.reduceLT, Int.reduceLE, Int.reduceNeg, Int.reducePow, Int.reduceMul, Int.reduceAdd, Int.reduceSub, Int.reduceToNat, Int.reduceEq, Nat.reduceAdd, Nat.reduceSub, Nat.reduceLeDiff, Nat.reduceLT, Nat.reduceEqDiff, Nat.reduceMul, and_self, and_true, true_and, and_false, false_and, or_true, true_or, or_false, false_or, or_self, reduceIte, Bool.false_eq_true, Bool.true_eq_false, decide_true, decide_false, Option.some.injEq, List.isEmpty_cons, List.isEmpty_nil, reduceCtorEq, ne_eq, not_false_eq_true, not_true_eq_false, List.replicate_zero, Int.reduceMod, sEq_int, sNe_int, rotN_0, rotN_1, rotN_2, rotN_3, bi_t, bi_f, sAdd_i, sAdd_t, sAdd_l, lAdd_l, sSub_i, sMul_i, sMul_t, sMul_l, sMod_i, sFdiv_i, sNeg_i, sLt_i, sLe_i, sGt_i, sGe_i, sIs_n, sIsNot_n, isN_n, isN_i, isN_t, isN_l, isN_s, isN_b, toB_b, toI_i, toD_d, toD_l, toL_l, tTru_n, tTru_b, tTru_i, tTru_l, tTru_t, isT_int, isT_bool, isT_tuple, isT_str, isT_list, sCut_l, sCut_t, sAug_ap, sPop_ap]
    | false =>
      cases hall : rows.all (isRow box.length) with
      | false => simp -dsimp only [f_is_laying, m_is_laying, PyData.isTuple, ne, hds, isLay, e, all_map_bool, List.length_map, hlim, hall, eFz_ap, eVar_ap, eVarQ_ap, eC_ap, e1_ap, e2_ap, l1_ap, l2_ap, aNil_ap, aCons_ap, eTup_ap, lLst_ap, fTru_ap, fB_ap, fNot_ap, fAnd_ap, fOr_ap, eNot_ap, eAnd_ap, eOr_ap, eIf_ap, lIf_ap, oNone_ap, oSome_ap, eCut_ap, lCut_ap, sNext_ap, sBreak_ap, sCont_ap, sIf_ap, sExpr_ap, sRet_ap, sRetL_ap, sRetO_ap, sRetN_ap, bName_ap, bNil_ap, bCons_ap, bTup_ap, bItem_ap, sAsg_ap, sSet_ap, sSetL_ap, sApp_ap, sExt_ap, iSeq_ap, iOwn_ap, l3_ap, sFor_ap, fYes_ap, rNil_ap, rCons_ap, rRaw_ap, eCall_ap, lCall_ap, eCallK_ap, eCh_ap, xNil_ap, xD_ap, xL_ap, sPar_ap, eIs_ap, sSeq_ap, seqM_next, seqM_brk, seqM_cont, seqM_ret, runDef_ap, defM_next, defM_ret, stepM_ap, loopM_next, loopM_cont, loopM_brk, loopM_ret, lcF_ap, lcH_ap, lcM_nil, lcM_cons, lcC_some, lcC_none, limM_ap, lLC_ap, startE, arS, mask, wipeE, noOwn, isOwn, setAll, rtS, sItems_l, sItems_t, lim, sIx_l, sIx_t, sLen_l, sLen_t, sTuple_l, sTuple_t, sList_l, sList_t, rngL0, rngL1, rngL2, rngL3, rngL4, rngL5, rngL6, sat_ret, sat_bnd, sat_some, sat_none, sat_fail, bnd_ret, bnd_bnd, bnd_fail, lft_some, lft_none, Option.map_some, Option.map_none, List.map_cons, List.map_nil, List.length_cons, List.length_nil, List.replicate, List.cons_append, List.nil_append, List.append_nil, List.all_cons, List.all_nil, Bool.and_true, Bool.true_and, Bool.and_false, Bool.false_and, Bool.not_false, Bool.not_true, Bool.not_not, Bool.or_true, Bool.true_or, Bool.or_false, Bool.false_or, List.getElem?_cons_succ, List.getElem?_cons_zero, List.getElem?_nil, if_true, if_false, ite_true, ite_false, List.set_cons_succ, List.set_cons_zero, List.set_nil, Int.reduceLT, Int.reduceLE, Int.reduceNeg, Int.reducePow, Int.reduceMul, Int.reduceAdd, Int.reduceSub, Int.reduceToNat, Int.reduceEq, Nat.reduceAdd, Nat.reduceSub, Nat.reduceLeDiff, Nat.reduceLT, Nat.reduceEqDiff, Nat.reduceMul, and_self, and_true, true_and, and_false, false_and, or_true, true_or, or_false, false_or, or_self, reduceIte, Bool.false_eq_true, Bool.true_eq_false, decide_true, decide_false, Option.some.injEq, List.isEmpty_cons, List.isEmpty_nil, reduceCtorEq, ne_eq, not_false_eq_true, not_true_eq_false, List.replicate_zero, Int.reduceMod, sEq_int, sNe_int, rotN_0, rotN_1, rotN_2, rotN_3, bi_t, bi_f, sAdd_i, sAdd_t, sAdd_l, lAdd_l, sSub_i, sMul_i, sMul_t, sMul_l, sMod_i, sFdiv_i, sNeg_i, sLt_i, sLe_i, sGt_i, sGe_i, sIs_n, sIsNot_n, isN_n, isN_i, isN_t, isN_l, isN_s, isN_b, toB_b, toI_i, toD_d, toD_l, toL_l, tTru_n, tTru_b, tTru_i, tTru_l, tTru_t, isT_int, isT_bool, isT_tuple, isT_str, isT_list, sCut_l, sCut_t, sAug_ap, sPop_ap]
      | true =>
        have hall' := List.all_eq_true.mp hall
        have tups : ∀ r ∈ rows, ∃ ds, r = .tuple ds := fun r hr => by obtain ⟨ds, e, _⟩ := isRow_tup (hall' r hr); exact ⟨ds, e⟩
        have ents : ∀ x ∈ rows.flatMap its, ∃ i t : Int, x = .tuple [.int i, .int t] := fun x hx => by
          obtain ⟨r, hr, hx⟩ := List.mem_flatMap.mp hx
          obtain ⟨ds, rfl, _, h3⟩ := isRow_tup (hall' r hr)
          obtain ⟨i, t, rfl, _⟩ := isEnt_pair (h3 x hx)
          exact ⟨i, t, rfl⟩
        obtain ⟨r0, a0, hr0, hhd⟩ : ∃ r0, atI rows 0 = some r0 ∧ r0 ∈ rows ∧ rows.headD .none = r0 := by
          cases rows with
          | nil => cases hds
          | cons r0 rows' => exact ⟨r0, atI_nat (j := 0) rfl, List.mem_cons_self .., rfl⟩
        have eo := entries_of_ok rows tups (by omega)
        have hf2 : ∀ x ∈ rows.flatMap its, lcF (bTup 2 (bCons (bName 4) (bCons (bName 5) bNil))) fYes (eVar 4) [some (.val (.tuple box)), some (.val (.tuple rows)), none, none, none, none] x = (ret (some (.int (eNum x))) : M Tw _) := fun x hx => by
          obtain ⟨i, t, rfl⟩ := ents x hx
          simp -dsimp only [eNum, eFz_ap, eVar_ap, eVarQ_ap, eC_ap, e1_ap, e2_ap, l1_ap, l2_ap, aNil_ap, aCons_ap, eTup_ap, lLst_ap, fTru_ap, fB_ap, fNot_ap, fAnd_ap, fOr_ap, eNot_ap, eAnd_ap, eOr_ap, eIf_ap, lIf_ap, oNone_ap, oSome_ap, eCut_ap, lCut_ap, sNext_ap, sBreak_ap, sCont_ap, sIf_ap, sExpr_ap, sRet_ap, sRetL_ap, sRetO_ap, sRetN_ap, bName_ap, bNil_ap, bCons_ap, bTup_ap, bItem_ap, sAsg_ap, sSet_ap, sSetL_ap, sApp_ap, sExt_ap, iSeq_ap, iOwn_ap, l3_ap, sFor_ap, fYes_ap, rNil_ap, rCons_ap, rRaw_ap, eCall_ap, lCall_ap, eCallK_ap, eCh_ap, xNil_ap, xD_ap, xL_ap, sPar_ap, eIs_ap, sSeq_ap, seqM_next, seqM_brk, seqM_cont, seqM_ret, runDef_ap, defM_next, defM_ret, stepM_ap, loopM_next, loopM_cont, loopM_brk, loopM_ret, lcF_ap, lcH_ap, lcM_nil, lcM_cons, lcC_some, lcC_none, limM_ap, lLC_ap, startE, arS, mask, wipeE, noOwn, isOwn, setAll, rtS, sItems_l, sItems_t, lim, sIx_l, sIx_t, sLen_l, sLen_t, sTuple_l, sTuple_t, sList_l, sList_t, rngL0, rngL1, rngL2, rngL3, rngL4, rngL5, rngL6, sat_ret, sat_bnd, sat_some, sat_none, sat_fail, bnd_ret, bnd_bnd, bnd_fail, lft_some, lft_none, Option.map_some, Option.map_none, List.map_cons, List.map_nil, List.length_cons, List.length_nil, List.replicate, List.cons_append, List.nil_append, List.append_nil, List.all_cons, List.all_nil, Bool.and_true, Bool.true_and, Bool.and_false, Bool.false_and, Bool.not_false, Bool.not_true, Bool.not_not, Bool.or_true, Bool.true_or, Bool.or_false, Bool.false_or, List.getElem?_cons_succ, List.getElem?_cons_zero, List.getElem?_nil, if_true, if_false, ite_true, ite_false, List.set_cons_succ, List.set_cons_zero, List.set_nil, Int.reduceLT, Int.reduceLE, Int.reduceNeg, Int.reducePow, Int.reduceMul, Int.reduceAdd, Int.reduceSub, Int.reduceToNat, Int.reduceEq, Nat.reduceAdd, Nat.reduceSub, Nat.reduceLeDiff, Nat.reduceLT, Nat.reduceEqDiff, Nat.reduceMul, and_self, and_true, true_and, and_false, false_and, or_true, true_or, or_false, false_or, or_self, reduceIte, Bool.false_eq_true, Bool.true_eq_false, decide_true, decide_false, Option.some.injEq, List.isEmpty_cons, List.isEmpty_nil, reduceCtorEq, ne_eq, not_false_eq_true, not_true_eq_false, List.replicate_zero, Int.reduceMod, sEq_int, sNe_int, rotN_0, rotN_1, rotN_2, rotN_3, bi_t, bi_f, sAdd_i, sAdd_t, sAdd_l, lAdd_l, sSub_i, sMul_i, sMul_t, sMul_l, sMod_i, sFdiv_i, sNeg_i, sLt_i, sLe_i, sGt_i, sGe_i, sIs_n, sIsNot_n, isN_n, isN_i, isN_t, isN_l, isN_s, isN_b, toB_b, toI_i, toD_d, toD_l, toL_l, tTru_n, tTru_b, tTru_i, tTru_l, tTru_t, isT_int, isT_bool, isT_tuple, isT_str, isT_list, sCut_l, sCut_t, sAug_ap, sPop_ap]
        have en2 := lcM_pureM (h := fun x => .int (eNum x)) hf2
        have hlim2 : (rows.flatMap its).length ≤ 16000000 := by omega
        have hf3 : ∀ (z : Sl), ∀ x ∈ rows, lcF (bName 3) fYes (e2 sEq (e1 sLen (eVarQ 3)) (e1 sLen (e2 sIx (eVarQ 1) (eC (.int 0))))) [some (.val (.tuple box)), some (.val (.tuple rows)), some z, none, none, none] x = (ret (some (.bool (decide ((its x).length = (its r0).length)))) : M Tw _) := fun z x hx => by
          obtain ⟨ds, rfl⟩ := tups x hx
          obtain ⟨ds0, rfl⟩ := tups r0 hr0
          have cast : decide (((ds.length : Nat) : Int) = (ds0.length : Nat)) = decide (ds.length = ds0.length) := by
            by_cases h : ds.length = ds0.length
            · rw [decide_eq_true h, decide_eq_true (by omega)]
            · rw [decide_eq_false h, decide_eq_false (by omega)]
          simp -dsimp only [a0, its, cast, eFz_ap, eVar_ap, eVarQ_ap, eC_ap, e1_ap, e2_ap, l1_ap, l2_ap, aNil_ap, aCons_ap, eTup_ap, lLst_ap, fTru_ap, fB_ap, fNot_ap, fAnd_ap, fOr_ap, eNot_ap, eAnd_ap, eOr_ap, eIf_ap, lIf_ap, oNone_ap, oSome_ap, eCut_ap, lCut_ap, sNext_ap, sBreak_ap, sCont_ap, sIf_ap, sExpr_ap, sRet_ap, sRetL_ap, sRetO_ap, sRetN_ap, bName_ap, bNil_ap, bCons_ap, bTup_ap, bItem_ap, sAsg_ap, sSet_ap, sSetL_ap, sApp_ap, sExt_ap, iSeq_ap, iOwn_ap, l3_ap, sFor_ap, fYes_ap, rNil_ap, rCons_ap, rRaw_ap, eCall_ap, lCall_ap, eCallK_ap, eCh_ap, xNil_ap, xD_ap, xL_ap, sPar_ap, eIs_ap, sSeq_ap, seqM_next, seqM_brk, seqM_cont, seqM_ret, runDef_ap, defM_next, defM_ret, stepM_ap, loopM_next, loopM_cont, loopM_brk, loopM_ret, lcF_ap, lcH_ap, lcM_nil, lcM_cons, lcC_some, lcC_none, limM_ap, lLC_ap, startE, arS, mask, wipeE, noOwn, isOwn, setAll, rtS, sItems_l, sItems_t, lim, sIx_l, sIx_t, sLen_l, sLen_t, sTuple_l, sTuple_t, sList_l, sList_t, rngL0, rngL1, rngL2, rngL3, rngL4, rngL5, rngL6, sat_ret, sat_bnd, sat_some, sat_none, sat_fail, bnd_ret, bnd_bnd, bnd_fail, lft_some, lft_none, Option.map_some, Option.map_none, List.map_cons, List.map_nil, List.length_cons, List.length_nil, List.replicate, List.cons_append, List.nil_append, List.append_nil, List.all_cons, List.all_nil, Bool.and_true, Bool.true_and, Bool.and_false, Bool.false_and, Bool.not_false, Bool.not_true, Bool.not_not, Bool.or_true, Bool.true_or, Bool.or_false, Bool.false_or, List.getElem?_cons_succ, List.getElem?_cons_zero, List.getElem?_nil, if_true, if_false, ite_true, ite_false, List.set_cons_succ, List.set_cons_zero, List.set_nil, Int.reduceLT, Int.reduceLE, Int.reduceNeg, Int.reducePow, Int.reduceMul, Int.reduceAdd, Int.reduceSub, Int.reduceToNat, Int.reduceEq, Nat.reduceAdd, Nat.reduceSub, Nat.reduceLeDiff, Nat.reduceLT, Nat.reduceEqDiff, Nat.reduceMul, and_self, and_true, true_and, and_false, false_and, or_true, true_or, or_false, false_or, or_self, reduceIte, Bool.false_eq_true, Bool.true_eq_false, decide_true, decide_false, Option.some.injEq, List.isEmpty_cons, List.isEmpty_nil, reduceCtorEq, ne_eq, not_false_eq_true, not_true_eq_false, List.replicate_zero, Int.reduceMod, sEq_int, sNe_int, rotN_0, rotN_1, rotN_2, rotN_3, bi_t, bi_f, sAdd_i, sAdd_t, sAdd_l, lAdd_l, sSub_i, sMul_i, sMul_t, sMul_l, sMod_i, sFdiv_i, sNeg_i, sLt_i, sLe_i, sGt_i, sGe_i, sIs_n, sIsNot_n, isN_n, isN_i, isN_t, isN_l, isN_s, isN_b, toB_b, toI_i, toD_d, toD_l, toL_l, tTru_n, tTru_b, tTru_i, tTru_l, tTru_t, isT_int, isT_bool, isT_tuple, isT_str, isT_list, sCut_l, sCut_t, sAug_ap, sPop_ap]
          try rfl
        have e3 := fun z => lcM_pureM (h := fun x => .bool (decide ((its x).length = (its r0).length))) (hf3 z)
        have ls : sLenSet (.list ((rows.flatMap its).map fun x => .int (eNum x))) = some (.int (ddp (lNums rows)).length) := by
          unfold sLenSet
          simp only
          rw [allM_eNum ents]
          simp only
          rw [if_pos (by rw [List.length_map]; exact hfl)]
          rfl
        have cast2 : decide (((ddp (lNums rows)).length : Int) = ((rows.flatMap its).length : Nat)) = decide ((ddp (lNums rows)).length = (lNums rows).length) := by
          have hh : (lNums rows).length = (rows.flatMap its).length := by unfold lNums; rw [List.length_map]
          rw [hh]
          by_cases h : (ddp (lNums rows)).length = (rows.flatMap its).length
          · rw [decide_eq_true h, decide_eq_true (by omega)]
          · rw [decide_eq_false h, decide_eq_false (by omega)]
        cases hlen : (rows.all fun r => decide ((its r).length = (its r0).length)) with
        | true => simp -dsimp only [f_is_laying, m_is_laying, PyData.isTuple, ne, hds, isLay, e, all_map_bool, List.length_map, hlim, hall, eo, en2, hlim2, e3, hlen, ls, cast2, hhd, eFz_ap, eVar_ap, eVarQ_ap, eC_ap, e1_ap, e2_ap, l1_ap, l2_ap, aNil_ap, aCons_ap, eTup_ap, lLst_ap, fTru_ap, fB_ap, fNot_ap, fAnd_ap, fOr_ap, eNot_ap, eAnd_ap, eOr_ap, eIf_ap, lIf_ap, oNone_ap, oSome_ap, eCut_ap, lCut_ap, sNext_ap, sBreak_ap, sCont_ap, sIf_ap, sExpr_ap, sRet_ap, sRetL_ap, sRetO_ap, sRetN_ap, bName_ap, bNil_ap, bCons_ap, bTup_ap, bItem_ap, sAsg_ap, sSet_ap, sSetL_ap, sApp_ap, sExt_ap, iSeq_ap, iOwn_ap, l3_ap, sFor_ap, fYes_ap, rNil_ap, rCons_ap, rRaw_ap, eCall_ap, lCall_ap, eCallK_ap, eCh_ap, xNil_ap, xD_ap, xL_ap, sPar_ap, eIs_ap, sSeq_ap, seqM_next, seqM_brk, seqM_cont, seqM_ret, runDef_ap, defM_next, defM_ret, stepM_ap, loopM_next, loopM_cont, loopM_brk, loopM_ret, lcF_ap, lcH_ap, lcM_nil, lcM_cons, lcC_some, lcC_none, limM_ap, lLC_ap, startE, arS, mask, wipeE, noOwn, isOwn, setAll, rtS, sItems_l, sItems_t, lim, sIx_l, sIx_t, sLen_l, sLen_t, sTuple_l, sTuple_t, sList_l, sList_t, rngL0, rngL1, rngL2, rngL3, rngL4, rngL5, rngL6, sat_ret, sat_bnd, sat_some, sat_none, sat_fail, bnd_ret, bnd_bnd, bnd_fail, lft_some, lft_none, Option.map_some, Option.map_none, List.map_cons, List.map_nil, List.length_cons, List.length_nil, List.replicate, List.cons_append, List.nil_append, List.append_nil, List.all_cons, List.all_nil, Bool.and_true, Bool.true_and, Bool.and_false, Bool.false_and, Bool.not_false, Bool.not_true, Bool.not_not, Bool.or_true, Bool.true_or, Bool.or_false, Bool.false_or, List.getElem?_cons_succ, List.getElem?_cons_zero, List.getElem?_nil, if_true, if_false, ite_true, ite_false, List.set_cons_succ, List.set_cons_zero, List.set_nil, Int.reduceLT, Int.reduceLE, Int.reduceNeg, Int.reducePow, Int.reduceMul, Int.reduceAdd, Int.reduceSub, Int.reduceToNat, Int.reduceEq, Nat.reduceAdd, Nat.reduceSub, Nat.reduceLeDiff, Nat.reduceLT, Nat.reduceEqDiff, Nat.reduceMul, and_self, and_true, true_and, and_false, false_and, or_true, true_or, or_false, false_or, or_self, reduceIte, Bool.false_eq_true, Bool.true_eq_false, decide_true, decide_false, Option.some.injEq, List.isEmpty_cons, List.isEmpty_nil, reduceCtorEq, ne_eq, not_false_eq_true, not_true_eq_false, List.replicate_zero, Int.reduceMod, sEq_int, sNe_int, rotN_0, rotN_1, rotN_2, rotN_3, bi_t, bi_f, sAdd_i, sAdd_t, sAdd_l, lAdd_l, sSub_i, sMul_i, sMul_t, sMul_l, sMod_i, sFdiv_i, sNeg_i, sLt_i, sLe_i, sGt_i, sGe_i, sIs_n, sIsNot_n, isN_n, isN_i, isN_t, isN_l, isN_s, isN_b, toB_b, toI_i, toD_d, toD_l, toL_l, tTru_n, tTru_b, tTru_i, tTru_l, tTru_t, isT_int, isT_bool, isT_tuple, isT_str, isT_list, sCut_l, sCut_t, sAug_ap, sPop_ap]
        | false => simp -dsimp only [f_is_laying, m_is_laying, PyData.isTuple, ne, hds, isLay, e, all_map_bool, List.length_map, hlim, hall, eo, en2, hlim2, e3, hlen, ls, cast2, hhd, eFz_ap, eVar_ap, eVarQ_ap, eC_ap, e1_ap, e2_ap, l1_ap, l2_ap, aNil_ap, aCons_ap, eTup_ap, lLst_ap, fTru_ap, fB_ap, fNot_ap, fAnd_ap, fOr_ap, eNot_ap, eAnd_ap, eOr_ap, eIf_ap, lIf_ap, oNone_ap, oSome_ap, eCut_ap, lCut_ap, sNext_ap, sBreak_ap, sCont_ap, sIf_ap, sExpr_ap, sRet_ap, sRetL_ap, sRetO_ap, sRetN_ap, bName_ap, bNil_ap, bCons_ap, bTup_ap, bItem_ap, sAsg_ap, sSet_ap, sSetL_ap, sApp_ap, sExt_ap, iSeq_ap, iOwn_ap, l3_ap, sFor_ap, fYes_ap, rNil_ap, rCons_ap, rRaw_ap, eCall_ap, lCall_ap, eCallK_ap, eCh_ap, xNil_ap, xD_ap, xL_ap, sPar_ap, eIs_ap, sSeq_ap, seqM_next, seqM_brk, seqM_cont, seqM_ret, runDef_ap, defM_next, defM_ret, stepM_ap, loopM_next, loopM_cont, loopM_brk, loopM_ret, lcF_ap, lcH_ap, lcM_nil, lcM_cons, lcC_some, lcC_none, limM_ap, lLC_ap, startE, arS, mask, wipeE, noOwn, isOwn, setAll, rtS, sItems_l, sItems_t, lim, sIx_l, sIx_t, sLen_l, sLen_t, sTuple_l, sTuple_t, sList_l, sList_t, rngL0, rngL1, rngL2, rngL3, rngL4, rngL5, rngL6, sat_ret, sat_bnd, sat_some, sat_none, sat_fail, bnd_ret, bnd_bnd, bnd_fail, lft_some, lft_none, Option.map_some, Option.map_none, List.map_cons, List.map_nil, List.length_cons, List.length_nil, List.replicate, List.cons_append, List.nil_append, List.append_nil, List.all_cons, List.all_nil, Bool.and_true, Bool.true_and, Bool.and_false, Bool.false_and, Bool.not_false, Bool.not_true, Bool.not_not, Bool.or_true, Bool.true_or, Bool.or_false, Bool.false_or, List.getElem?_cons_succ, List.getElem?_cons_zero, List.getElem?_nil, if_true, if_false, ite_true, ite_false, List.set_cons_succ, List.set_cons_zero, List.set_nil, Int.reduceLT, Int.reduceLE, Int.reduceNeg, Int.reducePow, Int.reduceMul, Int.reduceAdd, Int.reduceSub, Int.reduceToNat, Int.reduceEq, Nat.reduceAdd, Nat.reduceSub, Nat.reduceLeDiff, Nat.reduceLT, Nat.reduceEqDiff, Nat.reduceMul, and_self, and_true, true_and, and_false, false_and, or_true, true_or, or_false, false_or, or_self, reduceIte, Bool.false_eq_true, Bool.true_eq_false, decide_true, decide_false, Option.some.injEq, List.isEmpty_cons, List.isEmpty_nil, reduceCtorEq, ne_eq, not_false_eq_true, not_true_eq_false, List.replicate_zero, Int.reduceMod, sEq_int, sNe_int, rotN_0, rotN_1, rotN_2, rotN_3, bi_t, bi_f, sAdd_i, sAdd_t, sAdd_l, lAdd_l, sSub_i, sMul_i, sMul_t, sMul_l, sMod_i, sFdiv_i, sNeg_i, sLt_i, sLe_i, sGt_i, sGe_i, sIs_n, sIsNot_n, isN_n, isN_i, isN_t, isN_l, isN_s, isN_b, toB_b, toI_i, toD_d, toD_l, toL_l, tTru_n, tTru_b, tTru_i, tTru_l, tTru_t, isT_int, isT_bool, isT_tuple, isT_str, isT_list, sCut_l, sCut_t, sAug_ap, sPop_ap]
  | _ => simp -dsimp only [f_is_laying, m_is_laying, PyData.isTuple, isLay, eFz_ap, eVar_ap, eVarQ_ap, eC_ap, e1_ap, e2_ap, l1_ap, l2_ap, aNil_ap, aCons_ap, eTup_ap, lLst_ap, fTru_ap, fB_ap, fNot_ap, fAnd_ap, fOr_ap, eNot_ap, eAnd_ap, eOr_ap, eIf_ap, lIf_ap, oNone_ap, oSome_ap, eCut_ap, lCut_ap, sNext_ap, sBreak_ap, sCont_ap, sIf_ap, sExpr_ap, sRet_ap, sRetL_ap, sRetO_ap, sRetN_ap, bName_ap, bNil_ap, bCons_ap, bTup_ap, bItem_ap, sAsg_ap, sSet_ap, sSetL_ap, sApp_ap, sExt_ap, iSeq_ap, iOwn_ap, l3_ap, sFor_ap, fYes_ap, rNil_ap, rCons_ap, rRaw_ap, eCall_ap, lCall_ap, eCallK_ap, eCh_ap, xNil_ap, xD_ap, xL_ap, sPar_ap, eIs_ap, sSeq_ap, seqM_next, seqM_brk, seqM_cont, seqM_ret, runDef_ap, defM_next, defM_ret, stepM_ap, loopM_next, loopM_cont, loopM_brk, loopM_ret, lcF_ap, lcH_ap, lcM_nil, lcM_cons, lcC_some, lcC_none, limM_ap, lLC_ap, startE, arS, mask, wipeE, noOwn, isOwn, setAll, rtS, sItems_l, sItems_t, lim, sIx_l, sIx_t, sLen_l, sLen_t, sTuple_l, sTuple_t, sList_l, sList_t, rngL0, rngL1, rngL2, rngL3, rngL4, rngL5, rngL6, sat_ret, sat_bnd, sat_some, sat_none, sat_fail, bnd_ret, bnd_bnd, bnd_fail, lft_some, lft_none, Option.map_some, Option.map_none, List.map_cons, List.map_nil, List.length_cons, List.length_nil, List.replicate, List.cons_append, List.nil_append, List.append_nil, List.all_cons, List.all_nil, Bool.and_true, Bool.true_and, Bool.and_false, Bool.false_and, Bool.not_false, Bool.not_true, Bool.not_not, Bool.or_true, Bool.true_or, Bool.or_false, Bool.false_or, List.getElem?_cons_succ, List.getElem?_cons_zero, List.getElem?_nil, if_true, if_false, ite_true, ite_false, List.set_cons_succ, List.set_cons_zero, List.set_nil, Int.reduceLT, Int.reduceLE, Int.reduceNeg, Int.reducePow, Int.reduceMul, Int.reduceAdd, Int.reduceSub, Int.reduceToNat, Int.reduceEq, Nat.reduceAdd, Nat.reduceSub, Nat.reduceLeDiff, Nat.reduceLT, Nat.reduceEqDiff, Nat.reduceMul, and_self, and_true, true_and, and_false, false_and, or_true, true_or, or_false, false_or, or_self, reduceIte, Bool.false_eq_true, Bool.true_eq_false, decide_true, decide_false, Option.some.injEq, List.isEmpty_cons, List.isEmpty_nil, reduceCtorEq, ne_eq, not_false_eq_true, not_true_eq_false, List.replicate_zero, Int.reduceMod, sEq_int, sNe_int, rotN_0, rotN_1, rotN_2, rotN_3, bi_t, bi_f, sAdd_i, sAdd_t, sAdd_l, lAdd_l, sSub_i, sMul_i, sMul_t, sMul_l, sMod_i, sFdiv_i, sNeg_i, sLt_i, sLe_i, sGt_i, sGe_i, sIs_n, sIsNot_n, isN_n, isN_i, isN_t, isN_l, isN_s, isN_b, toB_b, toI_i, toD_d, toD_l, toL_l, tTru_n, tTru_b, tTru_i, tTru_l, tTru_t, isT_int, isT_bool, isT_tuple, isT_str, isT_list, sCut_l, sCut_t, sAug_ap, sPop_ap]
def Pc.e (p : Pc) (i : Int) : Int := at4 p.u p.r p.d p.l (i % 4)
/-- an entry -/
def eD (n t : Int) : PyData := .tuple [.int n, .int t]
end Dt
namespace Dt
open PySem PySem.Spec L2
def prD (p : Nat × Nat) : PyData := eD p.1 p.2
def niD (n : Nat) : PyData := .int (n : Int)
/-- a drawn order -/
structure Ord (n : Nat) (ps : List (Nat × Nat)) : Prop where
  perm : (ps.map (·.1)).Perm (List.range n)
  turn : ∀ p ∈ ps, p.2 < 4
theorem Ord.len {n : Nat} {ps : List (Nat × Nat)} (h : Ord n ps) : ps.length = n := by
  have := h.perm.length_eq
  simpa using this
theorem Ord.nd {n : Nat} {ps : List (Nat × Nat)} (h : Ord n ps) : (ps.map (·.1)).Nodup := h.perm.nodup_iff.mpr List.nodup_range
theorem Ord.lt {n : Nat} {ps : List (Nat × Nat)} (h : Ord n ps) {p : Nat × Nat} (hp : p ∈ ps) : p.1 < n := by
  have := h.perm.mem_iff.mp (List.mem_map.mpr ⟨p, hp, rfl⟩)
  simpa using this
theorem rng_nat (n : Nat) : rng 0 n = (List.range n).map niD := by
  unfold rng niD
  apply List.map_congr_left
  intro i _
  rw [Int.zero_add]
theorem erase_perm {α : Type} : ∀ (l : List α) (i : Nat) (h : i < l.length), (l[i] :: l.eraseIdx i).Perm l
  | x :: l, 0, _ => .refl _
  | x :: l, i + 1, h => by
    have h' : i < l.length := by simpa using h
    show (l[i]'h' :: x :: l.eraseIdx i).Perm (x :: l)
    exact (List.Perm.swap ..).trans ((erase_perm l i (by simpa using h)).cons x)
theorem erase_map {α β : Type} (f : α → β) : ∀ (l : List α) (i : Nat), (l.eraseIdx i).map f = (l.map f).eraseIdx i
  | [], _ => rfl
  | _ :: _, 0 => rfl
  | x :: l, i + 1 => by
    show f x :: (l.eraseIdx i).map f = f x :: (l.map f).eraseIdx i
    rw [erase_map f l i]
theorem sat_an_order {a t : Addr} {g : Tw} {n : Nat} {Q : Rt → Tw → Prop} {tg : Tg Q} (st : St a t g) (hn : n ≤ 1000) (k : ∀ ps g', Ord n ps → St a t g' → Q (.d (.tuple (ps.map prD))) g') : @Sat Tw Rt (f_l_an_order [.raw (.ref a), .raw (.ref t), .d (.int n)]) g Q tg := by
  have e0 : sLrng (.int (n : Int)) = some ((List.range n).map niD) := by
    unfold sLrng
    simp only
    rw [if_pos ⟨by omega, by omega⟩, Int.toNat_natCast, rng_nat]
  simp -dsimp only [f_l_an_order, m_l_an_order, e0, sRng1_ok (j := (n : Int)) (by omega) (by omega), eFz_ap, eVar_ap, eVarQ_ap, eC_ap, e1_ap, e2_ap, l1_ap, l2_ap, aNil_ap, aCons_ap, eTup_ap, lLst_ap, fTru_ap, fB_ap, fNot_ap, fAnd_ap, fOr_ap, eNot_ap, eAnd_ap, eOr_ap, eIf_ap, lIf_ap, oNone_ap, oSome_ap, eCut_ap, lCut_ap, sNext_ap, sBreak_ap, sCont_ap, sIf_ap, sExpr_ap, sRet_ap, sRetL_ap, sRetO_ap, sRetN_ap, bName_ap, bNil_ap, bCons_ap, bTup_ap, bItem_ap, sAsg_ap, sSet_ap, sSetL_ap, sApp_ap, sExt_ap, iSeq_ap, iOwn_ap, l3_ap, sFor_ap, fYes_ap, rNil_ap, rCons_ap, rRaw_ap, eCall_ap, lCall_ap, eCallK_ap, eCh_ap, xNil_ap, xD_ap, xL_ap, sPar_ap, eIs_ap, sSeq_ap, seqM_next, seqM_brk, seqM_cont, seqM_ret, runDef_ap, defM_next, defM_ret, stepM_ap, loopM_next, loopM_cont, loopM_brk, loopM_ret, lcF_ap, lcH_ap, lcM_nil, lcM_cons, lcC_some, lcC_none, limM_ap, lLC_ap, startE, arS, mask, wipeE, noOwn, isOwn, setAll, rtS, sItems_l, sItems_t, lim, sIx_l, sIx_t, sLen_l, sLen_t, sTuple_l, sTuple_t, sList_l, sList_t, rngL0, rngL1, rngL2, rngL3, rngL4, rngL5, rngL6, sat_ret, sat_bnd, sat_some, sat_none, sat_fail, bnd_ret, bnd_bnd, bnd_fail, lft_some, lft_none, Option.map_some, Option.map_none, List.map_cons, List.map_nil, List.length_cons, List.length_nil, List.replicate, List.cons_append, List.nil_append, List.append_nil, List.all_cons, List.all_nil, Bool.and_true, Bool.true_and, Bool.and_false, Bool.false_and, Bool.not_false, Bool.not_true, Bool.not_not, Bool.or_true, Bool.true_or, Bool.or_false, Bool.false_or, List.getElem?_cons_succ, List.getElem?_cons_zero, List.getElem?_nil, if_true, if_false, ite_true, ite_false, List.set_cons_succ, List.set_cons_zero, List.set_nil, Int.reduceLT, Int.reduceLE, Int.reduceNeg, Int.reducePow, Int.reduceMul, Int.reduceAdd, Int.reduceSub, Int.reduceToNat, Int.reduceEq, Nat.reduceAdd, Nat.reduceSub, Nat.reduceLeDiff, Nat.reduceLT, Nat.reduceEqDiff, Nat.reduceMul, and_self, and_true, true_and, and_false, false_and, or_true, true_or, or_false, false_or, or_self, reduceIte, Bool.false_eq_true, Bool.true_eq_false, decide_true, decide_false, Option.some.injEq, List.isEmpty_cons, List.isEmpty_nil, reduceCtorEq, ne_eq, not_false_eq_true, not_true_eq_false, List.replicate_zero, Int.reduceMod, sEq_int, sNe_int, rotN_0, rotN_1, rotN_2, rotN_3, bi_t, bi_f, sAdd_i, sAdd_t, sAdd_l, lAdd_l, sSub_i, sMul_i, sMul_t, sMul_l, sMod_i, sFdiv_i, sNeg_i, sLt_i, sLe_i, sGt_i, sGe_i, sIs_n, sIsNot_n, isN_n, isN_i, isN_t, isN_l, isN_s, isN_b, toB_b, toI_i, toD_d, toD_l, toL_l, tTru_n, tTru_b, tTru_i, tTru_l, tTru_t, isT_int, isT_bool, isT_tuple, isT_str, isT_list, sCut_l, sCut_t, sAug_ap, sPop_ap]
  refine sat_loop (fun i ρ g => ∃ (ps : List (Nat × Nat)) (l : List Nat), ps.length = i ∧ (ps.map (·.1) ++ l).Perm (List.range n) ∧ (∀ p ∈ ps, p.2 < 4) ∧ ρ = [some (.raw (.ref a)), some (.raw (.ref t)), some (.val (.int n)), some (.own (l.map niD)), some (.val (.tuple (ps.map prD))), none, none] ∧ St a t g) ⟨[], List.range n, rfl, by simp, by simp, rfl, st⟩ ?_ ?_
  · rintro i d ρ g hd ⟨ps, l, h1, h2, h3, rfl, st2⟩
    have hi : i < n := by
      have := (List.getElem?_eq_some_iff.mp hd).1
      unfold rng at this
      simpa using this
    have hl : l.length = n - i := by
      have := h2.length_eq
      simp at this
      omega
    simp -dsimp only [List.length_map, eFz_ap, eVar_ap, eVarQ_ap, eC_ap, e1_ap, e2_ap, l1_ap, l2_ap, aNil_ap, aCons_ap, eTup_ap, lLst_ap, fTru_ap, fB_ap, fNot_ap, fAnd_ap, fOr_ap, eNot_ap, eAnd_ap, eOr_ap, eIf_ap, lIf_ap, oNone_ap, oSome_ap, eCut_ap, lCut_ap, sNext_ap, sBreak_ap, sCont_ap, sIf_ap, sExpr_ap, sRet_ap, sRetL_ap, sRetO_ap, sRetN_ap, bName_ap, bNil_ap, bCons_ap, bTup_ap, bItem_ap, sAsg_ap, sSet_ap, sSetL_ap, sApp_ap, sExt_ap, iSeq_ap, iOwn_ap, l3_ap, sFor_ap, fYes_ap, rNil_ap, rCons_ap, rRaw_ap, eCall_ap, lCall_ap, eCallK_ap, eCh_ap, xNil_ap, xD_ap, xL_ap, sPar_ap, eIs_ap, sSeq_ap, seqM_next, seqM_brk, seqM_cont, seqM_ret, runDef_ap, defM_next, defM_ret, stepM_ap, loopM_next, loopM_cont, loopM_brk, loopM_ret, lcF_ap, lcH_ap, lcM_nil, lcM_cons, lcC_some, lcC_none, limM_ap, lLC_ap, startE, arS, mask, wipeE, noOwn, isOwn, setAll, rtS, sItems_l, sItems_t, lim, sIx_l, sIx_t, sLen_l, sLen_t, sTuple_l, sTuple_t, sList_l, sList_t, rngL0, rngL1, rngL2, rngL3, rngL4, rngL5, rngL6, sat_ret, sat_bnd, sat_some, sat_none, sat_fail, bnd_ret, bnd_bnd, bnd_fail, lft_some, lft_none, Option.map_some, Option.map_none, List.map_cons, List.map_nil, List.length_cons, List.length_nil, List.replicate, List.cons_append, List.nil_append, List.append_nil, List.all_cons, List.all_nil, Bool.and_true, Bool.true_and, Bool.and_false, Bool.false_and, Bool.not_false, Bool.not_true, Bool.not_not, Bool.or_true, Bool.true_or, Bool.or_false, Bool.false_or, List.getElem?_cons_succ, List.getElem?_cons_zero, List.getElem?_nil, if_true, if_false, ite_true, ite_false, List.set_cons_succ, List.set_cons_zero, List.set_nil, Int.reduceLT, Int.reduceLE, Int.reduceNeg, Int.reducePow, Int.reduceMul, Int.reduceAdd, Int.reduceSub, Int.reduceToNat, Int.reduceEq, Nat.reduceAdd, Nat.reduceSub, Nat.reduceLeDiff, Nat.reduceLT, Nat.reduceEqDiff, Nat.reduceMul, and_self, and_true, true_and, and_false, false_and, or_true, true_or, or_false, false_or, or_self, reduceIte, Bool.false_eq_true, Bool.true_eq_false, decide_true, decide_false, Option.some.injEq, List.isEmpty_cons, List.isEmpty_nil, reduceCtorEq, ne_eq, not_false_eq_true, not_true_eq_false, List.replicate_zero, Int.reduceMod, sEq_int, sNe_int, rotN_0, rotN_1, rotN_2, rotN_3, bi_t, bi_f, sAdd_i, sAdd_t, sAdd_l, lAdd_l, sSub_i, sMul_i, sMul_t, sMul_l, sMod_i, sFdiv_i, sNeg_i, sLt_i, sLe_i, sGt_i, sGe_i, sIs_n, sIsNot_n, isN_n, isN_i, isN_t, isN_l, isN_s, isN_b, toB_b, toI_i, toD_d, toD_l, toL_l, tTru_n, tTru_b, tTru_i, tTru_l, tTru_t, isT_int, isT_bool, isT_tuple, isT_str, isT_list, sCut_l, sCut_t, sAug_ap, sPop_ap]
    refine sat_draw st2 (by omega) (by omega) fun v g3 v0 v1 st3 => ?_
    have hv : v.toNat < l.length := by omega
    have c1 : (0 ≤ v ∧ v < ((l.length : Nat) : Int) ∧ l.length ≤ 16000000) := ⟨v0, v1, by omega⟩
    have e1 : (l.map niD)[v.toNat]? = some (niD l[v.toNat]) := by rw [List.getElem?_map, List.getElem?_eq_getElem hv]; rfl
    simp -dsimp only [List.length_map, c1, e1, eFz_ap, eVar_ap, eVarQ_ap, eC_ap, e1_ap, e2_ap, l1_ap, l2_ap, aNil_ap, aCons_ap, eTup_ap, lLst_ap, fTru_ap, fB_ap, fNot_ap, fAnd_ap, fOr_ap, eNot_ap, eAnd_ap, eOr_ap, eIf_ap, lIf_ap, oNone_ap, oSome_ap, eCut_ap, lCut_ap, sNext_ap, sBreak_ap, sCont_ap, sIf_ap, sExpr_ap, sRet_ap, sRetL_ap, sRetO_ap, sRetN_ap, bName_ap, bNil_ap, bCons_ap, bTup_ap, bItem_ap, sAsg_ap, sSet_ap, sSetL_ap, sApp_ap, sExt_ap, iSeq_ap, iOwn_ap, l3_ap, sFor_ap, fYes_ap, rNil_ap, rCons_ap, rRaw_ap, eCall_ap, lCall_ap, eCallK_ap, eCh_ap, xNil_ap, xD_ap, xL_ap, sPar_ap, eIs_ap, sSeq_ap, seqM_next, seqM_brk, seqM_cont, seqM_ret, runDef_ap, defM_next, defM_ret, stepM_ap, loopM_next, loopM_cont, loopM_brk, loopM_ret, lcF_ap, lcH_ap, lcM_nil, lcM_cons, lcC_some, lcC_none, limM_ap, lLC_ap, startE, arS, mask, wipeE, noOwn, isOwn, setAll, rtS, sItems_l, sItems_t, lim, sIx_l, sIx_t, sLen_l, sLen_t, sTuple_l, sTuple_t, sList_l, sList_t, rngL0, rngL1, rngL2, rngL3, rngL4, rngL5, rngL6, sat_ret, sat_bnd, sat_some, sat_none, sat_fail, bnd_ret, bnd_bnd, bnd_fail, lft_some, lft_none, Option.map_some, Option.map_none, List.map_cons, List.map_nil, List.length_cons, List.length_nil, List.replicate, List.cons_append, List.nil_append, List.append_nil, List.all_cons, List.all_nil, Bool.and_true, Bool.true_and, Bool.and_false, Bool.false_and, Bool.not_false, Bool.not_true, Bool.not_not, Bool.or_true, Bool.true_or, Bool.or_false, Bool.false_or, List.getElem?_cons_succ, List.getElem?_cons_zero, List.getElem?_nil, if_true, if_false, ite_true, ite_false, List.set_cons_succ, List.set_cons_zero, List.set_nil, Int.reduceLT, Int.reduceLE, Int.reduceNeg, Int.reducePow, Int.reduceMul, Int.reduceAdd, Int.reduceSub, Int.reduceToNat, Int.reduceEq, Nat.reduceAdd, Nat.reduceSub, Nat.reduceLeDiff, Nat.reduceLT, Nat.reduceEqDiff, Nat.reduceMul, and_self, and_true, true_and, and_false, false_and, or_true, true_or, or_false, false_or, or_self, reduceIte, Bool.false_eq_true, Bool.true_eq_false, decide_true, decide_false, Option.some.injEq, List.isEmpty_cons, List.isEmpty_nil, reduceCtorEq, ne_eq, not_false_eq_true, not_true_eq_false, List.replicate_zero, Int.reduceMod, sEq_int, sNe_int, rotN_0, rotN_1, rotN_2, rotN_3, bi_t, bi_f, sAdd_i, sAdd_t, sAdd_l, lAdd_l, sSub_i, sMul_i, sMul_t, sMul_l, sMod_i, sFdiv_i, sNeg_i, sLt_i, sLe_i, sGt_i, sGe_i, sIs_n, sIsNot_n, isN_n, isN_i, isN_t, isN_l, isN_s, isN_b, toB_b, toI_i, toD_d, toD_l, toL_l, tTru_n, tTru_b, tTru_i, tTru_l, tTru_t, isT_int, isT_bool, isT_tuple, isT_str, isT_list, sCut_l, sCut_t, sAug_ap, sPop_ap]
    refine sat_draw st3 (by decide) (by decide) fun w g4 w0 w1 st4 => ?_
    have hlim : ps.length ≤ 15999999 := by omega
    simp -dsimp only [List.length_map, hlim, loopQ, eFz_ap, eVar_ap, eVarQ_ap, eC_ap, e1_ap, e2_ap, l1_ap, l2_ap, aNil_ap, aCons_ap, eTup_ap, lLst_ap, fTru_ap, fB_ap, fNot_ap, fAnd_ap, fOr_ap, eNot_ap, eAnd_ap, eOr_ap, eIf_ap, lIf_ap, oNone_ap, oSome_ap, eCut_ap, lCut_ap, sNext_ap, sBreak_ap, sCont_ap, sIf_ap, sExpr_ap, sRet_ap, sRetL_ap, sRetO_ap, sRetN_ap, bName_ap, bNil_ap, bCons_ap, bTup_ap, bItem_ap, sAsg_ap, sSet_ap, sSetL_ap, sApp_ap, sExt_ap, iSeq_ap, iOwn_ap, l3_ap, sFor_ap, fYes_ap, rNil_ap, rCons_ap, rRaw_ap, eCall_ap, lCall_ap, eCallK_ap, eCh_ap, xNil_ap, xD_ap, xL_ap, sPar_ap, eIs_ap, sSeq_ap, seqM_next, seqM_brk, seqM_cont, seqM_ret, runDef_ap, defM_next, defM_ret, stepM_ap, loopM_next, loopM_cont, loopM_brk, loopM_ret, lcF_ap, lcH_ap, lcM_nil, lcM_cons, lcC_some, lcC_none, limM_ap, lLC_ap, startE, arS, mask, wipeE, noOwn, isOwn, setAll, rtS, sItems_l, sItems_t, lim, sIx_l, sIx_t, sLen_l, sLen_t, sTuple_l, sTuple_t, sList_l, sList_t, rngL0, rngL1, rngL2, rngL3, rngL4, rngL5, rngL6, sat_ret, sat_bnd, sat_some, sat_none, sat_fail, bnd_ret, bnd_bnd, bnd_fail, lft_some, lft_none, Option.map_some, Option.map_none, List.map_cons, List.map_nil, List.length_cons, List.length_nil, List.replicate, List.cons_append, List.nil_append, List.append_nil, List.all_cons, List.all_nil, Bool.and_true, Bool.true_and, Bool.and_false, Bool.false_and, Bool.not_false, Bool.not_true, Bool.not_not, Bool.or_true, Bool.true_or, Bool.or_false, Bool.false_or, List.getElem?_cons_succ, List.getElem?_cons_zero, List.getElem?_nil, if_true, if_false, ite_true, ite_false, List.set_cons_succ, List.set_cons_zero, List.set_nil, Int.reduceLT, Int.reduceLE, Int.reduceNeg, Int.reducePow, Int.reduceMul, Int.reduceAdd, Int.reduceSub, Int.reduceToNat, Int.reduceEq, Nat.reduceAdd, Nat.reduceSub, Nat.reduceLeDiff, Nat.reduceLT, Nat.reduceEqDiff, Nat.reduceMul, and_self, and_true, true_and, and_false, false_and, or_true, true_or, or_false, false_or, or_self, reduceIte, Bool.false_eq_true, Bool.true_eq_false, decide_true, decide_false, Option.some.injEq, List.isEmpty_cons, List.isEmpty_nil, reduceCtorEq, ne_eq, not_false_eq_true, not_true_eq_false, List.replicate_zero, Int.reduceMod, sEq_int, sNe_int, rotN_0, rotN_1, rotN_2, rotN_3, bi_t, bi_f, sAdd_i, sAdd_t, sAdd_l, lAdd_l, sSub_i, sMul_i, sMul_t, sMul_l, sMod_i, sFdiv_i, sNeg_i, sLt_i, sLe_i, sGt_i, sGe_i, sIs_n, sIsNot_n, isN_n, isN_i, isN_t, isN_l, isN_s, isN_b, toB_b, toI_i, toD_d, toD_l, toL_l, tTru_n, tTru_b, tTru_i, tTru_l, tTru_t, isT_int, isT_bool, isT_tuple, isT_str, isT_list, sCut_l, sCut_t, sAug_ap, sPop_ap]
    refine ⟨ps ++ [(l[v.toNat], w.toNat)], l.eraseIdx v.toNat, by simp [h1], ?_, ?_, ?_, st4⟩
    · refine List.Perm.trans ?_ h2
      rw [List.map_append, List.append_assoc]
      exact (erase_perm l v.toNat hv).append_left _
    · intro p hp
      rcases List.mem_append.mp hp with hp | hp
      · exact h3 p hp
      · rw [List.mem_singleton.mp hp]
        show w.toNat < 4
        omega
    · have ew : ((w.toNat : Nat) : Int) = w := by omega
      rw [List.map_append, erase_map]
      show _ = [some (Sl.raw (V.ref a)), some (Sl.raw (V.ref t)), some (Sl.val (.int n)), some (Sl.own ((l.map niD).eraseIdx v.toNat)), some (Sl.val (PyData.tuple (ps.map prD ++ [.tuple [niD l[v.toNat], .int ((w.toNat : Nat) : Int)]]))), none, none]
      rw [ew]
  · rintro ρ g ⟨ps, l, h1, h2, h3, rfl, st2⟩
    simp -dsimp only [eFz_ap, eVar_ap, eVarQ_ap, eC_ap, e1_ap, e2_ap, l1_ap, l2_ap, aNil_ap, aCons_ap, eTup_ap, lLst_ap, fTru_ap, fB_ap, fNot_ap, fAnd_ap, fOr_ap, eNot_ap, eAnd_ap, eOr_ap, eIf_ap, lIf_ap, oNone_ap, oSome_ap, eCut_ap, lCut_ap, sNext_ap, sBreak_ap, sCont_ap, sIf_ap, sExpr_ap, sRet_ap, sRetL_ap, sRetO_ap, sRetN_ap, bName_ap, bNil_ap, bCons_ap, bTup_ap, bItem_ap, sAsg_ap, sSet_ap, sSetL_ap, sApp_ap, sExt_ap, iSeq_ap, iOwn_ap, l3_ap, sFor_ap, fYes_ap, rNil_ap, rCons_ap, rRaw_ap, eCall_ap, lCall_ap, eCallK_ap, eCh_ap, xNil_ap, xD_ap, xL_ap, sPar_ap, eIs_ap, sSeq_ap, seqM_next, seqM_brk, seqM_cont, seqM_ret, runDef_ap, defM_next, defM_ret, stepM_ap, loopM_next, loopM_cont, loopM_brk, loopM_ret, lcF_ap, lcH_ap, lcM_nil, lcM_cons, lcC_some, lcC_none, limM_ap, lLC_ap, startE, arS, mask, wipeE, noOwn, isOwn, setAll, rtS, sItems_l, sItems_t, lim, sIx_l, sIx_t, sLen_l, sLen_t, sTuple_l, sTuple_t, sList_l, sList_t, rngL0, rngL1, rngL2, rngL3, rngL4, rngL5, rngL6, sat_ret, sat_bnd, sat_some, sat_none, sat_fail, bnd_ret, bnd_bnd, bnd_fail, lft_some, lft_none, Option.map_some, Option.map_none, List.map_cons, List.map_nil, List.length_cons, List.length_nil, List.replicate, List.cons_append, List.nil_append, List.append_nil, List.all_cons, List.all_nil, Bool.and_true, Bool.true_and, Bool.and_false, Bool.false_and, Bool.not_false, Bool.not_true, Bool.not_not, Bool.or_true, Bool.true_or, Bool.or_false, Bool.false_or, List.getElem?_cons_succ, List.getElem?_cons_zero, List.getElem?_nil, if_true, if_false, ite_true, ite_false, List.set_cons_succ, List.set_cons_zero, List.set_nil, Int.reduceLT, Int.reduceLE, Int.reduceNeg, Int.reducePow, Int.reduceMul, Int.reduceAdd, Int.reduceSub, Int.reduceToNat, Int.reduceEq, Nat.reduceAdd, Nat.reduceSub, Nat.reduceLeDiff, Nat.reduceLT, Nat.reduceEqDiff, Nat.reduceMul, and_self, and_true, true_and, and_false, false_and, or_true, true_or, or_false, false_or, or_self, reduceIte, Bool.false_eq_true, Bool.true_eq_false, decide_true, decide_false, Option.some.injEq, List.isEmpty_cons, List.isEmpty_nil, reduceCtorEq, ne_eq, not_false_eq_true, not_true_eq_false, List.replicate_zero, Int.reduceMod, sEq_int, sNe_int, rotN_0, rotN_1, rotN_2, rotN_3, bi_t, bi_f, sAdd_i, sAdd_t, sAdd_l, lAdd_l, sSub_i, sMul_i, sMul_t, sMul_l, sMod_i, sFdiv_i, sNeg_i, sLt_i, sLe_i, sGt_i, sGe_i, sIs_n, sIsNot_n, isN_n, isN_i, isN_t, isN_l, isN_s, isN_b, toB_b, toI_i, toD_d, toD_l, toL_l, tTru_n, tTru_b, tTru_i, tTru_l, tTru_t, isT_int, isT_bool, isT_tuple, isT_str, isT_list, sCut_l, sCut_t, sAug_ap, sPop_ap]
    have hl : ps.length = n := by
      rw [h1]
      unfold rng
      simp
    have hz : l = [] := by
      have := h2.length_eq
      simp at this
      exact List.eq_nil_of_length_eq_zero (by omega)
    subst hz
    rw [List.append_nil] at h2
    exact k ps g ⟨h2, h3⟩ st2
theorem sIx_nn {n : Nat} {i : Int} {d : Nat} (h : 0 ≤ i) : HT.sIx n d (some i) = min i.toNat n := by
  have e : i = ((i.toNat : Nat) : Int) := by omega
  rw [e, HT.sIx_nat, Int.toNat_natCast]
theorem cut_nn {α : Type} (xs : List α) {lo hi : Int} (h0 : 0 ≤ lo) (h1 : 0 ≤ hi) : cut xs (some lo) (some hi) = (xs.drop lo.toNat).take (hi.toNat - lo.toNat) := by
  unfold cut
  rw [sIx_nn h0, sIx_nn h1]
  rcases Nat.lt_or_ge lo.toNat xs.length with h | h
  · rw [Nat.min_eq_left (Nat.le_of_lt h)]
    rcases Nat.lt_or_ge hi.toNat xs.length with h' | h'
    · rw [Nat.min_eq_left (Nat.le_of_lt h')]
    · rw [Nat.min_eq_right h', List.take_of_length_le (by rw [List.length_drop]; exact Nat.le_refl _), List.take_of_length_le (by rw [List.length_drop]; omega)]
  · rw [Nat.min_eq_right h, List.drop_eq_nil_of_le (Nat.le_refl _), List.drop_eq_nil_of_le h]
    simp
/-- k rows of w -/
def chunk {α : Type} (w k : Nat) (xs : List α) : List (List α) := (List.range k).map fun i => (xs.drop (i * w)).take w
theorem chunk_len {α : Type} {w k : Nat} {xs : List α} (h : k * w ≤ xs.length) : ∀ r ∈ chunk w k xs, r.length = w := fun r hr => by
  obtain ⟨i, hi, rfl⟩ := List.mem_map.mp hr
  rw [List.mem_range] at hi
  rw [List.length_take, List.length_drop]
  have : (i + 1) * w ≤ k * w := Nat.mul_le_mul_right w hi
  rw [Nat.succ_mul] at this
  omega
theorem chunk_flat {α : Type} (w : Nat) (xs : List α) : ∀ k, (chunk w k xs).flatten = xs.take (k * w)
  | 0 => by simp [chunk]
  | k + 1 => by
    have e : chunk w (k + 1) xs = chunk w k xs ++ [(xs.drop (k * w)).take w] := by
      unfold chunk
      rw [List.range_succ, List.map_append]
      rfl
    rw [e, List.flatten_append, chunk_flat w xs k, Nat.succ_mul, List.take_add]
    simp
theorem chunk_length {α : Type} (w k : Nat) (xs : List α) : (chunk w k xs).length = k := by simp [chunk]
theorem rngC_nat (w k : Nat) : rngC 0 (w : Int) k = (List.range k).map fun i => .int ((i * w : Nat) : Int) := by
  unfold rngC
  apply List.map_congr_left
  intro i _
  rw [Int.zero_add]
  simp
end Dt
namespace Dt
open PySem PySem.Spec L2
theorem sRng3_ok {m w : Nat} (hw : 0 < w) (hw2 : w ≤ 1000) (hm : m ≤ 1000) : sRng3 (.int 0) (.int (m : Int)) (.int (w : Int)) = some ((List.range ((m + w - 1) / w)).map fun i => .int ((i * w : Nat) : Int)) := by
  have hs : Builtin.Range.rangeSize 0 (m : Int) (w : Int) = (((m + w - 1) / w : Nat) : Int) := by
    unfold Builtin.Range.rangeSize
    rw [if_pos (by omega)]
    by_cases h : 0 < m
    · rw [if_pos (by omega)]
      have : m + w - 1 = (m - 1) + w := by omega
      rw [this, Nat.add_div_right _ hw]
      have e : ((m : Int) - 0 - 1) = ((m - 1 : Nat) : Int) := by omega
      rw [e]
      simp
    · rw [if_neg (by omega)]
      have : m + w - 1 = w - 1 := by omega
      rw [this, Nat.div_eq_of_lt (by omega)]
      rfl
  have hle : (m + w - 1) / w ≤ 2000 := Nat.le_trans (Nat.div_le_self _ _) (by omega)
  unfold sRng3
  simp only
  rw [if_pos, hs, Int.toNat_natCast, rngC_nat]
  refine ⟨by omega, by omega, ?_⟩
  unfold Builtin.Range.small
  rw [hs]
  generalize (m + w - 1) / w = q at hle
  simp only [Builtin.Range.rangeFitsLong, Bool.and_eq_true, Bool.or_eq_true, decide_eq_true_eq, beq_iff_eq]
  refine ⟨⟨⟨⟨?_, ?_⟩, ?_⟩, ?_⟩, ?_⟩
  · omega
  · omega
  · omega
  · omega
  · right
    split
    · simp only [decide_eq_true_eq, Bool.and_eq_true]; omega
    · simp only [decide_eq_true_eq, Bool.and_eq_true]; omega
theorem lcM_map {α : Type} {f : PyData → M Tw (Option PyData)} {φ h : α → PyData} : ∀ {l : List α}, (∀ i ∈ l, f (φ i) = ret (some (h i))) → lcM f (l.map φ) = ret (l.map h)
  | [], _ => rfl
  | i :: l, hf => by rw [List.map_cons, lcM_cons, hf i (List.mem_cons_self ..), bnd_ret, lcM_map fun j hj => hf j (List.mem_cons_of_mem _ hj), bnd_ret]; rfl
def rowD (r : List (Nat × Nat)) : PyData := .tuple (r.map prD)
theorem its_rowD (r : List (Nat × Nat)) : its (rowD r) = r.map prD := rfl
theorem flat_rowD (rs : List (List (Nat × Nat))) : (rs.map rowD).flatMap its = rs.flatten.map prD := by
  induction rs with
  | nil => rfl
  | cons r rs ih => rw [List.map_cons, List.flatMap_cons, ih, its_rowD, List.flatten_cons, List.map_append]
theorem lNums_rowD (rs : List (List (Nat × Nat))) : lNums (rs.map rowD) = (rs.flatten.map (·.1)).map fun (n : Nat) => (n : Int) := by
  unfold lNums
  rw [flat_rowD, List.map_map, List.map_map]
  rfl
theorem isEnt_prD {n : Nat} {p : Nat × Nat} (h1 : p.1 < n) (h2 : p.2 < 4) : isEnt n (prD p) = true := by
  unfold isEnt prD eD isNumR
  simp only [Bool.and_eq_true, decide_eq_true_eq]
  omega
theorem isRow_rowD {n : Nat} {r : List (Nat × Nat)} (h0 : r ≠ []) (h : ∀ p ∈ r, p.1 < n ∧ p.2 < 4) : isRow n (rowD r) = true := by
  unfold isRow rowD
  simp only
  rw [Bool.and_eq_true, List.all_eq_true]
  refine ⟨?_, fun x hx => ?_⟩
  · cases r with
    | nil => exact absurd rfl h0
    | cons => rfl
  · obtain ⟨p, hp, rfl⟩ := List.mem_map.mp hx
    exact isEnt_prD (h p hp).1 (h p hp).2
theorem step_in {acc : List Int} {n : Int} (h : n ∈ acc) : PyProof.Rows.step_dedup acc n = acc := by
  unfold PyProof.Rows.step_dedup
  exact if_pos (List.any_eq_true.mpr ⟨n, h, by simp⟩)
theorem step_out {acc : List Int} {n : Int} (h : n ∉ acc) : PyProof.Rows.step_dedup acc n = acc ++ [n] := by
  unfold PyProof.Rows.step_dedup
  refine if_neg fun hc => h ?_
  obtain ⟨x, hx, e⟩ := List.any_eq_true.mp hc
  have : x = n := by simpa using e
  rw [← this]; exact hx
theorem dd_len (ns acc : List Int) : (ns.foldl PyProof.Rows.step_dedup acc).length ≤ acc.length + ns.length ∧ ((ns.foldl PyProof.Rows.step_dedup acc).length = acc.length + ns.length ↔ ns.Nodup ∧ ∀ x ∈ ns, x ∉ acc) := by
  induction ns generalizing acc with
  | nil => simp
  | cons n ns ih =>
    rw [List.foldl_cons]
    by_cases hm : n ∈ acc
    · rw [step_in hm]
      obtain ⟨i1, i2⟩ := ih acc
      refine ⟨by rw [List.length_cons]; omega, ?_⟩
      constructor
      · intro h
        rw [List.length_cons] at h
        omega
      · intro h
        exact absurd hm (h.2 n (List.mem_cons_self ..))
    · rw [step_out hm]
      obtain ⟨i1, i2⟩ := ih (acc ++ [n])
      rw [List.length_append, List.length_cons, List.length_nil] at i1 i2
      refine ⟨by rw [List.length_cons]; omega, ?_⟩
      rw [List.length_cons, show acc.length + (ns.length + 1) = acc.length + (0 + 1) + ns.length by omega, i2, List.nodup_cons]
      constructor
      · rintro ⟨h1, h2⟩
        refine ⟨⟨fun hn => h2 n hn (by simp), h1⟩, fun x hx => ?_⟩
        rcases List.mem_cons.mp hx with rfl | hx
        · exact hm
        · exact fun h => h2 x hx (List.mem_append_left _ h)
      · rintro ⟨⟨h1, h2⟩, h3⟩
        refine ⟨h2, fun x hx h => ?_⟩
        rcases List.mem_append.mp h with h | h
        · exact h3 x (List.mem_cons_of_mem _ hx) h
        · rw [List.mem_singleton.mp h] at hx; exact h1 hx
theorem ddp_nodup (ns : List Int) : (ddp ns).length = ns.length ↔ ns.Nodup := by
  have := (dd_len ns []).2
  simp only [List.length_nil, Nat.zero_add, List.not_mem_nil, not_false_eq_true, implies_true, and_true] at this
  exact this
/-- a laying of w columns -/
structure Ly (n w : Nat) (rs : List (List (Nat × Nat))) : Prop where
  ne : rs ≠ []
  wide : ∀ r ∈ rs, r.length = w
  pos : 0 < w
  num : ∀ r ∈ rs, ∀ p ∈ r, p.1 < n ∧ p.2 < 4
  nd : (rs.flatten.map (·.1)).Nodup
theorem Ly.isLay {n w : Nat} {rs : List (List (Nat × Nat))} (h : Ly n w rs) : isLay n (.tuple (rs.map rowD)) = true := by
  unfold Dt.isLay
  simp only
  have hne : ∀ r ∈ rs, r ≠ [] := fun r hr e => by
    have := h.wide r hr
    rw [e] at this
    have := h.pos
    simp at *
    omega
  obtain ⟨r0, rs', rfl⟩ : ∃ r0 rs', rs = r0 :: rs' := by
    cases rs with
    | nil => exact absurd rfl h.ne
    | cons r0 rs' => exact ⟨r0, rs', rfl⟩
  rw [Bool.and_eq_true, Bool.and_eq_true, Bool.and_eq_true]
  refine ⟨⟨⟨rfl, ?_⟩, ?_⟩, ?_⟩
  · rw [List.all_eq_true]
    intro x hx
    obtain ⟨r, hr, rfl⟩ := List.mem_map.mp hx
    exact isRow_rowD (hne r hr) (h.num r hr)
  · rw [List.all_eq_true]
    intro x hx
    obtain ⟨r, hr, rfl⟩ := List.mem_map.mp hx
    rw [decide_eq_true_eq]
    show (r.map prD).length = (r0.map prD).length
    rw [List.length_map, List.length_map, h.wide r hr, h.wide r0 (List.mem_cons_self ..)]
  · rw [decide_eq_true_eq, ddp_nodup, lNums_rowD]
    exact List.Pairwise.map _ (fun a b hab => by omega) h.nd
/-- a thing that is no laying -/
structure Bad (n : Nat) (d : PyData) : Prop where
  no : isLay n d = false
  ok : Okd 50 d
  fl : ∀ rows, d = .tuple rows → (rows.flatMap its).length ≤ 1000
theorem Bad.told {n : Nat} {d : PyData} (h : Bad n d) (box : List PyData) (hb : box.length = n) : f_is_laying [.d (.tuple box), .d d] = ret (.d (.bool false)) := by
  rw [is_laying_ok box d h.ok h.fl, hb, h.no]
theorem chunk_ly {n w k : Nat} {qs : List (Nat × Nat)} (ho : Ord n qs) (hw : 0 < w) (hk : 0 < k) (hkw : k * w ≤ n) : Ly n w (chunk w k qs) := by
  have hl := ho.len
  refine ⟨fun e => ?_, chunk_len (by omega), hw, fun r hr p hp => ?_, ?_⟩
  · have := chunk_length w k qs
    rw [e] at this
    simp at this
    omega
  · obtain ⟨i, _, rfl⟩ := List.mem_map.mp hr
    have hp := List.mem_of_mem_drop (List.mem_of_mem_take hp)
    exact ⟨ho.lt hp, ho.turn p hp⟩
  · rw [chunk_flat, List.map_take]
    exact ho.nd.sublist (List.take_sublist ..)
end Dt
namespace Dt
open PySem PySem.Spec L2
def Tm (r : PyData) : Prop := Okd 48 r ∧ (its r).length ≤ 30
theorem flat_lenM {rows : List PyData} {m : Nat} (h : ∀ r ∈ rows, (its r).length ≤ m) : (rows.flatMap its).length ≤ rows.length * m := by
  induction rows with
  | nil => simp
  | cons r rows ih =>
    rw [List.flatMap_cons, List.length_append, List.length_cons, Nat.succ_mul]
    have := h r (List.mem_cons_self ..)
    have := ih fun x hx => h x (List.mem_cons_of_mem _ hx)
    omega
theorem Bad.rows {n : Nat} {rows : List PyData} (no : isLay n (.tuple rows) = false) (l : rows.length ≤ 30) (h : ∀ r ∈ rows, Tm r) : Bad n (.tuple rows) := by
  refine ⟨no, .tuple (by omega) fun d hd => (h d hd).1.mono (by decide), fun rows' e => ?_⟩
  cases e
  have := flat_lenM (m := 30) fun r hr => (h r hr).2
  have : rows.length * 30 ≤ 30 * 30 := Nat.mul_le_mul_right _ l
  omega
theorem Bad.other {n : Nat} {d : PyData} (no : isLay n d = false) (ok : Okd 50 d) (h : ∀ rows, d ≠ .tuple rows) : Bad n d := ⟨no, ok, fun rows e => absurd e (h rows)⟩
section
variable {n w : Nat} {rs : List (List (Nat × Nat))} (ly : Ly n w rs) (hw : w ≤ 6) (hl : rs.length ≤ 6)
include ly hw hl
end
end Dt
namespace Dt
open PySem PySem.Spec L2
theorem rng1_nat {n : Nat} (h : n ≤ 1000) : sRng1 (.int (n : Int)) = some ((List.range n).map niD) := by
  rw [sRng1_ok (by omega) (by omega), Int.toNat_natCast, rng_nat]
instance : Inhabited Pc := ⟨⟨0, 0, 0, 0⟩⟩
def en (rs : List (List (Nat × Nat))) (a b : Nat) : Nat × Nat := (rs.getD a []).getD b (0, 0)
def ed (ps : List Pc) (rs : List (List (Nat × Nat))) (a b : Nat) (s : Int) : Int := (ps.getD (en rs a b).1 default).e (s - ((en rs a b).2 : Int))
/-- rows of one length of pieces of a box -/
structure Rs (n w : Nat) (rs : List (List (Nat × Nat))) : Prop where
  ne : rs ≠ []
  wide : ∀ r ∈ rs, r.length = w
  pos : 0 < w
  num : ∀ r ∈ rs, ∀ p ∈ r, p.1 < n ∧ p.2 < 4
theorem Ly.rs {n w : Nat} {rs : List (List (Nat × Nat))} (h : Ly n w rs) : Rs n w rs := ⟨h.ne, h.wide, h.pos, h.num⟩
section
variable {n w : Nat} {ps : List Pc} {rs : List (List (Nat × Nat))}
theorem Rs.row (h : Rs n w rs) {a : Nat} (ha : a < rs.length) : rs[a]? = some (rs.getD a []) ∧ (rs.getD a []).length = w ∧ rs.getD a [] ∈ rs := by
  have e : rs[a]? = some rs[a] := List.getElem?_eq_getElem ha
  have e2 : rs.getD a [] = rs[a] := by rw [List.getD_eq_getElem?_getD, e]; rfl
  rw [e2]
  exact ⟨e, h.wide _ (List.getElem_mem ha), List.getElem_mem ha⟩
theorem Rs.ent (h : Rs n w rs) {a b : Nat} (ha : a < rs.length) (hb : b < w) : (rs.getD a [])[b]? = some (en rs a b) ∧ (en rs a b).1 < n ∧ (en rs a b).2 < 4 := by
  obtain ⟨h1, h2, h3⟩ := h.row ha
  have hb' : b < (rs.getD a []).length := by omega
  have e : (rs.getD a [])[b]? = some (rs.getD a [])[b] := List.getElem?_eq_getElem hb'
  have e2 : en rs a b = (rs.getD a [])[b] := by unfold en; rw [List.getD_eq_getElem?_getD, e]; rfl
  rw [e2]
  exact ⟨e, h.num _ h3 _ (List.getElem_mem hb')⟩
theorem Rs.len (h : Rs n w rs) : 0 < rs.length := List.length_pos_iff.mpr h.ne
def rimB (b1 b2 b3 b4 : Bool) : List Int := (if b1 = true then [0] else []) ++ ((if b2 = true then [1] else []) ++ ((if b3 = true then [2] else []) ++ (if b4 = true then [3] else [])))
def rimL (h w a b : Nat) : List Int := rimB (decide (a = 0)) (decide (b + 1 = w)) (decide (a + 1 = h)) (decide (b = 0))
def rimBad (h w : Nat) (E : Nat → Nat → Int → Int) (a b : Nat) : Bool := (rimL h w a b).any fun s => !decide (E a b s = 0)
def wd (h w : Nat) (E : Nat → Nat → Int → Int) (a b : Nat) : Option PyData :=
  if rimBad h w E a b = true then some (.str "rim") else if 0 < b ∧ ft (E a b 3) (E a (b - 1) 1) = false then some (.str "left") else if 0 < a ∧ ft (E a b 0) (E (a - 1) b 2) = false then some (.str "above") else none
end
end Dt
namespace Dt
open PySem PySem.Spec L2
theorem lcM_filter {α : Type} {f : PyData → M Tw (Option PyData)} {φ h : α → PyData} {p : α → Bool} : ∀ {l : List α}, (∀ i ∈ l, f (φ i) = ret (if p i = true then some (h i) else none)) → lcM f (l.map φ) = ret ((l.filter p).map h)
  | [], _ => rfl
  | i :: l, hf => by
    rw [List.map_cons, lcM_cons, hf i (List.mem_cons_self ..), bnd_ret, lcM_filter fun j hj => hf j (List.mem_cons_of_mem _ hj), bnd_ret, List.filter_cons]
    cases p i <;> rfl
theorem bnd_lcf {α β : Type} {f : PyData → Dt.M Tw (Option PyData)} {φ h : α → PyData} {p : α → Bool} {l : List α} {K : List PyData → Dt.M Tw β} {R : Dt.M Tw β} (hf : ∀ i ∈ l, f (φ i) = ret (if p i = true then some (h i) else none)) (k : K ((l.filter p).map h) = R) : bnd (lcM f (l.map φ)) K = R := by
  rw [lcM_filter hf, bnd_ret, k]
theorem bnd_lcm {α β : Type} {f : PyData → Dt.M Tw (Option PyData)} {φ h : α → PyData} {l : List α} {K : List PyData → Dt.M Tw β} {R : Dt.M Tw β} (hf : ∀ i ∈ l, f (φ i) = ret (some (h i))) (k : K (l.map h) = R) : bnd (lcM f (l.map φ)) K = R := by
  rw [lcM_map hf, bnd_ret, k]
theorem sat_lcm {α : Type} {f : PyData → Dt.M Tw (Option PyData)} {φ h : α → PyData} {l : List α} {g : Tw} {Q : List PyData → Tw → Prop} {tg : Tg Q} (hf : ∀ i ∈ l, f (φ i) = ret (some (h i))) (k : Q (l.map h) g) : @Sat Tw (List PyData) (lcM f (l.map φ)) g Q tg := by
  rw [lcM_map hf]; exact sat_ret.mpr k
theorem fl_all {α : Type} (l : List α) (p : α → Bool) (φ : α → PyData) : ((l.filter fun x => !p x).map φ).isEmpty = l.all p := by
  induction l with
  | nil => rfl
  | cons x l ih =>
    rw [List.all_cons, List.filter_cons]
    cases h : p x
    · rfl
    · rw [if_neg (by simp), ih, Bool.true_and]
theorem sNe_nil {ds : List PyData} (h : shp (.list ds) = true) : sNe (.list ds) (.list []) = some (.bool (!ds.isEmpty)) := by
  unfold sNe
  rw [if_pos ⟨h, rfl⟩]
  cases ds <;> rfl
end Dt
namespace Dt
open PySem PySem.Spec L2
section
variable {G : Type}
def embM (fl : Fl) : M G Fx := ret (.fl fl)
theorem xEmb_ap (s : FS G) (ρ : Ev) : xEmb s ρ = bnd (s ρ) embM := id rfl
theorem embM_ap (fl : Fl) : (embM fl : M G Fx) = ret (.fl fl) := id rfl
def xseqM (f2 : FXc G) (fx : Fx) : M G Fx := match fx with
  | .fl (.next ρ') => f2 ρ'
  | .fl (.brk ρ') => ret (.fl (.brk ρ'))
  | .fl (.cont ρ') => ret (.fl (.cont ρ'))
  | .fl (.ret r) => ret (.fl (.ret r))
  | .exc c => ret (.exc c)
theorem xSeq_ap (f1 f2 : FXc G) (ρ : Ev) : xSeq f1 f2 ρ = bnd (f1 ρ) (xseqM f2) := id rfl
theorem xseqM_next (f2 : FXc G) (ρ : Ev) : xseqM f2 (.fl (.next ρ)) = f2 ρ := id rfl
theorem xseqM_exc (f2 : FXc G) (c : Xc) : xseqM f2 (.exc c) = ret (.exc c) := id rfl
theorem xIf_ap (tc : FT G) (f1 f2 : FXc G) (ρ : Ev) : xIf tc f1 f2 ρ = bnd (tc ρ) fun b => if b = true then f1 ρ else f2 ρ := id rfl
theorem xRaise_ap (x : Str) (ρ : Ev) : (xRaise x ρ : M G Fx) = ret (.exc ⟨x, none⟩) := id rfl
def defXM (fx : Fx) : M G Rx := match fx with
  | .fl (.next _) => ret (.ok (.d .none))
  | .fl (.ret r) => ret (.ok r)
  | .exc c => ret (.exc c)
  | _ => fail
theorem runDefX_ap (n : Nat) (body : FXc G) (as : List Ar) : runDefX n body as = bnd (body (startE n as)) defXM := by
  unfold runDefX
  congr 1
theorem defXM_ret (r : Rt) : (defXM (.fl (.ret r)) : M G Rx) = ret (.ok r) := id rfl
theorem defXM_exc (c : Xc) : (defXM (.exc c) : M G Rx) = ret (.exc c) := id rfl
def okM (x : Rx) : M G Rt := match x with
  | .ok r => ret r
  | .exc _ => fail
theorem okOf_ap (fn : List Ar → M G Rx) (as : List Ar) : okOf fn as = bnd (fn as) okM := id rfl
theorem okM_ok (r : Rt) : (okM (.ok r) : M G Rt) = ret r := id rfl
theorem eCallKX_ap (n : Nat) (fn : List Ar → M G Rx) (gA : List Ar → List Ar → List Ar) (ga gk : FA G) (ρ : Ev) : eCallKX n fn gA ga gk ρ = bnd (ga ρ) fun as => bnd (gk ρ) fun bs => if (gA as bs).length = n then bnd (fn (gA as bs)) fun x => lft (toRd x) else fail := id rfl
theorem toRd_d (d : PyData) : toRd (.ok (.d d)) = some (.ok d) := id rfl
theorem toRd_exc (c : Xc) : toRd (.exc c) = some (.exc c) := id rfl
end
def hrdM (n jk jf : Nat) (m : FS Tw) (y : Rd) : M Tw PyData := match y with
  | .ok d => bnd (m (okE n jk jf d)) fun fl => lft (flD fl)
  | .exc c => bnd (m (hdE n jk c)) fun fl => lft (flD fl)
theorem eHeard_ap (n jk jf : Nat) (m : FS Tw) (f : FEX Tw) (ρ : Ev) : eHeard n jk jf m f ρ = bnd (f ρ) (hrdM n jk jf m) := id rfl
theorem heard_told (d : PyData) : hrdM 5 1 2 m_l_heard (.ok d) = ret (.tuple [.str "told", d]) := by rfl
end Dt
namespace Dt
open PySem PySem.Spec PyProof.Rows L2
/-- an exception in the air of X, flying or noted at the def's frame -/
def XF (X : Cx) (E : XK) (u : Value) (s2 : Shared) : Prop :=
  ∃ (a : Addr) (B : Heap) (sI : Shared) (pins : List (Addr × Obj)) (σ : L2.St) (H : Hp) (cls : Value) (d : Option Addr) (L : Addr), u = .ref a ∧ X.env.frame = some L ∧ Inv X pins σ H sI ∧ (∀ b o, sI.heap.get? b = some o → b ∉ frs X.stack → B.get? b = some o) ∧ sI.heap.UpToSlots s2.heap ∧
    (HandSPX.FlyingZ B X.stack a (Zc cls d) s2.heap ∨ HandSPX.HeldZ B X.stack a (Zc cls d) L s2.heap) ∧ H a = none ∧ s2.os = sI.os ∧ AllBare s2.gens ∧ E cls d H
def Air (X : Cx) (E : XK) : Prop := ∀ u s2, XF X E u s2 → X.xe u s2
/-- the def's frame stands on top -/
def Top (X : Cx) : Prop := ∃ e0 rest L, X.stack = e0 :: rest ∧ e0.frame = some L ∧ X.env.frame = some L
section
variable {X : Cx} {E : XK} {pins : List (Addr × Obj)} {σ : L2.St} {H : Hp} {s s2 : Shared}
theorem Air.of (tk : Takes X fun cls d _ H => E cls d H) (hf : X.env.frame = some X.env.locals) : Air X E := fun u s2 ⟨a, B, sI, pins, σ, H, cls, d, L, e, hL, I, nb, up, fly, na, os, ag, hE⟩ => by
  rw [hf] at hL
  cases hL
  exact tk u s2 ⟨a, B, sI, pins, σ, H, cls, d, e, I, nb, up, .inr fly, na, os, ag, hE⟩
theorem XF.of_call {L : Addr} (hf : X.env.frame = some L) (I : Inv X pins σ H s) {u : Value} (c : L2.CX X.prog X.w X.stack H s E u s2) : XF X E u s2 := by
  obtain ⟨a, B, H2, cls, d, rfl, fl, hok, ub, na, os, ag, hE⟩ := c
  obtain ⟨G, in_, out⟩ := restrict s2.heap fun b => (B.get? b).isSome || decide (b ∈ frs X.stack)
  have bg : ∀ b o, B.get? b = some o → G.get? b = some o := fun b o e => (in_ b (by simp [e])).trans (fl.1 b o e)
  have fg : ∀ b, b ∈ frs X.stack → G.get? b = s2.heap.get? b := fun b hb => in_ b (by simp [hb])
  have gs : ∀ b o, G.get? b = some o → s2.heap.get? b = some o ∧ (b ∈ frs X.stack ∨ ∃ o', B.get? b = some o') := fun b o e => by
    by_cases q : ((B.get? b).isSome || decide (b ∈ frs X.stack)) = true
    · rw [in_ b q] at e
      refine ⟨e, ?_⟩
      rcases Bool.or_eq_true _ _ |>.mp q with q | q
      · exact .inr (Option.isSome_iff_exists.mp q)
      · exact .inl (of_decide_eq_true q)
    · rw [out b (by simpa using q)] at e
      cases e
  have slot : ∀ b o, s.heap.get? b = some o → b ∈ frs X.stack → ∃ sl, G.get? b = some { o with slots := sl } := fun b o e hb => by
    obtain ⟨sl, q⟩ := ub.slot b o e hb
    exact ⟨sl, (fg b hb).trans q⟩
  refine ⟨a, B, { s with heap := G, gens := s2.gens, drawn := s2.drawn, toks := s2.toks }, pins, σ, H2, cls, d, L, rfl, hf, ?_, fun b o e hb => ?_, .of_keeps fun b o e => (gs b o e).1, .inl fl, na, os, ag, hE⟩
  · refine I.call (ch := []) ⟨fun b o e n hb _ => bg b o (ub.keep b o e n hb), fun b o e n hb _ => slot b o e hb, fun b o e n _ => ub.free b o e n, fun b o e _ => ?_, ub.tups, ub.frzs, ub.tbls⟩ (hok.kept bg) ag (fun _ z => nomatch z)
    by_cases hb : b ∈ frs X.stack
    · obtain ⟨sl, q⟩ := slot b o e hb
      exact ⟨_, q⟩
    · obtain ⟨o2, q⟩ := ub.there b o e hb
      exact ⟨o2, bg b o2 q⟩
  · obtain ⟨e2, h⟩ := gs b o e
    rcases h with h | ⟨o2, q⟩
    · exact absurd h hb
    · have z := fl.1 b o2 q
      rw [e2] at z
      cases z
      exact q
/-- the block of a comprehension, where an exception may leave -/
abbrev blkX (X : Cx) (s : Shared) (H : Hp) (scope : Scope) (cenv : Env) (fp : List Addr) : Cx := (X.blk s H scope cenv fp).wish (notedBy (model X.prog X.w) X.A cenv (CompFails (model X.prog X.w) X.A X.xe cenv))
theorem traced_but {h h2 B : Heap} {a C : Addr} {Z : Obj → Prop} {fl : Value} {m : Str → Option Value} (hn : h.Ns C m) (sb : Heap.SameBut C h h2) {B2 : Heap} (hB : ∀ b, B.get? b = none → B2.get? b = none) (t : HandSPX.TracedZ h B a Z fl) : HandSPX.TracedZ h2 B2 a Z fl := by
  obtain ⟨oe, vs, T, oT, ts, he, hz, hd, h1, hnT, hTe, hT, hdT, h3⟩ := t
  obtain ⟨oC, es, ep, hC, hdC, _⟩ := hn
  have ne : ∀ b o ws, h.get? b = some o → o.data = .fields ws → b ≠ C := fun b o ws e q z => by
    rw [z, hC] at e
    cases e
    rw [hdC] at q
    cases q
  exact ⟨oe, vs, T, oT, ts, (sb.2 a (ne a oe vs he hd)).trans he, hz, hd, h1, hB T hnT, hTe, (sb.2 T (ne T oT ts hT hdT)).trans hT, hdT, h3⟩
theorem air_blk {H3 : Hp} {s3 : Shared} {scope : Scope} {cl : List (Str × Addr)} {fp : List Addr} (hA : Air X E) (top : Top X) (I3 : Inv X pins σ H3 s3) (hfp : ∀ b ∈ fp, FpOk X pins H3 b) :
    Air (blkX X s3 H3 scope (compEnvC scope cl s3.heap.objs.size X.env) fp) E := by
  rintro u s2 ⟨a, B, sI, pins2, σ2, H, cls, d, L, rfl, hL, I, nb, up, fly, na, os, ag, hE⟩
  obtain ⟨e0, rest, L0, hst, hf0, hfX⟩ := top
  have eL : L0 = L := by
    have : X.env.frame = some L := hL
    rw [hfX] at this
    exact Option.some.inj this
  subst eL
  have IX : Inv X pins σ H sI := I3.call' (ch := fp) I.os I.base I.hok I.bare fun b hb => ⟨(hfp b hb).2.2.2.1, (hfp b hb).2.1, (hfp b hb).2.2.2.2.1, (hfp b hb).2.2.2.2.2⟩
  have hC0 : H s3.heap.objs.size = none := I.free
  have fC : FpOk X pins H s3.heap.objs.size := I3.fpOk (Nat.le_refl _) hC0
  obtain ⟨m, hn, _⟩ := I.loc
  have hn : sI.heap.Ns s3.heap.objs.size m := hn
  have hfr : X.A.frames = some (e0 :: rest) := by rw [← hst]; exact IX.ok.frames
  have nfr : s3.heap.objs.size ∉ frs X.stack := fun hm => by
    obtain ⟨_, o, e, hd⟩ := I3.stack.mem hm
    exact absurd (Heap.lt_size e) (Nat.lt_irrefl _)
  -- noted: let go of the names, go on
  have fin : ∀ h1, HandSPX.HeldZ B (e0 :: rest) a (Zc cls d) L0 h1 → sI.heap.UpToSlots h1 → CompFails (model X.prog X.w) X.A X.xe (compEnvC scope cl s3.heap.objs.size X.env) (.ref a) { s2 with heap := h1 } := fun h1 held up1 => by
    have hn1 : h1.Ns s3.heap.objs.size m := up1.ns hn
    refine ⟨m, hn1, fun h2 m2 hn2 sb => ?_⟩
    obtain ⟨B0, b1, b2⟩ := restrict B fun b => !decide (b = s3.heap.objs.size)
    obtain ⟨G0, g1, g2⟩ := restrict sI.heap fun b => !decide (b = s3.heap.objs.size)
    have bsub : ∀ b o, B0.get? b = some o → B.get? b = some o ∧ b ≠ s3.heap.objs.size := fun b o e => by
      by_cases z : b = s3.heap.objs.size
      · rw [b2 b (by simp [z])] at e; cases e
      · exact ⟨by rw [← b1 b (by simp [z])]; exact e, z⟩
    have gsub : ∀ b o, G0.get? b = some o → sI.heap.get? b = some o ∧ b ≠ s3.heap.objs.size := fun b o e => by
      by_cases z : b = s3.heap.objs.size
      · rw [g2 b (by simp [z])] at e; cases e
      · exact ⟨by rw [← g1 b (by simp [z])]; exact e, z⟩
    have bnone : ∀ b, B.get? b = none → B0.get? b = none := fun b e => by
      cases q : B0.get? b with
      | none => rfl
      | some o => rw [(bsub b o q).1] at e; cases e
    obtain ⟨k1, k2, k3, k4⟩ := held
    have t2 := traced_but (B2 := B0) hn1 sb bnone k4
    have held2 : HandSPX.HeldZ B0 (e0 :: rest) a (Zc cls d) L0 h2 := by
      refine ⟨fun b o e => ?_, bnone a k2, ?_, t2⟩
      · obtain ⟨e1, ne⟩ := bsub b o e
        exact (sb.2 b ne).trans (k1 b o e1)
      · refine funFrames_none (Heap.FunFrames.sameBut sb hn2 k3) fun b hb => ?_
        cases q : B0.get? b with
        | none => rfl
        | some o =>
          have z := (bsub b o q).1
          have hb2 : b ∈ frs (e0 :: rest) := hb
          have := (Heap.FunFrames.mem k3 hb2).1
          rw [this] at z
          cases z
    unfold PySem.passOn
    have held2' := held2
    obtain ⟨_, _, _, oe, vs, T, oT, ts, he, hz, hd, h1', _⟩ := held2'
    refine wpAny_bind (wpAny_field he hd h1' ?_)
    rw [if_neg (show ¬ ((Value.ref T == Value.none) = true) from by simp)]
    have hce : (compEnvC scope cl s3.heap.objs.size X.env).frame = some L0 := hfX
    rw [hce]
    refine wpAny_bind (HandSPX.setFlight_onZ (s := { s2 with heap := h2 }) held2 fun h3 held3 up3 => wpAny_throw ?_)
    refine hA _ _ ⟨a, B0, { sI with heap := G0 }, pins, σ, H, cls, d, L0, rfl, hfX, ?_, fun b o e hb => ?_, fun b o e nf => ?_, .inr (by rw [hst]; exact held3), na, os, ag, hE⟩
    · exact IX.turned (t' := sI.toks) (h' := G0) (it := s3.heap.objs.size) (fun b o ne e => (g1 b (by simp [ne])).trans e) fC.1 fC.2.1 fC.2.2.2.1 fC.2.2.2.2.1 fC.2.2.2.2.2
    · obtain ⟨e1, ne⟩ := gsub b o e
      exact (b1 b (by simp [ne])).trans (nb b o e1 hb)
    · obtain ⟨e1, ne⟩ := gsub b o e
      obtain ⟨sl, e2⟩ := up1 b o e1 nf
      have e3 : h2.get? b = some { o with slots := sl } := (sb.2 b ne).trans e2
      obtain ⟨sl2, e4⟩ := up3 b _ e3 nf
      exact ⟨sl2, e4⟩
  show wpAny _ _ (noteFrame (.ref a) (compEnvC scope cl s3.heap.objs.size X.env)) _ _ s2
  rw [noteFrame_env (cenv := compEnvC scope cl s3.heap.objs.size X.env) (env := e0) _ (hfX.trans hf0.symm)]
  have fly' : HandSPX.FlyingZ B (e0 :: rest) a (Zc cls d) s2.heap ∨ HandSPX.HeldZ B (e0 :: rest) a (Zc cls d) L0 s2.heap := by
    rw [← hst]
    exact fly
  rcases fly' with fl | hh
  · exact HandSPX.looks_onZ Zc.steady hfr hf0 fl fun h1 hh up1 => fin h1 hh (up.trans up1)
  · exact HandSPX.againZ hf0 hh.2.2.2 (fin s2.heap hh up)
/-- the walk of a comprehension whose element may raise -/
theorem lcX_core {Q : VK} {elt tg iter : Expr} {ifs : List Expr} {scope : Scope} {own : List (Str × Nat)} {pos pos2 : Pos} {wi : TI} {g : TG} {tt : TT} {te : TE} {use : Option (Value → Sem Unit)} {Qf : Value → Shared → Prop} (hA : Air X E) (top : Top X) (hc : X.calm = true) (hN : X.N.Nodup) (I : Inv X pins σ H s) (hi : PI X tg iter wi) (ok : BlkOk X.N X.env.scope scope own)
    (hg : ∀ (s : Shared) (H : Hp) (C : Addr) (cl : List (Str × Addr)) (fp : List Addr), PG (blkX X s H scope (compEnvC scope cl C X.env) fp) tg g)
    (ht : ∀ (s : Shared) (H : Hp) (C : Addr) (cl : List (Str × Addr)) (fp : List Addr), PTs (blkX X s H scope (compEnvC scope cl C X.env) fp) ifs tt)
    (he : ∀ (s : Shared) (H : Hp) (C : Addr) (cl : List (Str × Addr)) (fp : List Addr), Air (blkX X s H scope (compEnvC scope cl C X.env) fp) E → Top (blkX X s H scope (compEnvC scope cl C X.env) fp) → PE (blkX X s H scope (compEnvC scope cl C X.env) fp) elt te)
    (hs : ∀ x, foldedSetIterable iter X.env x = pure x) (h : tLc wi g tt te (own.map (·.2)) σ H Q)
    (hRR : ∀ (D C : Addr) (ce : Env) (s2 : Shared) (m : Str → Option Value) (H2 : Hp), ce.locals = C → Inv X pins σ H2 s2 → Q (.ref D) H2 → s2.heap.Ns C m → FpOk X pins H2 C → compEnds (model X.prog X.w) X.A X.xe use Qf (.ref D) ce (.ok .next) s2) :
    wpAny (model X.prog X.w) X.A (comprehension (.ListComp elt [⟨tg, iter, ifs, 0⟩] scope pos) scope X.env pos2 (newList []) false (eval iter X.env) use) Qf X.xe s := by
  have free : ∀ y ∈ scope.names, y.2 = .free → ∃ c, X.env.cells.lookup y.1 = some c := fun y hy e => (ok.free y hy e).elim (fun k => I.ok.has _ (.inl k)) fun k => I.ok.has _ (.inr k)
  refine comprehension_at (use := use) rfl hs (closure_ok free) ok.kind (fun y hy e => (ok.uniq y hy).trans (by rw [e])) (thn (hi.run pins s σ H _ I h) fun xv s1 hx => thn hx fun itv s2 h2 => ?_)
  obtain ⟨it, fp, tn, J, H2, e, I2, T, st2, f2, q⟩ := h2
  subst e
  refine wpAny_newObj_type (newEnv_comp ?_) (by show 0 ≤ sizeLine; decide)
  generalize hD : s2.heap.objs.size = D
  have Dn : H2 D = none := I2.hok.fresh (Nat.le_of_eq hD)
  obtain ⟨W, ⟨m0, w0⟩, turn⟩ := q D Dn
  generalize e3 : ({ s2 with heap := s2.heap.push { cls := .type "list", data := .seq ([] : List Value).toArray } } : Shared) = s3
  have hp3 : s3.heap = s2.heap.push { cls := .type "list", data := .seq ([] : List Value).toArray } := by rw [← e3]
  have I3 : Inv X pins σ (upd H2 D (.lst [])) s3 := by
    rw [← e3]
    exact I2.laid (t' := s2.toks) (fun b o e => Heap.get?_push_of_some _ e) (Nat.le_of_eq hD) ⟨Nat.zero_le _, [], 0, .nil, by rw [← hD]; exact Heap.get?_push_size _ rfl⟩
  have lt2 : ∀ b ∈ fp, b < s2.heap.objs.size := fun b hb => (T.obj _ _ st2 b hb).elim fun o e => Heap.lt_size e.1
  have f3 : ∀ b ∈ fp, FpOk X pins (upd H2 D (.lst [])) b ∧ b < s3.heap.objs.size := fun b hb => by
    refine ⟨⟨?_, (f2 b hb).2⟩, by rw [hp3, Heap.size_push]; exact Nat.lt_succ_of_lt (lt2 b hb)⟩
    rw [upd_ne (by rw [← hD]; exact Nat.ne_of_lt (lt2 b hb))]
    exact (f2 b hb).1
  have st3 : tn 0 s3.heap := T.keep _ _ _ st2 fun b _ o e => by rw [hp3]; exact Heap.get?_push_of_some _ e
  obtain ⟨clx, hclx⟩ : ∃ clx, clx = cellsFrom (s3.heap.objs.size + 1) scope.names (cloFrom X.env.cells scope.names []) := ⟨_, rfl⟩
  have I4' := block_start I3 ok hN f3
  rw [← hclx] at I4'
  have airB := air_blk (scope := scope) (cl := clx) (fp := fp) hA top I3 fun b hb => (f3 b hb).1
  have topB : Top (blkX X s3 (upd H2 D (.lst [])) scope (compEnvC scope clx s3.heap.objs.size X.env) fp) := top
  have pg := hg s3 (upd H2 D (.lst [])) s3.heap.objs.size clx fp
  have pt := ht s3 (upd H2 D (.lst [])) s3.heap.objs.size clx fp
  have pe := he s3 (upd H2 D (.lst [])) s3.heap.objs.size clx fp airB topB
  have I4 := I4'.wish (notedBy (model X.prog X.w) X.A (compEnvC scope clx s3.heap.objs.size X.env) (CompFails (model X.prog X.w) X.A X.xe (compEnvC scope clx s3.heap.objs.size X.env)))
  show codeAny _ _ (.compStart (.ListComp elt [⟨tg, iter, ifs, 0⟩] scope pos) 0 (.ref it) (.ref D) (compEnvC scope (cellsFrom (s3.heap.objs.size + 1) scope.names (cloFrom X.env.cells scope.names [])) s3.heap.objs.size X.env)) (compEnds (model X.prog X.w) X.A X.xe use Qf (.ref D) (compEnvC scope (cellsFrom (s3.heap.objs.size + 1) scope.names (cloFrom X.env.cells scope.names [])) s3.heap.objs.size X.env)) { s3 with heap := pushCells (s3.heap.push { cls := .type "dict", data := .dict #[] }) scope.names }
  rw [← hclx]
  have cL : (compEnvC scope clx s3.heap.objs.size X.env).locals = s3.heap.objs.size := rfl
  generalize compEnvC scope clx s3.heap.objs.size X.env = ce at I4 pg pt pe cL airB ⊢
  have nfp : ∀ b ∈ fp, (upd H2 D (.lst [])) b = none := fun b hb => (f3 b hb).1.1
  generalize upd H2 D (.lst []) = H3 at I3 I4 pg pt pe airB w0 nfp f3
  generalize e4 : ({ s3 with heap := pushCells (s3.heap.push { cls := .type "dict", data := .dict #[] }) scope.names } : Shared) = s4 at I4 ⊢
  have st4 : tn 0 s4.heap := T.keep _ _ _ st3 fun b _ o e => by rw [← e4]; exact pushCells_keeps _ _ _ _ (Heap.get?_push_of_some _ e)
  have fps : ∀ {σ' : L2.St} {H' : Hp} {s' : Shared}, Inv (blkX X s3 H3 scope ce fp) [] σ' H' s' → (∀ b ∈ fp, H' b = none) → ∀ b ∈ fp, FpOk (blkX X s3 H3 scope ce fp) [] H' b := fun {σ' H' s'} J' no b hb =>
    ⟨no b hb, (J'.ok.exf b hb).1, J'.ok.exfs b hb, .inl hb, fun x c e => (J'.ok.exf b hb).2 x c e, fun p hp => absurd (show p ∈ ([] : List (Addr × Obj)) ++ [] from hp) (by simp)⟩
  have loop : codeAny (model X.prog X.w) X.A (.compLoop (.ListComp elt [⟨tg, iter, ifs, 0⟩] scope pos) 0 (.ref it) (.ref D) ce) (compEnds (model X.prog X.w) X.A X.xe use Qf (.ref D) ce) s4 := by
    refine compLoop_any (fun n s5 => ∃ i H5, Inv (blkX X s3 H3 scope ce fp) [] (wipe σ (own.map (·.2))) H5 s5 ∧ tn i s5.heap ∧ (∀ b ∈ fp, H5 b = none) ∧ W i n H5) ?_ m0 ⟨0, H3, I4, st4, nfp, w0⟩
    rintro n s5 ⟨i, H5, I5, st5, n5, w5⟩
    rcases turn i n H5 w5 with ⟨stop, qq⟩ | ⟨go, Nx, hNx, step⟩
    · refine thnF (T.done (blkX X s3 H3 scope ce fp) rfl rfl rfl hc i [] s5 _ H5 (fun _ _ => False) I5 (fps I5 n5) st5 stop) fun r s6 hr6 => ?_
      obtain ⟨rfl, I6⟩ := hr6
      have I7 : Inv X pins σ H5 s6 := I3.call' (ch := fp) I6.os I6.base I6.hok I6.bare fun b hb => ⟨(f3 b hb).1.2.2.2.1, (f3 b hb).1.2.1, (f3 b hb).1.2.2.2.2.1, (f3 b hb).1.2.2.2.2.2⟩
      have z : H5 ce.locals = none := I6.free
      rw [cL] at z
      obtain ⟨m, hn, _⟩ := I6.loc
      have hn : s6.heap.Ns ce.locals m := hn
      rw [cL] at hn
      exact hRR D s3.heap.objs.size ce s6 m H5 cL I7 qq hn (I3.fpOk (Nat.le_refl _) z)
    · refine thnF (T.item (blkX X s3 H3 scope ce fp) rfl rfl rfl hc i [] s5 _ H5 (fun _ _ => False) I5 (fps I5 n5) st5 go) fun r s6 hr6 => ?_
      obtain ⟨u, rfl, h6⟩ := hr6
      refine thnF h6 fun _ s7 h7 => ?_
      obtain ⟨x, H7, I7, r7, y7, st7, n7⟩ := h7
      have I7p := I7.pinned (fps I7 n7) (T.obj _ _ st7)
      refine thn (pg.run _ s7 _ H7 x u _ I7p r7 (step x H7 y7)) fun _ s8 h8 => ?_
      obtain ⟨σ8, H8, I8, hw8, q8⟩ := h8
      refine thn (pt.run _ s8 σ8 H8 _ I8 q8) fun b s9 h9 => ?_
      obtain ⟨H9, I9, q9⟩ := h9
      have fin : ∀ {s' : Shared} {H' : Hp}, Inv (blkX X s3 H3 scope ce fp) ([] ++ pinsAt fp s7.heap) σ8 H' s' → Nx H' → ∃ m, m < n ∧ ∃ i H', Inv (blkX X s3 H3 scope ce fp) [] (wipe σ (own.map (·.2))) H' s' ∧ tn i s'.heap ∧ (∀ b ∈ fp, H' b = none) ∧ W i m H' := fun {s' H'} J' nx => by
        obtain ⟨m', hm, w'⟩ := hNx H' nx
        have pinned : ∀ b ∈ fp, ∀ o, s7.heap.get? b = some o → s'.heap.get? b = some o ∧ H' b = none := fun b hb o e =>
          have z := J'.pin (b, o) (List.mem_append_right _ (List.mem_append_right _ (mem_pinsAt hb e)))
          ⟨z.1, z.2.1⟩
        have len8 : (wipe σ (own.map (·.2))).length = σ8.length := by rw [← hw8, wipe_length]
        refine ⟨m', hm, i + 1, H', (J'.unpinned (pins := [])).weak len8 (fun j v e => by rw [← hw8] at e; exact (wipe_some e).1), T.keep _ _ _ st7 fun b hb o e => (pinned b hb o e).1, fun b hb => ?_, w'⟩
        obtain ⟨o, e, _⟩ := T.obj _ _ st7 b hb
        exact (pinned b hb o e).2
      cases b with
      | false =>
        simp only [Bool.false_eq_true, if_false] at q9 ⊢
        exact fin I9 q9
      | true =>
        simp only [if_true] at q9 ⊢
        refine thn (pe.run _ s9 σ8 H9 _ I9 q9) fun z s10 h10 => ?_
        obtain ⟨yv, H10, I10, r10, acc, hD10, hz10, nx⟩ := h10
        exact app_ok (X := blkX X s3 H3 scope ce fp) I10 hD10 hz10 r10 fun s11 I11 => fin I11 nx
  exact codeAny_compStart_list loop (T.self X.A 0 _ _ _ st4 loop)
theorem pe_lcX {elt tg iter : Expr} {ifs : List Expr} {scope : Scope} {own : List (Str × Nat)} {pos : Pos} {wi : TI} {g : TG} {tt : TT} {te : TE} (hA : Air X E) (top : Top X) (hc : X.calm = true) (hN : X.N.Nodup) (hi : PI X tg iter wi) (ok : BlkOk X.N X.env.scope scope own)
    (hg : ∀ (s : Shared) (H : Hp) (C : Addr) (cl : List (Str × Addr)) (fp : List Addr), PG (blkX X s H scope (compEnvC scope cl C X.env) fp) tg g)
    (ht : ∀ (s : Shared) (H : Hp) (C : Addr) (cl : List (Str × Addr)) (fp : List Addr), PTs (blkX X s H scope (compEnvC scope cl C X.env) fp) ifs tt)
    (he : ∀ (s : Shared) (H : Hp) (C : Addr) (cl : List (Str × Addr)) (fp : List Addr), Air (blkX X s H scope (compEnvC scope cl C X.env) fp) E → Top (blkX X s H scope (compEnvC scope cl C X.env) fp) → PE (blkX X s H scope (compEnvC scope cl C X.env) fp) elt te)
    (hs : ∀ x, foldedSetIterable iter X.env x = pure x := by intro _; rfl) : PE X (.ListComp elt [⟨tg, iter, ifs, 0⟩] scope pos) (tLc wi g tt te (own.map (·.2))) := by
  refine ⟨fun pins s σ H Q I h => ?_⟩
  rw [eval_ListComp]
  refine lcX_core hA top hc hN I hi ok hg ht he hs h fun D C ce s2 m H2 eC I2 q hn f => ?_
  refine ⟨m, by rw [eC]; exact hn, fun h2 sb => ?_⟩
  rw [eC] at sb
  obtain ⟨f0, f1, f2, f3, f4, f5⟩ := f
  exact ⟨.ref D, H2, I2.turned (t' := s2.toks) (fun b o hb e => (sb.2 b hb).trans e) f0 f1 f3 f4 f5, rfl, q⟩
end
end Dt
namespace Dt
open PySem PySem.Spec L2
inductive Rl where
  | ok (ds : List PyData)
  | exc (c : Xc)
abbrev FLX (G : Type) := Ev → M G Rl
section
variable {G : Type}
def Rl.pre (x : PyData) : Rl → Rl
  | .ok l => .ok (x :: l)
  | .exc c => .exc c
def Rl.app (l : List PyData) : Rl → Rl
  | .ok m => .ok (l ++ m)
  | .exc c => .exc c
def lcMX (f : PyData → M G (Option Rd)) : List PyData → M G Rl
  | [] => ret (.ok [])
  | d :: ds => bnd (f d) fun o => match o with
    | some (.exc c) => ret (.exc c)
    | some (.ok x) => bnd (lcMX f ds) fun r => ret (r.pre x)
    | none => lcMX f ds
def lcFX (b : FG G) (tc : FT G) (fe : FEX G) (ρ : Ev) : PyData → M G (Option Rd) := fun d => bnd (b d ρ) fun ρ1 => bnd (tc ρ1) fun t => if t = true then bnd (fe ρ1) fun x => ret (some x) else ret none
def lLCX (vs : List Nat) (q : FL G) (b : FG G) (tc : FT G) (fe : FEX G) : FLX G := fun ρ => if noOwn ρ vs = true then bnd (q ρ) fun ds => if ds.length ≤ lim then lcMX (lcFX b tc fe (wipeE ρ vs)) ds else fail else fail
def tLX (gi : GI G) (K : PySem.W.Frag) (f : FLX G) (E : XK) : TE := fun σ H Q => ∃ en F g ρ x g', R gi K en F H g σ ρ ∧ f ρ g = some (x, g') ∧ match x with
  | .ok ds => ∀ p xs F' H', Same F F' → R gi K en F' H' g' σ ρ → Lone gi en F' H' g' σ ρ p → H' p = some (.lst xs) → DvAll K F' xs ds → Q (.ref p) H'
  | .exc c => ∀ F' H', Same F F' → R gi K en F' H' g' σ ρ → ∀ C d, XcR K gi.cls F' c C d → E (.ref C) d H'
variable {gi : GI G}
theorem tLcX_of {K : PySem.W.Frag} {vs : List Nat} {q : FL G} {bg : FG G} {tc : FT G} {fe : FEX G} {E : XK} {σ : L2.St} {H : Hp} {Q : VK} (hk : Keeps bg vs) (h : tLX gi K (lLCX vs q bg tc fe) E σ H Q) : tLc (tIc gi K vs q) (tG gi K bg vs) (tT gi K tc) (tEX gi K fe E) vs σ H Q := by
  obtain ⟨en, F, g, ρ, rs, g2, r, e2, k⟩ := h
  unfold lLCX at e2
  split at e2
  · rename_i hno
    obtain ⟨ds, g1, e1, e2⟩ := bnd_some e2
    split at e2
    rotate_left
    · cases e2
    rename_i hlim
    refine ⟨en, F, g, ρ, ds, g1, r, e1, fun J F1 H1 s1 r1 wk D hD => ?_⟩
    have l1 := r1.lone_of hD
    have r1w : R gi K en F1 (upd H1 D (.lst [])) g1 (L2.wipe σ vs) (wipeE ρ vs) := (r1.alloc0 hD).wipe vs
    refine ⟨fun i m H => ∃ F2 g3 acc dacc rest, Same F1 F2 ∧ R gi K en F2 H g3 (L2.wipe σ vs) (wipeE ρ vs) ∧ Lone gi en F2 H g3 (L2.wipe σ vs) (wipeE ρ vs) D ∧ H D = some (.lst acc) ∧ DvAll K F2 acc dacc ∧ dacc.length ≤ i ∧ m = ds.length - i ∧ i ≤ ds.length ∧
      lcMX (lcFX bg tc fe (wipeE ρ vs)) (ds.drop i) g3 = some (rest, g2) ∧ rs = rest.app dacc, ⟨ds.length, F1, g1, [], [], rs, Same.refl F1, r1w, ?_, upd_same, .nil, Nat.le_refl _, by simp, Nat.zero_le _, e2, by cases rs <;> rfl⟩, ?_⟩
    · refine ⟨l1.1, l1.2.1, l1.2.2.1, fun i es hi hs => ?_⟩
      obtain ⟨q1, q2⟩ := wipeE_some hi
      rw [wipe_out q2] at hs
      exact l1.2.2.2 i es q1 ((Ows.off (fun b h => upd_ne h) (l1.2.2.2 i es q1) D).mp hs)
    · rintro i m H2 ⟨F2, g3, acc, dacc, rest, s2, r2, l2, hD2, ha, hdl, rfl, hi, e3, hres⟩
      obtain ⟨wstop, wgo⟩ := wk en F2 H2 g3 s2 r2
      rcases Nat.lt_or_ge i ds.length with hlt | hge
      · obtain ⟨go, yld⟩ := wgo i ds[i] (List.getElem?_eq_getElem hlt)
        rw [List.drop_eq_getElem_cons hlt] at e3
        obtain ⟨o, g4, e4, e3⟩ := bnd_some e3
        obtain ⟨ρ6, g6, e6, e4⟩ := bnd_some e4
        obtain ⟨t, g7, e7, e4⟩ := bnd_some e4
        refine .inr ⟨go, fun H' => ∃ F8 g8 acc8 dacc8 rest8, Same F1 F8 ∧ R gi K en F8 H' g8 (L2.wipe σ vs) (wipeE ρ vs) ∧ Lone gi en F8 H' g8 (L2.wipe σ vs) (wipeE ρ vs) D ∧ H' D = some (.lst acc8) ∧ DvAll K F8 acc8 dacc8 ∧ dacc8.length ≤ i + 1 ∧
          lcMX (lcFX bg tc fe (wipeE ρ vs)) (ds.drop (i + 1)) g8 = some (rest8, g2) ∧ rs = rest8.app dacc8, fun H' hN => ?_, fun x H3 y => ?_⟩
        · obtain ⟨F8, g8, acc8, dacc8, rest8, q1, q2, q3, q4, q5, qd, q6, q7⟩ := hN
          exact ⟨ds.length - (i + 1), by omega, F8, g8, acc8, dacc8, rest8, q1, q2, q3, q4, q5, qd, rfl, hlt, q6, q7⟩
        · obtain ⟨_, wgo'⟩ := wk (en.prot D (.lst acc)) F2 H2 g3 s2 (r2.prot l2 hD2)
          obtain ⟨F3, s3, r3, h3⟩ := (wgo' i ds[i] (List.getElem?_eq_getElem hlt)).2 x H3 y
          refine ⟨_, F3, g3, wipeE ρ vs, ds[i], ρ6, g6, r3, h3, e6, fun σ4 F4 H4 s4 hl4 hj4 r4 => ⟨?_, ?_⟩⟩
          · rw [wipe_eq hl4 hj4, wipe_wipe]
          · refine ⟨_, F4, g6, ρ6, t, g7, r4, e7, fun F5 H5 s5 r5 => ?_⟩
            have sF5 : Same F2 F5 := (s3.trans s4).trans s5
            have back : ∀ {F' H' : Hp} {g' : G}, Same F2 F' → R gi K (en.prot D (.lst acc)) F' H' g' σ4 ρ6 → R gi K (en.prot D (.lst acc)) F' H' g' (L2.wipe σ vs) (wipeE ρ vs) := fun {F' H' g'} sF r' => by
              have z := r2.prot l2 hD2
              refine ⟨r'.sub, r'.f0, r'.fz, r'.bs, r'.fnew, r'.am, r'.an, r'.gr, r'.nt, fun j s e => ?_, fun i j s u x e1 e2 e3 e4 => r'.ds i j s u x (by rw [hk _ _ _ _ _ e6 i (wipeE_some e1).2]; exact e1) (by rw [hk _ _ _ _ _ e6 j (wipeE_some e2).2]; exact e2) (by rw [hj4 i (wipeE_some e1).2]; exact e3) (by rw [hj4 j (wipeE_some e2).2]; exact e4), z.len⟩
              have hj := (wipeE_some e).2
              have q := r'.sl j s (by rw [hk _ _ _ _ _ e6 j hj]; exact e)
              rw [hj4 j hj] at q
              exact q
            cases t with
            | false =>
              cases e4
              refine iteF ?_
              obtain ⟨q1, q2, q3, q4, q5⟩ := r2.unprot l2 (back sF5 r5)
              exact ⟨F5, _, acc, dacc, rest, s2.trans sF5, q1, ⟨q2, l2.2.1, q3, q5⟩, q4, dva_mono sF5 ha, by omega, e3, hres⟩
            | true =>
              obtain ⟨z, g8, e8, e4⟩ := bnd_some e4
              cases e4
              refine iteT ?_
              refine ⟨_, F5, g7, ρ6, z, _, r5, e8, fun F6 H6 s6 r6 => ?_⟩
              have sF6 := sF5.trans s6
              obtain ⟨q1, q2, q3, q4, q5⟩ := r2.unprot l2 (back sF6 r6)
              cases z with
              | exc c =>
                cases e3
                cases hres
                exact fun C dd hx => k F6 H6 ((s1.trans s2).trans sF6) (r1.unwipe hno (s2.trans sF6) q1) C dd hx
              | ok z =>
                obtain ⟨rest2, g9, e5, e3⟩ := bnd_some e3
                cases e3
                intro w hw
                have lone6 : Lone gi en F6 H6 _ (L2.wipe σ vs) (wipeE ρ vs) D := ⟨q2, l2.2.1, q3, q5⟩
                have hap : rs = rest2.app (dacc ++ [z]) := by
                  rw [hres]
                  cases rest2 with
                  | ok l => show Rl.ok (dacc ++ z :: l) = .ok ((dacc ++ [z]) ++ l); rw [List.append_assoc]; rfl
                  | exc c => rfl
                refine ⟨acc, q4, lim_lt ?_, F6, _, acc ++ [w], dacc ++ [z], rest2, s2.trans sF6, q1.chg lone6, lone6.keep q2, upd_same, (dva_mono sF6 ha).app (.cons hw .nil), by rw [List.length_append, List.length_singleton]; omega, e5, hap⟩
                rw [ha.len]
                omega
      · have hi' : i = ds.length := by omega
        subst hi'
        rw [List.drop_length] at e3
        cases e3
        have : rs = .ok dacc := by rw [hres]; show Rl.ok (dacc ++ []) = _; rw [List.append_nil]
        subst this
        refine .inl ⟨wstop, ?_⟩
        have r3 := r1.unwipe hno s2 r2
        refine k D acc F2 H2 (s1.trans s2) r3 ⟨l2.1, l2.2.1, l2.2.2.1, fun j es e hs => ?_⟩ hD2 ha
        by_cases hj : j ∈ vs
        · have q := List.all_eq_true.mp hno j hj
          rw [e] at q
          exact isOwn_no (by simpa using q) hs
        · exact l2.2.2.2 j es (by rw [wipeE_out hj]; exact e) (by rw [wipe_out hj]; exact hs)
  · cases e2
end
end Dt
namespace Dt
open PySem PySem.Spec L2
theorem limS {n : Nat} (h : n ≤ lim) : n ≤ sizeLine := lim_ok h
section
variable {G : Type} {gi : GI G} {X : Cx}
/-- str(n) -/
def sStr : PyData → Option PyData
  | .int n => if n.natAbs.log2 < 1920 then some (.str (Str.ofString (toString n))) else none
  | _ => none
theorem sem_str : Sem1C gi X.K (fun xs H Q => ∃ i, xs = [.int i] ∧ i.natAbs.log2 < 1920 ∧ Q (.str (toString i)) H) sStr := fun en F H g σ ρ x dx d Q r hx e k => by
  unfold sStr at e
  split at e
  · split at e
    · cases e
      rw [hx.int]
      exact ⟨_, rfl, by assumption, k _ F H (Same.refl F) r (.str _)⟩
    · cases e
  · cases e
/-- len(text) -/
def sLenS : PyData → Option PyData
  | .str z => if z.length ≤ lim then some (.int z.length) else none
  | _ => none
theorem sem_lenS : Sem1C gi X.K (fun xs H Q => ∃ z, xs = [.str z] ∧ z.length ≤ sizeLine ∧ Q (.int z.length) H) sLenS := fun en F H g σ ρ x dx d Q r hx e k => by
  unfold sLenS at e
  split at e
  · split at e
    · cases e
      rw [hx.str]
      exact ⟨_, rfl, limS (by assumption), k _ F H (Same.refl F) r (.int _)⟩
    · cases e
  · cases e
/-- int(text) -/
def sIntS : PyData → Option PyData
  | .str a => if a.length ≤ 640 then (PySem.intText? a).map .int else none
  | _ => none
theorem sem_intS : Sem1C gi X.K (fun xs H Q => ∃ a n, xs = [.str a] ∧ PySem.intText? a = some n ∧ a.length ≤ 640 ∧ Q (.int n) H) sIntS := fun en F H g σ ρ x dx d Q r hx e k => by
  unfold sIntS at e
  split at e
  · split at e
    · obtain ⟨n, h1, rfl⟩ := Option.map_eq_some_iff.mp e
      rw [hx.str]
      exact ⟨_, n, rfl, h1, by assumption, k _ F H (Same.refl F) r (.int _)⟩
    · cases e
  · cases e
/-- s + t -/
def sAddS : PyData → PyData → Option PyData
  | .str i, .str j => if i.length + j.length ≤ lim then some (.str (i ++ j)) else none
  | _, _ => none
theorem sem_addS : Sem2 gi X.K (fun x y H Q => ∃ i j, x = .str i ∧ y = .str j ∧ i.length + j.length ≤ sizeLine ∧ Q (.str (i ++ j)) H) sAddS := fun en F H g σ ρ x y dx dy d Q r hx hy e k => by
  unfold sAddS at e
  split at e
  · split at e
    · cases e
      rw [hx.str, hy.str]
      exact ⟨_, _, rfl, rfl, limS (by assumption), k _ F H (Same.refl F) r (.str _)⟩
    · cases e
  · cases e
/-- s[i] -/
def sIxS : PyData → PyData → Option PyData
  | .str z, .int i => if z.length ≤ lim then (atI z.cps.toList i).map fun c => .str ⟨#[c]⟩ else none
  | _, _ => none
theorem sem_ixS : Sem2 gi X.K rIxS sIxS := fun en F H g σ ρ x y dx dy d Q r hx hy e k => by
  unfold sIxS at e
  split at e
  · split at e
    · obtain ⟨c, h1, rfl⟩ := Option.map_eq_some_iff.mp e
      rw [hx.str, hy.int]
      exact ⟨_, _, c, rfl, rfl, limS (by assumption), h1, k _ F H (Same.refl F) r (.str _)⟩
    · cases e
  · cases e
/-- c in s, c one sign -/
def sInS : PyData → PyData → Option PyData
  | .str x, .str z => match x.cps.toList with
    | [c] => some (.bool (decide (c ∈ z.cps.toList)))
    | _ => none
  | _, _ => none
theorem one_sign {x : Str} {c : Nat} (h : x.cps.toList = [c]) : x = ⟨#[c]⟩ := by
  obtain ⟨a⟩ := x
  congr 1
  exact Array.toList_inj.mp h
theorem sem_inS : Sem2 gi X.K (fun x y H Q => ∃ (c : Nat) (z : Str), x = .str ⟨#[c]⟩ ∧ y = .str z ∧ Q (.bl (decide (c ∈ z.cps.toList))) H) sInS := fun en F H g σ ρ x y dx dy d Q r hx hy e k => by
  unfold sInS at e
  split at e
  · split at e
    · rename_i c hc
      cases e
      rw [hx.str, hy.str, one_sign hc]
      exact ⟨c, _, rfl, rfl, k _ F H (Same.refl F) r (.bl _)⟩
    · cases e
  · cases e
/-- s[lo:hi] -/
def sCutS (d : PyData) (lo hi : Option Int) : Option PyData := match d with
  | .str z => if z.length ≤ lim then some (.str (Txt.slice z lo hi)) else none
  | _ => none
def eCutS (fa : FE G) (fl fh : FO G) : FE G := fun ρ => bnd (fa ρ) fun x => bnd (fl ρ) fun l => bnd (fh ρ) fun h => lft (sCutS x l h)
theorem de_cutS {e : Expr} {lo hi : Option Expr} {p2 pos : Pos} {fa : FE G} {fl fh : FO G} (he : PE X e (tQ gi X.K fa)) (hl : PO X lo (tO gi X.K fl)) (hu : PO X hi (tO gi X.K fh)) : PE X (.Subscript e (.Slice lo hi none p2) pos) (tE gi X.K (eCutS fa fl fh)) :=
  PE_weak (pe_slice C8.sl_txt he hl hu) fun σ H Q ⟨en, F, g, ρ, d, g', r0, e, k⟩ => by
    obtain ⟨x, g1, e1, e⟩ := bnd_some e
    obtain ⟨l, g2, e2, e⟩ := bnd_some e
    obtain ⟨h, g3, e3, e⟩ := bnd_some e
    obtain ⟨e4, rfl⟩ := lft_inv e
    refine ⟨en, F, g, ρ, x, g1, r0, e1, fun v F1 H1 s1 r1 h1 => ⟨en, F1, g1, ρ, l, g2, r1, e2, fun F2 H2 s2 r2 => ⟨en, F2, g2, ρ, h, g3, r2, e3, fun F3 H3 s3 r3 => ?_⟩⟩⟩
    unfold sCutS at e4
    split at e4
    · split at e4
      · cases e4
        rw [h1.str]
        exact ⟨_, rfl, limS (by assumption), k _ F3 H3 ((s1.trans s2).trans s3) r3 (.str _)⟩
      · cases e4
    · cases e4
def strsL : List PyData → Option (List Str)
  | [] => some []
  | .str x :: ds => (strsL ds).map (x :: ·)
  | _ => none
theorem strsL_dv {K : PySem.W.Frag} {F : Hp} : ∀ {vs : List V} {ds : List PyData} {ys : List Str}, DvAll K F vs ds → strsL ds = some ys → vs = ys.map V.str
  | _, _, _, .nil, h => by cases h; rfl
  | _, d :: ds, ys, .cons h t, e => by
    cases d with
    | str x =>
      obtain ⟨zs, h1, rfl⟩ := Option.map_eq_some_iff.mp (show (strsL ds).map (x :: ·) = some ys from e)
      cases h
      rw [strsL_dv t h1]
      rfl
    | _ => cases e
def sJoin : PyData → PyData → Option PyData
  | .str a, .list ds => (strsL ds).bind fun ys => if (ys.map (·.length)).sum + ys.length * a.length ≤ 16777216 then some (.str (Txt.join a ys)) else none
  | _, _ => none
def sStarts : PyData → PyData → Option PyData
  | .str a, .str b => some (.bool (Txt.startswith a b))
  | _, _ => none
def lSplit : PyData → PyData → Option (List PyData)
  | .str a, .str b => if (b.length == 0) = false ∧ a.length + 2 ≤ lim then some ((Txt.split a b).map .str) else none
  | _, _ => none
theorem dva_strs {K : PySem.W.Frag} {F : Hp} : ∀ ys : List Str, DvAll K F (ys.map V.str) (ys.map PyData.str)
  | [] => .nil
  | y :: ys => .cons (.str y) (dva_strs ys)
variable {o b : Expr} {apos pos : Pos} {fa fb : FE G}
theorem de_join (ho : PE X o (tQ gi X.K fa)) (hb : PE X b (tQ gi X.K fb)) (hs : starEach [b] X.env = [(false, eval b X.env)] := by rfl) (hbase : attributeBase o "join" X.env (eval o X.env) = eval o X.env := by rfl) (hline : (apos.endLine == pos.line) = true := by rfl) :
    PE X (.Call (.Attribute o "join" apos) [b] [] pos) (tE gi X.K (e2 sJoin fa fb)) := PE_weak (pe_join ho hb hs hbase hline) fun σ H Q ⟨en, F, g, ρ, d, g', r0, e, k⟩ => by
  obtain ⟨x, g1, e1, e⟩ := bnd_some e
  obtain ⟨y, g2, e2, e⟩ := bnd_some e
  obtain ⟨e3, rfl⟩ := lft_inv e
  unfold sJoin at e3
  split at e3
  · obtain ⟨ys, h1, h2⟩ := Option.bind_eq_some_iff.mp e3
    split at h2
    · cases h2
      refine ⟨en, F, g, ρ, _, g1, r0, e1, fun v F1 H1 s1 r1 hv => ⟨⟨_, hv.str⟩, en, F1, g1, ρ, _, _, r1, e2, fun w F2 H2 s2 r2 hw => ?_⟩⟩
      obtain ⟨p, us, rfl, hh, ha⟩ := hw.lst r2
      exact ⟨_, p, ys, hv.str, rfl, .inl (.inl (.inl (by rw [hh, strsL_dv ha h1]))), by assumption, k _ F2 H2 (s1.trans s2) r2 (.str _)⟩
    · cases h2
  · cases e3
theorem de_starts (ho : PE X o (tQ gi X.K fa)) (hb : PE X b (tQ gi X.K fb)) (hs : starEach [b] X.env = [(false, eval b X.env)] := by rfl) (hbase : attributeBase o "startswith" X.env (eval o X.env) = eval o X.env := by rfl) (hline : (apos.endLine == pos.line) = true := by rfl) :
    PE X (.Call (.Attribute o "startswith" apos) [b] [] pos) (tE gi X.K (e2 sStarts fa fb)) := PE_weak (pe_m1 PySem.F.slot_str_startswith PySem.F.type_str_startswith mt_startswith ho hb hs hbase hline) fun σ H Q ⟨en, F, g, ρ, d, g', r0, e, k⟩ => by
  obtain ⟨x, g1, e1, e⟩ := bnd_some e
  obtain ⟨y, g2, e2, e⟩ := bnd_some e
  obtain ⟨e3, rfl⟩ := lft_inv e
  unfold sStarts at e3
  split at e3
  · cases e3
    exact ⟨en, F, g, ρ, _, g1, r0, e1, fun v F1 H1 s1 r1 hv => ⟨⟨_, hv.str⟩, en, F1, g1, ρ, _, _, r1, e2, fun w F2 H2 s2 r2 hw => ⟨_, _, hv.str, by rw [hw.str], k _ F2 H2 (s1.trans s2) r2 (.bl _)⟩⟩⟩
  · cases e3
theorem dl_split (ho : PE X o (tQ gi X.K fa)) (hb : PE X b (tQ gi X.K fb)) (hs : starEach [b] X.env = [(false, eval b X.env)] := by rfl) (hbase : attributeBase o "split" X.env (eval o X.env) = eval o X.env := by rfl) (hline : (apos.endLine == pos.line) = true := by rfl) :
    PE X (.Call (.Attribute o "split" apos) [b] [] pos) (tL gi X.K (l2 lSplit fa fb)) := PE_weak (pe_split ho hb hs hbase hline) fun σ H Q ⟨en, F, g, ρ, d, g', r0, e, k⟩ => by
  obtain ⟨x, g1, e1, e⟩ := bnd_some e
  obtain ⟨y, g2, e2, e⟩ := bnd_some e
  obtain ⟨e3, rfl⟩ := lft_inv e
  unfold lSplit at e3
  split at e3
  · split at e3
    · rename_i hc
      cases e3
      exact ⟨en, F, g, ρ, _, g1, r0, e1, fun v F1 H1 s1 r1 hv => ⟨⟨_, hv.str⟩, en, F1, g1, ρ, _, _, r1, e2, fun w F2 H2 s2 r2 hw => ⟨_, _, hv.str, by rw [hw.str], hc.1, limS hc.2, new_l r2 (dva_strs _) fun p xs F' H' s' => k p xs F' H' ((s1.trans s2).trans s')⟩⟩⟩
    · cases e3
  · cases e3
def signsL : PyData → Option (List PyData)
  | .str x => some (x.cps.toList.map fun c => .str ⟨#[c]⟩)
  | _ => none
def iStrD (fa : FE G) : FL G := fun ρ => bnd (fa ρ) fun x => lft (signsL x)
theorem wk_str (K : PySem.W.Frag) (F : Hp) (x : Str) (σ : L2.St) (ρ : Ev) : Wk gi K (Its x) F σ ρ (x.cps.toList.map fun c => .str ⟨#[c]⟩) := fun en F' H' g s r => by
  refine ⟨by rw [List.length_map, Array.length_toList]; exact Nat.le_refl _, fun i d e => ?_⟩
  rw [List.getElem?_map, Array.getElem?_toList] at e
  obtain ⟨c, h1, rfl⟩ := Option.map_eq_some_iff.mp e
  obtain ⟨h2, _⟩ := Array.getElem?_eq_some_iff.mp h1
  refine ⟨h2, fun v H2 y => ?_⟩
  obtain ⟨rfl, c', h3, rfl⟩ := y
  rw [h1] at h3
  cases h3
  exact ⟨F', Same.refl F', r, .str _⟩
theorem di_str {e tg : Expr} {fe : FE G} (h : PE X e (tQ gi X.K fe)) : PI X tg e (tI gi X.K (iStrD fe)) := PI_weak (pi_str h) fun σ H Rk ⟨en, F, g, ρ, ds, g', r, e, k⟩ => by
  obtain ⟨x, g1, e1, e⟩ := bnd_some e
  obtain ⟨e3, rfl⟩ := lft_inv e
  unfold signsL at e3
  split at e3
  · cases e3
    exact ⟨en, F, g, ρ, _, g1, r, e1, fun v F1 H1 s1 r1 hv => ⟨_, hv.str, k _ F1 H1 s1 r1 fun σ ρ => wk_str X.K F1 _ σ ρ⟩⟩
  · cases e3
end
end Dt
namespace Dt
open PySem PySem.Spec L2
section
variable {G : Type} {gi : GI G} {X : Cx} {E : XK} {k n : Nat} {f : Addr} {fd : FuncData} {ps : List Str} {fn : List Ar → M G Rx} {x : Str} {e : Expr} {es : List Expr} {p pos : Pos} {ga : FA G}
theorem air_passes (hA : Air X E) (top : Top X) : ∀ (pins : List (Addr × Obj)) (σ : L2.St) (H : Hp) (s : Shared) (e : Value) (s' : Shared), Inv X pins σ H s → L2.CX X.prog X.w X.stack H s E e s' → X.xe e s' := fun pins σ H s e s' I c => by
  obtain ⟨e0, rest, L, h1, h2, h3⟩ := top
  exact hA e s' (XF.of_call h3 I c)
/-- a call that may raise, where exceptions are in the air -/
theorem de_callXA (hA : Air X E) (top : Top X) (F : FnOk X.prog X.w X.K X.mg X.base (L2.CX X.prog X.w) k f fd ps (SpX gi X.K n fn)) (hr : Room k X.A) (hg : Gl X x) (hm : X.mg x = some (.ref f)) (hk : PySem.W.keepIn X.K (.ref f) = true) (hb : Binds X.K fd ps [])
    (ha : PA X (e :: es) (tA gi X.K ga)) (hdb : (x == ("__debug__" : Str)) = false := by decide) (he : starEach (e :: es) X.env = (false, eval e X.env) :: starEach es X.env := by rfl) (hpl : (backTo pos (starEach es X.env)).any (·.1) = false := by rfl) :
    PE X (.Call (.Name x p) (e :: es) [] pos) (tEX gi X.K (eCallX n fn ga) E) :=
  PE_weak (pe_call F hr hg hm hk hb .nil (air_passes hA top) ha hdb he hpl) fun σ H Q ⟨en, Fz, g, ρ, d, g', r0, q, kk⟩ => by
    obtain ⟨as, g1, e1, q⟩ := bnd_some q
    split at q
    · rename_i hl
      obtain ⟨rt, g2, e2, q⟩ := bnd_some q
      obtain ⟨e3, rfl⟩ := lft_inv q
      exact ⟨en, Fz, g, ρ, as, g1, r0, e1, fun vs F1 H1 s1 r1 h1 => by
        show SpX gi X.K n fn (vs ++ []) H1 Q E
        rw [List.append_nil]
        exact call_x r1 h1 (by rw [h1.len]; exact hl) e2 e3 fun F' H' s' r' => kk F' H' (s1.trans s') r'⟩
    · cases q
/-- a comprehension that may raise -/
theorem dl_lcX {elt iter tg : Expr} {ifs : List Expr} {scope : Scope} {own : List (Str × Nat)} {vs : List Nat} {q : FL G} {bg : FG G} {tc : FT G} {fe : FEX G} (hA : Air X E) (top : Top X) (hc : X.calm = true) (hN : X.N.Nodup) (hi : PI X tg iter (tIc gi X.K vs q)) (ok : BlkOk X.N X.env.scope scope own) (hv : own.map (·.2) = vs) (hk : Keeps bg vs)
    (hg : ∀ (s : Shared) (H : Hp) (C : Addr) (cl : List (Str × Addr)) (fp : List Addr), PG (blkX X s H scope (compEnvC scope cl C X.env) fp) tg (tG gi X.K bg vs)) (ht : ∀ (s : Shared) (H : Hp) (C : Addr) (cl : List (Str × Addr)) (fp : List Addr), PTs (blkX X s H scope (compEnvC scope cl C X.env) fp) ifs (tT gi X.K tc))
    (he : ∀ (s : Shared) (H : Hp) (C : Addr) (cl : List (Str × Addr)) (fp : List Addr), Air (blkX X s H scope (compEnvC scope cl C X.env) fp) E → Top (blkX X s H scope (compEnvC scope cl C X.env) fp) → PE (blkX X s H scope (compEnvC scope cl C X.env) fp) elt (tEX gi X.K fe E)) (hs : ∀ x, foldedSetIterable iter X.env x = pure x := by intro _; rfl) :
    PE X (.ListComp elt [⟨tg, iter, ifs, 0⟩] scope pos) (tLX gi X.K (lLCX vs q bg tc fe) E) := by
  subst hv
  exact PE_weak (pe_lcX hA top hc hN hi ok hg ht he hs) fun _ _ _ h => tLcX_of hk h
/-- tuple([..]) that may raise -/
def tupM (r : Rl) : M G Rd := match r with
  | .ok ds => lft ((sTuple (.list ds)).map .ok)
  | .exc c => ret (.exc c)
def eTupX (f : FLX G) : FEX G := fun ρ => bnd (f ρ) tupM
theorem de_tupX {a : Expr} {fx : FLX G} (hg : Gl X "tuple") (hm : X.mg "tuple" = none) (hv : bootBuiltins "tuple" = some (.type "tuple")) (ha : PE X a (tLX gi X.K fx E)) (he : starEach [a] X.env = (false, eval a X.env) :: starEach [] X.env := by rfl) :
    PE X (.Call (.Name "tuple" p) [a] [] pos) (tEX gi X.K (eTupX fx) E) :=
  PE_weak (pe_callTy call_tupleS hg hm hv (pa_cons ha pa_nil he) (by decide) (by decide) he rfl) fun σ H Q ⟨en, F, g, ρ, x, g', r, e, kk⟩ => by
    obtain ⟨y, g1, e1, e⟩ := bnd_some e
    refine ⟨en, F, g, ρ, y, g1, r, e1, ?_⟩
    cases y with
    | exc c => cases e; exact fun F' H' s' r' => kk F' H' s' r'
    | ok ds =>
      obtain ⟨e3, rfl⟩ := lft_inv e
      obtain ⟨d, h1, rfl⟩ := Option.map_eq_some_iff.mp e3
      intro q xs F1 H1 s1 r1 lo hq hx
      have sF : Same F1 (upd F1 q (.lst xs)) := same_upd lo.1
      exact sem_tuple en _ H1 _ σ ρ (.ref q) (.list ds) d Q (r1.freeze lo hq) (.inl (.lst upd_same (dva_mono sF hx))) h1 fun v F2 H2 s2 r2 hv => kk F2 H2 ((s1.trans sF).trans s2) r2 v hv
end
end Dt
namespace Dt
open PySem PySem.Spec L2
def kb_read_laying_1_text_g {α : Type} (us ws : List α) : List α := match us, ws with
  | [u0], [w0] => [u0, w0]
  | _, _ => []
/-- k33_box_texts -/
noncomputable def m_number_of : FXc Tw :=
  (xSeq (xEmb (sSet 1 (eIf (fTru (e2 sStarts (eVarQ 0) (eC (.str "-")))) (eCutS (eVarQ 0) (oSome (eC (.int 1))) oNone) (eVar 0))))
  (xSeq (xIf (fOr (fNot (fB (eCh sLe sLe (eC (.int 1)) (e1 sLenS (eVarQ 1)) (eC (.int 4))))) (fNot (fTru (e1 sAll (eFz (lLC [2] (iStrD (eVarQ 1)) (bName 2) fYes (e2 sInS (eVarQ 2) (eC (.str "0123456789"))))))))) (xRaise "NoText") (xEmb sNext))
  (xEmb (sRet (eIf (fB (e2 sEq (eVarQ 1) (eVarQ 0))) (e1 sIntS (eVarQ 1)) (e1 sNeg (e1 sIntS (eVarQ 1))))))))
noncomputable def f_number_of_x : List Ar → M Tw Rx := runDefX 3 m_number_of
end Dt
namespace Dt
open PySem PySem.Spec L2 SX
abbrev sp (c : Nat) (a : List Nat) : List (List Nat) := TL.spl [c] 0 [] a
theorem sp_hit (c : Nat) (acc r : List Nat) : TL.spl [c] 0 acc (c :: r) = acc :: TL.spl [c] 0 [] r := TL.spl_hit (by unfold TL.pre; simp)
theorem sp_miss {c d : Nat} (h : d ≠ c) (acc r : List Nat) : TL.spl [c] 0 acc (d :: r) = TL.spl [c] 0 (acc ++ [d]) r := TL.spl_miss (by unfold TL.pre; simp [h])
theorem sp_ne (c : Nat) : ∀ (a acc : List Nat), TL.spl [c] 0 acc a ≠ []
  | [], acc => by rw [TL.spl_nil]; exact List.cons_ne_nil _ _
  | d :: r, acc => by
    by_cases h : d = c
    · subst h; rw [sp_hit]; exact List.cons_ne_nil _ _
    · rw [sp_miss h]; exact sp_ne c r _
theorem join_cons (c : Nat) (p : List Nat) : ∀ {l : List (List Nat)}, l ≠ [] → TL.joinL [c] (p :: l) = p ++ c :: TL.joinL [c] l
  | [], h => absurd rfl h
  | q :: r, _ => rfl
theorem join_sp (c : Nat) : ∀ (a acc : List Nat), TL.joinL [c] (TL.spl [c] 0 acc a) = acc ++ a
  | [], acc => by rw [TL.spl_nil, List.append_nil]; rfl
  | d :: r, acc => by
    by_cases h : d = c
    · subst h
      rw [sp_hit, join_cons _ _ (sp_ne _ _ _), join_sp d r []]
      rfl
    · rw [sp_miss h, join_sp c r (acc ++ [d]), List.append_assoc]
      rfl
theorem sp_len (c : Nat) : ∀ (a acc : List Nat), (TL.spl [c] 0 acc a).length ≤ a.length + 1
  | [], acc => by rw [TL.spl_nil]; exact Nat.le_refl _
  | d :: r, acc => by
    by_cases h : d = c
    · subst h
      rw [sp_hit, List.length_cons, List.length_cons]
      have := sp_len d r []
      omega
    · rw [sp_miss h, List.length_cons]
      have := sp_len c r (acc ++ [d])
      omega
theorem sp_mem (c : Nat) : ∀ (a acc : List Nat) {p : List Nat}, p ∈ TL.spl [c] 0 acc a → p.length ≤ acc.length + a.length ∧ ∀ z ∈ p, z ∈ acc ∨ z ∈ a
  | [], acc, p, h => by
    rw [TL.spl_nil] at h
    cases List.mem_singleton.mp h
    exact ⟨Nat.le_refl _, fun z hz => .inl hz⟩
  | d :: r, acc, p, h => by
    by_cases hc : d = c
    · subst hc
      rw [sp_hit] at h
      rcases List.mem_cons.mp h with rfl | h
      · exact ⟨Nat.le_add_right _ _, fun z hz => .inl hz⟩
      · obtain ⟨h1, h2⟩ := sp_mem d r [] h
        rw [List.length_nil] at h1
        rw [List.length_cons]
        refine ⟨by omega, fun z hz => .inr ?_⟩
        rcases h2 z hz with h3 | h3
        · cases h3
        · exact List.mem_cons_of_mem _ h3
    · rw [sp_miss hc] at h
      obtain ⟨h1, h2⟩ := sp_mem c r _ h
      rw [List.length_append, List.length_cons, List.length_nil] at h1
      rw [List.length_cons]
      refine ⟨by omega, fun z hz => ?_⟩
      rcases h2 z hz with h3 | h3
      · rcases List.mem_append.mp h3 with h3 | h3
        · exact .inl h3
        · cases List.mem_singleton.mp h3; exact .inr (List.mem_cons_self ..)
      · exact .inr (List.mem_cons_of_mem _ h3)
structure Tx (n : Nat) (a : List Nat) : Prop where
  asc : ∀ c ∈ a, c < 128
  len : a.length ≤ n
theorem Tx.mono {m n : Nat} {a : List Nat} (h : Tx m a) (e : m ≤ n) : Tx n a := ⟨h.asc, Nat.le_trans h.len e⟩
theorem Tx.part {n c : Nat} {a p : List Nat} (h : Tx n a) (hp : p ∈ sp c a) : Tx n p := by
  obtain ⟨h1, h2⟩ := sp_mem c a [] hp
  rw [List.length_nil] at h1
  refine ⟨fun z hz => ?_, Nat.le_trans (by omega) h.len⟩
  rcases h2 z hz with h3 | h3
  · cases h3
  · exact h.asc z h3
theorem Tx.parts {n c : Nat} {a : List Nat} (h : Tx n a) : (sp c a).length ≤ n + 1 := Nat.le_trans (sp_len c a []) (by have := h.len; omega)
theorem strOk_asc {a : List Nat} (h : ∀ c ∈ a, c < 128) : (PyData.str (S a)).canLay0 = true := by
  show (S a).cps.all (· < 0x110000) = true
  rw [← Array.all_toList, List.all_eq_true]
  intro c hc
  have := h c hc
  exact decide_eq_true (by omega)
theorem sh_str {a : List Nat} (h : ∀ c ∈ a, c < 128) : Sh 0 (.str (S a)) := ⟨strOk_asc h, Nat.le_refl _⟩
theorem sNe_str {x y : List Nat} (h1 : ∀ c ∈ x, c < 128) (h2 : ∀ c ∈ y, c < 128) : sNe (.str (S x)) (.str (S y)) = some (.bool (!decide (x = y))) := by
  unfold sNe
  rw [if_pos ⟨(sh_str h1).shp (by decide), (sh_str h2).shp (by decide)⟩, eqv_str]
  congr 3
  by_cases h : x = y
  · subst h; simp
  · rw [decide_eq_false h, decide_eq_false fun e => h (S_inj e)]
theorem sEq_str2 {x y : List Nat} (h1 : ∀ c ∈ x, c < 128) (h2 : ∀ c ∈ y, c < 128) : sEq (.str (S x)) (.str (S y)) = some (.bool (decide (x = y))) := by
  rw [sEq_str ((sh_str h1).shp (by decide)) ((sh_str h2).shp (by decide))]
  congr 2
  by_cases h : x = y
  · subst h; simp
  · rw [decide_eq_false h, decide_eq_false fun e => h (S_inj e)]
def eT (e : Int) : List Nat := if e < 0 then [45, 48 + e.natAbs] else [48 + e.natAbs]
def figs (w : List Nat) : List Nat := if w.head? = some 45 then w.drop 1 else w
def dgB (c : Nat) : Bool := decide (48 ≤ c) && decide (c ≤ 57)
def numB (w : List Nat) : Bool := decide (1 ≤ (figs w).length ∧ (figs w).length ≤ 4) && (figs w).all dgB
def nv (w : List Nat) : Int := if figs w = w then (NumText.digitsVal (figs w) : Int) else -(NumText.digitsVal (figs w) : Int)
theorem join_chr {c : Nat} {P : Nat → Prop} (hc : P c) : ∀ {l : List (List Nat)}, (∀ p ∈ l, ∀ z ∈ p, P z) → ∀ z ∈ TL.joinL [c] l, P z
  | [], _, z, hz => nomatch hz
  | [p], h, z, hz => h p (List.mem_singleton.mpr rfl) z hz
  | p :: q :: r, h, z, hz => by
    rw [join_cons c p (List.cons_ne_nil q r)] at hz
    rcases List.mem_append.mp hz with hz | hz
    · exact h p (List.mem_cons_self ..) z hz
    · rcases List.mem_cons.mp hz with rfl | hz
      · exact hc
      · exact join_chr hc (fun p hp => h p (List.mem_cons_of_mem _ hp)) z hz
theorem join_len {c n : Nat} : ∀ {l : List (List Nat)}, (∀ p ∈ l, p.length ≤ n) → (TL.joinL [c] l).length ≤ l.length * (n + 1)
  | [], _ => Nat.zero_le _
  | [p], h => by
    have := h p (List.mem_singleton.mpr rfl)
    show p.length ≤ 1 * (n + 1)
    omega
  | p :: q :: r, h => by
    rw [join_cons c p (List.cons_ne_nil q r), List.length_append, List.length_cons, List.length_cons, Nat.succ_mul]
    have h1 := h p (List.mem_cons_self ..)
    have h2 := join_len (c := c) fun p hp => h p (List.mem_cons_of_mem _ hp)
    omega
end Dt
namespace Dt
open PySem PySem.Spec L2
section
variable {n w : Nat} {ps : List Pc} {rs : List (List (Nat × Nat))}
/-- without fault -/
def Good (h w : Nat) (E : Nat → Nat → Int → Int) : Prop := ∀ a b, a < h → b < w → wd h w E a b = none
end
end Dt
namespace Dt
open PySem PySem.Spec L2
section
variable {n w : Nat} {ps : List Pc} {rs : List (List (Nat × Nat))}
def turnE (q : Nat × Nat) : Nat × Nat := (q.1, (q.2 + 1) % 4)
def tlRow (rs : List (List (Nat × Nat))) (b : Nat) : List (Nat × Nat) := rs.reverse.map fun r => turnE (r.getD b (0, 0))
def tl (w : Nat) (rs : List (List (Nat × Nat))) : List (List (Nat × Nat)) := (List.range w).map (tlRow rs)
end
end Dt
namespace Dt
open PySem PySem.Spec L2
def EOk (e : Int) : Prop := e ≠ 0 ∧ -9 ≤ e ∧ e ≤ 9
def tupI (r : List Int) : PyData := .tuple (r.map .int)
structure Sm (h w : Nat) (R D : List (List Int)) : Prop where
  lenR : R.length = h
  rowR : ∀ r ∈ R, r.length = w - 1
  lenD : D.length = h - 1
  rowD : ∀ r ∈ D, r.length = w
  valR : ∀ r ∈ R, ∀ e ∈ r, EOk e
  valD : ∀ r ∈ D, ∀ e ∈ r, EOk e
end Dt
namespace Dt
open PySem PySem.Spec L2
def gI (X : List (List Int)) (a b : Nat) : Int := (X.getD a []).getD b 0
end Dt
namespace Dt
open PySem PySem.Spec L2
end Dt
namespace Dt
open PySem PySem.Spec L2
end Dt
namespace Dt
open PySem PySem.Spec L2
def gw (n : Nat) (G : List (Nat × Nat) → Nat × Nat → Bool) : Nat → List (Nat × Nat) → List (List (Nat × Nat))
  | 0, es => [es]
  | k + 1, es => (List.range n).flatMap fun m => if m ∈ es.map (·.1) then [] else (List.range 4).flatMap fun t => if G es (m, t) = true then gw n G k (es ++ [(m, t)]) else []
/-- distinct numbers below n -/
structure Nb (n : Nat) (es : List (Nat × Nat)) : Prop where
  nd : (es.map (·.1)).Nodup
  lt : ∀ q ∈ es, q.1 < n ∧ q.2 < 4
theorem Nb.free {n : Nat} {es : List (Nat × Nat)} (h : Nb n es) : ((List.range n).filter fun m => !decide (m ∈ es.map (·.1))).length = n - es.length := by
  have e1 : ((List.range n).filter fun m => decide (m ∈ es.map (·.1))).Perm (es.map (·.1)) := by
    refine (List.perm_ext_iff_of_nodup (List.nodup_range.filter _) h.nd).mpr fun x => ?_
    rw [List.mem_filter, List.mem_range, decide_eq_true_eq]
    constructor
    · exact fun z => z.2
    · intro z
      obtain ⟨q, hq, rfl⟩ := List.mem_map.mp z
      exact ⟨(h.lt q hq).1, z⟩
  have e2 := e1.length_eq
  rw [List.length_map] at e2
  have e3 := List.length_eq_countP_add_countP (l := List.range n) (fun m => decide (m ∈ es.map (·.1)))
  rw [List.length_range, List.countP_eq_length_filter, List.countP_eq_length_filter, e2] at e3
  have e4 : ((List.range n).filter fun a => decide ¬(decide (a ∈ es.map (·.1)) = true)) = (List.range n).filter fun m => !decide (m ∈ es.map (·.1)) := by
    congr 1
    funext a
    simp
  rw [e4] at e3
  omega
theorem Nb.snoc {n : Nat} {es : List (Nat × Nat)} (h : Nb n es) {m t : Nat} (hm : m < n) (ht : t < 4) (hn : m ∉ es.map (·.1)) : Nb n (es ++ [(m, t)]) := by
  refine ⟨?_, fun q hq => ?_⟩
  · rw [List.map_append, List.nodup_append]
    refine ⟨h.nd, by simp, fun x hx y hy => ?_⟩
    simp at hy
    subst hy
    rintro rfl
    exact hn hx
  · rcases List.mem_append.mp hq with h' | h'
    · exact h.lt q h'
    · rw [List.mem_singleton.mp h']; exact ⟨hm, ht⟩
theorem Nb.nil (n : Nat) : Nb n [] := ⟨by simp, fun q hq => nomatch hq⟩
end Dt
namespace Dt
open PySem PySem.Spec L2
end Dt
namespace Dt
open PySem PySem.Spec L2
end Dt
namespace Dt
open PySem PySem.Spec L2
end Dt
namespace Dt
open PySem PySem.Spec L2
/-- a way -/
structure Wy (ps : List Pc) (w : Nat) (rs : List (List (Nat × Nat))) : Prop where
  ly : Ly ps.length w rs
  full : rs.length * w = ps.length
  good : Good rs.length w (ed ps rs)
end Dt
namespace Dt
open PySem PySem.Spec L2
inductive Mv where
  | swap (a b : Nat)
  | turn (a t : Nat)
def psn (x : List (Nat × Nat)) (m : Nat) : Nat := x.findIdx fun e => decide (e.1 = m)
theorem getD_el {x : List (Nat × Nat)} {i : Nat} (h : i < x.length) : x.getD i (0, 0) = x[i] := by rw [List.getD_eq_getElem?_getD, List.getElem?_eq_getElem h]; rfl
section
variable {n : Nat} {x y : List (Nat × Nat)}
theorem Ord.inj (h : Ord n x) {i j : Nat} (hi : i < n) (hj : j < n) (e : (x.getD i (0, 0)).1 = (x.getD j (0, 0)).1) : i = j := by
  have nd : (x.map (·.1)).Nodup := h.perm.nodup_iff.mpr List.nodup_range
  have li : i < x.length := by rw [h.len]; exact hi
  have lj : j < x.length := by rw [h.len]; exact hj
  rw [getD_el li, getD_el lj] at e
  have := (List.getElem_inj (xs := x.map (·.1)) (i := i) (j := j) (h₀ := by simpa using li) (h₁ := by simpa using lj) nd).mp (by simpa using e)
  exact this
def rel (y x : List (Nat × Nat)) : List Nat := x.map fun e => psn y e.1
end
end Dt
namespace Dt
open PySem PySem.Spec L2
theorem sMin2_i (i j : Int) : sMin2 (.int i) (.int j) = some (.int (if j < i then j else i)) := id rfl
end Dt
namespace Dt
open PySem PySem.Spec L2
def cp (p : Pc) (e : Int) : Int := ((p.L.countP fun z => decide (z = e) : Nat) : Int)
def ce (ps : List Pc) (e : Int) : Int := (((ps.flatMap Pc.L).countP fun z => decide (z = e) : Nat) : Int)
def more (ps : List Pc) (e : Int) : Int := (ps.map fun p => cp p e - cp p (-e)).sum
end Dt
namespace Dt
open PySem PySem.Spec L2
end Dt
namespace Dt
open PySem PySem.Spec L2
end Dt
namespace Dt
open PySem PySem.Spec L2
theorem Pc.e0 (p : Pc) : p.e 0 = p.u := rfl
theorem Pc.e1 (p : Pc) : p.e 1 = p.r := rfl
theorem Pc.e2 (p : Pc) : p.e 2 = p.d := rfl
theorem Pc.e3 (p : Pc) : p.e 3 = p.l := rfl
end Dt
namespace Dt
open PySem PySem.Spec L2
end Dt
namespace Dt
open PySem PySem.Spec L2
end Dt
namespace Dt
open PySem PySem.Spec L2
end Dt
namespace Dt
open PySem PySem.Spec L2
end Dt
namespace Dt
open PySem PySem.Spec L2
end Dt
namespace Dt
open PySem PySem.Spec L2 SX
section
variable {G : Type}
theorem eCutS_ap (fa : FE G) (fl fh : FO G) (ρ : Ev) : eCutS fa fl fh ρ = bnd (fa ρ) fun x => bnd (fl ρ) fun l => bnd (fh ρ) fun h => lft (sCutS x l h) := id rfl
theorem iStrD_ap (fa : FE G) (ρ : Ev) : iStrD fa ρ = bnd (fa ρ) fun x => lft (signsL x) := id rfl
theorem lcFX_ap (b : FG G) (tc : FT G) (fe : FEX G) (ρ : Ev) (d : PyData) : lcFX b tc fe ρ d = bnd (b d ρ) fun ρ1 => bnd (tc ρ1) fun t => if t = true then bnd (fe ρ1) fun x => ret (some x) else ret none := id rfl
theorem lLCX_ap (vs : List Nat) (q : FL G) (b : FG G) (tc : FT G) (fe : FEX G) (ρ : Ev) : lLCX vs q b tc fe ρ = if noOwn ρ vs = true then bnd (q ρ) fun ds => if ds.length ≤ lim then lcMX (lcFX b tc fe (wipeE ρ vs)) ds else fail else fail := id rfl
theorem eTupX_ap (f : FLX G) (ρ : Ev) : eTupX f ρ = bnd (f ρ) tupM := id rfl
theorem tupM_ok (ds : List PyData) : (tupM (.ok ds) : M G Rd) = lft ((sTuple (.list ds)).map .ok) := id rfl
theorem tupM_exc (c : Xc) : (tupM (.exc c) : M G Rd) = ret (.exc c) := id rfl
theorem eCallX_ap (n : Nat) (fn : List Ar → M G Rx) (ga : FA G) (ρ : Ev) : eCallX n fn ga ρ = bnd (ga ρ) fun as => if as.length = n then bnd (fn as) fun x => lft (toRd x) else fail := id rfl
theorem lcMX_if {α : Type} {f : PyData → M G (Option Rd)} {φ h : α → PyData} {p : α → Bool} {c : Xc} : ∀ {l : List α}, (∀ i ∈ l, f (φ i) = ret (some (if p i = true then .ok (h i) else .exc c))) → lcMX f (l.map φ) = ret (if l.all p = true then .ok (l.map h) else .exc c)
  | [], _ => rfl
  | i :: l, hf => by
    show bnd (f (φ i)) _ = _
    rw [hf i (List.mem_cons_self ..), bnd_ret, List.all_cons]
    cases hp : p i
    · rfl
    · show bnd (lcMX f (l.map φ)) _ = _
      rw [lcMX_if fun j hj => hf j (List.mem_cons_of_mem _ hj), bnd_ret, Bool.true_and]
      cases l.all p <;> rfl
end
theorem blank : (" " : Str) = S [32] := by kernel_rfl
theorem dash : ("-" : Str) = S [45] := by kernel_rfl
theorem strsL_S : ∀ l : List (List Nat), strsL (l.map fun a => .str (S a)) = some (l.map S)
  | [] => rfl
  | a :: l => by
    show (strsL (l.map fun a => .str (S a))).map (S a :: ·) = _
    rw [strsL_S l]
    rfl
theorem sum_le {n : Nat} : ∀ {l : List (List Nat)}, (∀ p ∈ l, p.length ≤ n) → (l.map (·.length)).sum ≤ l.length * n
  | [], _ => Nat.zero_le _
  | p :: l, h => by
    rw [List.map_cons, List.sum_cons, List.length_cons, Nat.succ_mul]
    have h1 := h p (List.mem_cons_self ..)
    have h2 := sum_le fun q hq => h q (List.mem_cons_of_mem _ hq)
    omega
theorem sJoin_ok {c : Nat} {l : List (List Nat)} (hl : l.length ≤ 1000) (hp : ∀ p ∈ l, p.length ≤ 1000) : sJoin (.str (S [c])) (.list (l.map fun a => .str (S a))) = some (.str (S (TL.joinL [c] l))) := by
  unfold sJoin
  simp only
  rw [strsL_S, Option.bind_some, lens, List.length_map, S_len, join_S]
  have h1 := sum_le hp
  have h2 : l.length * 1000 ≤ 1000 * 1000 := Nat.mul_le_mul_right _ hl
  exact if_pos (by rw [List.length_cons, List.length_nil]; omega)
theorem lSplit_ok {c n : Nat} {a : List Nat} (hc : c < 256) (h : Tx n a) (hn : n ≤ 10000) : lSplit (.str (S a)) (.str (S [c])) = some ((sp c a).map fun p => .str (S p)) := by
  unfold lSplit
  simp only
  have := h.len
  rw [if_pos ⟨by rw [S_len]; rfl, by rw [S_len]; unfold lim; omega⟩, split_S (List.cons_ne_nil _ _) (by simp [hc]), List.map_map]
  rfl
theorem sStarts_ok (w : List Nat) : sStarts (.str (S w)) (.str (S [45])) = some (.bool (decide (w.head? = some 45))) := by
  unfold sStarts
  simp only
  congr 2
  unfold Txt.startswith
  rw [StrLaws.subAt_eq, S_len, S_len]
  cases w with
  | nil => rfl
  | cons c r =>
    show (decide (0 + 1 ≤ r.length + 1) && ([c] == [45])) = decide (some c = some 45)
    rw [decide_eq_true (show 0 + 1 ≤ r.length + 1 by omega), Bool.true_and]
    by_cases h : c = 45
    · subst h; rfl
    · rw [decide_eq_false (fun e => h (Option.some.inj e))]
      simp [h]
theorem sLenS_ok {n : Nat} {a : List Nat} (h : Tx n a) (hn : n ≤ 10000) : sLenS (.str (S a)) = some (.int (a.length : Int)) := by
  unfold sLenS
  simp only
  have := h.len
  rw [S_len, if_pos (by unfold lim; omega)]
theorem sCutS_from {n : Nat} {a : List Nat} (h : Tx n a) (hn : n ≤ 10000) {i : Int} (hi : 0 ≤ i) : sCutS (.str (S a)) (some i) none = some (.str (S (a.drop i.toNat))) := by
  unfold sCutS
  simp only
  have := h.len
  rw [S_len, if_pos (by unfold lim; omega), slice_from hi]
theorem sCutS_to {n : Nat} {a : List Nat} (h : Tx n a) (hn : n ≤ 10000) {i : Int} (hi : 0 ≤ i) : sCutS (.str (S a)) none (some i) = some (.str (S (a.take i.toNat))) := by
  unfold sCutS
  simp only
  have := h.len
  rw [S_len, if_pos (by unfold lim; omega), slice_to hi]
theorem sAddS_ok {n m : Nat} {a b : List Nat} (h : Tx n a) (h2 : Tx m b) (hn : n ≤ 10000) (hm : m ≤ 10000) : sAddS (.str (S a)) (.str (S b)) = some (.str (S (a ++ b))) := by
  unfold sAddS
  simp only
  have := h.len
  have := h2.len
  rw [S_len, S_len, if_pos (by unfold lim; omega), S_cat]
theorem signs_ok (a : List Nat) : signsL (.str (S a)) = some (a.map fun c => .str (S [c])) := rfl
theorem sInS_ok (c : Nat) : sInS (.str (S [c])) (.str "0123456789") = some (.bool (dgB c)) := by
  show some (PyData.bool (decide (c ∈ ("0123456789" : Str).cps.toList))) = _
  rw [show ("0123456789" : Str).cps.toList = [48, 49, 50, 51, 52, 53, 54, 55, 56, 57] by kernel_rfl]
  unfold dgB
  congr 2
  rw [← Bool.decide_and]
  refine decide_eq_decide.mpr ?_
  simp only [List.mem_cons, List.not_mem_nil, or_false]
  omega
theorem sAll_mp {α : Type} (p : α → Bool) (l : List α) : sAll (.list (l.map fun d => .bool (p d))) = some (.bool (l.all p)) := by
  have e : (l.map fun d => PyData.bool (p d)) = (l.map p).map PyData.bool := by rw [List.map_map]; rfl
  unfold sAll
  simp only
  rw [e, allM_toB]
  simp
theorem sIntS_ok {a : List Nat} (h : a.all dgB = true) (h1 : 1 ≤ a.length) (h2 : a.length ≤ 4) : sIntS (.str (S a)) = some (.int (NumText.digitsVal a : Int)) := by
  unfold sIntS
  simp only
  rw [S_len, if_pos (by omega), int_S h (fun e => by rw [e] at h1; cases h1) (by omega)]
  rfl
theorem Tx.drop {n k : Nat} {a : List Nat} (h : Tx n a) : Tx n (a.drop k) := ⟨fun c hc => h.asc c (List.mem_of_mem_drop hc), by have := h.len; rw [List.length_drop]; omega⟩
theorem Tx.take {n k : Nat} {a : List Nat} (h : Tx n a) : Tx n (a.take k) := ⟨fun c hc => h.asc c (List.mem_of_mem_take hc), by have := h.len; rw [List.length_take]; omega⟩
theorem Tx.app {n m : Nat} {a b : List Nat} (h : Tx n a) (h2 : Tx m b) : Tx (n + m) (a ++ b) := ⟨fun c hc => by
  rcases List.mem_append.mp hc with hc | hc
  · exact h.asc c hc
  · exact h2.asc c hc, by have := h.len; have := h2.len; rw [List.length_append]; omega⟩
theorem Tx.figs {n : Nat} {a : List Nat} (h : Tx n a) : Tx n (figs a) := by
  unfold Dt.figs
  split
  · exact h.drop
  · exact h
theorem number_of_ok {w : List Nat} (h : Tx 1000 w) : f_number_of_x [.d (.str (S w))] = ret (if numB w = true then .ok (.d (.int (nv w))) else .exc ⟨"NoText", none⟩) := by
  have hs := sStarts_ok w
  have hc := sCutS_from h (by decide) (i := 1) (by decide)
  have hfg : (if decide (w.head? = some 45) = true then (ret (.str (S (w.drop 1))) : M Tw PyData) else ret (.str (S w))) = ret (.str (S (figs w))) := by
    unfold figs
    by_cases c : w.head? = some 45
    · rw [decide_eq_true c, if_pos rfl, if_pos c]
    · rw [decide_eq_false c, if_neg Bool.false_ne_true, if_neg c]
  have hf := h.figs
  have hl := sLenS_ok hf (by decide)
  have fl := hf.len
  simp -dsimp only [f_number_of_x, m_number_of, runDefX_ap, xSeq_ap, xEmb_ap, xIf_ap, dash, eCutS_ap, hs, hc, hfg, Int.toNat_one, eFz_ap, eVar_ap, eVarQ_ap, eC_ap, e1_ap, e2_ap, l1_ap, l2_ap, aNil_ap, aCons_ap, eTup_ap, lLst_ap, fTru_ap, fB_ap, fNot_ap, fAnd_ap, fOr_ap, eNot_ap, eAnd_ap, eOr_ap, eIf_ap, lIf_ap, oNone_ap, oSome_ap, eCut_ap, lCut_ap, sNext_ap, sBreak_ap, sCont_ap, sIf_ap, sExpr_ap, sRet_ap, sRetL_ap, sRetO_ap, sRetN_ap, bName_ap, bNil_ap, bCons_ap, bTup_ap, bItem_ap, sAsg_ap, sSet_ap, sSetL_ap, sApp_ap, sExt_ap, iSeq_ap, iOwn_ap, l3_ap, sFor_ap, fYes_ap, rNil_ap, rCons_ap, rRaw_ap, eCall_ap, lCall_ap, eCallK_ap, eCh_ap, xNil_ap, xD_ap, xL_ap, sPar_ap, eIs_ap, sSeq_ap, seqM_next, seqM_brk, seqM_cont, seqM_ret, runDef_ap, defM_next, defM_ret, stepM_ap, loopM_next, loopM_cont, loopM_brk, loopM_ret, lcF_ap, lcH_ap, lcM_nil, lcM_cons, lcC_some, lcC_none, limM_ap, lLC_ap, startE, arS, mask, wipeE, noOwn, isOwn, setAll, rtS, sItems_l, sItems_t, lim, sIx_l, sIx_t, sLen_l, sLen_t, sTuple_l, sTuple_t, sList_l, sList_t, rngL0, rngL1, rngL2, rngL3, rngL4, rngL5, rngL6, sat_ret, sat_bnd, sat_some, sat_none, sat_fail, bnd_ret, bnd_bnd, bnd_fail, lft_some, lft_none, Option.map_some, Option.map_none, List.map_cons, List.map_nil, List.length_cons, List.length_nil, List.replicate, List.cons_append, List.nil_append, List.append_nil, List.all_cons, List.all_nil, Bool.and_true, Bool.true_and, Bool.and_false, Bool.false_and, Bool.not_false, Bool.not_true, Bool.not_not, Bool.or_true, Bool.true_or, Bool.or_false, Bool.false_or, List.getElem?_cons_succ, List.getElem?_cons_zero, List.getElem?_nil, if_true, if_false, ite_true, ite_false, List.set_cons_succ, List.set_cons_zero, List.set_nil, Int.reduceLT, Int.reduceLE, Int.reduceNeg, Int.reducePow, Int.reduceMul, Int.reduceAdd, Int.reduceSub, Int.reduceToNat, Int.reduceEq, Nat.reduceAdd, Nat.reduceSub, Nat.reduceLeDiff, Nat.reduceLT, Nat.reduceEqDiff, Nat.reduceMul, and_self, and_true, true_and, and_false, false_and, or_true, true_or, or_false, false_or, or_self, reduceIte, Bool.false_eq_true, Bool.true_eq_false, decide_true, decide_false, Option.some.injEq, List.isEmpty_cons, List.isEmpty_nil, reduceCtorEq, ne_eq, not_false_eq_true, not_true_eq_false, List.replicate_zero, Int.reduceMod, sEq_int, sNe_int, rotN_0, rotN_1, rotN_2, rotN_3, bi_t, bi_f, sAdd_i, sAdd_t, sAdd_l, lAdd_l, sSub_i, sMul_i, sMul_t, sMul_l, sMod_i, sFdiv_i, sNeg_i, sLt_i, sLe_i, sGt_i, sGe_i, sIs_n, sIsNot_n, isN_n, isN_i, isN_t, isN_l, isN_s, isN_b, toB_b, toI_i, toD_d, toD_l, toL_l, tTru_n, tTru_b, tTru_i, tTru_l, tTru_t, isT_int, isT_bool, isT_tuple, isT_str, isT_list, sCut_l, sCut_t, sAug_ap, sPop_ap, at1_0, at2_0, at2_1, at3_0, at3_1, at3_2]
  by_cases c : 1 ≤ (figs w).length ∧ (figs w).length ≤ 4
  · have d1 : decide ((1 : Int) ≤ ((figs w).length : Int)) = true := decide_eq_true (by omega)
    have d2 : decide (((figs w).length : Int) ≤ 4) = true := decide_eq_true (by omega)
    simp -dsimp (disch := omega) only [xSeq_ap, xEmb_ap, xIf_ap, embM_ap, xseqM_next, hl, iStrD_ap, signs_ok, d1, d2, List.length_map, lim_if, lim_if2, eFz_ap, eVar_ap, eVarQ_ap, eC_ap, e1_ap, e2_ap, l1_ap, l2_ap, aNil_ap, aCons_ap, eTup_ap, lLst_ap, fTru_ap, fB_ap, fNot_ap, fAnd_ap, fOr_ap, eNot_ap, eAnd_ap, eOr_ap, eIf_ap, lIf_ap, oNone_ap, oSome_ap, eCut_ap, lCut_ap, sNext_ap, sBreak_ap, sCont_ap, sIf_ap, sExpr_ap, sRet_ap, sRetL_ap, sRetO_ap, sRetN_ap, bName_ap, bNil_ap, bCons_ap, bTup_ap, bItem_ap, sAsg_ap, sSet_ap, sSetL_ap, sApp_ap, sExt_ap, iSeq_ap, iOwn_ap, l3_ap, sFor_ap, fYes_ap, rNil_ap, rCons_ap, rRaw_ap, eCall_ap, lCall_ap, eCallK_ap, eCh_ap, xNil_ap, xD_ap, xL_ap, sPar_ap, eIs_ap, sSeq_ap, seqM_next, seqM_brk, seqM_cont, seqM_ret, runDef_ap, defM_next, defM_ret, stepM_ap, loopM_next, loopM_cont, loopM_brk, loopM_ret, lcF_ap, lcH_ap, lcM_nil, lcM_cons, lcC_some, lcC_none, limM_ap, lLC_ap, startE, arS, mask, wipeE, noOwn, isOwn, setAll, rtS, sItems_l, sItems_t, lim, sIx_l, sIx_t, sLen_l, sLen_t, sTuple_l, sTuple_t, sList_l, sList_t, rngL0, rngL1, rngL2, rngL3, rngL4, rngL5, rngL6, sat_ret, sat_bnd, sat_some, sat_none, sat_fail, bnd_ret, bnd_bnd, bnd_fail, lft_some, lft_none, Option.map_some, Option.map_none, List.map_cons, List.map_nil, List.length_cons, List.length_nil, List.replicate, List.cons_append, List.nil_append, List.append_nil, List.all_cons, List.all_nil, Bool.and_true, Bool.true_and, Bool.and_false, Bool.false_and, Bool.not_false, Bool.not_true, Bool.not_not, Bool.or_true, Bool.true_or, Bool.or_false, Bool.false_or, List.getElem?_cons_succ, List.getElem?_cons_zero, List.getElem?_nil, if_true, if_false, ite_true, ite_false, List.set_cons_succ, List.set_cons_zero, List.set_nil, Int.reduceLT, Int.reduceLE, Int.reduceNeg, Int.reducePow, Int.reduceMul, Int.reduceAdd, Int.reduceSub, Int.reduceToNat, Int.reduceEq, Nat.reduceAdd, Nat.reduceSub, Nat.reduceLeDiff, Nat.reduceLT, Nat.reduceEqDiff, Nat.reduceMul, and_self, and_true, true_and, and_false, false_and, or_true, true_or, or_false, false_or, or_self, reduceIte, Bool.false_eq_true, Bool.true_eq_false, decide_true, decide_false, Option.some.injEq, List.isEmpty_cons, List.isEmpty_nil, reduceCtorEq, ne_eq, not_false_eq_true, not_true_eq_false, List.replicate_zero, Int.reduceMod, sEq_int, sNe_int, rotN_0, rotN_1, rotN_2, rotN_3, bi_t, bi_f, sAdd_i, sAdd_t, sAdd_l, lAdd_l, sSub_i, sMul_i, sMul_t, sMul_l, sMod_i, sFdiv_i, sNeg_i, sLt_i, sLe_i, sGt_i, sGe_i, sIs_n, sIsNot_n, isN_n, isN_i, isN_t, isN_l, isN_s, isN_b, toB_b, toI_i, toD_d, toD_l, toL_l, tTru_n, tTru_b, tTru_i, tTru_l, tTru_t, isT_int, isT_bool, isT_tuple, isT_str, isT_list, sCut_l, sCut_t, sAug_ap, sPop_ap, at1_0, at2_0, at2_1, at3_0, at3_1, at3_2]
    refine bnd_lcm (h := fun c => .bool (dgB c)) (fun c hc => ?_) ?_
    · simp -dsimp only [sInS_ok, eFz_ap, eVar_ap, eVarQ_ap, eC_ap, e1_ap, e2_ap, l1_ap, l2_ap, aNil_ap, aCons_ap, eTup_ap, lLst_ap, fTru_ap, fB_ap, fNot_ap, fAnd_ap, fOr_ap, eNot_ap, eAnd_ap, eOr_ap, eIf_ap, lIf_ap, oNone_ap, oSome_ap, eCut_ap, lCut_ap, sNext_ap, sBreak_ap, sCont_ap, sIf_ap, sExpr_ap, sRet_ap, sRetL_ap, sRetO_ap, sRetN_ap, bName_ap, bNil_ap, bCons_ap, bTup_ap, bItem_ap, sAsg_ap, sSet_ap, sSetL_ap, sApp_ap, sExt_ap, iSeq_ap, iOwn_ap, l3_ap, sFor_ap, fYes_ap, rNil_ap, rCons_ap, rRaw_ap, eCall_ap, lCall_ap, eCallK_ap, eCh_ap, xNil_ap, xD_ap, xL_ap, sPar_ap, eIs_ap, sSeq_ap, seqM_next, seqM_brk, seqM_cont, seqM_ret, runDef_ap, defM_next, defM_ret, stepM_ap, loopM_next, loopM_cont, loopM_brk, loopM_ret, lcF_ap, lcH_ap, lcM_nil, lcM_cons, lcC_some, lcC_none, limM_ap, lLC_ap, startE, arS, mask, wipeE, noOwn, isOwn, setAll, rtS, sItems_l, sItems_t, lim, sIx_l, sIx_t, sLen_l, sLen_t, sTuple_l, sTuple_t, sList_l, sList_t, rngL0, rngL1, rngL2, rngL3, rngL4, rngL5, rngL6, sat_ret, sat_bnd, sat_some, sat_none, sat_fail, bnd_ret, bnd_bnd, bnd_fail, lft_some, lft_none, Option.map_some, Option.map_none, List.map_cons, List.map_nil, List.length_cons, List.length_nil, List.replicate, List.cons_append, List.nil_append, List.append_nil, List.all_cons, List.all_nil, Bool.and_true, Bool.true_and, Bool.and_false, Bool.false_and, Bool.not_false, Bool.not_true, Bool.not_not, Bool.or_true, Bool.true_or, Bool.or_false, Bool.false_or, List.getElem?_cons_succ, List.getElem?_cons_zero, List.getElem?_nil, if_true, if_false, ite_true, ite_false, List.set_cons_succ, List.set_cons_zero, List.set_nil, Int.reduceLT, Int.reduceLE, Int.reduceNeg, Int.reducePow, Int.reduceMul, Int.reduceAdd, Int.reduceSub, Int.reduceToNat, Int.reduceEq, Nat.reduceAdd, Nat.reduceSub, Nat.reduceLeDiff, Nat.reduceLT, Nat.reduceEqDiff, Nat.reduceMul, and_self, and_true, true_and, and_false, false_and, or_true, true_or, or_false, false_or, or_self, reduceIte, Bool.false_eq_true, Bool.true_eq_false, decide_true, decide_false, Option.some.injEq, List.isEmpty_cons, List.isEmpty_nil, reduceCtorEq, ne_eq, not_false_eq_true, not_true_eq_false, List.replicate_zero, Int.reduceMod, sEq_int, sNe_int, rotN_0, rotN_1, rotN_2, rotN_3, bi_t, bi_f, sAdd_i, sAdd_t, sAdd_l, lAdd_l, sSub_i, sMul_i, sMul_t, sMul_l, sMod_i, sFdiv_i, sNeg_i, sLt_i, sLe_i, sGt_i, sGe_i, sIs_n, sIsNot_n, isN_n, isN_i, isN_t, isN_l, isN_s, isN_b, toB_b, toI_i, toD_d, toD_l, toL_l, tTru_n, tTru_b, tTru_i, tTru_l, tTru_t, isT_int, isT_bool, isT_tuple, isT_str, isT_list, sCut_l, sCut_t, sAug_ap, sPop_ap, at1_0, at2_0, at2_1, at3_0, at3_1, at3_2]
    simp -dsimp (disch := omega) only [sAll_mp, List.length_map, lim_if, lim_if2, eFz_ap, eVar_ap, eVarQ_ap, eC_ap, e1_ap, e2_ap, l1_ap, l2_ap, aNil_ap, aCons_ap, eTup_ap, lLst_ap, fTru_ap, fB_ap, fNot_ap, fAnd_ap, fOr_ap, eNot_ap, eAnd_ap, eOr_ap, eIf_ap, lIf_ap, oNone_ap, oSome_ap, eCut_ap, lCut_ap, sNext_ap, sBreak_ap, sCont_ap, sIf_ap, sExpr_ap, sRet_ap, sRetL_ap, sRetO_ap, sRetN_ap, bName_ap, bNil_ap, bCons_ap, bTup_ap, bItem_ap, sAsg_ap, sSet_ap, sSetL_ap, sApp_ap, sExt_ap, iSeq_ap, iOwn_ap, l3_ap, sFor_ap, fYes_ap, rNil_ap, rCons_ap, rRaw_ap, eCall_ap, lCall_ap, eCallK_ap, eCh_ap, xNil_ap, xD_ap, xL_ap, sPar_ap, eIs_ap, sSeq_ap, seqM_next, seqM_brk, seqM_cont, seqM_ret, runDef_ap, defM_next, defM_ret, stepM_ap, loopM_next, loopM_cont, loopM_brk, loopM_ret, lcF_ap, lcH_ap, lcM_nil, lcM_cons, lcC_some, lcC_none, limM_ap, lLC_ap, startE, arS, mask, wipeE, noOwn, isOwn, setAll, rtS, sItems_l, sItems_t, lim, sIx_l, sIx_t, sLen_l, sLen_t, sTuple_l, sTuple_t, sList_l, sList_t, rngL0, rngL1, rngL2, rngL3, rngL4, rngL5, rngL6, sat_ret, sat_bnd, sat_some, sat_none, sat_fail, bnd_ret, bnd_bnd, bnd_fail, lft_some, lft_none, Option.map_some, Option.map_none, List.map_cons, List.map_nil, List.length_cons, List.length_nil, List.replicate, List.cons_append, List.nil_append, List.append_nil, List.all_cons, List.all_nil, Bool.and_true, Bool.true_and, Bool.and_false, Bool.false_and, Bool.not_false, Bool.not_true, Bool.not_not, Bool.or_true, Bool.true_or, Bool.or_false, Bool.false_or, List.getElem?_cons_succ, List.getElem?_cons_zero, List.getElem?_nil, if_true, if_false, ite_true, ite_false, List.set_cons_succ, List.set_cons_zero, List.set_nil, Int.reduceLT, Int.reduceLE, Int.reduceNeg, Int.reducePow, Int.reduceMul, Int.reduceAdd, Int.reduceSub, Int.reduceToNat, Int.reduceEq, Nat.reduceAdd, Nat.reduceSub, Nat.reduceLeDiff, Nat.reduceLT, Nat.reduceEqDiff, Nat.reduceMul, and_self, and_true, true_and, and_false, false_and, or_true, true_or, or_false, false_or, or_self, reduceIte, Bool.false_eq_true, Bool.true_eq_false, decide_true, decide_false, Option.some.injEq, List.isEmpty_cons, List.isEmpty_nil, reduceCtorEq, ne_eq, not_false_eq_true, not_true_eq_false, List.replicate_zero, Int.reduceMod, sEq_int, sNe_int, rotN_0, rotN_1, rotN_2, rotN_3, bi_t, bi_f, sAdd_i, sAdd_t, sAdd_l, lAdd_l, sSub_i, sMul_i, sMul_t, sMul_l, sMod_i, sFdiv_i, sNeg_i, sLt_i, sLe_i, sGt_i, sGe_i, sIs_n, sIsNot_n, isN_n, isN_i, isN_t, isN_l, isN_s, isN_b, toB_b, toI_i, toD_d, toD_l, toL_l, tTru_n, tTru_b, tTru_i, tTru_l, tTru_t, isT_int, isT_bool, isT_tuple, isT_str, isT_list, sCut_l, sCut_t, sAug_ap, sPop_ap, at1_0, at2_0, at2_1, at3_0, at3_1, at3_2]
    cases hd : (figs w).all dgB with
    | false =>
      simp -dsimp only [numB, hd, xRaise_ap, xseqM_exc, defXM_exc, eFz_ap, eVar_ap, eVarQ_ap, eC_ap, e1_ap, e2_ap, l1_ap, l2_ap, aNil_ap, aCons_ap, eTup_ap, lLst_ap, fTru_ap, fB_ap, fNot_ap, fAnd_ap, fOr_ap, eNot_ap, eAnd_ap, eOr_ap, eIf_ap, lIf_ap, oNone_ap, oSome_ap, eCut_ap, lCut_ap, sNext_ap, sBreak_ap, sCont_ap, sIf_ap, sExpr_ap, sRet_ap, sRetL_ap, sRetO_ap, sRetN_ap, bName_ap, bNil_ap, bCons_ap, bTup_ap, bItem_ap, sAsg_ap, sSet_ap, sSetL_ap, sApp_ap, sExt_ap, iSeq_ap, iOwn_ap, l3_ap, sFor_ap, fYes_ap, rNil_ap, rCons_ap, rRaw_ap, eCall_ap, lCall_ap, eCallK_ap, eCh_ap, xNil_ap, xD_ap, xL_ap, sPar_ap, eIs_ap, sSeq_ap, seqM_next, seqM_brk, seqM_cont, seqM_ret, runDef_ap, defM_next, defM_ret, stepM_ap, loopM_next, loopM_cont, loopM_brk, loopM_ret, lcF_ap, lcH_ap, lcM_nil, lcM_cons, lcC_some, lcC_none, limM_ap, lLC_ap, startE, arS, mask, wipeE, noOwn, isOwn, setAll, rtS, sItems_l, sItems_t, lim, sIx_l, sIx_t, sLen_l, sLen_t, sTuple_l, sTuple_t, sList_l, sList_t, rngL0, rngL1, rngL2, rngL3, rngL4, rngL5, rngL6, sat_ret, sat_bnd, sat_some, sat_none, sat_fail, bnd_ret, bnd_bnd, bnd_fail, lft_some, lft_none, Option.map_some, Option.map_none, List.map_cons, List.map_nil, List.length_cons, List.length_nil, List.replicate, List.cons_append, List.nil_append, List.append_nil, List.all_cons, List.all_nil, Bool.and_true, Bool.true_and, Bool.and_false, Bool.false_and, Bool.not_false, Bool.not_true, Bool.not_not, Bool.or_true, Bool.true_or, Bool.or_false, Bool.false_or, List.getElem?_cons_succ, List.getElem?_cons_zero, List.getElem?_nil, if_true, if_false, ite_true, ite_false, List.set_cons_succ, List.set_cons_zero, List.set_nil, Int.reduceLT, Int.reduceLE, Int.reduceNeg, Int.reducePow, Int.reduceMul, Int.reduceAdd, Int.reduceSub, Int.reduceToNat, Int.reduceEq, Nat.reduceAdd, Nat.reduceSub, Nat.reduceLeDiff, Nat.reduceLT, Nat.reduceEqDiff, Nat.reduceMul, and_self, and_true, true_and, and_false, false_and, or_true, true_or, or_false, false_or, or_self, reduceIte, Bool.false_eq_true, Bool.true_eq_false, decide_true, decide_false, Option.some.injEq, List.isEmpty_cons, List.isEmpty_nil, reduceCtorEq, ne_eq, not_false_eq_true, not_true_eq_false, List.replicate_zero, Int.reduceMod, sEq_int, sNe_int, rotN_0, rotN_1, rotN_2, rotN_3, bi_t, bi_f, sAdd_i, sAdd_t, sAdd_l, lAdd_l, sSub_i, sMul_i, sMul_t, sMul_l, sMod_i, sFdiv_i, sNeg_i, sLt_i, sLe_i, sGt_i, sGe_i, sIs_n, sIsNot_n, isN_n, isN_i, isN_t, isN_l, isN_s, isN_b, toB_b, toI_i, toD_d, toD_l, toL_l, tTru_n, tTru_b, tTru_i, tTru_l, tTru_t, isT_int, isT_bool, isT_tuple, isT_str, isT_list, sCut_l, sCut_t, sAug_ap, sPop_ap, at1_0, at2_0, at2_1, at3_0, at3_1, at3_2]
    | true =>
      have nb : numB w = true := by unfold numB; rw [decide_eq_true c, hd]; rfl
      have hi := sIntS_ok hd c.1 c.2
      have he := sEq_str2 hf.asc h.asc
      unfold nv
      by_cases q : figs w = w
      · simp -dsimp only [nb, xEmb_ap, xseqM_next, embM_ap, he, hi, decide_eq_true q, if_pos q, defXM_ret, eFz_ap, eVar_ap, eVarQ_ap, eC_ap, e1_ap, e2_ap, l1_ap, l2_ap, aNil_ap, aCons_ap, eTup_ap, lLst_ap, fTru_ap, fB_ap, fNot_ap, fAnd_ap, fOr_ap, eNot_ap, eAnd_ap, eOr_ap, eIf_ap, lIf_ap, oNone_ap, oSome_ap, eCut_ap, lCut_ap, sNext_ap, sBreak_ap, sCont_ap, sIf_ap, sExpr_ap, sRet_ap, sRetL_ap, sRetO_ap, sRetN_ap, bName_ap, bNil_ap, bCons_ap, bTup_ap, bItem_ap, sAsg_ap, sSet_ap, sSetL_ap, sApp_ap, sExt_ap, iSeq_ap, iOwn_ap, l3_ap, sFor_ap, fYes_ap, rNil_ap, rCons_ap, rRaw_ap, eCall_ap, lCall_ap, eCallK_ap, eCh_ap, xNil_ap, xD_ap, xL_ap, sPar_ap, eIs_ap, sSeq_ap, seqM_next, seqM_brk, seqM_cont, seqM_ret, runDef_ap, defM_next, defM_ret, stepM_ap, loopM_next, loopM_cont, loopM_brk, loopM_ret, lcF_ap, lcH_ap, lcM_nil, lcM_cons, lcC_some, lcC_none, limM_ap, lLC_ap, startE, arS, mask, wipeE, noOwn, isOwn, setAll, rtS, sItems_l, sItems_t, lim, sIx_l, sIx_t, sLen_l, sLen_t, sTuple_l, sTuple_t, sList_l, sList_t, rngL0, rngL1, rngL2, rngL3, rngL4, rngL5, rngL6, sat_ret, sat_bnd, sat_some, sat_none, sat_fail, bnd_ret, bnd_bnd, bnd_fail, lft_some, lft_none, Option.map_some, Option.map_none, List.map_cons, List.map_nil, List.length_cons, List.length_nil, List.replicate, List.cons_append, List.nil_append, List.append_nil, List.all_cons, List.all_nil, Bool.and_true, Bool.true_and, Bool.and_false, Bool.false_and, Bool.not_false, Bool.not_true, Bool.not_not, Bool.or_true, Bool.true_or, Bool.or_false, Bool.false_or, List.getElem?_cons_succ, List.getElem?_cons_zero, List.getElem?_nil, if_true, if_false, ite_true, ite_false, List.set_cons_succ, List.set_cons_zero, List.set_nil, Int.reduceLT, Int.reduceLE, Int.reduceNeg, Int.reducePow, Int.reduceMul, Int.reduceAdd, Int.reduceSub, Int.reduceToNat, Int.reduceEq, Nat.reduceAdd, Nat.reduceSub, Nat.reduceLeDiff, Nat.reduceLT, Nat.reduceEqDiff, Nat.reduceMul, and_self, and_true, true_and, and_false, false_and, or_true, true_or, or_false, false_or, or_self, reduceIte, Bool.false_eq_true, Bool.true_eq_false, decide_true, decide_false, Option.some.injEq, List.isEmpty_cons, List.isEmpty_nil, reduceCtorEq, ne_eq, not_false_eq_true, not_true_eq_false, List.replicate_zero, Int.reduceMod, sEq_int, sNe_int, rotN_0, rotN_1, rotN_2, rotN_3, bi_t, bi_f, sAdd_i, sAdd_t, sAdd_l, lAdd_l, sSub_i, sMul_i, sMul_t, sMul_l, sMod_i, sFdiv_i, sNeg_i, sLt_i, sLe_i, sGt_i, sGe_i, sIs_n, sIsNot_n, isN_n, isN_i, isN_t, isN_l, isN_s, isN_b, toB_b, toI_i, toD_d, toD_l, toL_l, tTru_n, tTru_b, tTru_i, tTru_l, tTru_t, isT_int, isT_bool, isT_tuple, isT_str, isT_list, sCut_l, sCut_t, sAug_ap, sPop_ap, at1_0, at2_0, at2_1, at3_0, at3_1, at3_2]
      · simp -dsimp only [nb, xEmb_ap, xseqM_next, embM_ap, he, hi, decide_eq_false q, if_neg q, defXM_ret, eFz_ap, eVar_ap, eVarQ_ap, eC_ap, e1_ap, e2_ap, l1_ap, l2_ap, aNil_ap, aCons_ap, eTup_ap, lLst_ap, fTru_ap, fB_ap, fNot_ap, fAnd_ap, fOr_ap, eNot_ap, eAnd_ap, eOr_ap, eIf_ap, lIf_ap, oNone_ap, oSome_ap, eCut_ap, lCut_ap, sNext_ap, sBreak_ap, sCont_ap, sIf_ap, sExpr_ap, sRet_ap, sRetL_ap, sRetO_ap, sRetN_ap, bName_ap, bNil_ap, bCons_ap, bTup_ap, bItem_ap, sAsg_ap, sSet_ap, sSetL_ap, sApp_ap, sExt_ap, iSeq_ap, iOwn_ap, l3_ap, sFor_ap, fYes_ap, rNil_ap, rCons_ap, rRaw_ap, eCall_ap, lCall_ap, eCallK_ap, eCh_ap, xNil_ap, xD_ap, xL_ap, sPar_ap, eIs_ap, sSeq_ap, seqM_next, seqM_brk, seqM_cont, seqM_ret, runDef_ap, defM_next, defM_ret, stepM_ap, loopM_next, loopM_cont, loopM_brk, loopM_ret, lcF_ap, lcH_ap, lcM_nil, lcM_cons, lcC_some, lcC_none, limM_ap, lLC_ap, startE, arS, mask, wipeE, noOwn, isOwn, setAll, rtS, sItems_l, sItems_t, lim, sIx_l, sIx_t, sLen_l, sLen_t, sTuple_l, sTuple_t, sList_l, sList_t, rngL0, rngL1, rngL2, rngL3, rngL4, rngL5, rngL6, sat_ret, sat_bnd, sat_some, sat_none, sat_fail, bnd_ret, bnd_bnd, bnd_fail, lft_some, lft_none, Option.map_some, Option.map_none, List.map_cons, List.map_nil, List.length_cons, List.length_nil, List.replicate, List.cons_append, List.nil_append, List.append_nil, List.all_cons, List.all_nil, Bool.and_true, Bool.true_and, Bool.and_false, Bool.false_and, Bool.not_false, Bool.not_true, Bool.not_not, Bool.or_true, Bool.true_or, Bool.or_false, Bool.false_or, List.getElem?_cons_succ, List.getElem?_cons_zero, List.getElem?_nil, if_true, if_false, ite_true, ite_false, List.set_cons_succ, List.set_cons_zero, List.set_nil, Int.reduceLT, Int.reduceLE, Int.reduceNeg, Int.reducePow, Int.reduceMul, Int.reduceAdd, Int.reduceSub, Int.reduceToNat, Int.reduceEq, Nat.reduceAdd, Nat.reduceSub, Nat.reduceLeDiff, Nat.reduceLT, Nat.reduceEqDiff, Nat.reduceMul, and_self, and_true, true_and, and_false, false_and, or_true, true_or, or_false, false_or, or_self, reduceIte, Bool.false_eq_true, Bool.true_eq_false, decide_true, decide_false, Option.some.injEq, List.isEmpty_cons, List.isEmpty_nil, reduceCtorEq, ne_eq, not_false_eq_true, not_true_eq_false, List.replicate_zero, Int.reduceMod, sEq_int, sNe_int, rotN_0, rotN_1, rotN_2, rotN_3, bi_t, bi_f, sAdd_i, sAdd_t, sAdd_l, lAdd_l, sSub_i, sMul_i, sMul_t, sMul_l, sMod_i, sFdiv_i, sNeg_i, sLt_i, sLe_i, sGt_i, sGe_i, sIs_n, sIsNot_n, isN_n, isN_i, isN_t, isN_l, isN_s, isN_b, toB_b, toI_i, toD_d, toD_l, toL_l, tTru_n, tTru_b, tTru_i, tTru_l, tTru_t, isT_int, isT_bool, isT_tuple, isT_str, isT_list, sCut_l, sCut_t, sAug_ap, sPop_ap, at1_0, at2_0, at2_1, at3_0, at3_1, at3_2]
  · have nb : numB w = false := by unfold numB; rw [decide_eq_false c]; rfl
    by_cases c1 : 1 ≤ (figs w).length
    · have d1 : decide ((1 : Int) ≤ ((figs w).length : Int)) = true := decide_eq_true (by omega)
      have d2 : decide (((figs w).length : Int) ≤ 4) = false := decide_eq_false (by omega)
      simp -dsimp only [nb, xSeq_ap, xEmb_ap, xIf_ap, embM_ap, xseqM_next, hl, d1, d2, xRaise_ap, xseqM_exc, defXM_exc, eFz_ap, eVar_ap, eVarQ_ap, eC_ap, e1_ap, e2_ap, l1_ap, l2_ap, aNil_ap, aCons_ap, eTup_ap, lLst_ap, fTru_ap, fB_ap, fNot_ap, fAnd_ap, fOr_ap, eNot_ap, eAnd_ap, eOr_ap, eIf_ap, lIf_ap, oNone_ap, oSome_ap, eCut_ap, lCut_ap, sNext_ap, sBreak_ap, sCont_ap, sIf_ap, sExpr_ap, sRet_ap, sRetL_ap, sRetO_ap, sRetN_ap, bName_ap, bNil_ap, bCons_ap, bTup_ap, bItem_ap, sAsg_ap, sSet_ap, sSetL_ap, sApp_ap, sExt_ap, iSeq_ap, iOwn_ap, l3_ap, sFor_ap, fYes_ap, rNil_ap, rCons_ap, rRaw_ap, eCall_ap, lCall_ap, eCallK_ap, eCh_ap, xNil_ap, xD_ap, xL_ap, sPar_ap, eIs_ap, sSeq_ap, seqM_next, seqM_brk, seqM_cont, seqM_ret, runDef_ap, defM_next, defM_ret, stepM_ap, loopM_next, loopM_cont, loopM_brk, loopM_ret, lcF_ap, lcH_ap, lcM_nil, lcM_cons, lcC_some, lcC_none, limM_ap, lLC_ap, startE, arS, mask, wipeE, noOwn, isOwn, setAll, rtS, sItems_l, sItems_t, lim, sIx_l, sIx_t, sLen_l, sLen_t, sTuple_l, sTuple_t, sList_l, sList_t, rngL0, rngL1, rngL2, rngL3, rngL4, rngL5, rngL6, sat_ret, sat_bnd, sat_some, sat_none, sat_fail, bnd_ret, bnd_bnd, bnd_fail, lft_some, lft_none, Option.map_some, Option.map_none, List.map_cons, List.map_nil, List.length_cons, List.length_nil, List.replicate, List.cons_append, List.nil_append, List.append_nil, List.all_cons, List.all_nil, Bool.and_true, Bool.true_and, Bool.and_false, Bool.false_and, Bool.not_false, Bool.not_true, Bool.not_not, Bool.or_true, Bool.true_or, Bool.or_false, Bool.false_or, List.getElem?_cons_succ, List.getElem?_cons_zero, List.getElem?_nil, if_true, if_false, ite_true, ite_false, List.set_cons_succ, List.set_cons_zero, List.set_nil, Int.reduceLT, Int.reduceLE, Int.reduceNeg, Int.reducePow, Int.reduceMul, Int.reduceAdd, Int.reduceSub, Int.reduceToNat, Int.reduceEq, Nat.reduceAdd, Nat.reduceSub, Nat.reduceLeDiff, Nat.reduceLT, Nat.reduceEqDiff, Nat.reduceMul, and_self, and_true, true_and, and_false, false_and, or_true, true_or, or_false, false_or, or_self, reduceIte, Bool.false_eq_true, Bool.true_eq_false, decide_true, decide_false, Option.some.injEq, List.isEmpty_cons, List.isEmpty_nil, reduceCtorEq, ne_eq, not_false_eq_true, not_true_eq_false, List.replicate_zero, Int.reduceMod, sEq_int, sNe_int, rotN_0, rotN_1, rotN_2, rotN_3, bi_t, bi_f, sAdd_i, sAdd_t, sAdd_l, lAdd_l, sSub_i, sMul_i, sMul_t, sMul_l, sMod_i, sFdiv_i, sNeg_i, sLt_i, sLe_i, sGt_i, sGe_i, sIs_n, sIsNot_n, isN_n, isN_i, isN_t, isN_l, isN_s, isN_b, toB_b, toI_i, toD_d, toD_l, toL_l, tTru_n, tTru_b, tTru_i, tTru_l, tTru_t, isT_int, isT_bool, isT_tuple, isT_str, isT_list, sCut_l, sCut_t, sAug_ap, sPop_ap, at1_0, at2_0, at2_1, at3_0, at3_1, at3_2]
    · have d1 : decide ((1 : Int) ≤ ((figs w).length : Int)) = false := decide_eq_false (by omega)
      simp -dsimp only [nb, xSeq_ap, xEmb_ap, xIf_ap, embM_ap, xseqM_next, hl, d1, xRaise_ap, xseqM_exc, defXM_exc, eFz_ap, eVar_ap, eVarQ_ap, eC_ap, e1_ap, e2_ap, l1_ap, l2_ap, aNil_ap, aCons_ap, eTup_ap, lLst_ap, fTru_ap, fB_ap, fNot_ap, fAnd_ap, fOr_ap, eNot_ap, eAnd_ap, eOr_ap, eIf_ap, lIf_ap, oNone_ap, oSome_ap, eCut_ap, lCut_ap, sNext_ap, sBreak_ap, sCont_ap, sIf_ap, sExpr_ap, sRet_ap, sRetL_ap, sRetO_ap, sRetN_ap, bName_ap, bNil_ap, bCons_ap, bTup_ap, bItem_ap, sAsg_ap, sSet_ap, sSetL_ap, sApp_ap, sExt_ap, iSeq_ap, iOwn_ap, l3_ap, sFor_ap, fYes_ap, rNil_ap, rCons_ap, rRaw_ap, eCall_ap, lCall_ap, eCallK_ap, eCh_ap, xNil_ap, xD_ap, xL_ap, sPar_ap, eIs_ap, sSeq_ap, seqM_next, seqM_brk, seqM_cont, seqM_ret, runDef_ap, defM_next, defM_ret, stepM_ap, loopM_next, loopM_cont, loopM_brk, loopM_ret, lcF_ap, lcH_ap, lcM_nil, lcM_cons, lcC_some, lcC_none, limM_ap, lLC_ap, startE, arS, mask, wipeE, noOwn, isOwn, setAll, rtS, sItems_l, sItems_t, lim, sIx_l, sIx_t, sLen_l, sLen_t, sTuple_l, sTuple_t, sList_l, sList_t, rngL0, rngL1, rngL2, rngL3, rngL4, rngL5, rngL6, sat_ret, sat_bnd, sat_some, sat_none, sat_fail, bnd_ret, bnd_bnd, bnd_fail, lft_some, lft_none, Option.map_some, Option.map_none, List.map_cons, List.map_nil, List.length_cons, List.length_nil, List.replicate, List.cons_append, List.nil_append, List.append_nil, List.all_cons, List.all_nil, Bool.and_true, Bool.true_and, Bool.and_false, Bool.false_and, Bool.not_false, Bool.not_true, Bool.not_not, Bool.or_true, Bool.true_or, Bool.or_false, Bool.false_or, List.getElem?_cons_succ, List.getElem?_cons_zero, List.getElem?_nil, if_true, if_false, ite_true, ite_false, List.set_cons_succ, List.set_cons_zero, List.set_nil, Int.reduceLT, Int.reduceLE, Int.reduceNeg, Int.reducePow, Int.reduceMul, Int.reduceAdd, Int.reduceSub, Int.reduceToNat, Int.reduceEq, Nat.reduceAdd, Nat.reduceSub, Nat.reduceLeDiff, Nat.reduceLT, Nat.reduceEqDiff, Nat.reduceMul, and_self, and_true, true_and, and_false, false_and, or_true, true_or, or_false, false_or, or_self, reduceIte, Bool.false_eq_true, Bool.true_eq_false, decide_true, decide_false, Option.some.injEq, List.isEmpty_cons, List.isEmpty_nil, reduceCtorEq, ne_eq, not_false_eq_true, not_true_eq_false, List.replicate_zero, Int.reduceMod, sEq_int, sNe_int, rotN_0, rotN_1, rotN_2, rotN_3, bi_t, bi_f, sAdd_i, sAdd_t, sAdd_l, lAdd_l, sSub_i, sMul_i, sMul_t, sMul_l, sMod_i, sFdiv_i, sNeg_i, sLt_i, sLe_i, sGt_i, sGe_i, sIs_n, sIsNot_n, isN_n, isN_i, isN_t, isN_l, isN_s, isN_b, toB_b, toI_i, toD_d, toD_l, toL_l, tTru_n, tTru_b, tTru_i, tTru_l, tTru_t, isT_int, isT_bool, isT_tuple, isT_str, isT_list, sCut_l, sCut_t, sAug_ap, sPop_ap, at1_0, at2_0, at2_1, at3_0, at3_1, at3_2]
end Dt
namespace Dt
open PySem PySem.Spec L2 SX
theorem cls_cnt7 : sCount (.list [.bool false, .bool false, .bool false, .bool false, .bool false, .bool false, .bool false, .bool true]) (.bool true) = some (.int 1) := by
  unfold sCount
  simp only
  rw [if_pos ⟨rfl, rfl⟩]
  simp [List.countP_cons, PyData.eqv]
theorem cls_ix7 : sIndex (.list [.bool false, .bool false, .bool false, .bool false, .bool false, .bool false, .bool false, .bool true]) (.bool true) = some (.int 7) := by
  unfold sIndex
  simp only
  rw [if_pos ⟨rfl, rfl⟩]
  simp [List.findIdx?_cons, PyData.eqv]
theorem class_text : f_l_class ⟨"NoText", none⟩ = ret (.d (.str "no text")) := by
  have a : ∀ x, (eIsX 0 x [some (.exc ⟨"NoText", none⟩), none] : M Tw PyData) = ret (.bool (subX "NoText" x)) := fun x => rfl
  have b : ∀ x ds, (eIsX 0 x [some (.exc ⟨"NoText", none⟩), some (.own ds)] : M Tw PyData) = ret (.bool (subX "NoText" x)) := fun x ds => rfl
  have n1 : sNe (.int 1) (.int 1) = some (.bool false) := rfl
  have e : exE 2 ⟨"NoText", none⟩ = [some (.exc ⟨"NoText", none⟩), none] := rfl
  unfold f_l_class runC
  rw [e]
  have s1 : subX "NoText" "NoRows" = false := by decide
  have s2 : subX "NoText" "NoPiece" = false := by decide
  have s3 : subX "NoText" "Joined" = false := by decide
  have s4 : subX "NoText" "NoFit" = false := by decide
  have s5 : subX "NoText" "NoRoom" = false := by decide
  have s6 : subX "NoText" "Alone" = false := by decide
  have s7 : subX "NoText" "NoBack" = false := by decide
  have s8 : subX "NoText" "NoText" = true := by decide
  have s9 : subX "NoText" "ValueError" = true := by decide
  simp -dsimp only [m_l_class, a, b, s1, s2, s3, s4, s5, s6, s7, s8, s9, cls_cnt7, cls_ix7, n1, eFz_ap, eVar_ap, eVarQ_ap, eC_ap, e1_ap, e2_ap, l1_ap, l2_ap, aNil_ap, aCons_ap, eTup_ap, lLst_ap, fTru_ap, fB_ap, fNot_ap, fAnd_ap, fOr_ap, eNot_ap, eAnd_ap, eOr_ap, eIf_ap, lIf_ap, oNone_ap, oSome_ap, eCut_ap, lCut_ap, sNext_ap, sBreak_ap, sCont_ap, sIf_ap, sExpr_ap, sRet_ap, sRetL_ap, sRetO_ap, sRetN_ap, bName_ap, bNil_ap, bCons_ap, bTup_ap, bItem_ap, sAsg_ap, sSet_ap, sSetL_ap, sApp_ap, sExt_ap, iSeq_ap, iOwn_ap, l3_ap, sFor_ap, fYes_ap, rNil_ap, rCons_ap, rRaw_ap, eCall_ap, lCall_ap, eCallK_ap, eCh_ap, xNil_ap, xD_ap, xL_ap, sPar_ap, eIs_ap, sSeq_ap, seqM_next, seqM_brk, seqM_cont, seqM_ret, runDef_ap, defM_next, defM_ret, stepM_ap, loopM_next, loopM_cont, loopM_brk, loopM_ret, lcF_ap, lcH_ap, lcM_nil, lcM_cons, lcC_some, lcC_none, limM_ap, lLC_ap, startE, arS, mask, wipeE, noOwn, isOwn, setAll, rtS, sItems_l, sItems_t, lim, sIx_l, sIx_t, sLen_l, sLen_t, sTuple_l, sTuple_t, sList_l, sList_t, rngL0, rngL1, rngL2, rngL3, rngL4, rngL5, rngL6, sat_ret, sat_bnd, sat_some, sat_none, sat_fail, bnd_ret, bnd_bnd, bnd_fail, lft_some, lft_none, Option.map_some, Option.map_none, List.map_cons, List.map_nil, List.length_cons, List.length_nil, List.replicate, List.cons_append, List.nil_append, List.append_nil, List.all_cons, List.all_nil, Bool.and_true, Bool.true_and, Bool.and_false, Bool.false_and, Bool.not_false, Bool.not_true, Bool.not_not, Bool.or_true, Bool.true_or, Bool.or_false, Bool.false_or, List.getElem?_cons_succ, List.getElem?_cons_zero, List.getElem?_nil, if_true, if_false, ite_true, ite_false, List.set_cons_succ, List.set_cons_zero, List.set_nil, Int.reduceLT, Int.reduceLE, Int.reduceNeg, Int.reducePow, Int.reduceMul, Int.reduceAdd, Int.reduceSub, Int.reduceToNat, Int.reduceEq, Nat.reduceAdd, Nat.reduceSub, Nat.reduceLeDiff, Nat.reduceLT, Nat.reduceEqDiff, Nat.reduceMul, and_self, and_true, true_and, and_false, false_and, or_true, true_or, or_false, false_or, or_self, reduceIte, Bool.false_eq_true, Bool.true_eq_false, decide_true, decide_false, Option.some.injEq, List.isEmpty_cons, List.isEmpty_nil, reduceCtorEq, ne_eq, not_false_eq_true, not_true_eq_false, List.replicate_zero, Int.reduceMod, sEq_int, sNe_int, rotN_0, rotN_1, rotN_2, rotN_3, bi_t, bi_f, sAdd_i, sAdd_t, sAdd_l, lAdd_l, sSub_i, sMul_i, sMul_t, sMul_l, sMod_i, sFdiv_i, sNeg_i, sLt_i, sLe_i, sGt_i, sGe_i, sIs_n, sIsNot_n, isN_n, isN_i, isN_t, isN_l, isN_s, isN_b, toB_b, toI_i, toD_d, toD_l, toL_l, tTru_n, tTru_b, tTru_i, tTru_l, tTru_t, isT_int, isT_bool, isT_tuple, isT_str, isT_list, sCut_l, sCut_t, sAug_ap, sPop_ap, at1_0, at2_0, at2_1, at3_0, at3_1, at3_2]
  rfl
theorem heard_text : hrdM 5 1 2 m_l_heard (.exc ⟨"NoText", none⟩) = ret (.tuple [.str "no text"]) := by
  have e : hdE 5 1 ⟨"NoText", none⟩ = [none, some (.exc ⟨"NoText", none⟩), none, none, none] := rfl
  show bnd (m_l_heard (hdE 5 1 ⟨"NoText", none⟩)) _ = _
  rw [e]
  have a : (fNoX 1 [none, some (.exc ⟨"NoText", none⟩), none, none, none] : M Tw Bool) = ret false := rfl
  have b : (eCallC 1 f_l_class [none, some (.exc ⟨"NoText", none⟩), none, none, none] : M Tw PyData) = bnd (f_l_class ⟨"NoText", none⟩) fun r => lft (toD r) := rfl
  have q : sEq (.str "no text") (.str "no piece") = some (.bool false) := by
    rw [sEq_str (by kernel_rfl) (by kernel_rfl), decide_eq_false (by decide)]
  simp -dsimp only [m_l_heard, a, b, class_text, q, eFz_ap, eVar_ap, eVarQ_ap, eC_ap, e1_ap, e2_ap, l1_ap, l2_ap, aNil_ap, aCons_ap, eTup_ap, lLst_ap, fTru_ap, fB_ap, fNot_ap, fAnd_ap, fOr_ap, eNot_ap, eAnd_ap, eOr_ap, eIf_ap, lIf_ap, oNone_ap, oSome_ap, eCut_ap, lCut_ap, sNext_ap, sBreak_ap, sCont_ap, sIf_ap, sExpr_ap, sRet_ap, sRetL_ap, sRetO_ap, sRetN_ap, bName_ap, bNil_ap, bCons_ap, bTup_ap, bItem_ap, sAsg_ap, sSet_ap, sSetL_ap, sApp_ap, sExt_ap, iSeq_ap, iOwn_ap, l3_ap, sFor_ap, fYes_ap, rNil_ap, rCons_ap, rRaw_ap, eCall_ap, lCall_ap, eCallK_ap, eCh_ap, xNil_ap, xD_ap, xL_ap, sPar_ap, eIs_ap, sSeq_ap, seqM_next, seqM_brk, seqM_cont, seqM_ret, runDef_ap, defM_next, defM_ret, stepM_ap, loopM_next, loopM_cont, loopM_brk, loopM_ret, lcF_ap, lcH_ap, lcM_nil, lcM_cons, lcC_some, lcC_none, limM_ap, lLC_ap, startE, arS, mask, wipeE, noOwn, isOwn, setAll, rtS, sItems_l, sItems_t, lim, sIx_l, sIx_t, sLen_l, sLen_t, sTuple_l, sTuple_t, sList_l, sList_t, rngL0, rngL1, rngL2, rngL3, rngL4, rngL5, rngL6, sat_ret, sat_bnd, sat_some, sat_none, sat_fail, bnd_ret, bnd_bnd, bnd_fail, lft_some, lft_none, Option.map_some, Option.map_none, List.map_cons, List.map_nil, List.length_cons, List.length_nil, List.replicate, List.cons_append, List.nil_append, List.append_nil, List.all_cons, List.all_nil, Bool.and_true, Bool.true_and, Bool.and_false, Bool.false_and, Bool.not_false, Bool.not_true, Bool.not_not, Bool.or_true, Bool.true_or, Bool.or_false, Bool.false_or, List.getElem?_cons_succ, List.getElem?_cons_zero, List.getElem?_nil, if_true, if_false, ite_true, ite_false, List.set_cons_succ, List.set_cons_zero, List.set_nil, Int.reduceLT, Int.reduceLE, Int.reduceNeg, Int.reducePow, Int.reduceMul, Int.reduceAdd, Int.reduceSub, Int.reduceToNat, Int.reduceEq, Nat.reduceAdd, Nat.reduceSub, Nat.reduceLeDiff, Nat.reduceLT, Nat.reduceEqDiff, Nat.reduceMul, and_self, and_true, true_and, and_false, false_and, or_true, true_or, or_false, false_or, or_self, reduceIte, Bool.false_eq_true, Bool.true_eq_false, decide_true, decide_false, Option.some.injEq, List.isEmpty_cons, List.isEmpty_nil, reduceCtorEq, ne_eq, not_false_eq_true, not_true_eq_false, List.replicate_zero, Int.reduceMod, sEq_int, sNe_int, rotN_0, rotN_1, rotN_2, rotN_3, bi_t, bi_f, sAdd_i, sAdd_t, sAdd_l, lAdd_l, sSub_i, sMul_i, sMul_t, sMul_l, sMod_i, sFdiv_i, sNeg_i, sLt_i, sLe_i, sGt_i, sGe_i, sIs_n, sIsNot_n, isN_n, isN_i, isN_t, isN_l, isN_s, isN_b, toB_b, toI_i, toD_d, toD_l, toL_l, tTru_n, tTru_b, tTru_i, tTru_l, tTru_t, isT_int, isT_bool, isT_tuple, isT_str, isT_list, sCut_l, sCut_t, sAug_ap, sPop_ap, at1_0, at2_0, at2_1, at3_0, at3_1, at3_2]
  rfl
end Dt
namespace Dt
open PySem PySem.Spec PyProof.Rows L2
def valD (kvs : List (Key × PyData)) (k : Key) : Option PyData := (kvs.find? fun kv => decide (kv.1 = k)).map (·.2)
def putD (kvs : List (Key × PyData)) (k : Key) (v : PyData) : List (Key × PyData) :=
  if (kvs.any fun kv => decide (kv.1 = k)) = true then kvs.map (fun kv => if kv.1 = k then (kv.1, v) else kv) else kvs ++ [(k, v)]
def mergeD (kvs more : List (Key × PyData)) : List (Key × PyData) := more.foldl (fun acc kv => putD acc kv.1 kv.2) kvs
section
variable {K : PySem.W.Frag} {F : Hp}
theorem KdR.val {k : Key} : ∀ {es : List (Key × V)} {kvs : List (Key × PyData)}, KdR K F es kvs → (valV es k = none ∧ valD kvs k = none) ∨ ∃ v d, valV es k = some v ∧ valD kvs k = some d ∧ Dv K F v d
  | _, _, .nil => .inl ⟨rfl, rfl⟩
  | _, _, .cons (k := k') (v := v) (d := d) (es := es) (kvs := kvs) h t => by
    by_cases e : k' = k
    · exact .inr ⟨v, d, by simp [valV, List.find?_cons, e], by simp [valD, List.find?_cons, e], h⟩
    · have e1 : valV ((k', v) :: es) k = valV es k := by simp [valV, List.find?_cons, e]
      have e2 : valD ((k', d) :: kvs) k = valD kvs k := by simp [valD, List.find?_cons, e]
      rw [e1, e2]
      exact KdR.val t
theorem KdR.any {k : Key} : ∀ {es : List (Key × V)} {kvs : List (Key × PyData)}, KdR K F es kvs → (es.any fun kv => decide (kv.1 = k)) = (kvs.any fun kv => decide (kv.1 = k))
  | _, _, .nil => rfl
  | _, _, .cons h t => by rw [List.any_cons, List.any_cons, KdR.any t]
theorem KdR.upd {k : Key} {v : V} {d : PyData} (h0 : Dv K F v d) : ∀ {es : List (Key × V)} {kvs : List (Key × PyData)}, KdR K F es kvs → KdR K F (es.map fun kv => if kv.1 = k then (kv.1, v) else kv) (kvs.map fun kv => if kv.1 = k then (kv.1, d) else kv)
  | _, _, .nil => .nil
  | _, _, .cons (k := k') h t => by
    rw [List.map_cons, List.map_cons]
    by_cases e : k' = k
    · rw [if_pos e, if_pos e]; exact .cons h0 (KdR.upd h0 t)
    · rw [if_neg e, if_neg e]; exact .cons h (KdR.upd h0 t)
theorem KdR.snoc {k : Key} {v : V} {d : PyData} (h0 : Dv K F v d) : ∀ {es : List (Key × V)} {kvs : List (Key × PyData)}, KdR K F es kvs → KdR K F (es ++ [(k, v)]) (kvs ++ [(k, d)])
  | _, _, .nil => .cons h0 .nil
  | _, _, .cons h t => .cons h (KdR.snoc h0 t)
theorem KdR.put {k : Key} {v : V} {d : PyData} (h0 : Dv K F v d) {es : List (Key × V)} {kvs : List (Key × PyData)} (h : KdR K F es kvs) : KdR K F (putK es k v) (putD kvs k d) := by
  unfold putK putD
  rw [KdR.any h]
  split
  · exact KdR.upd h0 h
  · exact KdR.snoc h0 h
theorem KdR.merge : ∀ {es2 : List (Key × V)} {kvs2 : List (Key × PyData)}, KdR K F es2 kvs2 → ∀ {es : List (Key × V)} {kvs : List (Key × PyData)}, KdR K F es kvs → KdR K F (mergeK es es2) (mergeD kvs kvs2)
  | _, _, .nil, _, _, h => h
  | _, _, .cons h0 t, _, _, h => KdR.merge t (KdR.put h0 h)
end
def pairsD : List PyData → Option (List (Key × PyData))
  | [] => some []
  | .tuple [x, y] :: r => (kOf x).bind fun k => (pairsD r).map fun kvs => (k, y) :: kvs
  | _ => none
theorem pairsD_at {K : PySem.W.Frag} {F H : Hp} (s : Same F H) : ∀ {xs : List V} {ds : List PyData} {kvs : List (Key × PyData)}, DvAll K F xs ds → pairsD ds = some kvs → ∃ (ps : List Addr) (es : List (Key × V)), xs = ps.map V.ref ∧ Paired (fun p (kv : Key × V) => SqT K H p [kV kv.1, kv.2]) ps es ∧ KdR K F es kvs
  | _, _, kvs, .nil, e => by cases e; exact ⟨[], [], rfl, .nil, .nil⟩
  | _, _, kvs, .cons (d := d) (ds := ds) h t, e => by
    unfold pairsD at e
    split at e
    · rename_i q; cases q
    · rename_i x y r q
      cases q
      obtain ⟨ky, q1, e⟩ := Option.bind_eq_some_iff.mp e
      obtain ⟨kvs', q3, rfl⟩ := Option.map_eq_some_iff.mp e
      obtain ⟨ps, es, rfl, hp, hk⟩ := pairsD_at s t q3
      cases h with
      | tup h1 h2 =>
        cases h2 with
        | cons a1 h2 => cases h2 with
          | @cons v _ _ _ a2 h2 =>
            cases h2
            rw [kOf_dv a1 q1] at h1
            exact ⟨_ :: ps, (ky, v) :: es, rfl, .cons (h1.sq s) hp, .cons a2 hk⟩
    · cases e
section
variable {G : Type} {gi : GI G} {X : Cx} {a b c tg : Expr} {p pos : Pos} {fa fk : FE G}
/-- x = dict([..]), the values any data -/
def setKM (i : Nat) (ρ : Ev) (d : PyData) : M G Fl := match d with
  | .list ds => bnd (lft (pairsD ds)) fun kvs => ret (.next (ρ.set i (some (.kdic (mergeD [] kvs)))))
  | _ => fail
def sSetKD (i : Nat) (fa : FE G) : FS G := fun ρ => bnd (fa ρ) (setKM i ρ)
theorem ds_setKD (i : Nat) {x : Str} {p1 cp : Pos} (hc : X.calm = true) (hg : Gl X "dict") (hm : X.mg "dict" = none) (hv : bootBuiltins "dict" = some (.type "dict")) (hN : X.N.Nodup) (hi : X.N[i]? = some x) (hx : Loc X.env.scope x) (ha : PE X a (tE gi X.K fa)) (he : starEach [a] X.env = (false, eval a X.env) :: starEach [] X.env := by rfl)
    (hs : swapsWith (.Call (.Name "dict" p) [a] [] cp) (some (.Name x p1)) pos.line X.env = pure false := by rfl) (hf : X.fn x = true ∨ X.env.scope.names.lookup x = some .local := by first | exact .inl rfl | exact .inr rfl | assumption) :
    PS X (.Assign [.Name x p1] (.Call (.Name "dict" p) [a] [] cp) pos) (tS gi X.K (sSetKD i fa)) := PS_weak (ps_set hN hi hx (pe_callTy (call_dictP hc) hg hm hv (pa_cons ha pa_nil he) (by decide) (by decide) he rfl) hs hf) fun D σ H ⟨en, F, g, ρ, fl, g', r, e, k⟩ => by
  obtain ⟨d, g1, e1, e⟩ := bnd_some e
  refine ⟨en, F, g, ρ, d, g1, r, e1, fun v F1 H1 s1 r1 h1 => ?_⟩
  unfold setKM at e
  cases d <;> first | cases e; done | skip
  rename_i ds
  obtain ⟨kvs, g2, e2', e⟩ := bnd_some e
  obtain ⟨e2, rfl⟩ := lft_inv e2'
  cases e
  cases h1 with
  | lst q1 q2 =>
    obtain ⟨ps, es, rfl, hp, hk⟩ := pairsD_at r1.sub q2 e2
    refine ⟨_, ps, es, rfl, .inl (.inl (r1.sub _ _ q1)), hp, fun q hq => ?_⟩
    have r2 := r1.alloc0 (o := .dK (mergeK [] es)) hq
    have lo : Lone gi en F1 (upd H1 q (.dK (mergeK [] es))) _ σ ρ q := (r1.lone_of hq).keep (r1.free hq).1
    have sF : Same F1 (upd F1 q (.dK (mergeK [] es))) := same_upd lo.1
    have r3 := r2.freeze lo upd_same (fun ps z => nomatch z)
    exact k _ _ _ (s1.trans sF) (r3.set (i := i) (v := .ref q) (s := .kdic (mergeD [] kvs)) ⟨q, _, rfl, upd_same, (KdR.merge hk .nil).mono sF⟩ fun a h => h.elim)
def kdAt (ρ : Ev) (i : Nat) : Option (List (Key × PyData)) := match ρ[i]? with
  | some (some (.kdic kvs)) => some kvs
  | _ => none
theorem kdAt_some {ρ : Ev} {i : Nat} {kvs : List (Key × PyData)} (h : kdAt ρ i = some kvs) : ρ[i]? = some (some (.kdic kvs)) := by
  unfold kdAt at h
  split at h
  · cases h; assumption
  · cases h
def kGet (kvs : List (Key × PyData)) (d : PyData) : Option PyData := (kOf d).bind (valD kvs)
def kHas (kvs : List (Key × PyData)) (d : PyData) : Option Bool := (kOf d).map fun k => (valD kvs k).isSome
def eDixD (i : Nat) (fk : FE G) : FE G := fun ρ => bnd (lft (kdAt ρ i)) fun kvs => bnd (fk ρ) fun d => lft (kGet kvs d)
theorem de_dixD (i : Nat) {x : Str} (hu : X.A.units + 1 < cLine) (ho : PE X (.Name x p) (tVar i)) (hi : PE X a (tE gi X.K fk)) (hs : NoSl a) : PE X (.Subscript (.Name x p) a pos) (tE gi X.K (eDixD i fk)) :=
  PE_weak (pe_dget hu ho hi hs) fun σ H Q ⟨en, F, g, ρ, d, g', r, e, k⟩ => by
    obtain ⟨kvs, g0, e0, e⟩ := bnd_some e
    obtain ⟨hr, rfl⟩ := lft_inv e0
    obtain ⟨y, g1, e1, e⟩ := bnd_some e
    obtain ⟨e3, rfl⟩ := lft_inv e
    obtain ⟨ky, q1, q2⟩ := Option.bind_eq_some_iff.mp e3
    obtain ⟨q, es, s1, s2, hk⟩ := r.sl i _ (kdAt_some hr)
    refine ⟨.ref q, s1, en, F, _, ρ, y, _, r, e1, fun w F1 H1 t1 r1 h1 => ?_⟩
    rw [kOf_dv h1 q1]
    rcases KdR.val (k := ky) (hk.mono t1) with ⟨_, z⟩ | ⟨v, d', z1, z2, z3⟩
    · rw [z] at q2; cases q2
    · rw [z2] at q2
      cases q2
      refine ⟨q, v, rfl, ?_, k v F1 H1 t1 r1 z3⟩
      rw [← z1]
      exact DGet.k (r1.sub _ _ (t1 _ _ s2))
def fInKD (i : Nat) (neg : Bool) (fk : FE G) : FT G := fun ρ => bnd (lft (kdAt ρ i)) fun kvs => bnd (fk ρ) fun y => bnd (lft (kHas kvs y)) fun b => ret (if neg = true then !b else b)
theorem dt_notInKD (i : Nat) {d : Str} {pd : Pos} (hu : X.A.units + 1 < cLine) (ho : PE X (.Name d pd) (tVar i)) (ha : PE X a (tE gi X.K fk)) (hm : behindInMarks .NotIn (.Name d pd) = false := by rfl) : PT X (.Compare a [.NotIn] [.Name d pd] pos) (tT gi X.K (fInKD i true fk)) :=
  PT_weak (pt_cmp (pc_dnotin hu ha ho) hm) fun σ H Q ⟨en, F, g, ρ, b, g', r, e, k⟩ => by
    obtain ⟨kvs, g0, e0, e⟩ := bnd_some e
    obtain ⟨hr, rfl⟩ := lft_inv e0
    obtain ⟨y, g1, e1, e⟩ := bnd_some e
    obtain ⟨z, g2, e2, e⟩ := bnd_some e
    obtain ⟨e3, rfl⟩ := lft_inv e2
    cases e
    obtain ⟨ky, q1, rfl⟩ := Option.map_eq_some_iff.mp e3
    obtain ⟨q, es, s1, s2, hk⟩ := r.sl i _ (kdAt_some hr)
    have hv : (valV es ky).isSome = (valD kvs ky).isSome := by
      rcases KdR.val (k := ky) hk with ⟨z1, z2⟩ | ⟨v, d', z1, z2, z3⟩
      · rw [z1, z2]; rfl
      · rw [z1, z2]; rfl
    refine ⟨en, F, _, ρ, y, _, r, e1, fun w F1 H1 t1 r1 h1 => ⟨.ref q, s1, q, valV es ky, rfl, ?_, _, rfl, ?_⟩⟩
    · rw [kOf_dv h1 q1]
      exact DGet.k (r1.sub _ _ (t1 _ _ s2))
    · rw [hv]
      exact k F1 H1 t1 r1
def xLoop (b : FG G) (body : FXc G) : List PyData → FXc G
  | [] => fun ρ => ret (.fl (.next ρ))
  | d :: ds => fun ρ => bnd (b d ρ) fun ρ1 => bnd (body ρ1) fun fx => match fx with
    | .fl (.next ρ2) => xLoop b body ds (mask ρ ρ2)
    | .fl (.cont ρ2) => xLoop b body ds (mask ρ ρ2)
    | .fl (.brk ρ2) => ret (.fl (.next (mask ρ ρ2)))
    | .fl (.ret r) => ret (.fl (.ret r))
    | .exc c => ret (.exc c)
def xFor (q : FL G) (b : FG G) (body : FXc G) : FXc G := fun ρ => bnd (q ρ) fun ds => xLoop b body ds ρ
variable {q : FL G} {W : WX}
theorem dx_for {iter : Expr} {body : List Stmt} {bg : FG G} {vs : List Nat} {sb : FXc G} (hp : PassesOwn (model X.prog X.w) X.A X.env X.xe) (hc : X.calm = true) (hi : PI X tg iter (tI gi X.K q)) (hg : PG X tg (tG gi X.K bg vs)) (hb : PSs X body (tXc gi X.K W sb))
    (hs : ∀ x, foldedSetIterable iter X.env x = pure x := by intro _; rfl) : PS X (.For tg iter body [] pos) (tXc gi X.K W (xFor q bg sb)) :=
  PS_weak (ps_for hp hc hi hg hb hs) fun D σ H ⟨en, F, g, ρ, fl, g', r, e, k⟩ => by
    obtain ⟨ds, g1, e1, e⟩ := bnd_some e
    refine ⟨en, F, g, ρ, ds, g1, r, e1, fun J F1 H1 s1 r1 wk => ?_⟩
    refine ⟨fun i m σ H => ∃ F2 g2 ρ2, Same F1 F2 ∧ R gi X.K en F2 H g2 σ ρ2 ∧ m = ds.length - i ∧ i ≤ ds.length ∧ xLoop bg sb (ds.drop i) ρ2 g2 = some (fl, g'), ⟨ds.length, F1, g1, ρ, Same.refl F1, r1, by simp, Nat.zero_le _, e⟩, ?_⟩
    rintro i m σ2 H2 ⟨F2, g2, ρ2, s2, r2, rfl, hi, e2⟩
    obtain ⟨wstop, wgo⟩ := wk σ2 ρ2 en F2 H2 g2 s2 r2
    rcases Nat.lt_or_ge i ds.length with hlt | hge
    · obtain ⟨go, yld⟩ := wgo i ds[i] (List.getElem?_eq_getElem hlt)
      rw [List.drop_eq_getElem_cons hlt] at e2
      obtain ⟨ρ3, g3, e3, e2⟩ := bnd_some e2
      obtain ⟨fl3, g4, e4, e2⟩ := bnd_some e2
      refine .inr ⟨go, fun σ' H' => ∃ F5 g5 ρ5, Same F1 F5 ∧ R gi X.K en F5 H' g5 σ' ρ5 ∧ xLoop bg sb (ds.drop (i + 1)) ρ5 g5 = some (fl, g'), fun σ' H' hN => ?_, fun x H3 y => ?_⟩
      · obtain ⟨F5, g5, ρ5, s5, r5, e5⟩ := hN
        exact ⟨ds.length - (i + 1), by omega, F5, g5, ρ5, s5, r5, rfl, hlt, e5⟩
      · obtain ⟨F3, s3, r3, h3⟩ := yld x H3 y
        refine ⟨en, F3, g2, ρ2, ds[i], ρ3, g3, r3, h3, e3, fun σ4 F4 H4 s4 _ _ r4 => ?_⟩
        refine ⟨en, F4, g3, ρ3, fl3, g4, r4, e4, fun F6 H6 σ6 s6 => ?_⟩
        have ss : Same F1 F6 := ((s2.trans s3).trans s4).trans s6
        cases fl3 with
        | exc c => cases e2; exact k F6 H6 σ6 (s1.trans ss)
        | fl fl3 =>
          cases fl3 with
          | next ρ6 => exact fun r6 => ⟨F6, g4, _, ss, r6.mask, e2⟩
          | cont ρ6 => exact fun r6 => ⟨F6, g4, _, ss, r6.mask, e2⟩
          | brk ρ6 =>
            cases e2
            exact fun r6 => k F6 H6 σ6 (s1.trans ss) r6.mask
          | ret x =>
            cases e2
            exact k F6 H6 σ6 (s1.trans ss)
    · have hi' : i = ds.length := by omega
      subst hi'
      rw [List.drop_length] at e2
      cases e2
      exact .inl ⟨wstop, k F2 H2 σ2 (s1.trans s2) r2⟩
/-- x.append(..) that may raise -/
def appXM (i : Nat) (ρ : Ev) (ds : List PyData) (r : Rd) : M G Fx := match r with
  | .ok d => if ds.length < lim then ret (.fl (.next (ρ.set i (some (.own (ds ++ [d])))))) else fail
  | .exc c => ret (.exc c)
def xAppX (i : Nat) (fx : FEX G) : FXc G := fun ρ => bnd (lft (ownAt ρ i)) fun ds => bnd (fx ρ) (appXM i ρ ds)
theorem dx_appX (i : Nat) {E : XK} {x : Str} {p ap cp : Pos} {fx : FEX G} (ho : PE X (.Name x p) (tVar i)) (ha : PE X a (tEX gi X.K fx E))
    (w : ∀ {t : TA} (h : PA X [a] t), PE X (.Call (.Attribute (.Name x p) "append" ap) [a] [] cp) (tBM X.K "list" rAppend (tVar i) t))
    (hs : swapsWith (.Call (.Attribute (.Name x p) "append" ap) [a] [] cp) none pos.line X.env = pure false := by rfl)
    (he2 : starEach [a] X.env = (false, eval a X.env) :: starEach [] X.env := by rfl) :
    PS X (.Expr (.Call (.Attribute (.Name x p) "append" ap) [a] [] cp) pos) (tXc gi X.K (fun cls d _ H => E cls d H) (xAppX i fx)) :=
  PS_weak (ps_expr (w (pa_cons ha pa_nil he2)) hs) fun D σ H ⟨en, F, g, ρ, fl, g', r, e, k⟩ => by
    obtain ⟨ds, g0, e0, e⟩ := bnd_some e
    obtain ⟨hr, rfl⟩ := lft_inv e0
    have hr := ownAt_some hr
    obtain ⟨y, g1, e1, e⟩ := bnd_some e
    obtain ⟨q, xs, h1, h2, _⟩ := r.sl i _ hr
    refine ⟨.ref q, h1, .inl ⟨rfl, xs, .inl (.inl h2)⟩, en, F, _, ρ, y, g1, r, e1, fun F1 H1 s1 r1 => ?_⟩
    cases y with
    | exc c => cases e; exact fun C dd hx => k F1 H1 σ s1 r1.nil C dd hx
    | ok d =>
      intro w hw
      obtain ⟨q', us, h1', h2', _, _, _, h6⟩ := r1.sl i _ hr
      rw [h1] at h1'
      cases h1'
      unfold appXM at e
      simp only at e
      split at e
      · rename_i hl
        cases e
        exact ⟨q, us, w, rfl, rfl, h2', lim_lt (by rw [h6.len]; exact hl), k F1 _ σ s1 (r1.chgO hr h1 (h6.app (.cons hw .nil)))⟩
      · cases e
def sFm : PyData → Option Str
  | .int n => if n.natAbs.log2 < 1920 then some (Str.ofString (toString n)) else none
  | _ => none
def sFm3 (x : Str) (a b : PyData) : Option PyData := (sFm a).bind fun u => (sFm b).bind fun v => if (Str.empty ++ u).length ≤ lim ∧ (Str.empty ++ u ++ x).length ≤ lim ∧ (Str.empty ++ u ++ x ++ v).length ≤ lim then some (.str (Str.empty ++ u ++ x ++ v)) else none
def eFm3 (x : Str) (fa fb : FE G) : FE G := fun ρ => bnd (fa ρ) fun a => bnd (fb ρ) fun b => lft (sFm3 x a b)
theorem sFm_int {d : PyData} {u : Str} (h : sFm d = some u) : ∃ n : Int, d = .int n ∧ n.natAbs.log2 < 1920 ∧ u = Str.ofString (toString n) := by
  unfold sFm at h
  split at h
  · split at h
    · cases h; exact ⟨_, rfl, by assumption, rfl⟩
    · cases h
  · cases h
theorem de_fm3 {x : Str} {fb : FE G} {p1 p2 : Pos} (ha : PE X a (tE gi X.K fa)) (hc : PE X c (tE gi X.K (eC (.str x)))) (hb : PE X b (tE gi X.K fb)) : PE X (.JoinedStr [.FormattedValue a (-1) none p1, c, .FormattedValue b (-1) none p2] pos) (tE gi X.K (eFm3 x fa fb)) :=
  PE_weak (pe_joined (.cons (pe_fmt ha) (.cons hc (.cons (pe_fmt hb) .nil)))) fun σ H Q ⟨en, F, g, ρ, d, g', r, e, k⟩ => by
    obtain ⟨da, g1, e1, e⟩ := bnd_some e
    obtain ⟨db, g2, e2, e⟩ := bnd_some e
    obtain ⟨e3, rfl⟩ := lft_inv e
    obtain ⟨u, q1, e3⟩ := Option.bind_eq_some_iff.mp e3
    obtain ⟨v, q2, e3⟩ := Option.bind_eq_some_iff.mp e3
    split at e3
    · rename_i hl
      cases e3
      obtain ⟨m, rfl, m1, rfl⟩ := sFm_int q1
      obtain ⟨n, rfl, n1, rfl⟩ := sFm_int q2
      refine ⟨en, F, g, ρ, _, g1, r, e1, fun va F1 H1 s1 r1 ha => .inr ⟨m, (by cases ha; rfl), m1, _, rfl, lim_ok hl.1, ?_⟩⟩
      refine ⟨en, F1, g1, ρ, _, g1, r1, rfl, fun vc F2 H2 s2 r2 hc => ⟨x, (by cases hc; rfl), lim_ok hl.2.1, ?_⟩⟩
      exact ⟨en, F2, g1, ρ, _, _, r2, e2, fun vb F3 H3 s3 r3 hb => .inr ⟨n, (by cases hb; rfl), n1, _, rfl, lim_ok hl.2.2, k _ F3 H3 ((s1.trans s2).trans s3) r3 (.str _)⟩⟩
    · cases e3
end
end Dt
namespace Dt
open PySem PySem.Spec L2
/-- k34_laying_texts -/
noncomputable def m_laying_text : FS Tw :=
  (sRet (e2 sJoin (eC (.str "/")) (eFz (lLC [1] (iSeq (eVar 0)) (bName 1) fYes (e2 sJoin (eC (.str " ")) (eFz (lLC [2, 3] (iSeq (eVar 1)) (bTup 2 (bCons (bName 2) (bCons (bName 3) bNil))) fYes (eFm3 "." (eVar 2) (eVar 3)))))))))
noncomputable def f_laying_text : List Ar → M Tw Rt := runDef 4 m_laying_text
/-- k34_laying_texts -/
noncomputable def m_read_laying : FXc Tw :=
  (xSeq (xEmb (sSetL 2 (lLst aNil)))
  (xSeq (xFor (iSeq (eFz (l2 lSplit (eVarQ 1) (eC (.str "/"))))) (bName 3) (xAppX 2 (eTupX (lLCX [4] (iSeq (eFz (l2 lSplit (eVarQ 3) (eC (.str " "))))) (bName 4) fYes (eTupX (lLCX [5] (iSeq (eFz (l2 lSplit (eVarQ 4) (eC (.str "."))))) (bName 5) fYes (eCallX 1 f_number_of_x (rCons (eVar 5) rNil))))))))
  (xSeq (xIf (fOr (fNot (fTru (eCall 2 f_is_laying (rCons (eVar 0) (rCons (e1 sTuple (eVarQ 2)) rNil)) []))) (fB (e2 sNe (eCall 1 f_laying_text (rCons (e1 sTuple (eVarQ 2)) rNil) []) (eVarQ 1)))) (xRaise "NoText") (xEmb sNext))
  (xEmb (sRet (e1 sTuple (eVarQ 2)))))))
noncomputable def f_read_laying_x : List Ar → M Tw Rx := runDefX 6 m_read_laying
noncomputable def f_read_laying : List Ar → M Tw Rt := okOf f_read_laying_x
/-- k34_laying_texts -/
noncomputable def m_l_meant_2 : FS Tw :=
  (sSeq (sSetKD 2 (eFz (lLC [5] (l1 sRng1 (e2 sMul (eC (.int 4)) (e1 sLen (eVarQ 0)))) (bName 5) fYes (eTup (aCons (e2 sAddS (e2 sAddS (e1 sStr (e2 sFdiv (eVarQ 5) (eC (.int 4)))) (eC (.str "."))) (e1 sStr (e2 sMod (eVarQ 5) (eC (.int 4))))) (aCons (eTup (aCons (e2 sFdiv (eVarQ 5) (eC (.int 4))) (aCons (e2 sMod (eVarQ 5) (eC (.int 4))) aNil))) aNil))))))
  (sSeq (sSet 3 (eFz (lLC [6] (iSeq (eFz (l2 lSplit (eVarQ 1) (eC (.str "/"))))) (bName 6) fYes (eFz (l2 lSplit (eVarQ 6) (eC (.str " ")))))))
  (sSeq (sIf (fB (e2 sNe (eFz (lLC [6] (iSeq (eVar 3)) (bName 6) (fB (e2 sNe (eFz (lLC [7] (iSeq (eVar 6)) (bName 7) (fInKD 2 true (eVar 7)) (eVar 7))) (eFz (lLst aNil)))) (eVar 6))) (eFz (lLst aNil)))) (sRet (eTup (aCons (eC (.str "no text")) aNil))) sNext)
  (sSeq (sSet 4 (e1 sTuple (eFz (lLC [6] (iSeq (eVar 3)) (bName 6) fYes (e1 sTuple (eFz (lLC [7] (iSeq (eVar 6)) (bName 7) fYes (eDixD 2 (eVar 7)))))))))
  (sRet (eIf (fTru (eCall 2 f_is_laying (rCons (eVar 0) (rCons (eVar 4) rNil)) [])) (eTup (aCons (eC (.str "told")) (aCons (eVar 4) aNil))) (eTup (aCons (eC (.str "no text")) aNil))))))))
noncomputable def f_l_meant_2 : List Ar → M Tw Rt := runDef 8 m_l_meant_2
/-- k34_laying_texts -/
noncomputable def m_law_k34 : FS Tw :=
  (sSeq (sFor (l1 sRng1 (eC (.int 2))) (bName 2) (sSeq (sSet 3 (e1 sTuple (eFz (lLC [8] (l1 sRng1 (e2 sAdd (eC (.int 1)) (eCall 3 f_l_draw (rRaw 0 (rRaw 1 (rCons (eC (.int 12)) rNil))) []))) (bName 8) fYes (eCall 2 f_l_a_piece (rRaw 0 (rRaw 1 rNil)) [])))))
  (sSeq (sAsg (eTup (aCons (eCall 3 f_l_an_order (rRaw 0 (rRaw 1 (rCons (e1 sLen (eVarQ 3)) rNil))) []) (aCons (e2 sAdd (eC (.int 1)) (eCall 3 f_l_draw (rRaw 0 (rRaw 1 (rCons (e2 sMin2 (eC (.int 4)) (e1 sLen (eVarQ 3))) rNil))) [])) aNil))) (bTup 2 (bCons (bName 4) (bCons (bName 5) bNil))))
  (sSeq (sSet 6 (e1 sTuple (eFz (lLC [9] (l3 sRng3 (eC (.int 0)) (e2 sAdd (e2 sSub (e1 sLen (eVarQ 4)) (eVarQ 5)) (eC (.int 1))) (eVarQ 5)) (bName 9) fYes (eCut (eVarQ 4) (oSome (eVarQ 9)) (oSome (e2 sAdd (eVarQ 9) (eVarQ 5))))))))
  (sSeq (sSet 7 (e2 sJoin (eC (.str "/")) (eFz (lLC [14] (iSeq (eVar 6)) (bName 14) fYes (e2 sJoin (eC (.str " ")) (eFz (lLC [9, 15] (iSeq (eVar 14)) (bTup 2 (bCons (bName 9) (bCons (bName 15) bNil))) fYes (e2 sAddS (e2 sAddS (e1 sStr (eVarQ 9)) (eC (.str "."))) (e1 sStr (eVarQ 15))))))))))
  (sSeq (sIf (fOr (fB (e2 sNe (eCall 1 f_laying_text (rCons (eVar 6) rNil) []) (eVarQ 7))) (fB (e2 sNe (eCall 2 f_read_laying (rCons (eVar 3) (rCons (eVar 7) rNil)) []) (eVarQ 6)))) (sRet (eC (.bool false))) sNext)
  (sFor (l1 sRng1 (eC (.int 8))) (bName 8) (sSeq (sPar [9, 10] (xD (eCall 3 f_l_draw (rRaw 0 (rRaw 1 (rCons (e2 sAdd (e1 sLenS (eVarQ 7)) (eC (.int 1))) rNil))) []) (xD (e2 sIxS (eC (.str "0123. /4-a")) (eCall 3 f_l_draw (rRaw 0 (rRaw 1 (rCons (eC (.int 10)) rNil))) [])) xNil)))
  (sFor (iSeq (eFz (lLst (aCons (e2 sAddS (e2 sAddS (eCutS (eVarQ 7) oNone (oSome (eVarQ 9))) (eVarQ 10)) (eCutS (eVarQ 7) (oSome (eVarQ 9)) oNone)) (aCons (e2 sAddS (eCutS (eVarQ 7) oNone (oSome (eVarQ 9))) (eCutS (eVarQ 7) (oSome (e2 sAdd (eVarQ 9) (eC (.int 1)))) oNone)) (aCons (e2 sAddS (e2 sAddS (eCutS (eVarQ 7) oNone (oSome (eVarQ 9))) (eVarQ 10)) (eCutS (eVarQ 7) (oSome (e2 sAdd (eVarQ 9) (eC (.int 1)))) oNone)) aNil)))))) (bName 11) (sIf (fB (e2 sNe (eHeard 5 1 2 m_l_heard (eCallKX 2 f_read_laying_x kb_read_laying_1_text_g (rCons (eVar 3) rNil) (rCons (eVar 11) rNil))) (eCall 2 f_l_meant_2 (rCons (eVar 3) (rCons (eVar 11) rNil)) []))) (sRet (eC (.bool false))) sNext))))))))))
  (sSeq (sSet 12 (eTup (aCons (eTup (aCons (eC (.int 0)) (aCons (eC (.int 0)) (aCons (eC (.int 0)) (aCons (eC (.int 0)) aNil))))) aNil)))
  (sSeq (sSet 13 (eFz (lLst (aCons (eC (.str "")) (aCons (eC (.str "0")) (aCons (eC (.str "0.")) (aCons (eC (.str ".0")) (aCons (eC (.str "0.4")) (aCons (eC (.str "1.0")) (aCons (eC (.str "0.0.0")) (aCons (eC (.str "00.0")) (aCons (eC (.str "0.00")) (aCons (eC (.str "0.0 ")) (aCons (eC (.str "0.0/")) (aCons (eC (.str "0.0/0.1")) (aCons (eC (.str "0,0")) (aCons (eC (.str "-0.0")) (aCons (eC (.str "0.-0")) aNil))))))))))))))))))
  (sRet (e2 sEq (eFz (lLC [7] (iSeq (eVar 13)) (bName 7) fYes (eHeard 5 1 2 m_l_heard (eCallX 2 f_read_laying_x (rCons (eVar 12) (rCons (eVar 7) rNil)))))) (eFz (lLC [7] (iSeq (eVar 13)) (bName 7) fYes (eTup (aCons (eC (.str "no text")) aNil)))))))))
end Dt
namespace Dt
open PySem PySem.Spec L2
end Dt
namespace Dt
open PySem PySem.Spec L2 SX
theorem sp_sum (c : Nat) : ∀ (a acc : List Nat), ((TL.spl [c] 0 acc a).map (fun p => p.length + 1)).sum = acc.length + a.length + 1
  | [], acc => by rw [TL.spl_nil]; simp
  | d :: r, acc => by
    by_cases h : d = c
    · subst h
      rw [sp_hit, List.map_cons, List.sum_cons, sp_sum d r [], List.length_nil, List.length_cons]
      omega
    · rw [sp_miss h, sp_sum c r (acc ++ [d]), List.length_append, List.length_cons, List.length_cons, List.length_nil]
      omega
theorem numL_chr (n : Nat) : ∀ c ∈ TL.numL n, 48 ≤ c ∧ c ≤ 57 := fun c hc => TL.numL_digits n c hc
theorem numL_head (n : Nat) : (TL.numL n).head? ≠ some 45 := fun h => by
  have := numL_chr n 45 (List.mem_of_mem_head? (by rw [h]; rfl))
  omega
theorem figs_num (n : Nat) : figs (TL.numL n) = TL.numL n := if_neg (numL_head n)
theorem nv_num (n : Nat) : nv (TL.numL n) = (n : Int) := by
  unfold nv
  rw [figs_num, if_pos rfl, TL.numL_val]
theorem numB_num {n : Nat} (h : n < 10000) : numB (TL.numL n) = true := by
  unfold numB
  rw [figs_num, Bool.and_eq_true, decide_eq_true_eq, List.all_eq_true]
  refine ⟨⟨List.length_pos_iff.mpr (TL.numL_ne n), TL.numL_len (k := 4) (by decide) h⟩, fun c hc => ?_⟩
  have := numL_chr n c hc
  unfold dgB
  rw [decide_eq_true this.1, decide_eq_true this.2]
  rfl
def wT (p : Nat × Nat) : List Nat := TL.numL p.1 ++ 46 :: TL.numL p.2
def rT (r : List (Nat × Nat)) : List Nat := TL.joinL [32] (r.map wT)
def lT (rs : List (List (Nat × Nat))) : List Nat := TL.joinL [47] (rs.map rT)
theorem wT_chr (p : Nat × Nat) : ∀ c ∈ wT p, c = 46 ∨ (48 ≤ c ∧ c ≤ 57) := fun c hc => by
  rcases List.mem_append.mp hc with hc | hc
  · exact .inr (numL_chr _ c hc)
  · rcases List.mem_cons.mp hc with rfl | hc
    · exact .inl rfl
    · exact .inr (numL_chr _ c hc)
theorem rT_chr (r : List (Nat × Nat)) : ∀ c ∈ rT r, c = 32 ∨ c = 46 ∨ (48 ≤ c ∧ c ≤ 57) := join_chr (.inl rfl) fun p hp z hz => by
  obtain ⟨e, he, rfl⟩ := List.mem_map.mp hp
  exact .inr (wT_chr e z hz)
theorem lT_chr (rs : List (List (Nat × Nat))) : ∀ c ∈ lT rs, c = 47 ∨ c = 32 ∨ c = 46 ∨ (48 ≤ c ∧ c ≤ 57) := join_chr (.inl rfl) fun p hp z hz => by
  obtain ⟨e, he, rfl⟩ := List.mem_map.mp hp
  exact .inr (rT_chr e z hz)
theorem sp_wT (p : Nat × Nat) : sp 46 (wT p) = [TL.numL p.1, TL.numL p.2] := by
  have e : wT p = TL.joinL [46] [TL.numL p.1, TL.numL p.2] := rfl
  rw [e]
  exact TL.spl_join (List.cons_ne_nil _ _) fun q hq hc => by
    rcases List.mem_cons.mp hq with rfl | hq
    · have := numL_chr _ _ hc; omega
    · cases List.mem_singleton.mp hq
      have := numL_chr _ _ hc; omega
theorem sp_rT {r : List (Nat × Nat)} (hn : r ≠ []) : sp 32 (rT r) = r.map wT := TL.spl_join (by simpa using hn) fun p hp hc => by
  obtain ⟨e, he, rfl⟩ := List.mem_map.mp hp
  rcases wT_chr e _ hc with z | z <;> omega
theorem sp_lT {rs : List (List (Nat × Nat))} (hn : rs ≠ []) : sp 47 (lT rs) = rs.map rT := TL.spl_join (by simpa using hn) fun p hp hc => by
  obtain ⟨e, he, rfl⟩ := List.mem_map.mp hp
  rcases rT_chr e _ hc with z | z | z <;> omega
def vW (w : List Nat) : Nat × Nat := ((nv ((sp 46 w).getD 0 [])).toNat, (nv ((sp 46 w).getD 1 [])).toNat)
theorem vW_wT (p : Nat × Nat) : vW (wT p) = p := by
  unfold vW
  rw [sp_wT]
  show ((nv (TL.numL p.1)).toNat, (nv (TL.numL p.2)).toNat) = p
  rw [nv_num, nv_num, Int.toNat_natCast, Int.toNat_natCast]
def gdN (n : Nat) (w : List Nat) : Bool := decide ((vW w).1 < n ∧ (vW w).2 < 4) && decide (w = wT (vW w))
theorem gdN_iff {n : Nat} {w : List Nat} : gdN n w = true ↔ ∃ p : Nat × Nat, (p.1 < n ∧ p.2 < 4) ∧ w = wT p := by
  unfold gdN
  rw [Bool.and_eq_true, decide_eq_true_eq, decide_eq_true_eq]
  constructor
  · rintro ⟨h1, h2⟩
    exact ⟨_, h1, h2⟩
  · rintro ⟨p, h1, rfl⟩
    rw [vW_wT]
    exact ⟨h1, rfl⟩
def gL (n : Nat) (x : List Nat) : Bool := (sp 47 x).all fun r => (sp 32 r).all (gdN n)
def vL (x : List Nat) : List (List (Nat × Nat)) := (sp 47 x).map fun r => (sp 32 r).map vW
def okL (n : Nat) (x : List Nat) : Bool := gL n x && isLay n (.tuple ((vL x).map rowD))
/-- a text of good words is the text of what it says -/
theorem lT_vL {n : Nat} {x : List Nat} (h : gL n x = true) : lT (vL x) = x := by
  unfold gL at h
  rw [List.all_eq_true] at h
  have hr : ∀ r ∈ sp 47 x, rT ((sp 32 r).map vW) = r := fun r hr => by
    have := List.all_eq_true.mp (h r hr)
    unfold rT
    rw [List.map_map, (List.map_congr_left (f := wT ∘ vW) (g := id) fun w hw => ?_).trans (List.map_id _), join_sp, List.nil_append]
    obtain ⟨p, _, rfl⟩ := gdN_iff.mp (this w hw)
    show wT (vW (wT p)) = wT p
    rw [vW_wT]
  unfold lT vL
  rw [List.map_map, (List.map_congr_left (f := rT ∘ fun r => (sp 32 r).map vW) (g := id) fun r h2 => hr r h2).trans (List.map_id _), join_sp, List.nil_append]
/-- the text of rows is good -/
theorem gL_lT {n : Nat} {rs : List (List (Nat × Nat))} (hn : rs ≠ []) (hr : ∀ r ∈ rs, r ≠ [] ∧ ∀ p ∈ r, p.1 < n ∧ p.2 < 4) : gL n (lT rs) = true ∧ vL (lT rs) = rs := by
  unfold gL vL
  rw [sp_lT hn]
  constructor
  · rw [List.all_map, List.all_eq_true]
    intro r h
    show (sp 32 (rT r)).all (gdN n) = true
    rw [sp_rT (hr r h).1, List.all_map, List.all_eq_true]
    exact fun p hp => gdN_iff.mpr ⟨p, (hr r h).2 p hp, rfl⟩
  · rw [List.map_map]
    refine (List.map_congr_left (g := id) fun r h => ?_).trans (List.map_id _)
    show (sp 32 (rT r)).map vW = r
    rw [sp_rT (hr r h).1, List.map_map]
    exact (List.map_congr_left (g := id) fun p _ => vW_wT p).trans (List.map_id _)
end Dt
namespace Dt
open PySem PySem.Spec L2 SX
section
variable {G : Type}
theorem eFm3_ap (x : Str) (fa fb : FE G) (ρ : Ev) : eFm3 x fa fb ρ = bnd (fa ρ) fun a => bnd (fb ρ) fun b => lft (sFm3 x a b) := id rfl
def xlpM (b : FG G) (body : FXc G) (ds : List PyData) (ρ : Ev) (fx : Fx) : M G Fx := match fx with
    | .fl (.next ρ2) => xLoop b body ds (mask ρ ρ2)
    | .fl (.cont ρ2) => xLoop b body ds (mask ρ ρ2)
    | .fl (.brk ρ2) => ret (.fl (.next (mask ρ ρ2)))
    | .fl (.ret r) => ret (.fl (.ret r))
    | .exc c => ret (.exc c)
theorem xLoop_nil (b : FG G) (body : FXc G) (ρ : Ev) : xLoop b body [] ρ = ret (.fl (.next ρ)) := id rfl
theorem xLoop_cons (b : FG G) (body : FXc G) (d : PyData) (ds : List PyData) (ρ : Ev) : xLoop b body (d :: ds) ρ = bnd (b d ρ) fun ρ1 => bnd (body ρ1) (xlpM b body ds ρ) := id rfl
theorem xlpM_next (b : FG G) (body : FXc G) (ds : List PyData) (ρ ρ2 : Ev) : xlpM b body ds ρ (.fl (.next ρ2)) = xLoop b body ds (mask ρ ρ2) := id rfl
theorem xlpM_exc (b : FG G) (body : FXc G) (ds : List PyData) (ρ : Ev) (c : Xc) : xlpM b body ds ρ (.exc c) = ret (.exc c) := id rfl
theorem xFor_ap (q : FL G) (b : FG G) (body : FXc G) (ρ : Ev) : xFor q b body ρ = bnd (q ρ) fun ds => xLoop b body ds ρ := id rfl
theorem xAppX_ap (i : Nat) (fx : FEX G) (ρ : Ev) : xAppX i fx ρ = bnd (lft (ownAt ρ i)) fun ds => bnd (fx ρ) (appXM i ρ ds) := id rfl
theorem appXM_ok (i : Nat) (ρ : Ev) (ds : List PyData) (d : PyData) : (appXM i ρ ds (.ok d) : M G Fx) = if ds.length < lim then ret (.fl (.next (ρ.set i (some (.own (ds ++ [d])))))) else fail := id rfl
theorem appXM_exc (i : Nat) (ρ : Ev) (ds : List PyData) (c : Xc) : (appXM i ρ ds (.exc c) : M G Fx) = ret (.exc c) := id rfl
theorem xloop_app {α : Type} {b : FG G} {body : FXc G} {φ : α → PyData} {E : List PyData → Ev} {h : α → PyData} {p : α → Bool} {c : Xc} (M : Nat) : ∀ {l : List α} {acc : List PyData}, (∀ x ∈ l, ∀ acc ds, acc.length ≤ M → xLoop b body (φ x :: ds) (E acc) = if p x = true then xLoop b body ds (E (acc ++ [h x])) else ret (.exc c)) → acc.length + l.length ≤ M →
    xLoop b body (l.map φ) (E acc) = if l.all p = true then ret (.fl (.next (E (acc ++ l.map h)))) else ret (.exc c)
  | [], acc, _, _ => by simp [xLoop_nil]
  | x :: l, acc, hs, hl => by
    rw [List.length_cons] at hl
    rw [List.map_cons, hs x (List.mem_cons_self ..) acc _ (by omega), List.all_cons]
    cases hp : p x
    · rfl
    · rw [if_pos rfl, xloop_app M (fun y hy => hs y (List.mem_cons_of_mem _ hy)) (by rw [List.length_append, List.length_cons, List.length_nil]; omega), Bool.true_and, List.append_assoc]
      rfl
end
theorem slash : ("/" : Str) = S [47] := by kernel_rfl
theorem dot : ("." : Str) = S [46] := by kernel_rfl
theorem emp : Str.empty = S [] := rfl
theorem log_small {n : Nat} (h : n < 10000) : ((n : Int)).natAbs.log2 < 1920 := by
  rw [Int.natAbs_natCast]
  exact Nat.lt_of_le_of_lt (Nat.log2_le_self n) (by omega) |> fun q => by
    by_cases h0 : n = 0
    · subst h0; decide
    · exact (Nat.log2_lt h0).mpr (Nat.lt_of_lt_of_le h (by decide +kernel))
theorem sStr_nat {n : Nat} (h : n < 10000) : sStr (.int (n : Int)) = some (.str (S (TL.numL n))) := by
  unfold sStr
  simp only
  rw [if_pos (log_small h), num_S]
theorem sFm_nat {n : Nat} (h : n < 10000) : sFm (.int (n : Int)) = some (S (TL.numL n)) := by
  unfold sFm
  simp only
  rw [if_pos (log_small h), num_S]
theorem numL4 {n : Nat} (h : n < 10000) : (TL.numL n).length ≤ 4 := TL.numL_len (k := 4) (by decide) h
theorem wT_len {p : Nat × Nat} (h1 : p.1 < 10000) (h2 : p.2 < 10000) : (wT p).length ≤ 9 := by
  unfold wT
  rw [List.length_append, List.length_cons]
  have := numL4 h1
  have := numL4 h2
  omega
theorem sFm3_ok {p : Nat × Nat} (h1 : p.1 < 10000) (h2 : p.2 < 10000) : sFm3 (S [46]) (.int (p.1 : Int)) (.int (p.2 : Int)) = some (.str (S (wT p))) := by
  have l1 := numL4 h1
  have l2 := numL4 h2
  unfold sFm3
  rw [sFm_nat h1, sFm_nat h2, Option.bind_some, Option.bind_some, emp, S_cat, S_cat, S_cat, S_len, S_len, S_len]
  rw [if_pos (by simp only [List.length_append, List.length_cons, List.length_nil, List.nil_append]; unfold lim; omega)]
  unfold wT
  rw [List.nil_append, List.append_assoc]
  rfl
theorem join_row {r : List (Nat × Nat)} (hl : r.length ≤ 1000) (h : ∀ p ∈ r, p.1 < 10000 ∧ p.2 < 10000) : sJoin (.str (S [32])) (.list (r.map fun p => .str (S (wT p)))) = some (.str (S (rT r))) := by
  have := sJoin_ok (c := 32) (l := r.map wT) (by rw [List.length_map]; exact hl) fun p hp => by
    obtain ⟨e, he, rfl⟩ := List.mem_map.mp hp
    have := wT_len (h e he).1 (h e he).2
    omega
  rw [List.map_map] at this
  exact this
theorem join_rows {rs : List (List (Nat × Nat))} (hl : rs.length ≤ 1000) (h : ∀ r ∈ rs, r.length ≤ 99 ∧ ∀ p ∈ r, p.1 < 10000 ∧ p.2 < 10000) : sJoin (.str (S [47])) (.list (rs.map fun r => .str (S (rT r)))) = some (.str (S (lT rs))) := by
  have := sJoin_ok (c := 47) (l := rs.map rT) (by rw [List.length_map]; exact hl) fun p hp => by
    obtain ⟨r, hr, rfl⟩ := List.mem_map.mp hp
    have := join_len (c := 32) (n := 9) (l := r.map wT) fun q hq => by
      obtain ⟨e, he, rfl⟩ := List.mem_map.mp hq
      exact wT_len ((h r hr).2 e he).1 ((h r hr).2 e he).2
    rw [List.length_map] at this
    have := (h r hr).1
    show (TL.joinL [32] (r.map wT)).length ≤ 1000
    omega
  rw [List.map_map] at this
  exact this
theorem laying_text_ok {rs : List (List (Nat × Nat))} (hl : rs.length ≤ 1000) (h : ∀ r ∈ rs, r.length ≤ 99 ∧ ∀ p ∈ r, p.1 < 10000 ∧ p.2 < 10000) : f_laying_text [.d (.tuple (rs.map rowD))] = ret (.d (.str (S (lT rs)))) := by
  have hj := join_rows hl h
  simp -dsimp (disch := omega) only [f_laying_text, m_laying_text, slash, blank, dot, List.length_map, lim_if, lim_if2, eFz_ap, eVar_ap, eVarQ_ap, eC_ap, e1_ap, e2_ap, l1_ap, l2_ap, aNil_ap, aCons_ap, eTup_ap, lLst_ap, fTru_ap, fB_ap, fNot_ap, fAnd_ap, fOr_ap, eNot_ap, eAnd_ap, eOr_ap, eIf_ap, lIf_ap, oNone_ap, oSome_ap, eCut_ap, lCut_ap, sNext_ap, sBreak_ap, sCont_ap, sIf_ap, sExpr_ap, sRet_ap, sRetL_ap, sRetO_ap, sRetN_ap, bName_ap, bNil_ap, bCons_ap, bTup_ap, bItem_ap, sAsg_ap, sSet_ap, sSetL_ap, sApp_ap, sExt_ap, iSeq_ap, iOwn_ap, l3_ap, sFor_ap, fYes_ap, rNil_ap, rCons_ap, rRaw_ap, eCall_ap, lCall_ap, eCallK_ap, eCh_ap, xNil_ap, xD_ap, xL_ap, sPar_ap, eIs_ap, sSeq_ap, seqM_next, seqM_brk, seqM_cont, seqM_ret, runDef_ap, defM_next, defM_ret, stepM_ap, loopM_next, loopM_cont, loopM_brk, loopM_ret, lcF_ap, lcH_ap, lcM_nil, lcM_cons, lcC_some, lcC_none, limM_ap, lLC_ap, startE, arS, mask, wipeE, noOwn, isOwn, setAll, rtS, sItems_l, sItems_t, lim, sIx_l, sIx_t, sLen_l, sLen_t, sTuple_l, sTuple_t, sList_l, sList_t, rngL0, rngL1, rngL2, rngL3, rngL4, rngL5, rngL6, sat_ret, sat_bnd, sat_some, sat_none, sat_fail, bnd_ret, bnd_bnd, bnd_fail, lft_some, lft_none, Option.map_some, Option.map_none, List.map_cons, List.map_nil, List.length_cons, List.length_nil, List.replicate, List.cons_append, List.nil_append, List.append_nil, List.all_cons, List.all_nil, Bool.and_true, Bool.true_and, Bool.and_false, Bool.false_and, Bool.not_false, Bool.not_true, Bool.not_not, Bool.or_true, Bool.true_or, Bool.or_false, Bool.false_or, List.getElem?_cons_succ, List.getElem?_cons_zero, List.getElem?_nil, if_true, if_false, ite_true, ite_false, List.set_cons_succ, List.set_cons_zero, List.set_nil, Int.reduceLT, Int.reduceLE, Int.reduceNeg, Int.reducePow, Int.reduceMul, Int.reduceAdd, Int.reduceSub, Int.reduceToNat, Int.reduceEq, Nat.reduceAdd, Nat.reduceSub, Nat.reduceLeDiff, Nat.reduceLT, Nat.reduceEqDiff, Nat.reduceMul, and_self, and_true, true_and, and_false, false_and, or_true, true_or, or_false, false_or, or_self, reduceIte, Bool.false_eq_true, Bool.true_eq_false, decide_true, decide_false, Option.some.injEq, List.isEmpty_cons, List.isEmpty_nil, reduceCtorEq, ne_eq, not_false_eq_true, not_true_eq_false, List.replicate_zero, Int.reduceMod, sEq_int, sNe_int, rotN_0, rotN_1, rotN_2, rotN_3, bi_t, bi_f, sAdd_i, sAdd_t, sAdd_l, lAdd_l, sSub_i, sMul_i, sMul_t, sMul_l, sMod_i, sFdiv_i, sNeg_i, sLt_i, sLe_i, sGt_i, sGe_i, sIs_n, sIsNot_n, isN_n, isN_i, isN_t, isN_l, isN_s, isN_b, toB_b, toI_i, toD_d, toD_l, toL_l, tTru_n, tTru_b, tTru_i, tTru_l, tTru_t, isT_int, isT_bool, isT_tuple, isT_str, isT_list, sCut_l, sCut_t, sAug_ap, sPop_ap, at1_0, at2_0, at2_1, at3_0, at3_1, at3_2]
  refine bnd_lcm (h := fun r => .str (S (rT r))) (fun r hr => ?_) ?_
  · have hr1 := (h r hr).1
    have hj := join_row (r := r) (by omega) (h r hr).2
    simp -dsimp (disch := omega) only [rowD, List.length_map, lim_if, lim_if2, eFz_ap, eVar_ap, eVarQ_ap, eC_ap, e1_ap, e2_ap, l1_ap, l2_ap, aNil_ap, aCons_ap, eTup_ap, lLst_ap, fTru_ap, fB_ap, fNot_ap, fAnd_ap, fOr_ap, eNot_ap, eAnd_ap, eOr_ap, eIf_ap, lIf_ap, oNone_ap, oSome_ap, eCut_ap, lCut_ap, sNext_ap, sBreak_ap, sCont_ap, sIf_ap, sExpr_ap, sRet_ap, sRetL_ap, sRetO_ap, sRetN_ap, bName_ap, bNil_ap, bCons_ap, bTup_ap, bItem_ap, sAsg_ap, sSet_ap, sSetL_ap, sApp_ap, sExt_ap, iSeq_ap, iOwn_ap, l3_ap, sFor_ap, fYes_ap, rNil_ap, rCons_ap, rRaw_ap, eCall_ap, lCall_ap, eCallK_ap, eCh_ap, xNil_ap, xD_ap, xL_ap, sPar_ap, eIs_ap, sSeq_ap, seqM_next, seqM_brk, seqM_cont, seqM_ret, runDef_ap, defM_next, defM_ret, stepM_ap, loopM_next, loopM_cont, loopM_brk, loopM_ret, lcF_ap, lcH_ap, lcM_nil, lcM_cons, lcC_some, lcC_none, limM_ap, lLC_ap, startE, arS, mask, wipeE, noOwn, isOwn, setAll, rtS, sItems_l, sItems_t, lim, sIx_l, sIx_t, sLen_l, sLen_t, sTuple_l, sTuple_t, sList_l, sList_t, rngL0, rngL1, rngL2, rngL3, rngL4, rngL5, rngL6, sat_ret, sat_bnd, sat_some, sat_none, sat_fail, bnd_ret, bnd_bnd, bnd_fail, lft_some, lft_none, Option.map_some, Option.map_none, List.map_cons, List.map_nil, List.length_cons, List.length_nil, List.replicate, List.cons_append, List.nil_append, List.append_nil, List.all_cons, List.all_nil, Bool.and_true, Bool.true_and, Bool.and_false, Bool.false_and, Bool.not_false, Bool.not_true, Bool.not_not, Bool.or_true, Bool.true_or, Bool.or_false, Bool.false_or, List.getElem?_cons_succ, List.getElem?_cons_zero, List.getElem?_nil, if_true, if_false, ite_true, ite_false, List.set_cons_succ, List.set_cons_zero, List.set_nil, Int.reduceLT, Int.reduceLE, Int.reduceNeg, Int.reducePow, Int.reduceMul, Int.reduceAdd, Int.reduceSub, Int.reduceToNat, Int.reduceEq, Nat.reduceAdd, Nat.reduceSub, Nat.reduceLeDiff, Nat.reduceLT, Nat.reduceEqDiff, Nat.reduceMul, and_self, and_true, true_and, and_false, false_and, or_true, true_or, or_false, false_or, or_self, reduceIte, Bool.false_eq_true, Bool.true_eq_false, decide_true, decide_false, Option.some.injEq, List.isEmpty_cons, List.isEmpty_nil, reduceCtorEq, ne_eq, not_false_eq_true, not_true_eq_false, List.replicate_zero, Int.reduceMod, sEq_int, sNe_int, rotN_0, rotN_1, rotN_2, rotN_3, bi_t, bi_f, sAdd_i, sAdd_t, sAdd_l, lAdd_l, sSub_i, sMul_i, sMul_t, sMul_l, sMod_i, sFdiv_i, sNeg_i, sLt_i, sLe_i, sGt_i, sGe_i, sIs_n, sIsNot_n, isN_n, isN_i, isN_t, isN_l, isN_s, isN_b, toB_b, toI_i, toD_d, toD_l, toL_l, tTru_n, tTru_b, tTru_i, tTru_l, tTru_t, isT_int, isT_bool, isT_tuple, isT_str, isT_list, sCut_l, sCut_t, sAug_ap, sPop_ap, at1_0, at2_0, at2_1, at3_0, at3_1, at3_2]
    refine bnd_lcm (h := fun p => .str (S (wT p))) (fun p hp => ?_) ?_
    · have := sFm3_ok ((h r hr).2 p hp).1 ((h r hr).2 p hp).2
      simp -dsimp only [prD, eD, eFm3_ap, this, eFz_ap, eVar_ap, eVarQ_ap, eC_ap, e1_ap, e2_ap, l1_ap, l2_ap, aNil_ap, aCons_ap, eTup_ap, lLst_ap, fTru_ap, fB_ap, fNot_ap, fAnd_ap, fOr_ap, eNot_ap, eAnd_ap, eOr_ap, eIf_ap, lIf_ap, oNone_ap, oSome_ap, eCut_ap, lCut_ap, sNext_ap, sBreak_ap, sCont_ap, sIf_ap, sExpr_ap, sRet_ap, sRetL_ap, sRetO_ap, sRetN_ap, bName_ap, bNil_ap, bCons_ap, bTup_ap, bItem_ap, sAsg_ap, sSet_ap, sSetL_ap, sApp_ap, sExt_ap, iSeq_ap, iOwn_ap, l3_ap, sFor_ap, fYes_ap, rNil_ap, rCons_ap, rRaw_ap, eCall_ap, lCall_ap, eCallK_ap, eCh_ap, xNil_ap, xD_ap, xL_ap, sPar_ap, eIs_ap, sSeq_ap, seqM_next, seqM_brk, seqM_cont, seqM_ret, runDef_ap, defM_next, defM_ret, stepM_ap, loopM_next, loopM_cont, loopM_brk, loopM_ret, lcF_ap, lcH_ap, lcM_nil, lcM_cons, lcC_some, lcC_none, limM_ap, lLC_ap, startE, arS, mask, wipeE, noOwn, isOwn, setAll, rtS, sItems_l, sItems_t, lim, sIx_l, sIx_t, sLen_l, sLen_t, sTuple_l, sTuple_t, sList_l, sList_t, rngL0, rngL1, rngL2, rngL3, rngL4, rngL5, rngL6, sat_ret, sat_bnd, sat_some, sat_none, sat_fail, bnd_ret, bnd_bnd, bnd_fail, lft_some, lft_none, Option.map_some, Option.map_none, List.map_cons, List.map_nil, List.length_cons, List.length_nil, List.replicate, List.cons_append, List.nil_append, List.append_nil, List.all_cons, List.all_nil, Bool.and_true, Bool.true_and, Bool.and_false, Bool.false_and, Bool.not_false, Bool.not_true, Bool.not_not, Bool.or_true, Bool.true_or, Bool.or_false, Bool.false_or, List.getElem?_cons_succ, List.getElem?_cons_zero, List.getElem?_nil, if_true, if_false, ite_true, ite_false, List.set_cons_succ, List.set_cons_zero, List.set_nil, Int.reduceLT, Int.reduceLE, Int.reduceNeg, Int.reducePow, Int.reduceMul, Int.reduceAdd, Int.reduceSub, Int.reduceToNat, Int.reduceEq, Nat.reduceAdd, Nat.reduceSub, Nat.reduceLeDiff, Nat.reduceLT, Nat.reduceEqDiff, Nat.reduceMul, and_self, and_true, true_and, and_false, false_and, or_true, true_or, or_false, false_or, or_self, reduceIte, Bool.false_eq_true, Bool.true_eq_false, decide_true, decide_false, Option.some.injEq, List.isEmpty_cons, List.isEmpty_nil, reduceCtorEq, ne_eq, not_false_eq_true, not_true_eq_false, List.replicate_zero, Int.reduceMod, sEq_int, sNe_int, rotN_0, rotN_1, rotN_2, rotN_3, bi_t, bi_f, sAdd_i, sAdd_t, sAdd_l, lAdd_l, sSub_i, sMul_i, sMul_t, sMul_l, sMod_i, sFdiv_i, sNeg_i, sLt_i, sLe_i, sGt_i, sGe_i, sIs_n, sIsNot_n, isN_n, isN_i, isN_t, isN_l, isN_s, isN_b, toB_b, toI_i, toD_d, toD_l, toL_l, tTru_n, tTru_b, tTru_i, tTru_l, tTru_t, isT_int, isT_bool, isT_tuple, isT_str, isT_list, sCut_l, sCut_t, sAug_ap, sPop_ap, at1_0, at2_0, at2_1, at3_0, at3_1, at3_2]
    · simp -dsimp (disch := omega) only [List.length_map, hj, lim_if, lim_if2, eFz_ap, eVar_ap, eVarQ_ap, eC_ap, e1_ap, e2_ap, l1_ap, l2_ap, aNil_ap, aCons_ap, eTup_ap, lLst_ap, fTru_ap, fB_ap, fNot_ap, fAnd_ap, fOr_ap, eNot_ap, eAnd_ap, eOr_ap, eIf_ap, lIf_ap, oNone_ap, oSome_ap, eCut_ap, lCut_ap, sNext_ap, sBreak_ap, sCont_ap, sIf_ap, sExpr_ap, sRet_ap, sRetL_ap, sRetO_ap, sRetN_ap, bName_ap, bNil_ap, bCons_ap, bTup_ap, bItem_ap, sAsg_ap, sSet_ap, sSetL_ap, sApp_ap, sExt_ap, iSeq_ap, iOwn_ap, l3_ap, sFor_ap, fYes_ap, rNil_ap, rCons_ap, rRaw_ap, eCall_ap, lCall_ap, eCallK_ap, eCh_ap, xNil_ap, xD_ap, xL_ap, sPar_ap, eIs_ap, sSeq_ap, seqM_next, seqM_brk, seqM_cont, seqM_ret, runDef_ap, defM_next, defM_ret, stepM_ap, loopM_next, loopM_cont, loopM_brk, loopM_ret, lcF_ap, lcH_ap, lcM_nil, lcM_cons, lcC_some, lcC_none, limM_ap, lLC_ap, startE, arS, mask, wipeE, noOwn, isOwn, setAll, rtS, sItems_l, sItems_t, lim, sIx_l, sIx_t, sLen_l, sLen_t, sTuple_l, sTuple_t, sList_l, sList_t, rngL0, rngL1, rngL2, rngL3, rngL4, rngL5, rngL6, sat_ret, sat_bnd, sat_some, sat_none, sat_fail, bnd_ret, bnd_bnd, bnd_fail, lft_some, lft_none, Option.map_some, Option.map_none, List.map_cons, List.map_nil, List.length_cons, List.length_nil, List.replicate, List.cons_append, List.nil_append, List.append_nil, List.all_cons, List.all_nil, Bool.and_true, Bool.true_and, Bool.and_false, Bool.false_and, Bool.not_false, Bool.not_true, Bool.not_not, Bool.or_true, Bool.true_or, Bool.or_false, Bool.false_or, List.getElem?_cons_succ, List.getElem?_cons_zero, List.getElem?_nil, if_true, if_false, ite_true, ite_false, List.set_cons_succ, List.set_cons_zero, List.set_nil, Int.reduceLT, Int.reduceLE, Int.reduceNeg, Int.reducePow, Int.reduceMul, Int.reduceAdd, Int.reduceSub, Int.reduceToNat, Int.reduceEq, Nat.reduceAdd, Nat.reduceSub, Nat.reduceLeDiff, Nat.reduceLT, Nat.reduceEqDiff, Nat.reduceMul, and_self, and_true, true_and, and_false, false_and, or_true, true_or, or_false, false_or, or_self, reduceIte, Bool.false_eq_true, Bool.true_eq_false, decide_true, decide_false, Option.some.injEq, List.isEmpty_cons, List.isEmpty_nil, reduceCtorEq, ne_eq, not_false_eq_true, not_true_eq_false, List.replicate_zero, Int.reduceMod, sEq_int, sNe_int, rotN_0, rotN_1, rotN_2, rotN_3, bi_t, bi_f, sAdd_i, sAdd_t, sAdd_l, lAdd_l, sSub_i, sMul_i, sMul_t, sMul_l, sMod_i, sFdiv_i, sNeg_i, sLt_i, sLe_i, sGt_i, sGe_i, sIs_n, sIsNot_n, isN_n, isN_i, isN_t, isN_l, isN_s, isN_b, toB_b, toI_i, toD_d, toD_l, toL_l, tTru_n, tTru_b, tTru_i, tTru_l, tTru_t, isT_int, isT_bool, isT_tuple, isT_str, isT_list, sCut_l, sCut_t, sAug_ap, sPop_ap, at1_0, at2_0, at2_1, at3_0, at3_1, at3_2]
  · simp -dsimp (disch := omega) only [List.length_map, hj, lim_if, lim_if2, eFz_ap, eVar_ap, eVarQ_ap, eC_ap, e1_ap, e2_ap, l1_ap, l2_ap, aNil_ap, aCons_ap, eTup_ap, lLst_ap, fTru_ap, fB_ap, fNot_ap, fAnd_ap, fOr_ap, eNot_ap, eAnd_ap, eOr_ap, eIf_ap, lIf_ap, oNone_ap, oSome_ap, eCut_ap, lCut_ap, sNext_ap, sBreak_ap, sCont_ap, sIf_ap, sExpr_ap, sRet_ap, sRetL_ap, sRetO_ap, sRetN_ap, bName_ap, bNil_ap, bCons_ap, bTup_ap, bItem_ap, sAsg_ap, sSet_ap, sSetL_ap, sApp_ap, sExt_ap, iSeq_ap, iOwn_ap, l3_ap, sFor_ap, fYes_ap, rNil_ap, rCons_ap, rRaw_ap, eCall_ap, lCall_ap, eCallK_ap, eCh_ap, xNil_ap, xD_ap, xL_ap, sPar_ap, eIs_ap, sSeq_ap, seqM_next, seqM_brk, seqM_cont, seqM_ret, runDef_ap, defM_next, defM_ret, stepM_ap, loopM_next, loopM_cont, loopM_brk, loopM_ret, lcF_ap, lcH_ap, lcM_nil, lcM_cons, lcC_some, lcC_none, limM_ap, lLC_ap, startE, arS, mask, wipeE, noOwn, isOwn, setAll, rtS, sItems_l, sItems_t, lim, sIx_l, sIx_t, sLen_l, sLen_t, sTuple_l, sTuple_t, sList_l, sList_t, rngL0, rngL1, rngL2, rngL3, rngL4, rngL5, rngL6, sat_ret, sat_bnd, sat_some, sat_none, sat_fail, bnd_ret, bnd_bnd, bnd_fail, lft_some, lft_none, Option.map_some, Option.map_none, List.map_cons, List.map_nil, List.length_cons, List.length_nil, List.replicate, List.cons_append, List.nil_append, List.append_nil, List.all_cons, List.all_nil, Bool.and_true, Bool.true_and, Bool.and_false, Bool.false_and, Bool.not_false, Bool.not_true, Bool.not_not, Bool.or_true, Bool.true_or, Bool.or_false, Bool.false_or, List.getElem?_cons_succ, List.getElem?_cons_zero, List.getElem?_nil, if_true, if_false, ite_true, ite_false, List.set_cons_succ, List.set_cons_zero, List.set_nil, Int.reduceLT, Int.reduceLE, Int.reduceNeg, Int.reducePow, Int.reduceMul, Int.reduceAdd, Int.reduceSub, Int.reduceToNat, Int.reduceEq, Nat.reduceAdd, Nat.reduceSub, Nat.reduceLeDiff, Nat.reduceLT, Nat.reduceEqDiff, Nat.reduceMul, and_self, and_true, true_and, and_false, false_and, or_true, true_or, or_false, false_or, or_self, reduceIte, Bool.false_eq_true, Bool.true_eq_false, decide_true, decide_false, Option.some.injEq, List.isEmpty_cons, List.isEmpty_nil, reduceCtorEq, ne_eq, not_false_eq_true, not_true_eq_false, List.replicate_zero, Int.reduceMod, sEq_int, sNe_int, rotN_0, rotN_1, rotN_2, rotN_3, bi_t, bi_f, sAdd_i, sAdd_t, sAdd_l, lAdd_l, sSub_i, sMul_i, sMul_t, sMul_l, sMod_i, sFdiv_i, sNeg_i, sLt_i, sLe_i, sGt_i, sGe_i, sIs_n, sIsNot_n, isN_n, isN_i, isN_t, isN_l, isN_s, isN_b, toB_b, toI_i, toD_d, toD_l, toL_l, tTru_n, tTru_b, tTru_i, tTru_l, tTru_t, isT_int, isT_bool, isT_tuple, isT_str, isT_list, sCut_l, sCut_t, sAug_ap, sPop_ap, at1_0, at2_0, at2_1, at3_0, at3_1, at3_2]
def fW (w : List Nat) : PyData := tupI ((sp 46 w).map nv)
def fR (r : List Nat) : PyData := .tuple ((sp 32 r).map fW)
theorem fW_ent {n : Nat} {w : List Nat} (h : isEnt n (fW w) = true) : fW w = prD (vW w) ∧ (vW w).1 < n ∧ (vW w).2 < 4 := by
  obtain ⟨i, t, e, i0, i1, t0, t1⟩ := isEnt_pair h
  have e2 : ((sp 46 w).map nv).map PyData.int = [.int i, .int t] := PyData.tuple.inj e
  have hl := congrArg List.length e2
  rw [List.length_map, List.length_map] at hl
  match hs : sp 46 w, hl with
  | [a, b], _ =>
    rw [hs] at e2
    have ea : nv a = i := by
      have := (List.cons.inj e2).1
      exact PyData.int.inj this
    have eb : nv b = t := by
      have := (List.cons.inj (List.cons.inj e2).2).1
      exact PyData.int.inj this
    have ev : vW w = (i.toNat, t.toNat) := by
      unfold vW
      rw [hs]
      show ((nv a).toNat, (nv b).toNat) = _
      rw [ea, eb]
    rw [e, ev]
    refine ⟨?_, by show i.toNat < n; omega, by show t.toNat < 4; omega⟩
    show PyData.tuple [.int i, .int t] = .tuple [.int ((i.toNat : Nat) : Int), .int ((t.toNat : Nat) : Int)]
    rw [Int.toNat_of_nonneg i0, Int.toNat_of_nonneg t0]
theorem fW_gd {n : Nat} {w : List Nat} (hn : n ≤ 1000) (h : gdN n w = true) : fW w = prD (vW w) ∧ (sp 46 w).all numB = true := by
  obtain ⟨p, ⟨h1, h2⟩, rfl⟩ := gdN_iff.mp h
  unfold fW
  rw [vW_wT, sp_wT]
  constructor
  · show PyData.tuple [.int (nv (TL.numL p.1)), .int (nv (TL.numL p.2))] = _
    rw [nv_num, nv_num]
    rfl
  · rw [List.all_cons, List.all_cons, List.all_nil, numB_num (by omega), numB_num (by omega)]
    rfl
theorem isLay_rows {n : Nat} {rows : List PyData} (h : isLay n (.tuple rows) = true) : rows ≠ [] ∧ ∀ r ∈ rows, isRow n r = true := by
  unfold isLay at h
  simp only [Bool.and_eq_true, List.all_eq_true] at h
  exact ⟨fun e => by subst e; exact absurd h.1.1.1 (by simp), h.1.1.2⟩
/-- what is found, when it is a laying -/
theorem lay_typed {n : Nat} {x : List Nat} (h : isLay n (.tuple ((sp 47 x).map fR)) = true) : ((sp 47 x).map fR) = (vL x).map rowD ∧ ∀ r ∈ vL x, r ≠ [] ∧ ∀ p ∈ r, p.1 < n ∧ p.2 < 4 := by
  obtain ⟨_, hr⟩ := isLay_rows h
  have key : ∀ r ∈ sp 47 x, (∀ w ∈ sp 32 r, isEnt n (fW w) = true) := fun r h1 w hw => by
    have := hr (fR r) (List.mem_map.mpr ⟨r, h1, rfl⟩)
    unfold isRow fR at this
    simp only [Bool.and_eq_true, List.all_eq_true] at this
    exact this.2 _ (List.mem_map.mpr ⟨w, hw, rfl⟩)
  constructor
  · unfold vL
    rw [List.map_map]
    refine List.map_congr_left fun r h1 => ?_
    show fR r = rowD ((sp 32 r).map vW)
    unfold fR rowD
    rw [List.map_map]
    congr 1
    exact List.map_congr_left fun w hw => (fW_ent (key r h1 w hw)).1
  · intro r h1
    obtain ⟨q, hq, rfl⟩ := List.mem_map.mp h1
    refine ⟨fun e => sp_ne 32 q [] (List.map_eq_nil_iff.mp e), fun p hp => ?_⟩
    obtain ⟨w, hw, rfl⟩ := List.mem_map.mp hp
    exact (fW_ent (key q hq w hw)).2
theorem gL_typed {n : Nat} {x : List Nat} (hn : n ≤ 1000) (h : gL n x = true) : ((sp 47 x).map fR) = (vL x).map rowD ∧ ((sp 47 x).all fun r => (sp 32 r).all fun w => (sp 46 w).all numB) = true := by
  unfold gL at h
  rw [List.all_eq_true] at h
  have key : ∀ r ∈ sp 47 x, ∀ w ∈ sp 32 r, gdN n w = true := fun r h1 w hw => List.all_eq_true.mp (h r h1) w hw
  constructor
  · unfold vL
    rw [List.map_map]
    refine List.map_congr_left fun r h1 => ?_
    show fR r = rowD ((sp 32 r).map vW)
    unfold fR rowD
    rw [List.map_map]
    congr 1
    exact List.map_congr_left fun w hw => (fW_gd hn (key r h1 w hw)).1
  · exact List.all_eq_true.mpr fun r h1 => List.all_eq_true.mpr fun w hw => (fW_gd hn (key r h1 w hw)).2
theorem okL_iff {n : Nat} {x : List Nat} (hn : n ≤ 1000) : okL n x = true ↔ ((sp 47 x).all fun r => (sp 32 r).all fun w => (sp 46 w).all numB) = true ∧ isLay n (.tuple ((sp 47 x).map fR)) = true ∧ lT (vL x) = x := by
  unfold okL
  rw [Bool.and_eq_true]
  constructor
  · rintro ⟨h1, h2⟩
    obtain ⟨e1, e2⟩ := gL_typed hn h1
    rw [e1]
    exact ⟨e2, h2, lT_vL h1⟩
  · rintro ⟨h1, h2, h3⟩
    obtain ⟨e1, e2⟩ := lay_typed h2
    rw [← e1]
    refine ⟨?_, h2⟩
    have := (gL_lT (n := n) (rs := vL x) (fun e => sp_ne 47 x [] (List.map_eq_nil_iff.mp e)) e2).1
    rwa [h3] at this
theorem parts_sum {x : List Nat} : (((sp 47 x).map fR).flatMap its).length ≤ x.length + 1 := by
  have e : ((sp 47 x).map fun p => p.length + 1).sum = 0 + x.length + 1 := sp_sum 47 x []
  have : ∀ l : List (List Nat), ((l.map fR).flatMap its).length ≤ (l.map fun p => p.length + 1).sum := fun l => by
    induction l with
    | nil => exact Nat.le_refl _
    | cons r l ih =>
      rw [List.map_cons, List.flatMap_cons, List.length_append, List.map_cons, List.sum_cons]
      have h1 : (its (fR r)).length = (sp 32 r).length := by show ((sp 32 r).map fW).length = _; rw [List.length_map]
      have h2 : (sp 32 r).length ≤ r.length + 1 := sp_len 32 r []
      omega
  have := this (sp 47 x)
  omega
theorem okd_fR {n : Nat} {r : List Nat} (h : Tx n r) (hn : n ≤ 500) : Okd 3 (fR r) := by
  have h1 := h.parts (c := 32)
  refine .tuple (by rw [List.length_map]; omega) fun d hd => ?_
  obtain ⟨w, hw, rfl⟩ := List.mem_map.mp hd
  have h2 := (h.part hw).parts (c := 46)
  refine (Okd.tuple (n := 1) (by rw [List.length_map, List.length_map]; omega) fun d hd => ?_)
  obtain ⟨i, _, rfl⟩ := List.mem_map.mp hd
  exact .int _ _
theorem read_laying_ok {box : List PyData} {x : List Nat} (hb : box.length ≤ 1000) (h : Tx 90 x) : f_read_laying_x [.d (.tuple box), .d (.str (S x))] = ret (if okL box.length x = true then .ok (.d (.tuple ((vL x).map rowD))) else .exc ⟨"NoText", none⟩) := by
  have hs := lSplit_ok (c := 47) (by decide) h (by decide)
  have hpl := h.parts (c := 47)
  have inner : ∀ r : List Nat, Tx 90 r → ∀ (ρ0 ρ1 ρ2 ρ3 ρ5 : Option Sl), ∀ w ∈ sp 32 r, (lcFX (bName 4) fYes (eTupX (lLCX [5] (iSeq (eFz (l2 lSplit (eVarQ 4) (eC (.str (S [46])))))) (bName 5) fYes (eCallX 1 f_number_of_x (rCons (eVar 5) rNil)))) [ρ0, ρ1, ρ2, ρ3, none, none] (.str (S w)) : M Tw _) =
      ret (some (if ((sp 46 w).all numB) = true then .ok (fW w) else .exc ⟨"NoText", none⟩)) := fun r tr ρ0 ρ1 ρ2 ρ3 ρ5 w hw => by
    have tp := tr.part hw
    have hs := lSplit_ok (c := 46) (by decide) tp (by decide)
    have hpl := tp.parts (c := 46)
    simp -dsimp (disch := omega) only [lcFX_ap, eTupX_ap, lLCX_ap, hs, List.length_map, lim_if, lim_if2, eFz_ap, eVar_ap, eVarQ_ap, eC_ap, e1_ap, e2_ap, l1_ap, l2_ap, aNil_ap, aCons_ap, eTup_ap, lLst_ap, fTru_ap, fB_ap, fNot_ap, fAnd_ap, fOr_ap, eNot_ap, eAnd_ap, eOr_ap, eIf_ap, lIf_ap, oNone_ap, oSome_ap, eCut_ap, lCut_ap, sNext_ap, sBreak_ap, sCont_ap, sIf_ap, sExpr_ap, sRet_ap, sRetL_ap, sRetO_ap, sRetN_ap, bName_ap, bNil_ap, bCons_ap, bTup_ap, bItem_ap, sAsg_ap, sSet_ap, sSetL_ap, sApp_ap, sExt_ap, iSeq_ap, iOwn_ap, l3_ap, sFor_ap, fYes_ap, rNil_ap, rCons_ap, rRaw_ap, eCall_ap, lCall_ap, eCallK_ap, eCh_ap, xNil_ap, xD_ap, xL_ap, sPar_ap, eIs_ap, sSeq_ap, seqM_next, seqM_brk, seqM_cont, seqM_ret, runDef_ap, defM_next, defM_ret, stepM_ap, loopM_next, loopM_cont, loopM_brk, loopM_ret, lcF_ap, lcH_ap, lcM_nil, lcM_cons, lcC_some, lcC_none, limM_ap, lLC_ap, startE, arS, mask, wipeE, noOwn, isOwn, setAll, rtS, sItems_l, sItems_t, lim, sIx_l, sIx_t, sLen_l, sLen_t, sTuple_l, sTuple_t, sList_l, sList_t, rngL0, rngL1, rngL2, rngL3, rngL4, rngL5, rngL6, sat_ret, sat_bnd, sat_some, sat_none, sat_fail, bnd_ret, bnd_bnd, bnd_fail, lft_some, lft_none, Option.map_some, Option.map_none, List.map_cons, List.map_nil, List.length_cons, List.length_nil, List.replicate, List.cons_append, List.nil_append, List.append_nil, List.all_cons, List.all_nil, Bool.and_true, Bool.true_and, Bool.and_false, Bool.false_and, Bool.not_false, Bool.not_true, Bool.not_not, Bool.or_true, Bool.true_or, Bool.or_false, Bool.false_or, List.getElem?_cons_succ, List.getElem?_cons_zero, List.getElem?_nil, if_true, if_false, ite_true, ite_false, List.set_cons_succ, List.set_cons_zero, List.set_nil, Int.reduceLT, Int.reduceLE, Int.reduceNeg, Int.reducePow, Int.reduceMul, Int.reduceAdd, Int.reduceSub, Int.reduceToNat, Int.reduceEq, Nat.reduceAdd, Nat.reduceSub, Nat.reduceLeDiff, Nat.reduceLT, Nat.reduceEqDiff, Nat.reduceMul, and_self, and_true, true_and, and_false, false_and, or_true, true_or, or_false, false_or, or_self, reduceIte, Bool.false_eq_true, Bool.true_eq_false, decide_true, decide_false, Option.some.injEq, List.isEmpty_cons, List.isEmpty_nil, reduceCtorEq, ne_eq, not_false_eq_true, not_true_eq_false, List.replicate_zero, Int.reduceMod, sEq_int, sNe_int, rotN_0, rotN_1, rotN_2, rotN_3, bi_t, bi_f, sAdd_i, sAdd_t, sAdd_l, lAdd_l, sSub_i, sMul_i, sMul_t, sMul_l, sMod_i, sFdiv_i, sNeg_i, sLt_i, sLe_i, sGt_i, sGe_i, sIs_n, sIsNot_n, isN_n, isN_i, isN_t, isN_l, isN_s, isN_b, toB_b, toI_i, toD_d, toD_l, toL_l, tTru_n, tTru_b, tTru_i, tTru_l, tTru_t, isT_int, isT_bool, isT_tuple, isT_str, isT_list, sCut_l, sCut_t, sAug_ap, sPop_ap, at1_0, at2_0, at2_1, at3_0, at3_1, at3_2]
    rw [lcMX_if (h := fun w => .int (nv w)) (p := numB) (c := ⟨"NoText", none⟩) fun w hw => ?_]
    · cases (sp 46 w).all numB
      · simp -dsimp only [tupM_exc, eFz_ap, eVar_ap, eVarQ_ap, eC_ap, e1_ap, e2_ap, l1_ap, l2_ap, aNil_ap, aCons_ap, eTup_ap, lLst_ap, fTru_ap, fB_ap, fNot_ap, fAnd_ap, fOr_ap, eNot_ap, eAnd_ap, eOr_ap, eIf_ap, lIf_ap, oNone_ap, oSome_ap, eCut_ap, lCut_ap, sNext_ap, sBreak_ap, sCont_ap, sIf_ap, sExpr_ap, sRet_ap, sRetL_ap, sRetO_ap, sRetN_ap, bName_ap, bNil_ap, bCons_ap, bTup_ap, bItem_ap, sAsg_ap, sSet_ap, sSetL_ap, sApp_ap, sExt_ap, iSeq_ap, iOwn_ap, l3_ap, sFor_ap, fYes_ap, rNil_ap, rCons_ap, rRaw_ap, eCall_ap, lCall_ap, eCallK_ap, eCh_ap, xNil_ap, xD_ap, xL_ap, sPar_ap, eIs_ap, sSeq_ap, seqM_next, seqM_brk, seqM_cont, seqM_ret, runDef_ap, defM_next, defM_ret, stepM_ap, loopM_next, loopM_cont, loopM_brk, loopM_ret, lcF_ap, lcH_ap, lcM_nil, lcM_cons, lcC_some, lcC_none, limM_ap, lLC_ap, startE, arS, mask, wipeE, noOwn, isOwn, setAll, rtS, sItems_l, sItems_t, lim, sIx_l, sIx_t, sLen_l, sLen_t, sTuple_l, sTuple_t, sList_l, sList_t, rngL0, rngL1, rngL2, rngL3, rngL4, rngL5, rngL6, sat_ret, sat_bnd, sat_some, sat_none, sat_fail, bnd_ret, bnd_bnd, bnd_fail, lft_some, lft_none, Option.map_some, Option.map_none, List.map_cons, List.map_nil, List.length_cons, List.length_nil, List.replicate, List.cons_append, List.nil_append, List.append_nil, List.all_cons, List.all_nil, Bool.and_true, Bool.true_and, Bool.and_false, Bool.false_and, Bool.not_false, Bool.not_true, Bool.not_not, Bool.or_true, Bool.true_or, Bool.or_false, Bool.false_or, List.getElem?_cons_succ, List.getElem?_cons_zero, List.getElem?_nil, if_true, if_false, ite_true, ite_false, List.set_cons_succ, List.set_cons_zero, List.set_nil, Int.reduceLT, Int.reduceLE, Int.reduceNeg, Int.reducePow, Int.reduceMul, Int.reduceAdd, Int.reduceSub, Int.reduceToNat, Int.reduceEq, Nat.reduceAdd, Nat.reduceSub, Nat.reduceLeDiff, Nat.reduceLT, Nat.reduceEqDiff, Nat.reduceMul, and_self, and_true, true_and, and_false, false_and, or_true, true_or, or_false, false_or, or_self, reduceIte, Bool.false_eq_true, Bool.true_eq_false, decide_true, decide_false, Option.some.injEq, List.isEmpty_cons, List.isEmpty_nil, reduceCtorEq, ne_eq, not_false_eq_true, not_true_eq_false, List.replicate_zero, Int.reduceMod, sEq_int, sNe_int, rotN_0, rotN_1, rotN_2, rotN_3, bi_t, bi_f, sAdd_i, sAdd_t, sAdd_l, lAdd_l, sSub_i, sMul_i, sMul_t, sMul_l, sMod_i, sFdiv_i, sNeg_i, sLt_i, sLe_i, sGt_i, sGe_i, sIs_n, sIsNot_n, isN_n, isN_i, isN_t, isN_l, isN_s, isN_b, toB_b, toI_i, toD_d, toD_l, toL_l, tTru_n, tTru_b, tTru_i, tTru_l, tTru_t, isT_int, isT_bool, isT_tuple, isT_str, isT_list, sCut_l, sCut_t, sAug_ap, sPop_ap, at1_0, at2_0, at2_1, at3_0, at3_1, at3_2]
      · simp -dsimp (disch := omega) only [tupM_ok, List.length_map, fW, tupI, List.map_map, lim_if, lim_if2, eFz_ap, eVar_ap, eVarQ_ap, eC_ap, e1_ap, e2_ap, l1_ap, l2_ap, aNil_ap, aCons_ap, eTup_ap, lLst_ap, fTru_ap, fB_ap, fNot_ap, fAnd_ap, fOr_ap, eNot_ap, eAnd_ap, eOr_ap, eIf_ap, lIf_ap, oNone_ap, oSome_ap, eCut_ap, lCut_ap, sNext_ap, sBreak_ap, sCont_ap, sIf_ap, sExpr_ap, sRet_ap, sRetL_ap, sRetO_ap, sRetN_ap, bName_ap, bNil_ap, bCons_ap, bTup_ap, bItem_ap, sAsg_ap, sSet_ap, sSetL_ap, sApp_ap, sExt_ap, iSeq_ap, iOwn_ap, l3_ap, sFor_ap, fYes_ap, rNil_ap, rCons_ap, rRaw_ap, eCall_ap, lCall_ap, eCallK_ap, eCh_ap, xNil_ap, xD_ap, xL_ap, sPar_ap, eIs_ap, sSeq_ap, seqM_next, seqM_brk, seqM_cont, seqM_ret, runDef_ap, defM_next, defM_ret, stepM_ap, loopM_next, loopM_cont, loopM_brk, loopM_ret, lcF_ap, lcH_ap, lcM_nil, lcM_cons, lcC_some, lcC_none, limM_ap, lLC_ap, startE, arS, mask, wipeE, noOwn, isOwn, setAll, rtS, sItems_l, sItems_t, lim, sIx_l, sIx_t, sLen_l, sLen_t, sTuple_l, sTuple_t, sList_l, sList_t, rngL0, rngL1, rngL2, rngL3, rngL4, rngL5, rngL6, sat_ret, sat_bnd, sat_some, sat_none, sat_fail, bnd_ret, bnd_bnd, bnd_fail, lft_some, lft_none, Option.map_some, Option.map_none, List.map_cons, List.map_nil, List.length_cons, List.length_nil, List.replicate, List.cons_append, List.nil_append, List.append_nil, List.all_cons, List.all_nil, Bool.and_true, Bool.true_and, Bool.and_false, Bool.false_and, Bool.not_false, Bool.not_true, Bool.not_not, Bool.or_true, Bool.true_or, Bool.or_false, Bool.false_or, List.getElem?_cons_succ, List.getElem?_cons_zero, List.getElem?_nil, if_true, if_false, ite_true, ite_false, List.set_cons_succ, List.set_cons_zero, List.set_nil, Int.reduceLT, Int.reduceLE, Int.reduceNeg, Int.reducePow, Int.reduceMul, Int.reduceAdd, Int.reduceSub, Int.reduceToNat, Int.reduceEq, Nat.reduceAdd, Nat.reduceSub, Nat.reduceLeDiff, Nat.reduceLT, Nat.reduceEqDiff, Nat.reduceMul, and_self, and_true, true_and, and_false, false_and, or_true, true_or, or_false, false_or, or_self, reduceIte, Bool.false_eq_true, Bool.true_eq_false, decide_true, decide_false, Option.some.injEq, List.isEmpty_cons, List.isEmpty_nil, reduceCtorEq, ne_eq, not_false_eq_true, not_true_eq_false, List.replicate_zero, Int.reduceMod, sEq_int, sNe_int, rotN_0, rotN_1, rotN_2, rotN_3, bi_t, bi_f, sAdd_i, sAdd_t, sAdd_l, lAdd_l, sSub_i, sMul_i, sMul_t, sMul_l, sMod_i, sFdiv_i, sNeg_i, sLt_i, sLe_i, sGt_i, sGe_i, sIs_n, sIsNot_n, isN_n, isN_i, isN_t, isN_l, isN_s, isN_b, toB_b, toI_i, toD_d, toD_l, toL_l, tTru_n, tTru_b, tTru_i, tTru_l, tTru_t, isT_int, isT_bool, isT_tuple, isT_str, isT_list, sCut_l, sCut_t, sAug_ap, sPop_ap, at1_0, at2_0, at2_1, at3_0, at3_1, at3_2]
        rfl
    · have := number_of_ok ((tp.part hw).mono (by decide))
      simp -dsimp only [lcFX_ap, eCallX_ap, this, eFz_ap, eVar_ap, eVarQ_ap, eC_ap, e1_ap, e2_ap, l1_ap, l2_ap, aNil_ap, aCons_ap, eTup_ap, lLst_ap, fTru_ap, fB_ap, fNot_ap, fAnd_ap, fOr_ap, eNot_ap, eAnd_ap, eOr_ap, eIf_ap, lIf_ap, oNone_ap, oSome_ap, eCut_ap, lCut_ap, sNext_ap, sBreak_ap, sCont_ap, sIf_ap, sExpr_ap, sRet_ap, sRetL_ap, sRetO_ap, sRetN_ap, bName_ap, bNil_ap, bCons_ap, bTup_ap, bItem_ap, sAsg_ap, sSet_ap, sSetL_ap, sApp_ap, sExt_ap, iSeq_ap, iOwn_ap, l3_ap, sFor_ap, fYes_ap, rNil_ap, rCons_ap, rRaw_ap, eCall_ap, lCall_ap, eCallK_ap, eCh_ap, xNil_ap, xD_ap, xL_ap, sPar_ap, eIs_ap, sSeq_ap, seqM_next, seqM_brk, seqM_cont, seqM_ret, runDef_ap, defM_next, defM_ret, stepM_ap, loopM_next, loopM_cont, loopM_brk, loopM_ret, lcF_ap, lcH_ap, lcM_nil, lcM_cons, lcC_some, lcC_none, limM_ap, lLC_ap, startE, arS, mask, wipeE, noOwn, isOwn, setAll, rtS, sItems_l, sItems_t, lim, sIx_l, sIx_t, sLen_l, sLen_t, sTuple_l, sTuple_t, sList_l, sList_t, rngL0, rngL1, rngL2, rngL3, rngL4, rngL5, rngL6, sat_ret, sat_bnd, sat_some, sat_none, sat_fail, bnd_ret, bnd_bnd, bnd_fail, lft_some, lft_none, Option.map_some, Option.map_none, List.map_cons, List.map_nil, List.length_cons, List.length_nil, List.replicate, List.cons_append, List.nil_append, List.append_nil, List.all_cons, List.all_nil, Bool.and_true, Bool.true_and, Bool.and_false, Bool.false_and, Bool.not_false, Bool.not_true, Bool.not_not, Bool.or_true, Bool.true_or, Bool.or_false, Bool.false_or, List.getElem?_cons_succ, List.getElem?_cons_zero, List.getElem?_nil, if_true, if_false, ite_true, ite_false, List.set_cons_succ, List.set_cons_zero, List.set_nil, Int.reduceLT, Int.reduceLE, Int.reduceNeg, Int.reducePow, Int.reduceMul, Int.reduceAdd, Int.reduceSub, Int.reduceToNat, Int.reduceEq, Nat.reduceAdd, Nat.reduceSub, Nat.reduceLeDiff, Nat.reduceLT, Nat.reduceEqDiff, Nat.reduceMul, and_self, and_true, true_and, and_false, false_and, or_true, true_or, or_false, false_or, or_self, reduceIte, Bool.false_eq_true, Bool.true_eq_false, decide_true, decide_false, Option.some.injEq, List.isEmpty_cons, List.isEmpty_nil, reduceCtorEq, ne_eq, not_false_eq_true, not_true_eq_false, List.replicate_zero, Int.reduceMod, sEq_int, sNe_int, rotN_0, rotN_1, rotN_2, rotN_3, bi_t, bi_f, sAdd_i, sAdd_t, sAdd_l, lAdd_l, sSub_i, sMul_i, sMul_t, sMul_l, sMod_i, sFdiv_i, sNeg_i, sLt_i, sLe_i, sGt_i, sGe_i, sIs_n, sIsNot_n, isN_n, isN_i, isN_t, isN_l, isN_s, isN_b, toB_b, toI_i, toD_d, toD_l, toL_l, tTru_n, tTru_b, tTru_i, tTru_l, tTru_t, isT_int, isT_bool, isT_tuple, isT_str, isT_list, sCut_l, sCut_t, sAug_ap, sPop_ap, at1_0, at2_0, at2_1, at3_0, at3_1, at3_2]
      cases numB w
      · simp -dsimp only [toRd_exc, eFz_ap, eVar_ap, eVarQ_ap, eC_ap, e1_ap, e2_ap, l1_ap, l2_ap, aNil_ap, aCons_ap, eTup_ap, lLst_ap, fTru_ap, fB_ap, fNot_ap, fAnd_ap, fOr_ap, eNot_ap, eAnd_ap, eOr_ap, eIf_ap, lIf_ap, oNone_ap, oSome_ap, eCut_ap, lCut_ap, sNext_ap, sBreak_ap, sCont_ap, sIf_ap, sExpr_ap, sRet_ap, sRetL_ap, sRetO_ap, sRetN_ap, bName_ap, bNil_ap, bCons_ap, bTup_ap, bItem_ap, sAsg_ap, sSet_ap, sSetL_ap, sApp_ap, sExt_ap, iSeq_ap, iOwn_ap, l3_ap, sFor_ap, fYes_ap, rNil_ap, rCons_ap, rRaw_ap, eCall_ap, lCall_ap, eCallK_ap, eCh_ap, xNil_ap, xD_ap, xL_ap, sPar_ap, eIs_ap, sSeq_ap, seqM_next, seqM_brk, seqM_cont, seqM_ret, runDef_ap, defM_next, defM_ret, stepM_ap, loopM_next, loopM_cont, loopM_brk, loopM_ret, lcF_ap, lcH_ap, lcM_nil, lcM_cons, lcC_some, lcC_none, limM_ap, lLC_ap, startE, arS, mask, wipeE, noOwn, isOwn, setAll, rtS, sItems_l, sItems_t, lim, sIx_l, sIx_t, sLen_l, sLen_t, sTuple_l, sTuple_t, sList_l, sList_t, rngL0, rngL1, rngL2, rngL3, rngL4, rngL5, rngL6, sat_ret, sat_bnd, sat_some, sat_none, sat_fail, bnd_ret, bnd_bnd, bnd_fail, lft_some, lft_none, Option.map_some, Option.map_none, List.map_cons, List.map_nil, List.length_cons, List.length_nil, List.replicate, List.cons_append, List.nil_append, List.append_nil, List.all_cons, List.all_nil, Bool.and_true, Bool.true_and, Bool.and_false, Bool.false_and, Bool.not_false, Bool.not_true, Bool.not_not, Bool.or_true, Bool.true_or, Bool.or_false, Bool.false_or, List.getElem?_cons_succ, List.getElem?_cons_zero, List.getElem?_nil, if_true, if_false, ite_true, ite_false, List.set_cons_succ, List.set_cons_zero, List.set_nil, Int.reduceLT, Int.reduceLE, Int.reduceNeg, Int.reducePow, Int.reduceMul, Int.reduceAdd, Int.reduceSub, Int.reduceToNat, Int.reduceEq, Nat.reduceAdd, Nat.reduceSub, Nat.reduceLeDiff, Nat.reduceLT, Nat.reduceEqDiff, Nat.reduceMul, and_self, and_true, true_and, and_false, false_and, or_true, true_or, or_false, false_or, or_self, reduceIte, Bool.false_eq_true, Bool.true_eq_false, decide_true, decide_false, Option.some.injEq, List.isEmpty_cons, List.isEmpty_nil, reduceCtorEq, ne_eq, not_false_eq_true, not_true_eq_false, List.replicate_zero, Int.reduceMod, sEq_int, sNe_int, rotN_0, rotN_1, rotN_2, rotN_3, bi_t, bi_f, sAdd_i, sAdd_t, sAdd_l, lAdd_l, sSub_i, sMul_i, sMul_t, sMul_l, sMod_i, sFdiv_i, sNeg_i, sLt_i, sLe_i, sGt_i, sGe_i, sIs_n, sIsNot_n, isN_n, isN_i, isN_t, isN_l, isN_s, isN_b, toB_b, toI_i, toD_d, toD_l, toL_l, tTru_n, tTru_b, tTru_i, tTru_l, tTru_t, isT_int, isT_bool, isT_tuple, isT_str, isT_list, sCut_l, sCut_t, sAug_ap, sPop_ap, at1_0, at2_0, at2_1, at3_0, at3_1, at3_2]
      · simp -dsimp only [toRd_d, eFz_ap, eVar_ap, eVarQ_ap, eC_ap, e1_ap, e2_ap, l1_ap, l2_ap, aNil_ap, aCons_ap, eTup_ap, lLst_ap, fTru_ap, fB_ap, fNot_ap, fAnd_ap, fOr_ap, eNot_ap, eAnd_ap, eOr_ap, eIf_ap, lIf_ap, oNone_ap, oSome_ap, eCut_ap, lCut_ap, sNext_ap, sBreak_ap, sCont_ap, sIf_ap, sExpr_ap, sRet_ap, sRetL_ap, sRetO_ap, sRetN_ap, bName_ap, bNil_ap, bCons_ap, bTup_ap, bItem_ap, sAsg_ap, sSet_ap, sSetL_ap, sApp_ap, sExt_ap, iSeq_ap, iOwn_ap, l3_ap, sFor_ap, fYes_ap, rNil_ap, rCons_ap, rRaw_ap, eCall_ap, lCall_ap, eCallK_ap, eCh_ap, xNil_ap, xD_ap, xL_ap, sPar_ap, eIs_ap, sSeq_ap, seqM_next, seqM_brk, seqM_cont, seqM_ret, runDef_ap, defM_next, defM_ret, stepM_ap, loopM_next, loopM_cont, loopM_brk, loopM_ret, lcF_ap, lcH_ap, lcM_nil, lcM_cons, lcC_some, lcC_none, limM_ap, lLC_ap, startE, arS, mask, wipeE, noOwn, isOwn, setAll, rtS, sItems_l, sItems_t, lim, sIx_l, sIx_t, sLen_l, sLen_t, sTuple_l, sTuple_t, sList_l, sList_t, rngL0, rngL1, rngL2, rngL3, rngL4, rngL5, rngL6, sat_ret, sat_bnd, sat_some, sat_none, sat_fail, bnd_ret, bnd_bnd, bnd_fail, lft_some, lft_none, Option.map_some, Option.map_none, List.map_cons, List.map_nil, List.length_cons, List.length_nil, List.replicate, List.cons_append, List.nil_append, List.append_nil, List.all_cons, List.all_nil, Bool.and_true, Bool.true_and, Bool.and_false, Bool.false_and, Bool.not_false, Bool.not_true, Bool.not_not, Bool.or_true, Bool.true_or, Bool.or_false, Bool.false_or, List.getElem?_cons_succ, List.getElem?_cons_zero, List.getElem?_nil, if_true, if_false, ite_true, ite_false, List.set_cons_succ, List.set_cons_zero, List.set_nil, Int.reduceLT, Int.reduceLE, Int.reduceNeg, Int.reducePow, Int.reduceMul, Int.reduceAdd, Int.reduceSub, Int.reduceToNat, Int.reduceEq, Nat.reduceAdd, Nat.reduceSub, Nat.reduceLeDiff, Nat.reduceLT, Nat.reduceEqDiff, Nat.reduceMul, and_self, and_true, true_and, and_false, false_and, or_true, true_or, or_false, false_or, or_self, reduceIte, Bool.false_eq_true, Bool.true_eq_false, decide_true, decide_false, Option.some.injEq, List.isEmpty_cons, List.isEmpty_nil, reduceCtorEq, ne_eq, not_false_eq_true, not_true_eq_false, List.replicate_zero, Int.reduceMod, sEq_int, sNe_int, rotN_0, rotN_1, rotN_2, rotN_3, bi_t, bi_f, sAdd_i, sAdd_t, sAdd_l, lAdd_l, sSub_i, sMul_i, sMul_t, sMul_l, sMod_i, sFdiv_i, sNeg_i, sLt_i, sLe_i, sGt_i, sGe_i, sIs_n, sIsNot_n, isN_n, isN_i, isN_t, isN_l, isN_s, isN_b, toB_b, toI_i, toD_d, toD_l, toL_l, tTru_n, tTru_b, tTru_i, tTru_l, tTru_t, isT_int, isT_bool, isT_tuple, isT_str, isT_list, sCut_l, sCut_t, sAug_ap, sPop_ap, at1_0, at2_0, at2_1, at3_0, at3_1, at3_2]
  have body : ∀ r ∈ sp 47 x, ∀ (acc ds : List PyData), acc.length ≤ 1000 → xLoop (bName 3) (xAppX 2 (eTupX (lLCX [4] (iSeq (eFz (l2 lSplit (eVarQ 3) (eC (.str (S [32])))))) (bName 4) fYes (eTupX (lLCX [5] (iSeq (eFz (l2 lSplit (eVarQ 4) (eC (.str (S [46])))))) (bName 5) fYes (eCallX 1 f_number_of_x (rCons (eVar 5) rNil))))))) (.str (S r) :: ds) [some (.val (.tuple box)), some (.val (.str (S x))), some (.own acc), none, none, none] =
      if ((sp 32 r).all fun w => (sp 46 w).all numB) = true then xLoop (bName 3) (xAppX 2 (eTupX (lLCX [4] (iSeq (eFz (l2 lSplit (eVarQ 3) (eC (.str (S [32])))))) (bName 4) fYes (eTupX (lLCX [5] (iSeq (eFz (l2 lSplit (eVarQ 4) (eC (.str (S [46])))))) (bName 5) fYes (eCallX 1 f_number_of_x (rCons (eVar 5) rNil))))))) ds [some (.val (.tuple box)), some (.val (.str (S x))), some (.own (acc ++ [fR r])), none, none, none] else (ret (.exc ⟨"NoText", none⟩) : M Tw Fx) := fun r hr acc ds hacc => by
    have tr := h.part hr
    have hs := lSplit_ok (c := 32) (by decide) tr (by decide)
    have hpl := tr.parts (c := 32)
    simp -dsimp (disch := omega) only [xLoop_cons, xAppX_ap, ownAt, eTupX_ap, lLCX_ap, hs, List.length_map, lim_if, lim_if2, eFz_ap, eVar_ap, eVarQ_ap, eC_ap, e1_ap, e2_ap, l1_ap, l2_ap, aNil_ap, aCons_ap, eTup_ap, lLst_ap, fTru_ap, fB_ap, fNot_ap, fAnd_ap, fOr_ap, eNot_ap, eAnd_ap, eOr_ap, eIf_ap, lIf_ap, oNone_ap, oSome_ap, eCut_ap, lCut_ap, sNext_ap, sBreak_ap, sCont_ap, sIf_ap, sExpr_ap, sRet_ap, sRetL_ap, sRetO_ap, sRetN_ap, bName_ap, bNil_ap, bCons_ap, bTup_ap, bItem_ap, sAsg_ap, sSet_ap, sSetL_ap, sApp_ap, sExt_ap, iSeq_ap, iOwn_ap, l3_ap, sFor_ap, fYes_ap, rNil_ap, rCons_ap, rRaw_ap, eCall_ap, lCall_ap, eCallK_ap, eCh_ap, xNil_ap, xD_ap, xL_ap, sPar_ap, eIs_ap, sSeq_ap, seqM_next, seqM_brk, seqM_cont, seqM_ret, runDef_ap, defM_next, defM_ret, stepM_ap, loopM_next, loopM_cont, loopM_brk, loopM_ret, lcF_ap, lcH_ap, lcM_nil, lcM_cons, lcC_some, lcC_none, limM_ap, lLC_ap, startE, arS, mask, wipeE, noOwn, isOwn, setAll, rtS, sItems_l, sItems_t, lim, sIx_l, sIx_t, sLen_l, sLen_t, sTuple_l, sTuple_t, sList_l, sList_t, rngL0, rngL1, rngL2, rngL3, rngL4, rngL5, rngL6, sat_ret, sat_bnd, sat_some, sat_none, sat_fail, bnd_ret, bnd_bnd, bnd_fail, lft_some, lft_none, Option.map_some, Option.map_none, List.map_cons, List.map_nil, List.length_cons, List.length_nil, List.replicate, List.cons_append, List.nil_append, List.append_nil, List.all_cons, List.all_nil, Bool.and_true, Bool.true_and, Bool.and_false, Bool.false_and, Bool.not_false, Bool.not_true, Bool.not_not, Bool.or_true, Bool.true_or, Bool.or_false, Bool.false_or, List.getElem?_cons_succ, List.getElem?_cons_zero, List.getElem?_nil, if_true, if_false, ite_true, ite_false, List.set_cons_succ, List.set_cons_zero, List.set_nil, Int.reduceLT, Int.reduceLE, Int.reduceNeg, Int.reducePow, Int.reduceMul, Int.reduceAdd, Int.reduceSub, Int.reduceToNat, Int.reduceEq, Nat.reduceAdd, Nat.reduceSub, Nat.reduceLeDiff, Nat.reduceLT, Nat.reduceEqDiff, Nat.reduceMul, and_self, and_true, true_and, and_false, false_and, or_true, true_or, or_false, false_or, or_self, reduceIte, Bool.false_eq_true, Bool.true_eq_false, decide_true, decide_false, Option.some.injEq, List.isEmpty_cons, List.isEmpty_nil, reduceCtorEq, ne_eq, not_false_eq_true, not_true_eq_false, List.replicate_zero, Int.reduceMod, sEq_int, sNe_int, rotN_0, rotN_1, rotN_2, rotN_3, bi_t, bi_f, sAdd_i, sAdd_t, sAdd_l, lAdd_l, sSub_i, sMul_i, sMul_t, sMul_l, sMod_i, sFdiv_i, sNeg_i, sLt_i, sLe_i, sGt_i, sGe_i, sIs_n, sIsNot_n, isN_n, isN_i, isN_t, isN_l, isN_s, isN_b, toB_b, toI_i, toD_d, toD_l, toL_l, tTru_n, tTru_b, tTru_i, tTru_l, tTru_t, isT_int, isT_bool, isT_tuple, isT_str, isT_list, sCut_l, sCut_t, sAug_ap, sPop_ap, at1_0, at2_0, at2_1, at3_0, at3_1, at3_2]
    rw [lcMX_if fun w hw => inner r tr _ _ _ _ none w hw]
    cases (sp 32 r).all fun w => (sp 46 w).all numB
    · simp -dsimp only [tupM_exc, appXM_exc, xlpM_exc, eFz_ap, eVar_ap, eVarQ_ap, eC_ap, e1_ap, e2_ap, l1_ap, l2_ap, aNil_ap, aCons_ap, eTup_ap, lLst_ap, fTru_ap, fB_ap, fNot_ap, fAnd_ap, fOr_ap, eNot_ap, eAnd_ap, eOr_ap, eIf_ap, lIf_ap, oNone_ap, oSome_ap, eCut_ap, lCut_ap, sNext_ap, sBreak_ap, sCont_ap, sIf_ap, sExpr_ap, sRet_ap, sRetL_ap, sRetO_ap, sRetN_ap, bName_ap, bNil_ap, bCons_ap, bTup_ap, bItem_ap, sAsg_ap, sSet_ap, sSetL_ap, sApp_ap, sExt_ap, iSeq_ap, iOwn_ap, l3_ap, sFor_ap, fYes_ap, rNil_ap, rCons_ap, rRaw_ap, eCall_ap, lCall_ap, eCallK_ap, eCh_ap, xNil_ap, xD_ap, xL_ap, sPar_ap, eIs_ap, sSeq_ap, seqM_next, seqM_brk, seqM_cont, seqM_ret, runDef_ap, defM_next, defM_ret, stepM_ap, loopM_next, loopM_cont, loopM_brk, loopM_ret, lcF_ap, lcH_ap, lcM_nil, lcM_cons, lcC_some, lcC_none, limM_ap, lLC_ap, startE, arS, mask, wipeE, noOwn, isOwn, setAll, rtS, sItems_l, sItems_t, lim, sIx_l, sIx_t, sLen_l, sLen_t, sTuple_l, sTuple_t, sList_l, sList_t, rngL0, rngL1, rngL2, rngL3, rngL4, rngL5, rngL6, sat_ret, sat_bnd, sat_some, sat_none, sat_fail, bnd_ret, bnd_bnd, bnd_fail, lft_some, lft_none, Option.map_some, Option.map_none, List.map_cons, List.map_nil, List.length_cons, List.length_nil, List.replicate, List.cons_append, List.nil_append, List.append_nil, List.all_cons, List.all_nil, Bool.and_true, Bool.true_and, Bool.and_false, Bool.false_and, Bool.not_false, Bool.not_true, Bool.not_not, Bool.or_true, Bool.true_or, Bool.or_false, Bool.false_or, List.getElem?_cons_succ, List.getElem?_cons_zero, List.getElem?_nil, if_true, if_false, ite_true, ite_false, List.set_cons_succ, List.set_cons_zero, List.set_nil, Int.reduceLT, Int.reduceLE, Int.reduceNeg, Int.reducePow, Int.reduceMul, Int.reduceAdd, Int.reduceSub, Int.reduceToNat, Int.reduceEq, Nat.reduceAdd, Nat.reduceSub, Nat.reduceLeDiff, Nat.reduceLT, Nat.reduceEqDiff, Nat.reduceMul, and_self, and_true, true_and, and_false, false_and, or_true, true_or, or_false, false_or, or_self, reduceIte, Bool.false_eq_true, Bool.true_eq_false, decide_true, decide_false, Option.some.injEq, List.isEmpty_cons, List.isEmpty_nil, reduceCtorEq, ne_eq, not_false_eq_true, not_true_eq_false, List.replicate_zero, Int.reduceMod, sEq_int, sNe_int, rotN_0, rotN_1, rotN_2, rotN_3, bi_t, bi_f, sAdd_i, sAdd_t, sAdd_l, lAdd_l, sSub_i, sMul_i, sMul_t, sMul_l, sMod_i, sFdiv_i, sNeg_i, sLt_i, sLe_i, sGt_i, sGe_i, sIs_n, sIsNot_n, isN_n, isN_i, isN_t, isN_l, isN_s, isN_b, toB_b, toI_i, toD_d, toD_l, toL_l, tTru_n, tTru_b, tTru_i, tTru_l, tTru_t, isT_int, isT_bool, isT_tuple, isT_str, isT_list, sCut_l, sCut_t, sAug_ap, sPop_ap, at1_0, at2_0, at2_1, at3_0, at3_1, at3_2]
    · simp -dsimp (disch := omega) only [tupM_ok, appXM_ok, xlpM_next, List.length_map, fR, lim_if, lim_if2, eFz_ap, eVar_ap, eVarQ_ap, eC_ap, e1_ap, e2_ap, l1_ap, l2_ap, aNil_ap, aCons_ap, eTup_ap, lLst_ap, fTru_ap, fB_ap, fNot_ap, fAnd_ap, fOr_ap, eNot_ap, eAnd_ap, eOr_ap, eIf_ap, lIf_ap, oNone_ap, oSome_ap, eCut_ap, lCut_ap, sNext_ap, sBreak_ap, sCont_ap, sIf_ap, sExpr_ap, sRet_ap, sRetL_ap, sRetO_ap, sRetN_ap, bName_ap, bNil_ap, bCons_ap, bTup_ap, bItem_ap, sAsg_ap, sSet_ap, sSetL_ap, sApp_ap, sExt_ap, iSeq_ap, iOwn_ap, l3_ap, sFor_ap, fYes_ap, rNil_ap, rCons_ap, rRaw_ap, eCall_ap, lCall_ap, eCallK_ap, eCh_ap, xNil_ap, xD_ap, xL_ap, sPar_ap, eIs_ap, sSeq_ap, seqM_next, seqM_brk, seqM_cont, seqM_ret, runDef_ap, defM_next, defM_ret, stepM_ap, loopM_next, loopM_cont, loopM_brk, loopM_ret, lcF_ap, lcH_ap, lcM_nil, lcM_cons, lcC_some, lcC_none, limM_ap, lLC_ap, startE, arS, mask, wipeE, noOwn, isOwn, setAll, rtS, sItems_l, sItems_t, lim, sIx_l, sIx_t, sLen_l, sLen_t, sTuple_l, sTuple_t, sList_l, sList_t, rngL0, rngL1, rngL2, rngL3, rngL4, rngL5, rngL6, sat_ret, sat_bnd, sat_some, sat_none, sat_fail, bnd_ret, bnd_bnd, bnd_fail, lft_some, lft_none, Option.map_some, Option.map_none, List.map_cons, List.map_nil, List.length_cons, List.length_nil, List.replicate, List.cons_append, List.nil_append, List.append_nil, List.all_cons, List.all_nil, Bool.and_true, Bool.true_and, Bool.and_false, Bool.false_and, Bool.not_false, Bool.not_true, Bool.not_not, Bool.or_true, Bool.true_or, Bool.or_false, Bool.false_or, List.getElem?_cons_succ, List.getElem?_cons_zero, List.getElem?_nil, if_true, if_false, ite_true, ite_false, List.set_cons_succ, List.set_cons_zero, List.set_nil, Int.reduceLT, Int.reduceLE, Int.reduceNeg, Int.reducePow, Int.reduceMul, Int.reduceAdd, Int.reduceSub, Int.reduceToNat, Int.reduceEq, Nat.reduceAdd, Nat.reduceSub, Nat.reduceLeDiff, Nat.reduceLT, Nat.reduceEqDiff, Nat.reduceMul, and_self, and_true, true_and, and_false, false_and, or_true, true_or, or_false, false_or, or_self, reduceIte, Bool.false_eq_true, Bool.true_eq_false, decide_true, decide_false, Option.some.injEq, List.isEmpty_cons, List.isEmpty_nil, reduceCtorEq, ne_eq, not_false_eq_true, not_true_eq_false, List.replicate_zero, Int.reduceMod, sEq_int, sNe_int, rotN_0, rotN_1, rotN_2, rotN_3, bi_t, bi_f, sAdd_i, sAdd_t, sAdd_l, lAdd_l, sSub_i, sMul_i, sMul_t, sMul_l, sMod_i, sFdiv_i, sNeg_i, sLt_i, sLe_i, sGt_i, sGe_i, sIs_n, sIsNot_n, isN_n, isN_i, isN_t, isN_l, isN_s, isN_b, toB_b, toI_i, toD_d, toD_l, toL_l, tTru_n, tTru_b, tTru_i, tTru_l, tTru_t, isT_int, isT_bool, isT_tuple, isT_str, isT_list, sCut_l, sCut_t, sAug_ap, sPop_ap, at1_0, at2_0, at2_1, at3_0, at3_1, at3_2]
  simp -dsimp (disch := omega) only [f_read_laying_x, m_read_laying, runDefX_ap, xSeq_ap, xEmb_ap, embM_ap, xseqM_next, xFor_ap, slash, blank, dot, hs, List.length_map, lim_if, lim_if2, eFz_ap, eVar_ap, eVarQ_ap, eC_ap, e1_ap, e2_ap, l1_ap, l2_ap, aNil_ap, aCons_ap, eTup_ap, lLst_ap, fTru_ap, fB_ap, fNot_ap, fAnd_ap, fOr_ap, eNot_ap, eAnd_ap, eOr_ap, eIf_ap, lIf_ap, oNone_ap, oSome_ap, eCut_ap, lCut_ap, sNext_ap, sBreak_ap, sCont_ap, sIf_ap, sExpr_ap, sRet_ap, sRetL_ap, sRetO_ap, sRetN_ap, bName_ap, bNil_ap, bCons_ap, bTup_ap, bItem_ap, sAsg_ap, sSet_ap, sSetL_ap, sApp_ap, sExt_ap, iSeq_ap, iOwn_ap, l3_ap, sFor_ap, fYes_ap, rNil_ap, rCons_ap, rRaw_ap, eCall_ap, lCall_ap, eCallK_ap, eCh_ap, xNil_ap, xD_ap, xL_ap, sPar_ap, eIs_ap, sSeq_ap, seqM_next, seqM_brk, seqM_cont, seqM_ret, runDef_ap, defM_next, defM_ret, stepM_ap, loopM_next, loopM_cont, loopM_brk, loopM_ret, lcF_ap, lcH_ap, lcM_nil, lcM_cons, lcC_some, lcC_none, limM_ap, lLC_ap, startE, arS, mask, wipeE, noOwn, isOwn, setAll, rtS, sItems_l, sItems_t, lim, sIx_l, sIx_t, sLen_l, sLen_t, sTuple_l, sTuple_t, sList_l, sList_t, rngL0, rngL1, rngL2, rngL3, rngL4, rngL5, rngL6, sat_ret, sat_bnd, sat_some, sat_none, sat_fail, bnd_ret, bnd_bnd, bnd_fail, lft_some, lft_none, Option.map_some, Option.map_none, List.map_cons, List.map_nil, List.length_cons, List.length_nil, List.replicate, List.cons_append, List.nil_append, List.append_nil, List.all_cons, List.all_nil, Bool.and_true, Bool.true_and, Bool.and_false, Bool.false_and, Bool.not_false, Bool.not_true, Bool.not_not, Bool.or_true, Bool.true_or, Bool.or_false, Bool.false_or, List.getElem?_cons_succ, List.getElem?_cons_zero, List.getElem?_nil, if_true, if_false, ite_true, ite_false, List.set_cons_succ, List.set_cons_zero, List.set_nil, Int.reduceLT, Int.reduceLE, Int.reduceNeg, Int.reducePow, Int.reduceMul, Int.reduceAdd, Int.reduceSub, Int.reduceToNat, Int.reduceEq, Nat.reduceAdd, Nat.reduceSub, Nat.reduceLeDiff, Nat.reduceLT, Nat.reduceEqDiff, Nat.reduceMul, and_self, and_true, true_and, and_false, false_and, or_true, true_or, or_false, false_or, or_self, reduceIte, Bool.false_eq_true, Bool.true_eq_false, decide_true, decide_false, Option.some.injEq, List.isEmpty_cons, List.isEmpty_nil, reduceCtorEq, ne_eq, not_false_eq_true, not_true_eq_false, List.replicate_zero, Int.reduceMod, sEq_int, sNe_int, rotN_0, rotN_1, rotN_2, rotN_3, bi_t, bi_f, sAdd_i, sAdd_t, sAdd_l, lAdd_l, sSub_i, sMul_i, sMul_t, sMul_l, sMod_i, sFdiv_i, sNeg_i, sLt_i, sLe_i, sGt_i, sGe_i, sIs_n, sIsNot_n, isN_n, isN_i, isN_t, isN_l, isN_s, isN_b, toB_b, toI_i, toD_d, toD_l, toL_l, tTru_n, tTru_b, tTru_i, tTru_l, tTru_t, isT_int, isT_bool, isT_tuple, isT_str, isT_list, sCut_l, sCut_t, sAug_ap, sPop_ap, at1_0, at2_0, at2_1, at3_0, at3_1, at3_2]
  rw [xloop_app (E := fun acc => [some (.val (.tuple box)), some (.val (.str (S x))), some (.own acc), none, none, none]) (h := fR) 1000 body (by rw [List.length_nil]; omega)]
  have eN : okL box.length x = true → ((sp 47 x).all fun r => (sp 32 r).all fun w => (sp 46 w).all numB) = true ∧ isLay box.length (.tuple ((sp 47 x).map fR)) = true ∧ lT (vL x) = x := (okL_iff hb).mp
  cases ha : (sp 47 x).all fun r => (sp 32 r).all fun w => (sp 46 w).all numB with
  | false =>
    have g : okL box.length x = false := by
      cases g : okL box.length x with
      | false => rfl
      | true => rw [(eN g).1] at ha; cases ha
    simp -dsimp only [g, xseqM_exc, defXM_exc, eFz_ap, eVar_ap, eVarQ_ap, eC_ap, e1_ap, e2_ap, l1_ap, l2_ap, aNil_ap, aCons_ap, eTup_ap, lLst_ap, fTru_ap, fB_ap, fNot_ap, fAnd_ap, fOr_ap, eNot_ap, eAnd_ap, eOr_ap, eIf_ap, lIf_ap, oNone_ap, oSome_ap, eCut_ap, lCut_ap, sNext_ap, sBreak_ap, sCont_ap, sIf_ap, sExpr_ap, sRet_ap, sRetL_ap, sRetO_ap, sRetN_ap, bName_ap, bNil_ap, bCons_ap, bTup_ap, bItem_ap, sAsg_ap, sSet_ap, sSetL_ap, sApp_ap, sExt_ap, iSeq_ap, iOwn_ap, l3_ap, sFor_ap, fYes_ap, rNil_ap, rCons_ap, rRaw_ap, eCall_ap, lCall_ap, eCallK_ap, eCh_ap, xNil_ap, xD_ap, xL_ap, sPar_ap, eIs_ap, sSeq_ap, seqM_next, seqM_brk, seqM_cont, seqM_ret, runDef_ap, defM_next, defM_ret, stepM_ap, loopM_next, loopM_cont, loopM_brk, loopM_ret, lcF_ap, lcH_ap, lcM_nil, lcM_cons, lcC_some, lcC_none, limM_ap, lLC_ap, startE, arS, mask, wipeE, noOwn, isOwn, setAll, rtS, sItems_l, sItems_t, lim, sIx_l, sIx_t, sLen_l, sLen_t, sTuple_l, sTuple_t, sList_l, sList_t, rngL0, rngL1, rngL2, rngL3, rngL4, rngL5, rngL6, sat_ret, sat_bnd, sat_some, sat_none, sat_fail, bnd_ret, bnd_bnd, bnd_fail, lft_some, lft_none, Option.map_some, Option.map_none, List.map_cons, List.map_nil, List.length_cons, List.length_nil, List.replicate, List.cons_append, List.nil_append, List.append_nil, List.all_cons, List.all_nil, Bool.and_true, Bool.true_and, Bool.and_false, Bool.false_and, Bool.not_false, Bool.not_true, Bool.not_not, Bool.or_true, Bool.true_or, Bool.or_false, Bool.false_or, List.getElem?_cons_succ, List.getElem?_cons_zero, List.getElem?_nil, if_true, if_false, ite_true, ite_false, List.set_cons_succ, List.set_cons_zero, List.set_nil, Int.reduceLT, Int.reduceLE, Int.reduceNeg, Int.reducePow, Int.reduceMul, Int.reduceAdd, Int.reduceSub, Int.reduceToNat, Int.reduceEq, Nat.reduceAdd, Nat.reduceSub, Nat.reduceLeDiff, Nat.reduceLT, Nat.reduceEqDiff, Nat.reduceMul, and_self, and_true, true_and, and_false, false_and, or_true, true_or, or_false, false_or, or_self, reduceIte, Bool.false_eq_true, Bool.true_eq_false, decide_true, decide_false, Option.some.injEq, List.isEmpty_cons, List.isEmpty_nil, reduceCtorEq, ne_eq, not_false_eq_true, not_true_eq_false, List.replicate_zero, Int.reduceMod, sEq_int, sNe_int, rotN_0, rotN_1, rotN_2, rotN_3, bi_t, bi_f, sAdd_i, sAdd_t, sAdd_l, lAdd_l, sSub_i, sMul_i, sMul_t, sMul_l, sMod_i, sFdiv_i, sNeg_i, sLt_i, sLe_i, sGt_i, sGe_i, sIs_n, sIsNot_n, isN_n, isN_i, isN_t, isN_l, isN_s, isN_b, toB_b, toI_i, toD_d, toD_l, toL_l, tTru_n, tTru_b, tTru_i, tTru_l, tTru_t, isT_int, isT_bool, isT_tuple, isT_str, isT_list, sCut_l, sCut_t, sAug_ap, sPop_ap, at1_0, at2_0, at2_1, at3_0, at3_1, at3_2]
  | true =>
    have okd : Okd 4 (.tuple ((sp 47 x).map fR)) := .tuple (by rw [List.length_map]; omega) fun d hd => by
      obtain ⟨r, hr, rfl⟩ := List.mem_map.mp hd
      exact okd_fR (h.part hr) (by decide)
    have xl := h.len
    have isl := is_laying_ok box _ (okd.mono (by decide)) fun rows e => by
      cases e
      have := parts_sum (x := x)
      omega
    simp -dsimp (disch := omega) only [xseqM_next, xSeq_ap, xIf_ap, xEmb_ap, List.length_map, isl, lim_if, lim_if2, eFz_ap, eVar_ap, eVarQ_ap, eC_ap, e1_ap, e2_ap, l1_ap, l2_ap, aNil_ap, aCons_ap, eTup_ap, lLst_ap, fTru_ap, fB_ap, fNot_ap, fAnd_ap, fOr_ap, eNot_ap, eAnd_ap, eOr_ap, eIf_ap, lIf_ap, oNone_ap, oSome_ap, eCut_ap, lCut_ap, sNext_ap, sBreak_ap, sCont_ap, sIf_ap, sExpr_ap, sRet_ap, sRetL_ap, sRetO_ap, sRetN_ap, bName_ap, bNil_ap, bCons_ap, bTup_ap, bItem_ap, sAsg_ap, sSet_ap, sSetL_ap, sApp_ap, sExt_ap, iSeq_ap, iOwn_ap, l3_ap, sFor_ap, fYes_ap, rNil_ap, rCons_ap, rRaw_ap, eCall_ap, lCall_ap, eCallK_ap, eCh_ap, xNil_ap, xD_ap, xL_ap, sPar_ap, eIs_ap, sSeq_ap, seqM_next, seqM_brk, seqM_cont, seqM_ret, runDef_ap, defM_next, defM_ret, stepM_ap, loopM_next, loopM_cont, loopM_brk, loopM_ret, lcF_ap, lcH_ap, lcM_nil, lcM_cons, lcC_some, lcC_none, limM_ap, lLC_ap, startE, arS, mask, wipeE, noOwn, isOwn, setAll, rtS, sItems_l, sItems_t, lim, sIx_l, sIx_t, sLen_l, sLen_t, sTuple_l, sTuple_t, sList_l, sList_t, rngL0, rngL1, rngL2, rngL3, rngL4, rngL5, rngL6, sat_ret, sat_bnd, sat_some, sat_none, sat_fail, bnd_ret, bnd_bnd, bnd_fail, lft_some, lft_none, Option.map_some, Option.map_none, List.map_cons, List.map_nil, List.length_cons, List.length_nil, List.replicate, List.cons_append, List.nil_append, List.append_nil, List.all_cons, List.all_nil, Bool.and_true, Bool.true_and, Bool.and_false, Bool.false_and, Bool.not_false, Bool.not_true, Bool.not_not, Bool.or_true, Bool.true_or, Bool.or_false, Bool.false_or, List.getElem?_cons_succ, List.getElem?_cons_zero, List.getElem?_nil, if_true, if_false, ite_true, ite_false, List.set_cons_succ, List.set_cons_zero, List.set_nil, Int.reduceLT, Int.reduceLE, Int.reduceNeg, Int.reducePow, Int.reduceMul, Int.reduceAdd, Int.reduceSub, Int.reduceToNat, Int.reduceEq, Nat.reduceAdd, Nat.reduceSub, Nat.reduceLeDiff, Nat.reduceLT, Nat.reduceEqDiff, Nat.reduceMul, and_self, and_true, true_and, and_false, false_and, or_true, true_or, or_false, false_or, or_self, reduceIte, Bool.false_eq_true, Bool.true_eq_false, decide_true, decide_false, Option.some.injEq, List.isEmpty_cons, List.isEmpty_nil, reduceCtorEq, ne_eq, not_false_eq_true, not_true_eq_false, List.replicate_zero, Int.reduceMod, sEq_int, sNe_int, rotN_0, rotN_1, rotN_2, rotN_3, bi_t, bi_f, sAdd_i, sAdd_t, sAdd_l, lAdd_l, sSub_i, sMul_i, sMul_t, sMul_l, sMod_i, sFdiv_i, sNeg_i, sLt_i, sLe_i, sGt_i, sGe_i, sIs_n, sIsNot_n, isN_n, isN_i, isN_t, isN_l, isN_s, isN_b, toB_b, toI_i, toD_d, toD_l, toL_l, tTru_n, tTru_b, tTru_i, tTru_l, tTru_t, isT_int, isT_bool, isT_tuple, isT_str, isT_list, sCut_l, sCut_t, sAug_ap, sPop_ap, at1_0, at2_0, at2_1, at3_0, at3_1, at3_2]
    cases hr : isLay box.length (.tuple ((sp 47 x).map fR)) with
    | false =>
      have g : okL box.length x = false := by
        cases g : okL box.length x with
        | false => rfl
        | true => rw [(eN g).2.1] at hr; cases hr
      simp -dsimp only [g, xRaise_ap, xseqM_exc, defXM_exc, eFz_ap, eVar_ap, eVarQ_ap, eC_ap, e1_ap, e2_ap, l1_ap, l2_ap, aNil_ap, aCons_ap, eTup_ap, lLst_ap, fTru_ap, fB_ap, fNot_ap, fAnd_ap, fOr_ap, eNot_ap, eAnd_ap, eOr_ap, eIf_ap, lIf_ap, oNone_ap, oSome_ap, eCut_ap, lCut_ap, sNext_ap, sBreak_ap, sCont_ap, sIf_ap, sExpr_ap, sRet_ap, sRetL_ap, sRetO_ap, sRetN_ap, bName_ap, bNil_ap, bCons_ap, bTup_ap, bItem_ap, sAsg_ap, sSet_ap, sSetL_ap, sApp_ap, sExt_ap, iSeq_ap, iOwn_ap, l3_ap, sFor_ap, fYes_ap, rNil_ap, rCons_ap, rRaw_ap, eCall_ap, lCall_ap, eCallK_ap, eCh_ap, xNil_ap, xD_ap, xL_ap, sPar_ap, eIs_ap, sSeq_ap, seqM_next, seqM_brk, seqM_cont, seqM_ret, runDef_ap, defM_next, defM_ret, stepM_ap, loopM_next, loopM_cont, loopM_brk, loopM_ret, lcF_ap, lcH_ap, lcM_nil, lcM_cons, lcC_some, lcC_none, limM_ap, lLC_ap, startE, arS, mask, wipeE, noOwn, isOwn, setAll, rtS, sItems_l, sItems_t, lim, sIx_l, sIx_t, sLen_l, sLen_t, sTuple_l, sTuple_t, sList_l, sList_t, rngL0, rngL1, rngL2, rngL3, rngL4, rngL5, rngL6, sat_ret, sat_bnd, sat_some, sat_none, sat_fail, bnd_ret, bnd_bnd, bnd_fail, lft_some, lft_none, Option.map_some, Option.map_none, List.map_cons, List.map_nil, List.length_cons, List.length_nil, List.replicate, List.cons_append, List.nil_append, List.append_nil, List.all_cons, List.all_nil, Bool.and_true, Bool.true_and, Bool.and_false, Bool.false_and, Bool.not_false, Bool.not_true, Bool.not_not, Bool.or_true, Bool.true_or, Bool.or_false, Bool.false_or, List.getElem?_cons_succ, List.getElem?_cons_zero, List.getElem?_nil, if_true, if_false, ite_true, ite_false, List.set_cons_succ, List.set_cons_zero, List.set_nil, Int.reduceLT, Int.reduceLE, Int.reduceNeg, Int.reducePow, Int.reduceMul, Int.reduceAdd, Int.reduceSub, Int.reduceToNat, Int.reduceEq, Nat.reduceAdd, Nat.reduceSub, Nat.reduceLeDiff, Nat.reduceLT, Nat.reduceEqDiff, Nat.reduceMul, and_self, and_true, true_and, and_false, false_and, or_true, true_or, or_false, false_or, or_self, reduceIte, Bool.false_eq_true, Bool.true_eq_false, decide_true, decide_false, Option.some.injEq, List.isEmpty_cons, List.isEmpty_nil, reduceCtorEq, ne_eq, not_false_eq_true, not_true_eq_false, List.replicate_zero, Int.reduceMod, sEq_int, sNe_int, rotN_0, rotN_1, rotN_2, rotN_3, bi_t, bi_f, sAdd_i, sAdd_t, sAdd_l, lAdd_l, sSub_i, sMul_i, sMul_t, sMul_l, sMod_i, sFdiv_i, sNeg_i, sLt_i, sLe_i, sGt_i, sGe_i, sIs_n, sIsNot_n, isN_n, isN_i, isN_t, isN_l, isN_s, isN_b, toB_b, toI_i, toD_d, toD_l, toL_l, tTru_n, tTru_b, tTru_i, tTru_l, tTru_t, isT_int, isT_bool, isT_tuple, isT_str, isT_list, sCut_l, sCut_t, sAug_ap, sPop_ap, at1_0, at2_0, at2_1, at3_0, at3_1, at3_2]
    | true =>
      obtain ⟨e1, e2⟩ := lay_typed hr
      have vl : (vL x).length ≤ 91 := by unfold vL; rw [List.length_map]; exact hpl
      have lt := laying_text_ok (rs := vL x) (by omega) fun r h1 => by
        refine ⟨?_, fun p hp => ?_⟩
        · obtain ⟨q, hq, rfl⟩ := List.mem_map.mp h1
          rw [List.length_map]
          have := (h.part hq).parts (c := 32)
          omega
        · have := (e2 r h1).2 p hp
          omega
      have ne := sNe_str (x := lT (vL x)) (fun c hc => by rcases lT_chr _ c hc with q | q | q | q <;> omega) h.asc
      rw [e1]
      by_cases q : lT (vL x) = x
      · have g := (okL_iff hb).mpr ⟨ha, hr, q⟩
        simp -dsimp (disch := omega) only [lt, ne, decide_eq_true q, g, List.length_map, xEmb_ap, embM_ap, xseqM_next, defXM_ret, lim_if, lim_if2, eFz_ap, eVar_ap, eVarQ_ap, eC_ap, e1_ap, e2_ap, l1_ap, l2_ap, aNil_ap, aCons_ap, eTup_ap, lLst_ap, fTru_ap, fB_ap, fNot_ap, fAnd_ap, fOr_ap, eNot_ap, eAnd_ap, eOr_ap, eIf_ap, lIf_ap, oNone_ap, oSome_ap, eCut_ap, lCut_ap, sNext_ap, sBreak_ap, sCont_ap, sIf_ap, sExpr_ap, sRet_ap, sRetL_ap, sRetO_ap, sRetN_ap, bName_ap, bNil_ap, bCons_ap, bTup_ap, bItem_ap, sAsg_ap, sSet_ap, sSetL_ap, sApp_ap, sExt_ap, iSeq_ap, iOwn_ap, l3_ap, sFor_ap, fYes_ap, rNil_ap, rCons_ap, rRaw_ap, eCall_ap, lCall_ap, eCallK_ap, eCh_ap, xNil_ap, xD_ap, xL_ap, sPar_ap, eIs_ap, sSeq_ap, seqM_next, seqM_brk, seqM_cont, seqM_ret, runDef_ap, defM_next, defM_ret, stepM_ap, loopM_next, loopM_cont, loopM_brk, loopM_ret, lcF_ap, lcH_ap, lcM_nil, lcM_cons, lcC_some, lcC_none, limM_ap, lLC_ap, startE, arS, mask, wipeE, noOwn, isOwn, setAll, rtS, sItems_l, sItems_t, lim, sIx_l, sIx_t, sLen_l, sLen_t, sTuple_l, sTuple_t, sList_l, sList_t, rngL0, rngL1, rngL2, rngL3, rngL4, rngL5, rngL6, sat_ret, sat_bnd, sat_some, sat_none, sat_fail, bnd_ret, bnd_bnd, bnd_fail, lft_some, lft_none, Option.map_some, Option.map_none, List.map_cons, List.map_nil, List.length_cons, List.length_nil, List.replicate, List.cons_append, List.nil_append, List.append_nil, List.all_cons, List.all_nil, Bool.and_true, Bool.true_and, Bool.and_false, Bool.false_and, Bool.not_false, Bool.not_true, Bool.not_not, Bool.or_true, Bool.true_or, Bool.or_false, Bool.false_or, List.getElem?_cons_succ, List.getElem?_cons_zero, List.getElem?_nil, if_true, if_false, ite_true, ite_false, List.set_cons_succ, List.set_cons_zero, List.set_nil, Int.reduceLT, Int.reduceLE, Int.reduceNeg, Int.reducePow, Int.reduceMul, Int.reduceAdd, Int.reduceSub, Int.reduceToNat, Int.reduceEq, Nat.reduceAdd, Nat.reduceSub, Nat.reduceLeDiff, Nat.reduceLT, Nat.reduceEqDiff, Nat.reduceMul, and_self, and_true, true_and, and_false, false_and, or_true, true_or, or_false, false_or, or_self, reduceIte, Bool.false_eq_true, Bool.true_eq_false, decide_true, decide_false, Option.some.injEq, List.isEmpty_cons, List.isEmpty_nil, reduceCtorEq, ne_eq, not_false_eq_true, not_true_eq_false, List.replicate_zero, Int.reduceMod, sEq_int, sNe_int, rotN_0, rotN_1, rotN_2, rotN_3, bi_t, bi_f, sAdd_i, sAdd_t, sAdd_l, lAdd_l, sSub_i, sMul_i, sMul_t, sMul_l, sMod_i, sFdiv_i, sNeg_i, sLt_i, sLe_i, sGt_i, sGe_i, sIs_n, sIsNot_n, isN_n, isN_i, isN_t, isN_l, isN_s, isN_b, toB_b, toI_i, toD_d, toD_l, toL_l, tTru_n, tTru_b, tTru_i, tTru_l, tTru_t, isT_int, isT_bool, isT_tuple, isT_str, isT_list, sCut_l, sCut_t, sAug_ap, sPop_ap, at1_0, at2_0, at2_1, at3_0, at3_1, at3_2]
      · have g : okL box.length x = false := by
          cases g : okL box.length x with
          | false => rfl
          | true => exact absurd (eN g).2.2 q
        simp -dsimp (disch := omega) only [lt, ne, decide_eq_false q, g, List.length_map, xRaise_ap, xseqM_exc, defXM_exc, lim_if, lim_if2, eFz_ap, eVar_ap, eVarQ_ap, eC_ap, e1_ap, e2_ap, l1_ap, l2_ap, aNil_ap, aCons_ap, eTup_ap, lLst_ap, fTru_ap, fB_ap, fNot_ap, fAnd_ap, fOr_ap, eNot_ap, eAnd_ap, eOr_ap, eIf_ap, lIf_ap, oNone_ap, oSome_ap, eCut_ap, lCut_ap, sNext_ap, sBreak_ap, sCont_ap, sIf_ap, sExpr_ap, sRet_ap, sRetL_ap, sRetO_ap, sRetN_ap, bName_ap, bNil_ap, bCons_ap, bTup_ap, bItem_ap, sAsg_ap, sSet_ap, sSetL_ap, sApp_ap, sExt_ap, iSeq_ap, iOwn_ap, l3_ap, sFor_ap, fYes_ap, rNil_ap, rCons_ap, rRaw_ap, eCall_ap, lCall_ap, eCallK_ap, eCh_ap, xNil_ap, xD_ap, xL_ap, sPar_ap, eIs_ap, sSeq_ap, seqM_next, seqM_brk, seqM_cont, seqM_ret, runDef_ap, defM_next, defM_ret, stepM_ap, loopM_next, loopM_cont, loopM_brk, loopM_ret, lcF_ap, lcH_ap, lcM_nil, lcM_cons, lcC_some, lcC_none, limM_ap, lLC_ap, startE, arS, mask, wipeE, noOwn, isOwn, setAll, rtS, sItems_l, sItems_t, lim, sIx_l, sIx_t, sLen_l, sLen_t, sTuple_l, sTuple_t, sList_l, sList_t, rngL0, rngL1, rngL2, rngL3, rngL4, rngL5, rngL6, sat_ret, sat_bnd, sat_some, sat_none, sat_fail, bnd_ret, bnd_bnd, bnd_fail, lft_some, lft_none, Option.map_some, Option.map_none, List.map_cons, List.map_nil, List.length_cons, List.length_nil, List.replicate, List.cons_append, List.nil_append, List.append_nil, List.all_cons, List.all_nil, Bool.and_true, Bool.true_and, Bool.and_false, Bool.false_and, Bool.not_false, Bool.not_true, Bool.not_not, Bool.or_true, Bool.true_or, Bool.or_false, Bool.false_or, List.getElem?_cons_succ, List.getElem?_cons_zero, List.getElem?_nil, if_true, if_false, ite_true, ite_false, List.set_cons_succ, List.set_cons_zero, List.set_nil, Int.reduceLT, Int.reduceLE, Int.reduceNeg, Int.reducePow, Int.reduceMul, Int.reduceAdd, Int.reduceSub, Int.reduceToNat, Int.reduceEq, Nat.reduceAdd, Nat.reduceSub, Nat.reduceLeDiff, Nat.reduceLT, Nat.reduceEqDiff, Nat.reduceMul, and_self, and_true, true_and, and_false, false_and, or_true, true_or, or_false, false_or, or_self, reduceIte, Bool.false_eq_true, Bool.true_eq_false, decide_true, decide_false, Option.some.injEq, List.isEmpty_cons, List.isEmpty_nil, reduceCtorEq, ne_eq, not_false_eq_true, not_true_eq_false, List.replicate_zero, Int.reduceMod, sEq_int, sNe_int, rotN_0, rotN_1, rotN_2, rotN_3, bi_t, bi_f, sAdd_i, sAdd_t, sAdd_l, lAdd_l, sSub_i, sMul_i, sMul_t, sMul_l, sMod_i, sFdiv_i, sNeg_i, sLt_i, sLe_i, sGt_i, sGe_i, sIs_n, sIsNot_n, isN_n, isN_i, isN_t, isN_l, isN_s, isN_b, toB_b, toI_i, toD_d, toD_l, toL_l, tTru_n, tTru_b, tTru_i, tTru_l, tTru_t, isT_int, isT_bool, isT_tuple, isT_str, isT_list, sCut_l, sCut_t, sAug_ap, sPop_ap, at1_0, at2_0, at2_1, at3_0, at3_1, at3_2]
end Dt
namespace Dt
open PySem PySem.Spec L2 SX
theorem sSetKD_ap (i : Nat) (fa : FE Tw) (ρ : Ev) : sSetKD i fa ρ = bnd (fa ρ) (setKM i ρ) := id rfl
theorem setKM_l (i : Nat) (ρ : Ev) (ds : List PyData) : (setKM i ρ (.list ds) : M Tw Fl) = bnd (lft (pairsD ds)) fun kvs => ret (.next (ρ.set i (some (.kdic (mergeD [] kvs))))) := id rfl
theorem fInKD_ap (i : Nat) (neg : Bool) (fk : FE Tw) (ρ : Ev) : fInKD i neg fk ρ = bnd (lft (kdAt ρ i)) fun kvs => bnd (fk ρ) fun y => bnd (lft (kHas kvs y)) fun b => ret (if neg = true then !b else b) := id rfl
theorem eDixD_ap (i : Nat) (fk : FE Tw) (ρ : Ev) : eDixD i fk ρ = bnd (lft (kdAt ρ i)) fun kvs => bnd (fk ρ) fun d => lft (kGet kvs d) := id rfl
theorem mergeD_nd : ∀ (more acc : List (Key × PyData)), ((acc ++ more).map (·.1)).Nodup → mergeD acc more = acc ++ more
  | [], acc, _ => (List.append_nil acc).symm
  | p :: more, acc, nd => by
    show mergeD (putD acc p.1 p.2) more = _
    have e : putD acc p.1 p.2 = acc ++ [p] := by
      unfold putD
      rw [if_neg]
      intro h
      obtain ⟨q, hq, hk⟩ := List.any_eq_true.mp h
      have hk := of_decide_eq_true hk
      rw [List.map_append, List.map_cons] at nd
      exact (List.nodup_append.mp nd).2.2 q.1 (List.mem_map.mpr ⟨q, hq, rfl⟩) p.1 (List.mem_cons_self ..) hk
    rw [e, mergeD_nd more (acc ++ [p]) (by rw [List.append_assoc]; exact nd), List.append_assoc]
    rfl
theorem valD_in {e : Key × PyData} : ∀ (r : List (Key × PyData)), (r.map (·.1)).Nodup → e ∈ r → valD r e.1 = some e.2
  | [], _, h => nomatch h
  | p :: r, nd, h => by
    rw [List.map_cons, List.nodup_cons] at nd
    rcases List.mem_cons.mp h with rfl | h
    · simp [valD, List.find?_cons]
    · have ne : p.1 ≠ e.1 := fun z => nd.1 (List.mem_map.mpr ⟨e, h, z.symm⟩)
      have : valD (p :: r) e.1 = valD r e.1 := by simp [valD, List.find?_cons, ne]
      rw [this]
      exact valD_in r nd.2 h
theorem valD_out {k : Key} : ∀ (r : List (Key × PyData)), (∀ p ∈ r, p.1 ≠ k) → valD r k = none
  | [], _ => rfl
  | p :: r, h => by
    have ne := h p (List.mem_cons_self ..)
    have : valD (p :: r) k = valD r k := by simp [valD, List.find?_cons, ne]
    rw [this]
    exact valD_out r fun q hq => h q (List.mem_cons_of_mem _ hq)
def qr (a : Nat) : Nat × Nat := (a / 4, a % 4)
def kvN (n : Nat) : List (Key × PyData) := (List.range (4 * n)).map fun a => ((.inr (S (wT (qr a))) : Key), prD (qr a))
theorem pairsN : ∀ l : List Nat, pairsD (l.map fun a => .tuple [.str (S (wT (qr a))), prD (qr a)]) = some (l.map fun a => ((.inr (S (wT (qr a))) : Key), prD (qr a)))
  | [] => rfl
  | a :: l => by
    show ((kOf (.str (S (wT (qr a))))).bind fun k => (pairsD (l.map fun a => .tuple [.str (S (wT (qr a))), prD (qr a)])).map fun kvs => (k, prD (qr a)) :: kvs) = _
    rw [pairsN l]
    rfl
theorem wT_inj {p q : Nat × Nat} (h : wT p = wT q) : p = q := by
  have := congrArg vW h
  rwa [vW_wT, vW_wT] at this
theorem kvN_nd (n : Nat) : ((kvN n).map (·.1)).Nodup := by
  unfold kvN
  rw [List.map_map]
  unfold List.Nodup
  rw [List.pairwise_map]
  refine List.nodup_range.imp fun {a b} hne heq => hne ?_
  have e : qr a = qr b := wT_inj (S_inj (Sum.inr.inj heq))
  have h1 : a / 4 = b / 4 := congrArg Prod.fst e
  have h2 : a % 4 = b % 4 := congrArg Prod.snd e
  omega
theorem mergeN (n : Nat) : mergeD [] (kvN n) = kvN n := mergeD_nd _ [] (kvN_nd n)
theorem valN {n : Nat} {w : List Nat} : valD (kvN n) (.inr (S w)) = if gdN n w = true then some (prD (vW w)) else none := by
  cases g : gdN n w with
  | true =>
    obtain ⟨p, ⟨h0, h1⟩, rfl⟩ := gdN_iff.mp g
    rw [if_pos rfl, vW_wT]
    have e : qr (4 * p.1 + p.2) = p := by
      unfold qr
      exact Prod.ext (by show (4 * p.1 + p.2) / 4 = p.1; omega) (by show (4 * p.1 + p.2) % 4 = p.2; omega)
    exact valD_in (e := ((.inr (S (wT p)) : Key), prD p)) _ (kvN_nd n) (List.mem_map.mpr ⟨4 * p.1 + p.2, List.mem_range.mpr (by omega), by rw [e]⟩)
  | false =>
    rw [valD_out _ fun p hp hk => ?_]
    · rfl
    · obtain ⟨a, ha, rfl⟩ := List.mem_map.mp hp
      have ha := List.mem_range.mp ha
      have : wT (qr a) = w := S_inj (Sum.inr.inj hk)
      rw [gdN_iff.mpr ⟨qr a, ⟨by show a / 4 < n; omega, by show a % 4 < 4; omega⟩, this.symm⟩] at g
      cases g
theorem hasN (n : Nat) (w : List Nat) : kHas (kvN n) (.str (S w)) = some (gdN n w) := by
  show some ((valD (kvN n) (.inr (S w))).isSome) = _
  rw [valN]
  cases gdN n w <;> rfl
theorem getN {n : Nat} {w : List Nat} (h : gdN n w = true) : kGet (kvN n) (.str (S w)) = some (prD (vW w)) := by
  show valD (kvN n) (.inr (S w)) = _
  rw [valN, h]
  rfl
theorem word_ok {a : Nat} (h : a < 4000) : sAddS (.str (S (TL.numL (a / 4) ++ [46]))) (.str (S (TL.numL (a % 4)))) = some (.str (S (wT (qr a)))) ∧ sAddS (.str (S (TL.numL (a / 4)))) (.str (S [46])) = some (.str (S (TL.numL (a / 4) ++ [46]))) := by
  have t1 : Tx 4 (TL.numL (a / 4)) := ⟨fun c hc => by have := numL_chr _ c hc; omega, numL4 (by omega)⟩
  have t2 : Tx 4 (TL.numL (a % 4)) := ⟨fun c hc => by have := numL_chr _ c hc; omega, numL4 (by omega)⟩
  have t3 : Tx 1 [46] := ⟨fun c hc => by cases List.mem_singleton.mp hc; decide, Nat.le_refl _⟩
  refine ⟨?_, sAddS_ok t1 t3 (by decide) (by decide)⟩
  rw [sAddS_ok (t1.app t3) t2 (by decide) (by decide), List.append_assoc]
  rfl
theorem meant2_ok {box : List PyData} {x : List Nat} (hb : box.length ≤ 200) (h : Tx 90 x) : f_l_meant_2 [.d (.tuple box), .d (.str (S x))] = ret (.d (if okL box.length x = true then .tuple [.str "told", .tuple ((vL x).map rowD)] else .tuple [.str "no text"])) := by
  have hs := lSplit_ok (c := 47) (by decide) h (by decide)
  have hpl := h.parts (c := 47)
  have e4 : (4 : Int) * (box.length : Int) = ((4 * box.length : Nat) : Int) := by omega
  simp -dsimp (disch := omega) only [f_l_meant_2, m_l_meant_2, slash, blank, dot, sSetKD_ap, e4, rng1_nat (show 4 * box.length ≤ 1000 by omega), List.length_map, List.length_range, lim_if, lim_if2, eFz_ap, eVar_ap, eVarQ_ap, eC_ap, e1_ap, e2_ap, l1_ap, l2_ap, aNil_ap, aCons_ap, eTup_ap, lLst_ap, fTru_ap, fB_ap, fNot_ap, fAnd_ap, fOr_ap, eNot_ap, eAnd_ap, eOr_ap, eIf_ap, lIf_ap, oNone_ap, oSome_ap, eCut_ap, lCut_ap, sNext_ap, sBreak_ap, sCont_ap, sIf_ap, sExpr_ap, sRet_ap, sRetL_ap, sRetO_ap, sRetN_ap, bName_ap, bNil_ap, bCons_ap, bTup_ap, bItem_ap, sAsg_ap, sSet_ap, sSetL_ap, sApp_ap, sExt_ap, iSeq_ap, iOwn_ap, l3_ap, sFor_ap, fYes_ap, rNil_ap, rCons_ap, rRaw_ap, eCall_ap, lCall_ap, eCallK_ap, eCh_ap, xNil_ap, xD_ap, xL_ap, sPar_ap, eIs_ap, sSeq_ap, seqM_next, seqM_brk, seqM_cont, seqM_ret, runDef_ap, defM_next, defM_ret, stepM_ap, loopM_next, loopM_cont, loopM_brk, loopM_ret, lcF_ap, lcH_ap, lcM_nil, lcM_cons, lcC_some, lcC_none, limM_ap, lLC_ap, startE, arS, mask, wipeE, noOwn, isOwn, setAll, rtS, sItems_l, sItems_t, lim, sIx_l, sIx_t, sLen_l, sLen_t, sTuple_l, sTuple_t, sList_l, sList_t, rngL0, rngL1, rngL2, rngL3, rngL4, rngL5, rngL6, sat_ret, sat_bnd, sat_some, sat_none, sat_fail, bnd_ret, bnd_bnd, bnd_fail, lft_some, lft_none, Option.map_some, Option.map_none, List.map_cons, List.map_nil, List.length_cons, List.length_nil, List.replicate, List.cons_append, List.nil_append, List.append_nil, List.all_cons, List.all_nil, Bool.and_true, Bool.true_and, Bool.and_false, Bool.false_and, Bool.not_false, Bool.not_true, Bool.not_not, Bool.or_true, Bool.true_or, Bool.or_false, Bool.false_or, List.getElem?_cons_succ, List.getElem?_cons_zero, List.getElem?_nil, if_true, if_false, ite_true, ite_false, List.set_cons_succ, List.set_cons_zero, List.set_nil, Int.reduceLT, Int.reduceLE, Int.reduceNeg, Int.reducePow, Int.reduceMul, Int.reduceAdd, Int.reduceSub, Int.reduceToNat, Int.reduceEq, Nat.reduceAdd, Nat.reduceSub, Nat.reduceLeDiff, Nat.reduceLT, Nat.reduceEqDiff, Nat.reduceMul, and_self, and_true, true_and, and_false, false_and, or_true, true_or, or_false, false_or, or_self, reduceIte, Bool.false_eq_true, Bool.true_eq_false, decide_true, decide_false, Option.some.injEq, List.isEmpty_cons, List.isEmpty_nil, reduceCtorEq, ne_eq, not_false_eq_true, not_true_eq_false, List.replicate_zero, Int.reduceMod, sEq_int, sNe_int, rotN_0, rotN_1, rotN_2, rotN_3, bi_t, bi_f, sAdd_i, sAdd_t, sAdd_l, lAdd_l, sSub_i, sMul_i, sMul_t, sMul_l, sMod_i, sFdiv_i, sNeg_i, sLt_i, sLe_i, sGt_i, sGe_i, sIs_n, sIsNot_n, isN_n, isN_i, isN_t, isN_l, isN_s, isN_b, toB_b, toI_i, toD_d, toD_l, toL_l, tTru_n, tTru_b, tTru_i, tTru_l, tTru_t, isT_int, isT_bool, isT_tuple, isT_str, isT_list, sCut_l, sCut_t, sAug_ap, sPop_ap, at1_0, at2_0, at2_1, at3_0, at3_1, at3_2]
  refine bnd_lcm (h := fun a => .tuple [.str (S (wT (qr a))), prD (qr a)]) (fun a ha => ?_) ?_
  · have ha := List.mem_range.mp ha
    have d1 : ((a : Nat) : Int) / 4 = ((a / 4 : Nat) : Int) := by omega
    have d2 : ((a : Nat) : Int) % 4 = ((a % 4 : Nat) : Int) := by omega
    have s1 := sStr_nat (n := a / 4) (by omega)
    have s2 := sStr_nat (n := a % 4) (by omega)
    obtain ⟨w1, w2⟩ := word_ok (a := a) (by omega)
    simp -dsimp only [niD, d1, d2, s1, s2, w1, w2, prD, eD, qr, eFz_ap, eVar_ap, eVarQ_ap, eC_ap, e1_ap, e2_ap, l1_ap, l2_ap, aNil_ap, aCons_ap, eTup_ap, lLst_ap, fTru_ap, fB_ap, fNot_ap, fAnd_ap, fOr_ap, eNot_ap, eAnd_ap, eOr_ap, eIf_ap, lIf_ap, oNone_ap, oSome_ap, eCut_ap, lCut_ap, sNext_ap, sBreak_ap, sCont_ap, sIf_ap, sExpr_ap, sRet_ap, sRetL_ap, sRetO_ap, sRetN_ap, bName_ap, bNil_ap, bCons_ap, bTup_ap, bItem_ap, sAsg_ap, sSet_ap, sSetL_ap, sApp_ap, sExt_ap, iSeq_ap, iOwn_ap, l3_ap, sFor_ap, fYes_ap, rNil_ap, rCons_ap, rRaw_ap, eCall_ap, lCall_ap, eCallK_ap, eCh_ap, xNil_ap, xD_ap, xL_ap, sPar_ap, eIs_ap, sSeq_ap, seqM_next, seqM_brk, seqM_cont, seqM_ret, runDef_ap, defM_next, defM_ret, stepM_ap, loopM_next, loopM_cont, loopM_brk, loopM_ret, lcF_ap, lcH_ap, lcM_nil, lcM_cons, lcC_some, lcC_none, limM_ap, lLC_ap, startE, arS, mask, wipeE, noOwn, isOwn, setAll, rtS, sItems_l, sItems_t, lim, sIx_l, sIx_t, sLen_l, sLen_t, sTuple_l, sTuple_t, sList_l, sList_t, rngL0, rngL1, rngL2, rngL3, rngL4, rngL5, rngL6, sat_ret, sat_bnd, sat_some, sat_none, sat_fail, bnd_ret, bnd_bnd, bnd_fail, lft_some, lft_none, Option.map_some, Option.map_none, List.map_cons, List.map_nil, List.length_cons, List.length_nil, List.replicate, List.cons_append, List.nil_append, List.append_nil, List.all_cons, List.all_nil, Bool.and_true, Bool.true_and, Bool.and_false, Bool.false_and, Bool.not_false, Bool.not_true, Bool.not_not, Bool.or_true, Bool.true_or, Bool.or_false, Bool.false_or, List.getElem?_cons_succ, List.getElem?_cons_zero, List.getElem?_nil, if_true, if_false, ite_true, ite_false, List.set_cons_succ, List.set_cons_zero, List.set_nil, Int.reduceLT, Int.reduceLE, Int.reduceNeg, Int.reducePow, Int.reduceMul, Int.reduceAdd, Int.reduceSub, Int.reduceToNat, Int.reduceEq, Nat.reduceAdd, Nat.reduceSub, Nat.reduceLeDiff, Nat.reduceLT, Nat.reduceEqDiff, Nat.reduceMul, and_self, and_true, true_and, and_false, false_and, or_true, true_or, or_false, false_or, or_self, reduceIte, Bool.false_eq_true, Bool.true_eq_false, decide_true, decide_false, Option.some.injEq, List.isEmpty_cons, List.isEmpty_nil, reduceCtorEq, ne_eq, not_false_eq_true, not_true_eq_false, List.replicate_zero, Int.reduceMod, sEq_int, sNe_int, rotN_0, rotN_1, rotN_2, rotN_3, bi_t, bi_f, sAdd_i, sAdd_t, sAdd_l, lAdd_l, sSub_i, sMul_i, sMul_t, sMul_l, sMod_i, sFdiv_i, sNeg_i, sLt_i, sLe_i, sGt_i, sGe_i, sIs_n, sIsNot_n, isN_n, isN_i, isN_t, isN_l, isN_s, isN_b, toB_b, toI_i, toD_d, toD_l, toL_l, tTru_n, tTru_b, tTru_i, tTru_l, tTru_t, isT_int, isT_bool, isT_tuple, isT_str, isT_list, sCut_l, sCut_t, sAug_ap, sPop_ap, at1_0, at2_0, at2_1, at3_0, at3_1, at3_2]
  have pN : pairsD ((List.range (4 * box.length)).map fun a => .tuple [.str (S (wT (qr a))), prD (qr a)]) = some (kvN box.length) := pairsN _
  simp -dsimp (disch := omega) only [List.length_map, List.length_range, setKM_l, pN, mergeN, hs, lim_if, lim_if2, eFz_ap, eVar_ap, eVarQ_ap, eC_ap, e1_ap, e2_ap, l1_ap, l2_ap, aNil_ap, aCons_ap, eTup_ap, lLst_ap, fTru_ap, fB_ap, fNot_ap, fAnd_ap, fOr_ap, eNot_ap, eAnd_ap, eOr_ap, eIf_ap, lIf_ap, oNone_ap, oSome_ap, eCut_ap, lCut_ap, sNext_ap, sBreak_ap, sCont_ap, sIf_ap, sExpr_ap, sRet_ap, sRetL_ap, sRetO_ap, sRetN_ap, bName_ap, bNil_ap, bCons_ap, bTup_ap, bItem_ap, sAsg_ap, sSet_ap, sSetL_ap, sApp_ap, sExt_ap, iSeq_ap, iOwn_ap, l3_ap, sFor_ap, fYes_ap, rNil_ap, rCons_ap, rRaw_ap, eCall_ap, lCall_ap, eCallK_ap, eCh_ap, xNil_ap, xD_ap, xL_ap, sPar_ap, eIs_ap, sSeq_ap, seqM_next, seqM_brk, seqM_cont, seqM_ret, runDef_ap, defM_next, defM_ret, stepM_ap, loopM_next, loopM_cont, loopM_brk, loopM_ret, lcF_ap, lcH_ap, lcM_nil, lcM_cons, lcC_some, lcC_none, limM_ap, lLC_ap, startE, arS, mask, wipeE, noOwn, isOwn, setAll, rtS, sItems_l, sItems_t, lim, sIx_l, sIx_t, sLen_l, sLen_t, sTuple_l, sTuple_t, sList_l, sList_t, rngL0, rngL1, rngL2, rngL3, rngL4, rngL5, rngL6, sat_ret, sat_bnd, sat_some, sat_none, sat_fail, bnd_ret, bnd_bnd, bnd_fail, lft_some, lft_none, Option.map_some, Option.map_none, List.map_cons, List.map_nil, List.length_cons, List.length_nil, List.replicate, List.cons_append, List.nil_append, List.append_nil, List.all_cons, List.all_nil, Bool.and_true, Bool.true_and, Bool.and_false, Bool.false_and, Bool.not_false, Bool.not_true, Bool.not_not, Bool.or_true, Bool.true_or, Bool.or_false, Bool.false_or, List.getElem?_cons_succ, List.getElem?_cons_zero, List.getElem?_nil, if_true, if_false, ite_true, ite_false, List.set_cons_succ, List.set_cons_zero, List.set_nil, Int.reduceLT, Int.reduceLE, Int.reduceNeg, Int.reducePow, Int.reduceMul, Int.reduceAdd, Int.reduceSub, Int.reduceToNat, Int.reduceEq, Nat.reduceAdd, Nat.reduceSub, Nat.reduceLeDiff, Nat.reduceLT, Nat.reduceEqDiff, Nat.reduceMul, and_self, and_true, true_and, and_false, false_and, or_true, true_or, or_false, false_or, or_self, reduceIte, Bool.false_eq_true, Bool.true_eq_false, decide_true, decide_false, Option.some.injEq, List.isEmpty_cons, List.isEmpty_nil, reduceCtorEq, ne_eq, not_false_eq_true, not_true_eq_false, List.replicate_zero, Int.reduceMod, sEq_int, sNe_int, rotN_0, rotN_1, rotN_2, rotN_3, bi_t, bi_f, sAdd_i, sAdd_t, sAdd_l, lAdd_l, sSub_i, sMul_i, sMul_t, sMul_l, sMod_i, sFdiv_i, sNeg_i, sLt_i, sLe_i, sGt_i, sGe_i, sIs_n, sIsNot_n, isN_n, isN_i, isN_t, isN_l, isN_s, isN_b, toB_b, toI_i, toD_d, toD_l, toL_l, tTru_n, tTru_b, tTru_i, tTru_l, tTru_t, isT_int, isT_bool, isT_tuple, isT_str, isT_list, sCut_l, sCut_t, sAug_ap, sPop_ap, at1_0, at2_0, at2_1, at3_0, at3_1, at3_2]
  refine bnd_lcm (h := fun r => .list ((sp 32 r).map fun w => .str (S w))) (fun r hr => ?_) ?_
  · have hs := lSplit_ok (c := 32) (by decide) (h.part hr) (by decide)
    have := (h.part hr).parts (c := 32)
    simp -dsimp (disch := omega) only [hs, List.length_map, lim_if, lim_if2, eFz_ap, eVar_ap, eVarQ_ap, eC_ap, e1_ap, e2_ap, l1_ap, l2_ap, aNil_ap, aCons_ap, eTup_ap, lLst_ap, fTru_ap, fB_ap, fNot_ap, fAnd_ap, fOr_ap, eNot_ap, eAnd_ap, eOr_ap, eIf_ap, lIf_ap, oNone_ap, oSome_ap, eCut_ap, lCut_ap, sNext_ap, sBreak_ap, sCont_ap, sIf_ap, sExpr_ap, sRet_ap, sRetL_ap, sRetO_ap, sRetN_ap, bName_ap, bNil_ap, bCons_ap, bTup_ap, bItem_ap, sAsg_ap, sSet_ap, sSetL_ap, sApp_ap, sExt_ap, iSeq_ap, iOwn_ap, l3_ap, sFor_ap, fYes_ap, rNil_ap, rCons_ap, rRaw_ap, eCall_ap, lCall_ap, eCallK_ap, eCh_ap, xNil_ap, xD_ap, xL_ap, sPar_ap, eIs_ap, sSeq_ap, seqM_next, seqM_brk, seqM_cont, seqM_ret, runDef_ap, defM_next, defM_ret, stepM_ap, loopM_next, loopM_cont, loopM_brk, loopM_ret, lcF_ap, lcH_ap, lcM_nil, lcM_cons, lcC_some, lcC_none, limM_ap, lLC_ap, startE, arS, mask, wipeE, noOwn, isOwn, setAll, rtS, sItems_l, sItems_t, lim, sIx_l, sIx_t, sLen_l, sLen_t, sTuple_l, sTuple_t, sList_l, sList_t, rngL0, rngL1, rngL2, rngL3, rngL4, rngL5, rngL6, sat_ret, sat_bnd, sat_some, sat_none, sat_fail, bnd_ret, bnd_bnd, bnd_fail, lft_some, lft_none, Option.map_some, Option.map_none, List.map_cons, List.map_nil, List.length_cons, List.length_nil, List.replicate, List.cons_append, List.nil_append, List.append_nil, List.all_cons, List.all_nil, Bool.and_true, Bool.true_and, Bool.and_false, Bool.false_and, Bool.not_false, Bool.not_true, Bool.not_not, Bool.or_true, Bool.true_or, Bool.or_false, Bool.false_or, List.getElem?_cons_succ, List.getElem?_cons_zero, List.getElem?_nil, if_true, if_false, ite_true, ite_false, List.set_cons_succ, List.set_cons_zero, List.set_nil, Int.reduceLT, Int.reduceLE, Int.reduceNeg, Int.reducePow, Int.reduceMul, Int.reduceAdd, Int.reduceSub, Int.reduceToNat, Int.reduceEq, Nat.reduceAdd, Nat.reduceSub, Nat.reduceLeDiff, Nat.reduceLT, Nat.reduceEqDiff, Nat.reduceMul, and_self, and_true, true_and, and_false, false_and, or_true, true_or, or_false, false_or, or_self, reduceIte, Bool.false_eq_true, Bool.true_eq_false, decide_true, decide_false, Option.some.injEq, List.isEmpty_cons, List.isEmpty_nil, reduceCtorEq, ne_eq, not_false_eq_true, not_true_eq_false, List.replicate_zero, Int.reduceMod, sEq_int, sNe_int, rotN_0, rotN_1, rotN_2, rotN_3, bi_t, bi_f, sAdd_i, sAdd_t, sAdd_l, lAdd_l, sSub_i, sMul_i, sMul_t, sMul_l, sMod_i, sFdiv_i, sNeg_i, sLt_i, sLe_i, sGt_i, sGe_i, sIs_n, sIsNot_n, isN_n, isN_i, isN_t, isN_l, isN_s, isN_b, toB_b, toI_i, toD_d, toD_l, toL_l, tTru_n, tTru_b, tTru_i, tTru_l, tTru_t, isT_int, isT_bool, isT_tuple, isT_str, isT_list, sCut_l, sCut_t, sAug_ap, sPop_ap, at1_0, at2_0, at2_1, at3_0, at3_1, at3_2]
  simp -dsimp (disch := omega) only [List.length_map, lim_if, lim_if2, eFz_ap, eVar_ap, eVarQ_ap, eC_ap, e1_ap, e2_ap, l1_ap, l2_ap, aNil_ap, aCons_ap, eTup_ap, lLst_ap, fTru_ap, fB_ap, fNot_ap, fAnd_ap, fOr_ap, eNot_ap, eAnd_ap, eOr_ap, eIf_ap, lIf_ap, oNone_ap, oSome_ap, eCut_ap, lCut_ap, sNext_ap, sBreak_ap, sCont_ap, sIf_ap, sExpr_ap, sRet_ap, sRetL_ap, sRetO_ap, sRetN_ap, bName_ap, bNil_ap, bCons_ap, bTup_ap, bItem_ap, sAsg_ap, sSet_ap, sSetL_ap, sApp_ap, sExt_ap, iSeq_ap, iOwn_ap, l3_ap, sFor_ap, fYes_ap, rNil_ap, rCons_ap, rRaw_ap, eCall_ap, lCall_ap, eCallK_ap, eCh_ap, xNil_ap, xD_ap, xL_ap, sPar_ap, eIs_ap, sSeq_ap, seqM_next, seqM_brk, seqM_cont, seqM_ret, runDef_ap, defM_next, defM_ret, stepM_ap, loopM_next, loopM_cont, loopM_brk, loopM_ret, lcF_ap, lcH_ap, lcM_nil, lcM_cons, lcC_some, lcC_none, limM_ap, lLC_ap, startE, arS, mask, wipeE, noOwn, isOwn, setAll, rtS, sItems_l, sItems_t, lim, sIx_l, sIx_t, sLen_l, sLen_t, sTuple_l, sTuple_t, sList_l, sList_t, rngL0, rngL1, rngL2, rngL3, rngL4, rngL5, rngL6, sat_ret, sat_bnd, sat_some, sat_none, sat_fail, bnd_ret, bnd_bnd, bnd_fail, lft_some, lft_none, Option.map_some, Option.map_none, List.map_cons, List.map_nil, List.length_cons, List.length_nil, List.replicate, List.cons_append, List.nil_append, List.append_nil, List.all_cons, List.all_nil, Bool.and_true, Bool.true_and, Bool.and_false, Bool.false_and, Bool.not_false, Bool.not_true, Bool.not_not, Bool.or_true, Bool.true_or, Bool.or_false, Bool.false_or, List.getElem?_cons_succ, List.getElem?_cons_zero, List.getElem?_nil, if_true, if_false, ite_true, ite_false, List.set_cons_succ, List.set_cons_zero, List.set_nil, Int.reduceLT, Int.reduceLE, Int.reduceNeg, Int.reducePow, Int.reduceMul, Int.reduceAdd, Int.reduceSub, Int.reduceToNat, Int.reduceEq, Nat.reduceAdd, Nat.reduceSub, Nat.reduceLeDiff, Nat.reduceLT, Nat.reduceEqDiff, Nat.reduceMul, and_self, and_true, true_and, and_false, false_and, or_true, true_or, or_false, false_or, or_self, reduceIte, Bool.false_eq_true, Bool.true_eq_false, decide_true, decide_false, Option.some.injEq, List.isEmpty_cons, List.isEmpty_nil, reduceCtorEq, ne_eq, not_false_eq_true, not_true_eq_false, List.replicate_zero, Int.reduceMod, sEq_int, sNe_int, rotN_0, rotN_1, rotN_2, rotN_3, bi_t, bi_f, sAdd_i, sAdd_t, sAdd_l, lAdd_l, sSub_i, sMul_i, sMul_t, sMul_l, sMod_i, sFdiv_i, sNeg_i, sLt_i, sLe_i, sGt_i, sGe_i, sIs_n, sIsNot_n, isN_n, isN_i, isN_t, isN_l, isN_s, isN_b, toB_b, toI_i, toD_d, toD_l, toL_l, tTru_n, tTru_b, tTru_i, tTru_l, tTru_t, isT_int, isT_bool, isT_tuple, isT_str, isT_list, sCut_l, sCut_t, sAug_ap, sPop_ap, at1_0, at2_0, at2_1, at3_0, at3_1, at3_2]
  refine bnd_lcf (φ := fun r => .list ((sp 32 r).map fun w => .str (S w))) (p := fun r => !((sp 32 r).all (gdN box.length))) (h := fun r => .list ((sp 32 r).map fun w => .str (S w))) (fun r hr => ?_) ?_
  · have tr := h.part hr
    have pl := tr.parts (c := 32)
    simp -dsimp (disch := omega) only [List.length_map, lim_if, lim_if2, eFz_ap, eVar_ap, eVarQ_ap, eC_ap, e1_ap, e2_ap, l1_ap, l2_ap, aNil_ap, aCons_ap, eTup_ap, lLst_ap, fTru_ap, fB_ap, fNot_ap, fAnd_ap, fOr_ap, eNot_ap, eAnd_ap, eOr_ap, eIf_ap, lIf_ap, oNone_ap, oSome_ap, eCut_ap, lCut_ap, sNext_ap, sBreak_ap, sCont_ap, sIf_ap, sExpr_ap, sRet_ap, sRetL_ap, sRetO_ap, sRetN_ap, bName_ap, bNil_ap, bCons_ap, bTup_ap, bItem_ap, sAsg_ap, sSet_ap, sSetL_ap, sApp_ap, sExt_ap, iSeq_ap, iOwn_ap, l3_ap, sFor_ap, fYes_ap, rNil_ap, rCons_ap, rRaw_ap, eCall_ap, lCall_ap, eCallK_ap, eCh_ap, xNil_ap, xD_ap, xL_ap, sPar_ap, eIs_ap, sSeq_ap, seqM_next, seqM_brk, seqM_cont, seqM_ret, runDef_ap, defM_next, defM_ret, stepM_ap, loopM_next, loopM_cont, loopM_brk, loopM_ret, lcF_ap, lcH_ap, lcM_nil, lcM_cons, lcC_some, lcC_none, limM_ap, lLC_ap, startE, arS, mask, wipeE, noOwn, isOwn, setAll, rtS, sItems_l, sItems_t, lim, sIx_l, sIx_t, sLen_l, sLen_t, sTuple_l, sTuple_t, sList_l, sList_t, rngL0, rngL1, rngL2, rngL3, rngL4, rngL5, rngL6, sat_ret, sat_bnd, sat_some, sat_none, sat_fail, bnd_ret, bnd_bnd, bnd_fail, lft_some, lft_none, Option.map_some, Option.map_none, List.map_cons, List.map_nil, List.length_cons, List.length_nil, List.replicate, List.cons_append, List.nil_append, List.append_nil, List.all_cons, List.all_nil, Bool.and_true, Bool.true_and, Bool.and_false, Bool.false_and, Bool.not_false, Bool.not_true, Bool.not_not, Bool.or_true, Bool.true_or, Bool.or_false, Bool.false_or, List.getElem?_cons_succ, List.getElem?_cons_zero, List.getElem?_nil, if_true, if_false, ite_true, ite_false, List.set_cons_succ, List.set_cons_zero, List.set_nil, Int.reduceLT, Int.reduceLE, Int.reduceNeg, Int.reducePow, Int.reduceMul, Int.reduceAdd, Int.reduceSub, Int.reduceToNat, Int.reduceEq, Nat.reduceAdd, Nat.reduceSub, Nat.reduceLeDiff, Nat.reduceLT, Nat.reduceEqDiff, Nat.reduceMul, and_self, and_true, true_and, and_false, false_and, or_true, true_or, or_false, false_or, or_self, reduceIte, Bool.false_eq_true, Bool.true_eq_false, decide_true, decide_false, Option.some.injEq, List.isEmpty_cons, List.isEmpty_nil, reduceCtorEq, ne_eq, not_false_eq_true, not_true_eq_false, List.replicate_zero, Int.reduceMod, sEq_int, sNe_int, rotN_0, rotN_1, rotN_2, rotN_3, bi_t, bi_f, sAdd_i, sAdd_t, sAdd_l, lAdd_l, sSub_i, sMul_i, sMul_t, sMul_l, sMod_i, sFdiv_i, sNeg_i, sLt_i, sLe_i, sGt_i, sGe_i, sIs_n, sIsNot_n, isN_n, isN_i, isN_t, isN_l, isN_s, isN_b, toB_b, toI_i, toD_d, toD_l, toL_l, tTru_n, tTru_b, tTru_i, tTru_l, tTru_t, isT_int, isT_bool, isT_tuple, isT_str, isT_list, sCut_l, sCut_t, sAug_ap, sPop_ap, at1_0, at2_0, at2_1, at3_0, at3_1, at3_2]
    refine bnd_lcf (p := fun w => !gdN box.length w) (h := fun w => .str (S w)) (fun w hw => ?_) ?_
    · simp -dsimp only [fInKD_ap, kdAt, hasN, eFz_ap, eVar_ap, eVarQ_ap, eC_ap, e1_ap, e2_ap, l1_ap, l2_ap, aNil_ap, aCons_ap, eTup_ap, lLst_ap, fTru_ap, fB_ap, fNot_ap, fAnd_ap, fOr_ap, eNot_ap, eAnd_ap, eOr_ap, eIf_ap, lIf_ap, oNone_ap, oSome_ap, eCut_ap, lCut_ap, sNext_ap, sBreak_ap, sCont_ap, sIf_ap, sExpr_ap, sRet_ap, sRetL_ap, sRetO_ap, sRetN_ap, bName_ap, bNil_ap, bCons_ap, bTup_ap, bItem_ap, sAsg_ap, sSet_ap, sSetL_ap, sApp_ap, sExt_ap, iSeq_ap, iOwn_ap, l3_ap, sFor_ap, fYes_ap, rNil_ap, rCons_ap, rRaw_ap, eCall_ap, lCall_ap, eCallK_ap, eCh_ap, xNil_ap, xD_ap, xL_ap, sPar_ap, eIs_ap, sSeq_ap, seqM_next, seqM_brk, seqM_cont, seqM_ret, runDef_ap, defM_next, defM_ret, stepM_ap, loopM_next, loopM_cont, loopM_brk, loopM_ret, lcF_ap, lcH_ap, lcM_nil, lcM_cons, lcC_some, lcC_none, limM_ap, lLC_ap, startE, arS, mask, wipeE, noOwn, isOwn, setAll, rtS, sItems_l, sItems_t, lim, sIx_l, sIx_t, sLen_l, sLen_t, sTuple_l, sTuple_t, sList_l, sList_t, rngL0, rngL1, rngL2, rngL3, rngL4, rngL5, rngL6, sat_ret, sat_bnd, sat_some, sat_none, sat_fail, bnd_ret, bnd_bnd, bnd_fail, lft_some, lft_none, Option.map_some, Option.map_none, List.map_cons, List.map_nil, List.length_cons, List.length_nil, List.replicate, List.cons_append, List.nil_append, List.append_nil, List.all_cons, List.all_nil, Bool.and_true, Bool.true_and, Bool.and_false, Bool.false_and, Bool.not_false, Bool.not_true, Bool.not_not, Bool.or_true, Bool.true_or, Bool.or_false, Bool.false_or, List.getElem?_cons_succ, List.getElem?_cons_zero, List.getElem?_nil, if_true, if_false, ite_true, ite_false, List.set_cons_succ, List.set_cons_zero, List.set_nil, Int.reduceLT, Int.reduceLE, Int.reduceNeg, Int.reducePow, Int.reduceMul, Int.reduceAdd, Int.reduceSub, Int.reduceToNat, Int.reduceEq, Nat.reduceAdd, Nat.reduceSub, Nat.reduceLeDiff, Nat.reduceLT, Nat.reduceEqDiff, Nat.reduceMul, and_self, and_true, true_and, and_false, false_and, or_true, true_or, or_false, false_or, or_self, reduceIte, Bool.false_eq_true, Bool.true_eq_false, decide_true, decide_false, Option.some.injEq, List.isEmpty_cons, List.isEmpty_nil, reduceCtorEq, ne_eq, not_false_eq_true, not_true_eq_false, List.replicate_zero, Int.reduceMod, sEq_int, sNe_int, rotN_0, rotN_1, rotN_2, rotN_3, bi_t, bi_f, sAdd_i, sAdd_t, sAdd_l, lAdd_l, sSub_i, sMul_i, sMul_t, sMul_l, sMod_i, sFdiv_i, sNeg_i, sLt_i, sLe_i, sGt_i, sGe_i, sIs_n, sIsNot_n, isN_n, isN_i, isN_t, isN_l, isN_s, isN_b, toB_b, toI_i, toD_d, toD_l, toL_l, tTru_n, tTru_b, tTru_i, tTru_l, tTru_t, isT_int, isT_bool, isT_tuple, isT_str, isT_list, sCut_l, sCut_t, sAug_ap, sPop_ap, at1_0, at2_0, at2_1, at3_0, at3_1, at3_2]
      cases gdN box.length w <;> rfl
    have sh : shp (.list (((sp 32 r).filter fun w => !gdN box.length w).map fun w => .str (S w))) = true := (Sh.list (n := 0) fun d hd => by
      obtain ⟨w, hw, rfl⟩ := List.mem_map.mp hd
      exact sh_str (tr.part (List.mem_filter.mp hw).1).asc).shp (by decide)
    have nn := sNe_nil sh
    rw [fl_all] at nn
    have fl : ((sp 32 r).filter fun w => !gdN box.length w).length ≤ 1000 := Nat.le_trans (List.length_filter_le _ _) (by omega)
    simp -dsimp (disch := omega) only [nn, List.length_map, lim_if, lim_if2, eFz_ap, eVar_ap, eVarQ_ap, eC_ap, e1_ap, e2_ap, l1_ap, l2_ap, aNil_ap, aCons_ap, eTup_ap, lLst_ap, fTru_ap, fB_ap, fNot_ap, fAnd_ap, fOr_ap, eNot_ap, eAnd_ap, eOr_ap, eIf_ap, lIf_ap, oNone_ap, oSome_ap, eCut_ap, lCut_ap, sNext_ap, sBreak_ap, sCont_ap, sIf_ap, sExpr_ap, sRet_ap, sRetL_ap, sRetO_ap, sRetN_ap, bName_ap, bNil_ap, bCons_ap, bTup_ap, bItem_ap, sAsg_ap, sSet_ap, sSetL_ap, sApp_ap, sExt_ap, iSeq_ap, iOwn_ap, l3_ap, sFor_ap, fYes_ap, rNil_ap, rCons_ap, rRaw_ap, eCall_ap, lCall_ap, eCallK_ap, eCh_ap, xNil_ap, xD_ap, xL_ap, sPar_ap, eIs_ap, sSeq_ap, seqM_next, seqM_brk, seqM_cont, seqM_ret, runDef_ap, defM_next, defM_ret, stepM_ap, loopM_next, loopM_cont, loopM_brk, loopM_ret, lcF_ap, lcH_ap, lcM_nil, lcM_cons, lcC_some, lcC_none, limM_ap, lLC_ap, startE, arS, mask, wipeE, noOwn, isOwn, setAll, rtS, sItems_l, sItems_t, lim, sIx_l, sIx_t, sLen_l, sLen_t, sTuple_l, sTuple_t, sList_l, sList_t, rngL0, rngL1, rngL2, rngL3, rngL4, rngL5, rngL6, sat_ret, sat_bnd, sat_some, sat_none, sat_fail, bnd_ret, bnd_bnd, bnd_fail, lft_some, lft_none, Option.map_some, Option.map_none, List.map_cons, List.map_nil, List.length_cons, List.length_nil, List.replicate, List.cons_append, List.nil_append, List.append_nil, List.all_cons, List.all_nil, Bool.and_true, Bool.true_and, Bool.and_false, Bool.false_and, Bool.not_false, Bool.not_true, Bool.not_not, Bool.or_true, Bool.true_or, Bool.or_false, Bool.false_or, List.getElem?_cons_succ, List.getElem?_cons_zero, List.getElem?_nil, if_true, if_false, ite_true, ite_false, List.set_cons_succ, List.set_cons_zero, List.set_nil, Int.reduceLT, Int.reduceLE, Int.reduceNeg, Int.reducePow, Int.reduceMul, Int.reduceAdd, Int.reduceSub, Int.reduceToNat, Int.reduceEq, Nat.reduceAdd, Nat.reduceSub, Nat.reduceLeDiff, Nat.reduceLT, Nat.reduceEqDiff, Nat.reduceMul, and_self, and_true, true_and, and_false, false_and, or_true, true_or, or_false, false_or, or_self, reduceIte, Bool.false_eq_true, Bool.true_eq_false, decide_true, decide_false, Option.some.injEq, List.isEmpty_cons, List.isEmpty_nil, reduceCtorEq, ne_eq, not_false_eq_true, not_true_eq_false, List.replicate_zero, Int.reduceMod, sEq_int, sNe_int, rotN_0, rotN_1, rotN_2, rotN_3, bi_t, bi_f, sAdd_i, sAdd_t, sAdd_l, lAdd_l, sSub_i, sMul_i, sMul_t, sMul_l, sMod_i, sFdiv_i, sNeg_i, sLt_i, sLe_i, sGt_i, sGe_i, sIs_n, sIsNot_n, isN_n, isN_i, isN_t, isN_l, isN_s, isN_b, toB_b, toI_i, toD_d, toD_l, toL_l, tTru_n, tTru_b, tTru_i, tTru_l, tTru_t, isT_int, isT_bool, isT_tuple, isT_str, isT_list, sCut_l, sCut_t, sAug_ap, sPop_ap, at1_0, at2_0, at2_1, at3_0, at3_1, at3_2]
    cases (sp 32 r).all (gdN box.length) <;> rfl
  have sh : shp (.list (((sp 47 x).filter fun r => !((sp 32 r).all (gdN box.length))).map fun r => .list ((sp 32 r).map fun w => .str (S w)))) = true := (Sh.list (n := 1) fun d hd => by
    obtain ⟨r, hr, rfl⟩ := List.mem_map.mp hd
    exact Sh.list fun d hd => by
      obtain ⟨w, hw, rfl⟩ := List.mem_map.mp hd
      exact sh_str ((h.part (List.mem_filter.mp hr).1).part hw).asc).shp (by decide)
  have nn := sNe_nil sh
  rw [fl_all] at nn
  have fl : ((sp 47 x).filter fun r => !((sp 32 r).all (gdN box.length))).length ≤ 1000 := Nat.le_trans (List.length_filter_le _ _) (by omega)
  have gle : ((sp 47 x).all fun r => (sp 32 r).all (gdN box.length)) = gL box.length x := rfl
  rw [gle] at nn
  simp -dsimp (disch := omega) only [nn, List.length_map, lim_if, lim_if2, eFz_ap, eVar_ap, eVarQ_ap, eC_ap, e1_ap, e2_ap, l1_ap, l2_ap, aNil_ap, aCons_ap, eTup_ap, lLst_ap, fTru_ap, fB_ap, fNot_ap, fAnd_ap, fOr_ap, eNot_ap, eAnd_ap, eOr_ap, eIf_ap, lIf_ap, oNone_ap, oSome_ap, eCut_ap, lCut_ap, sNext_ap, sBreak_ap, sCont_ap, sIf_ap, sExpr_ap, sRet_ap, sRetL_ap, sRetO_ap, sRetN_ap, bName_ap, bNil_ap, bCons_ap, bTup_ap, bItem_ap, sAsg_ap, sSet_ap, sSetL_ap, sApp_ap, sExt_ap, iSeq_ap, iOwn_ap, l3_ap, sFor_ap, fYes_ap, rNil_ap, rCons_ap, rRaw_ap, eCall_ap, lCall_ap, eCallK_ap, eCh_ap, xNil_ap, xD_ap, xL_ap, sPar_ap, eIs_ap, sSeq_ap, seqM_next, seqM_brk, seqM_cont, seqM_ret, runDef_ap, defM_next, defM_ret, stepM_ap, loopM_next, loopM_cont, loopM_brk, loopM_ret, lcF_ap, lcH_ap, lcM_nil, lcM_cons, lcC_some, lcC_none, limM_ap, lLC_ap, startE, arS, mask, wipeE, noOwn, isOwn, setAll, rtS, sItems_l, sItems_t, lim, sIx_l, sIx_t, sLen_l, sLen_t, sTuple_l, sTuple_t, sList_l, sList_t, rngL0, rngL1, rngL2, rngL3, rngL4, rngL5, rngL6, sat_ret, sat_bnd, sat_some, sat_none, sat_fail, bnd_ret, bnd_bnd, bnd_fail, lft_some, lft_none, Option.map_some, Option.map_none, List.map_cons, List.map_nil, List.length_cons, List.length_nil, List.replicate, List.cons_append, List.nil_append, List.append_nil, List.all_cons, List.all_nil, Bool.and_true, Bool.true_and, Bool.and_false, Bool.false_and, Bool.not_false, Bool.not_true, Bool.not_not, Bool.or_true, Bool.true_or, Bool.or_false, Bool.false_or, List.getElem?_cons_succ, List.getElem?_cons_zero, List.getElem?_nil, if_true, if_false, ite_true, ite_false, List.set_cons_succ, List.set_cons_zero, List.set_nil, Int.reduceLT, Int.reduceLE, Int.reduceNeg, Int.reducePow, Int.reduceMul, Int.reduceAdd, Int.reduceSub, Int.reduceToNat, Int.reduceEq, Nat.reduceAdd, Nat.reduceSub, Nat.reduceLeDiff, Nat.reduceLT, Nat.reduceEqDiff, Nat.reduceMul, and_self, and_true, true_and, and_false, false_and, or_true, true_or, or_false, false_or, or_self, reduceIte, Bool.false_eq_true, Bool.true_eq_false, decide_true, decide_false, Option.some.injEq, List.isEmpty_cons, List.isEmpty_nil, reduceCtorEq, ne_eq, not_false_eq_true, not_true_eq_false, List.replicate_zero, Int.reduceMod, sEq_int, sNe_int, rotN_0, rotN_1, rotN_2, rotN_3, bi_t, bi_f, sAdd_i, sAdd_t, sAdd_l, lAdd_l, sSub_i, sMul_i, sMul_t, sMul_l, sMod_i, sFdiv_i, sNeg_i, sLt_i, sLe_i, sGt_i, sGe_i, sIs_n, sIsNot_n, isN_n, isN_i, isN_t, isN_l, isN_s, isN_b, toB_b, toI_i, toD_d, toD_l, toL_l, tTru_n, tTru_b, tTru_i, tTru_l, tTru_t, isT_int, isT_bool, isT_tuple, isT_str, isT_list, sCut_l, sCut_t, sAug_ap, sPop_ap, at1_0, at2_0, at2_1, at3_0, at3_1, at3_2]
  cases g : gL box.length x with
  | false =>
    have ok : okL box.length x = false := by unfold okL; rw [g]; rfl
    simp -dsimp only [ok, eFz_ap, eVar_ap, eVarQ_ap, eC_ap, e1_ap, e2_ap, l1_ap, l2_ap, aNil_ap, aCons_ap, eTup_ap, lLst_ap, fTru_ap, fB_ap, fNot_ap, fAnd_ap, fOr_ap, eNot_ap, eAnd_ap, eOr_ap, eIf_ap, lIf_ap, oNone_ap, oSome_ap, eCut_ap, lCut_ap, sNext_ap, sBreak_ap, sCont_ap, sIf_ap, sExpr_ap, sRet_ap, sRetL_ap, sRetO_ap, sRetN_ap, bName_ap, bNil_ap, bCons_ap, bTup_ap, bItem_ap, sAsg_ap, sSet_ap, sSetL_ap, sApp_ap, sExt_ap, iSeq_ap, iOwn_ap, l3_ap, sFor_ap, fYes_ap, rNil_ap, rCons_ap, rRaw_ap, eCall_ap, lCall_ap, eCallK_ap, eCh_ap, xNil_ap, xD_ap, xL_ap, sPar_ap, eIs_ap, sSeq_ap, seqM_next, seqM_brk, seqM_cont, seqM_ret, runDef_ap, defM_next, defM_ret, stepM_ap, loopM_next, loopM_cont, loopM_brk, loopM_ret, lcF_ap, lcH_ap, lcM_nil, lcM_cons, lcC_some, lcC_none, limM_ap, lLC_ap, startE, arS, mask, wipeE, noOwn, isOwn, setAll, rtS, sItems_l, sItems_t, lim, sIx_l, sIx_t, sLen_l, sLen_t, sTuple_l, sTuple_t, sList_l, sList_t, rngL0, rngL1, rngL2, rngL3, rngL4, rngL5, rngL6, sat_ret, sat_bnd, sat_some, sat_none, sat_fail, bnd_ret, bnd_bnd, bnd_fail, lft_some, lft_none, Option.map_some, Option.map_none, List.map_cons, List.map_nil, List.length_cons, List.length_nil, List.replicate, List.cons_append, List.nil_append, List.append_nil, List.all_cons, List.all_nil, Bool.and_true, Bool.true_and, Bool.and_false, Bool.false_and, Bool.not_false, Bool.not_true, Bool.not_not, Bool.or_true, Bool.true_or, Bool.or_false, Bool.false_or, List.getElem?_cons_succ, List.getElem?_cons_zero, List.getElem?_nil, if_true, if_false, ite_true, ite_false, List.set_cons_succ, List.set_cons_zero, List.set_nil, Int.reduceLT, Int.reduceLE, Int.reduceNeg, Int.reducePow, Int.reduceMul, Int.reduceAdd, Int.reduceSub, Int.reduceToNat, Int.reduceEq, Nat.reduceAdd, Nat.reduceSub, Nat.reduceLeDiff, Nat.reduceLT, Nat.reduceEqDiff, Nat.reduceMul, and_self, and_true, true_and, and_false, false_and, or_true, true_or, or_false, false_or, or_self, reduceIte, Bool.false_eq_true, Bool.true_eq_false, decide_true, decide_false, Option.some.injEq, List.isEmpty_cons, List.isEmpty_nil, reduceCtorEq, ne_eq, not_false_eq_true, not_true_eq_false, List.replicate_zero, Int.reduceMod, sEq_int, sNe_int, rotN_0, rotN_1, rotN_2, rotN_3, bi_t, bi_f, sAdd_i, sAdd_t, sAdd_l, lAdd_l, sSub_i, sMul_i, sMul_t, sMul_l, sMod_i, sFdiv_i, sNeg_i, sLt_i, sLe_i, sGt_i, sGe_i, sIs_n, sIsNot_n, isN_n, isN_i, isN_t, isN_l, isN_s, isN_b, toB_b, toI_i, toD_d, toD_l, toL_l, tTru_n, tTru_b, tTru_i, tTru_l, tTru_t, isT_int, isT_bool, isT_tuple, isT_str, isT_list, sCut_l, sCut_t, sAug_ap, sPop_ap, at1_0, at2_0, at2_1, at3_0, at3_1, at3_2]
  | true =>
    simp -dsimp (disch := omega) only [List.length_map, lim_if, lim_if2, eFz_ap, eVar_ap, eVarQ_ap, eC_ap, e1_ap, e2_ap, l1_ap, l2_ap, aNil_ap, aCons_ap, eTup_ap, lLst_ap, fTru_ap, fB_ap, fNot_ap, fAnd_ap, fOr_ap, eNot_ap, eAnd_ap, eOr_ap, eIf_ap, lIf_ap, oNone_ap, oSome_ap, eCut_ap, lCut_ap, sNext_ap, sBreak_ap, sCont_ap, sIf_ap, sExpr_ap, sRet_ap, sRetL_ap, sRetO_ap, sRetN_ap, bName_ap, bNil_ap, bCons_ap, bTup_ap, bItem_ap, sAsg_ap, sSet_ap, sSetL_ap, sApp_ap, sExt_ap, iSeq_ap, iOwn_ap, l3_ap, sFor_ap, fYes_ap, rNil_ap, rCons_ap, rRaw_ap, eCall_ap, lCall_ap, eCallK_ap, eCh_ap, xNil_ap, xD_ap, xL_ap, sPar_ap, eIs_ap, sSeq_ap, seqM_next, seqM_brk, seqM_cont, seqM_ret, runDef_ap, defM_next, defM_ret, stepM_ap, loopM_next, loopM_cont, loopM_brk, loopM_ret, lcF_ap, lcH_ap, lcM_nil, lcM_cons, lcC_some, lcC_none, limM_ap, lLC_ap, startE, arS, mask, wipeE, noOwn, isOwn, setAll, rtS, sItems_l, sItems_t, lim, sIx_l, sIx_t, sLen_l, sLen_t, sTuple_l, sTuple_t, sList_l, sList_t, rngL0, rngL1, rngL2, rngL3, rngL4, rngL5, rngL6, sat_ret, sat_bnd, sat_some, sat_none, sat_fail, bnd_ret, bnd_bnd, bnd_fail, lft_some, lft_none, Option.map_some, Option.map_none, List.map_cons, List.map_nil, List.length_cons, List.length_nil, List.replicate, List.cons_append, List.nil_append, List.append_nil, List.all_cons, List.all_nil, Bool.and_true, Bool.true_and, Bool.and_false, Bool.false_and, Bool.not_false, Bool.not_true, Bool.not_not, Bool.or_true, Bool.true_or, Bool.or_false, Bool.false_or, List.getElem?_cons_succ, List.getElem?_cons_zero, List.getElem?_nil, if_true, if_false, ite_true, ite_false, List.set_cons_succ, List.set_cons_zero, List.set_nil, Int.reduceLT, Int.reduceLE, Int.reduceNeg, Int.reducePow, Int.reduceMul, Int.reduceAdd, Int.reduceSub, Int.reduceToNat, Int.reduceEq, Nat.reduceAdd, Nat.reduceSub, Nat.reduceLeDiff, Nat.reduceLT, Nat.reduceEqDiff, Nat.reduceMul, and_self, and_true, true_and, and_false, false_and, or_true, true_or, or_false, false_or, or_self, reduceIte, Bool.false_eq_true, Bool.true_eq_false, decide_true, decide_false, Option.some.injEq, List.isEmpty_cons, List.isEmpty_nil, reduceCtorEq, ne_eq, not_false_eq_true, not_true_eq_false, List.replicate_zero, Int.reduceMod, sEq_int, sNe_int, rotN_0, rotN_1, rotN_2, rotN_3, bi_t, bi_f, sAdd_i, sAdd_t, sAdd_l, lAdd_l, sSub_i, sMul_i, sMul_t, sMul_l, sMod_i, sFdiv_i, sNeg_i, sLt_i, sLe_i, sGt_i, sGe_i, sIs_n, sIsNot_n, isN_n, isN_i, isN_t, isN_l, isN_s, isN_b, toB_b, toI_i, toD_d, toD_l, toL_l, tTru_n, tTru_b, tTru_i, tTru_l, tTru_t, isT_int, isT_bool, isT_tuple, isT_str, isT_list, sCut_l, sCut_t, sAug_ap, sPop_ap, at1_0, at2_0, at2_1, at3_0, at3_1, at3_2]
    refine bnd_lcm (φ := fun r => .list ((sp 32 r).map fun w => .str (S w))) (h := fun r => rowD ((sp 32 r).map vW)) (fun r hr => ?_) ?_
    · have pl := (h.part hr).parts (c := 32)
      simp -dsimp (disch := omega) only [List.length_map, lim_if, lim_if2, eFz_ap, eVar_ap, eVarQ_ap, eC_ap, e1_ap, e2_ap, l1_ap, l2_ap, aNil_ap, aCons_ap, eTup_ap, lLst_ap, fTru_ap, fB_ap, fNot_ap, fAnd_ap, fOr_ap, eNot_ap, eAnd_ap, eOr_ap, eIf_ap, lIf_ap, oNone_ap, oSome_ap, eCut_ap, lCut_ap, sNext_ap, sBreak_ap, sCont_ap, sIf_ap, sExpr_ap, sRet_ap, sRetL_ap, sRetO_ap, sRetN_ap, bName_ap, bNil_ap, bCons_ap, bTup_ap, bItem_ap, sAsg_ap, sSet_ap, sSetL_ap, sApp_ap, sExt_ap, iSeq_ap, iOwn_ap, l3_ap, sFor_ap, fYes_ap, rNil_ap, rCons_ap, rRaw_ap, eCall_ap, lCall_ap, eCallK_ap, eCh_ap, xNil_ap, xD_ap, xL_ap, sPar_ap, eIs_ap, sSeq_ap, seqM_next, seqM_brk, seqM_cont, seqM_ret, runDef_ap, defM_next, defM_ret, stepM_ap, loopM_next, loopM_cont, loopM_brk, loopM_ret, lcF_ap, lcH_ap, lcM_nil, lcM_cons, lcC_some, lcC_none, limM_ap, lLC_ap, startE, arS, mask, wipeE, noOwn, isOwn, setAll, rtS, sItems_l, sItems_t, lim, sIx_l, sIx_t, sLen_l, sLen_t, sTuple_l, sTuple_t, sList_l, sList_t, rngL0, rngL1, rngL2, rngL3, rngL4, rngL5, rngL6, sat_ret, sat_bnd, sat_some, sat_none, sat_fail, bnd_ret, bnd_bnd, bnd_fail, lft_some, lft_none, Option.map_some, Option.map_none, List.map_cons, List.map_nil, List.length_cons, List.length_nil, List.replicate, List.cons_append, List.nil_append, List.append_nil, List.all_cons, List.all_nil, Bool.and_true, Bool.true_and, Bool.and_false, Bool.false_and, Bool.not_false, Bool.not_true, Bool.not_not, Bool.or_true, Bool.true_or, Bool.or_false, Bool.false_or, List.getElem?_cons_succ, List.getElem?_cons_zero, List.getElem?_nil, if_true, if_false, ite_true, ite_false, List.set_cons_succ, List.set_cons_zero, List.set_nil, Int.reduceLT, Int.reduceLE, Int.reduceNeg, Int.reducePow, Int.reduceMul, Int.reduceAdd, Int.reduceSub, Int.reduceToNat, Int.reduceEq, Nat.reduceAdd, Nat.reduceSub, Nat.reduceLeDiff, Nat.reduceLT, Nat.reduceEqDiff, Nat.reduceMul, and_self, and_true, true_and, and_false, false_and, or_true, true_or, or_false, false_or, or_self, reduceIte, Bool.false_eq_true, Bool.true_eq_false, decide_true, decide_false, Option.some.injEq, List.isEmpty_cons, List.isEmpty_nil, reduceCtorEq, ne_eq, not_false_eq_true, not_true_eq_false, List.replicate_zero, Int.reduceMod, sEq_int, sNe_int, rotN_0, rotN_1, rotN_2, rotN_3, bi_t, bi_f, sAdd_i, sAdd_t, sAdd_l, lAdd_l, sSub_i, sMul_i, sMul_t, sMul_l, sMod_i, sFdiv_i, sNeg_i, sLt_i, sLe_i, sGt_i, sGe_i, sIs_n, sIsNot_n, isN_n, isN_i, isN_t, isN_l, isN_s, isN_b, toB_b, toI_i, toD_d, toD_l, toL_l, tTru_n, tTru_b, tTru_i, tTru_l, tTru_t, isT_int, isT_bool, isT_tuple, isT_str, isT_list, sCut_l, sCut_t, sAug_ap, sPop_ap, at1_0, at2_0, at2_1, at3_0, at3_1, at3_2]
      refine bnd_lcm (h := fun w => prD (vW w)) (fun w hw => ?_) ?_
      · have gw := getN (List.all_eq_true.mp (List.all_eq_true.mp g r hr) w hw)
        simp -dsimp only [eDixD_ap, kdAt, gw, eFz_ap, eVar_ap, eVarQ_ap, eC_ap, e1_ap, e2_ap, l1_ap, l2_ap, aNil_ap, aCons_ap, eTup_ap, lLst_ap, fTru_ap, fB_ap, fNot_ap, fAnd_ap, fOr_ap, eNot_ap, eAnd_ap, eOr_ap, eIf_ap, lIf_ap, oNone_ap, oSome_ap, eCut_ap, lCut_ap, sNext_ap, sBreak_ap, sCont_ap, sIf_ap, sExpr_ap, sRet_ap, sRetL_ap, sRetO_ap, sRetN_ap, bName_ap, bNil_ap, bCons_ap, bTup_ap, bItem_ap, sAsg_ap, sSet_ap, sSetL_ap, sApp_ap, sExt_ap, iSeq_ap, iOwn_ap, l3_ap, sFor_ap, fYes_ap, rNil_ap, rCons_ap, rRaw_ap, eCall_ap, lCall_ap, eCallK_ap, eCh_ap, xNil_ap, xD_ap, xL_ap, sPar_ap, eIs_ap, sSeq_ap, seqM_next, seqM_brk, seqM_cont, seqM_ret, runDef_ap, defM_next, defM_ret, stepM_ap, loopM_next, loopM_cont, loopM_brk, loopM_ret, lcF_ap, lcH_ap, lcM_nil, lcM_cons, lcC_some, lcC_none, limM_ap, lLC_ap, startE, arS, mask, wipeE, noOwn, isOwn, setAll, rtS, sItems_l, sItems_t, lim, sIx_l, sIx_t, sLen_l, sLen_t, sTuple_l, sTuple_t, sList_l, sList_t, rngL0, rngL1, rngL2, rngL3, rngL4, rngL5, rngL6, sat_ret, sat_bnd, sat_some, sat_none, sat_fail, bnd_ret, bnd_bnd, bnd_fail, lft_some, lft_none, Option.map_some, Option.map_none, List.map_cons, List.map_nil, List.length_cons, List.length_nil, List.replicate, List.cons_append, List.nil_append, List.append_nil, List.all_cons, List.all_nil, Bool.and_true, Bool.true_and, Bool.and_false, Bool.false_and, Bool.not_false, Bool.not_true, Bool.not_not, Bool.or_true, Bool.true_or, Bool.or_false, Bool.false_or, List.getElem?_cons_succ, List.getElem?_cons_zero, List.getElem?_nil, if_true, if_false, ite_true, ite_false, List.set_cons_succ, List.set_cons_zero, List.set_nil, Int.reduceLT, Int.reduceLE, Int.reduceNeg, Int.reducePow, Int.reduceMul, Int.reduceAdd, Int.reduceSub, Int.reduceToNat, Int.reduceEq, Nat.reduceAdd, Nat.reduceSub, Nat.reduceLeDiff, Nat.reduceLT, Nat.reduceEqDiff, Nat.reduceMul, and_self, and_true, true_and, and_false, false_and, or_true, true_or, or_false, false_or, or_self, reduceIte, Bool.false_eq_true, Bool.true_eq_false, decide_true, decide_false, Option.some.injEq, List.isEmpty_cons, List.isEmpty_nil, reduceCtorEq, ne_eq, not_false_eq_true, not_true_eq_false, List.replicate_zero, Int.reduceMod, sEq_int, sNe_int, rotN_0, rotN_1, rotN_2, rotN_3, bi_t, bi_f, sAdd_i, sAdd_t, sAdd_l, lAdd_l, sSub_i, sMul_i, sMul_t, sMul_l, sMod_i, sFdiv_i, sNeg_i, sLt_i, sLe_i, sGt_i, sGe_i, sIs_n, sIsNot_n, isN_n, isN_i, isN_t, isN_l, isN_s, isN_b, toB_b, toI_i, toD_d, toD_l, toL_l, tTru_n, tTru_b, tTru_i, tTru_l, tTru_t, isT_int, isT_bool, isT_tuple, isT_str, isT_list, sCut_l, sCut_t, sAug_ap, sPop_ap, at1_0, at2_0, at2_1, at3_0, at3_1, at3_2]
      · simp -dsimp (disch := omega) only [List.length_map, rowD, List.map_map, lim_if, lim_if2, eFz_ap, eVar_ap, eVarQ_ap, eC_ap, e1_ap, e2_ap, l1_ap, l2_ap, aNil_ap, aCons_ap, eTup_ap, lLst_ap, fTru_ap, fB_ap, fNot_ap, fAnd_ap, fOr_ap, eNot_ap, eAnd_ap, eOr_ap, eIf_ap, lIf_ap, oNone_ap, oSome_ap, eCut_ap, lCut_ap, sNext_ap, sBreak_ap, sCont_ap, sIf_ap, sExpr_ap, sRet_ap, sRetL_ap, sRetO_ap, sRetN_ap, bName_ap, bNil_ap, bCons_ap, bTup_ap, bItem_ap, sAsg_ap, sSet_ap, sSetL_ap, sApp_ap, sExt_ap, iSeq_ap, iOwn_ap, l3_ap, sFor_ap, fYes_ap, rNil_ap, rCons_ap, rRaw_ap, eCall_ap, lCall_ap, eCallK_ap, eCh_ap, xNil_ap, xD_ap, xL_ap, sPar_ap, eIs_ap, sSeq_ap, seqM_next, seqM_brk, seqM_cont, seqM_ret, runDef_ap, defM_next, defM_ret, stepM_ap, loopM_next, loopM_cont, loopM_brk, loopM_ret, lcF_ap, lcH_ap, lcM_nil, lcM_cons, lcC_some, lcC_none, limM_ap, lLC_ap, startE, arS, mask, wipeE, noOwn, isOwn, setAll, rtS, sItems_l, sItems_t, lim, sIx_l, sIx_t, sLen_l, sLen_t, sTuple_l, sTuple_t, sList_l, sList_t, rngL0, rngL1, rngL2, rngL3, rngL4, rngL5, rngL6, sat_ret, sat_bnd, sat_some, sat_none, sat_fail, bnd_ret, bnd_bnd, bnd_fail, lft_some, lft_none, Option.map_some, Option.map_none, List.map_cons, List.map_nil, List.length_cons, List.length_nil, List.replicate, List.cons_append, List.nil_append, List.append_nil, List.all_cons, List.all_nil, Bool.and_true, Bool.true_and, Bool.and_false, Bool.false_and, Bool.not_false, Bool.not_true, Bool.not_not, Bool.or_true, Bool.true_or, Bool.or_false, Bool.false_or, List.getElem?_cons_succ, List.getElem?_cons_zero, List.getElem?_nil, if_true, if_false, ite_true, ite_false, List.set_cons_succ, List.set_cons_zero, List.set_nil, Int.reduceLT, Int.reduceLE, Int.reduceNeg, Int.reducePow, Int.reduceMul, Int.reduceAdd, Int.reduceSub, Int.reduceToNat, Int.reduceEq, Nat.reduceAdd, Nat.reduceSub, Nat.reduceLeDiff, Nat.reduceLT, Nat.reduceEqDiff, Nat.reduceMul, and_self, and_true, true_and, and_false, false_and, or_true, true_or, or_false, false_or, or_self, reduceIte, Bool.false_eq_true, Bool.true_eq_false, decide_true, decide_false, Option.some.injEq, List.isEmpty_cons, List.isEmpty_nil, reduceCtorEq, ne_eq, not_false_eq_true, not_true_eq_false, List.replicate_zero, Int.reduceMod, sEq_int, sNe_int, rotN_0, rotN_1, rotN_2, rotN_3, bi_t, bi_f, sAdd_i, sAdd_t, sAdd_l, lAdd_l, sSub_i, sMul_i, sMul_t, sMul_l, sMod_i, sFdiv_i, sNeg_i, sLt_i, sLe_i, sGt_i, sGe_i, sIs_n, sIsNot_n, isN_n, isN_i, isN_t, isN_l, isN_s, isN_b, toB_b, toI_i, toD_d, toD_l, toL_l, tTru_n, tTru_b, tTru_i, tTru_l, tTru_t, isT_int, isT_bool, isT_tuple, isT_str, isT_list, sCut_l, sCut_t, sAug_ap, sPop_ap, at1_0, at2_0, at2_1, at3_0, at3_1, at3_2]
        rfl
    have ev : ((sp 47 x).map fun r => rowD ((sp 32 r).map vW)) = (vL x).map rowD := by unfold vL; rw [List.map_map]; rfl
    have eT := (gL_typed (by omega) g).1
    have okd : Okd 4 (.tuple ((sp 47 x).map fR)) := .tuple (by rw [List.length_map]; omega) fun d hd => by
      obtain ⟨r, hr, rfl⟩ := List.mem_map.mp hd
      exact okd_fR (h.part hr) (by decide)
    have xl := h.len
    have ps := parts_sum (x := x)
    rw [eT] at okd ps
    have isl := is_laying_ok box _ (okd.mono (by decide)) fun rows e => by
      cases e
      omega
    have vl : (vL x).length ≤ 91 := by unfold vL; rw [List.length_map]; exact hpl
    have ok : okL box.length x = isLay box.length (.tuple ((vL x).map rowD)) := by unfold okL; rw [g, Bool.true_and]
    simp -dsimp (disch := omega) only [ev, isl, List.length_map, ok, lim_if, lim_if2, eFz_ap, eVar_ap, eVarQ_ap, eC_ap, e1_ap, e2_ap, l1_ap, l2_ap, aNil_ap, aCons_ap, eTup_ap, lLst_ap, fTru_ap, fB_ap, fNot_ap, fAnd_ap, fOr_ap, eNot_ap, eAnd_ap, eOr_ap, eIf_ap, lIf_ap, oNone_ap, oSome_ap, eCut_ap, lCut_ap, sNext_ap, sBreak_ap, sCont_ap, sIf_ap, sExpr_ap, sRet_ap, sRetL_ap, sRetO_ap, sRetN_ap, bName_ap, bNil_ap, bCons_ap, bTup_ap, bItem_ap, sAsg_ap, sSet_ap, sSetL_ap, sApp_ap, sExt_ap, iSeq_ap, iOwn_ap, l3_ap, sFor_ap, fYes_ap, rNil_ap, rCons_ap, rRaw_ap, eCall_ap, lCall_ap, eCallK_ap, eCh_ap, xNil_ap, xD_ap, xL_ap, sPar_ap, eIs_ap, sSeq_ap, seqM_next, seqM_brk, seqM_cont, seqM_ret, runDef_ap, defM_next, defM_ret, stepM_ap, loopM_next, loopM_cont, loopM_brk, loopM_ret, lcF_ap, lcH_ap, lcM_nil, lcM_cons, lcC_some, lcC_none, limM_ap, lLC_ap, startE, arS, mask, wipeE, noOwn, isOwn, setAll, rtS, sItems_l, sItems_t, lim, sIx_l, sIx_t, sLen_l, sLen_t, sTuple_l, sTuple_t, sList_l, sList_t, rngL0, rngL1, rngL2, rngL3, rngL4, rngL5, rngL6, sat_ret, sat_bnd, sat_some, sat_none, sat_fail, bnd_ret, bnd_bnd, bnd_fail, lft_some, lft_none, Option.map_some, Option.map_none, List.map_cons, List.map_nil, List.length_cons, List.length_nil, List.replicate, List.cons_append, List.nil_append, List.append_nil, List.all_cons, List.all_nil, Bool.and_true, Bool.true_and, Bool.and_false, Bool.false_and, Bool.not_false, Bool.not_true, Bool.not_not, Bool.or_true, Bool.true_or, Bool.or_false, Bool.false_or, List.getElem?_cons_succ, List.getElem?_cons_zero, List.getElem?_nil, if_true, if_false, ite_true, ite_false, List.set_cons_succ, List.set_cons_zero, List.set_nil, Int.reduceLT, Int.reduceLE, Int.reduceNeg, Int.reducePow, Int.reduceMul, Int.reduceAdd, Int.reduceSub, Int.reduceToNat, Int.reduceEq, Nat.reduceAdd, Nat.reduceSub, Nat.reduceLeDiff, Nat.reduceLT, Nat.reduceEqDiff, Nat.reduceMul, and_self, and_true, true_and, and_false, false_and, or_true, true_or, or_false, false_or, or_self, reduceIte, Bool.false_eq_true, Bool.true_eq_false, decide_true, decide_false, Option.some.injEq, List.isEmpty_cons, List.isEmpty_nil, reduceCtorEq, ne_eq, not_false_eq_true, not_true_eq_false, List.replicate_zero, Int.reduceMod, sEq_int, sNe_int, rotN_0, rotN_1, rotN_2, rotN_3, bi_t, bi_f, sAdd_i, sAdd_t, sAdd_l, lAdd_l, sSub_i, sMul_i, sMul_t, sMul_l, sMod_i, sFdiv_i, sNeg_i, sLt_i, sLe_i, sGt_i, sGe_i, sIs_n, sIsNot_n, isN_n, isN_i, isN_t, isN_l, isN_s, isN_b, toB_b, toI_i, toD_d, toD_l, toL_l, tTru_n, tTru_b, tTru_i, tTru_l, tTru_t, isT_int, isT_bool, isT_tuple, isT_str, isT_list, sCut_l, sCut_t, sAug_ap, sPop_ap, at1_0, at2_0, at2_1, at3_0, at3_1, at3_2]
    cases isLay box.length (.tuple ((vL x).map rowD)) with
    | false => simp -dsimp only [eFz_ap, eVar_ap, eVarQ_ap, eC_ap, e1_ap, e2_ap, l1_ap, l2_ap, aNil_ap, aCons_ap, eTup_ap, lLst_ap, fTru_ap, fB_ap, fNot_ap, fAnd_ap, fOr_ap, eNot_ap, eAnd_ap, eOr_ap, eIf_ap, lIf_ap, oNone_ap, oSome_ap, eCut_ap, lCut_ap, sNext_ap, sBreak_ap, sCont_ap, sIf_ap, sExpr_ap, sRet_ap, sRetL_ap, sRetO_ap, sRetN_ap, bName_ap, bNil_ap, bCons_ap, bTup_ap, bItem_ap, sAsg_ap, sSet_ap, sSetL_ap, sApp_ap, sExt_ap, iSeq_ap, iOwn_ap, l3_ap, sFor_ap, fYes_ap, rNil_ap, rCons_ap, rRaw_ap, eCall_ap, lCall_ap, eCallK_ap, eCh_ap, xNil_ap, xD_ap, xL_ap, sPar_ap, eIs_ap, sSeq_ap, seqM_next, seqM_brk, seqM_cont, seqM_ret, runDef_ap, defM_next, defM_ret, stepM_ap, loopM_next, loopM_cont, loopM_brk, loopM_ret, lcF_ap, lcH_ap, lcM_nil, lcM_cons, lcC_some, lcC_none, limM_ap, lLC_ap, startE, arS, mask, wipeE, noOwn, isOwn, setAll, rtS, sItems_l, sItems_t, lim, sIx_l, sIx_t, sLen_l, sLen_t, sTuple_l, sTuple_t, sList_l, sList_t, rngL0, rngL1, rngL2, rngL3, rngL4, rngL5, rngL6, sat_ret, sat_bnd, sat_some, sat_none, sat_fail, bnd_ret, bnd_bnd, bnd_fail, lft_some, lft_none, Option.map_some, Option.map_none, List.map_cons, List.map_nil, List.length_cons, List.length_nil, List.replicate, List.cons_append, List.nil_append, List.append_nil, List.all_cons, List.all_nil, Bool.and_true, Bool.true_and, Bool.and_false, Bool.false_and, Bool.not_false, Bool.not_true, Bool.not_not, Bool.or_true, Bool.true_or, Bool.or_false, Bool.false_or, List.getElem?_cons_succ, List.getElem?_cons_zero, List.getElem?_nil, if_true, if_false, ite_true, ite_false, List.set_cons_succ, List.set_cons_zero, List.set_nil, Int.reduceLT, Int.reduceLE, Int.reduceNeg, Int.reducePow, Int.reduceMul, Int.reduceAdd, Int.reduceSub, Int.reduceToNat, Int.reduceEq, Nat.reduceAdd, Nat.reduceSub, Nat.reduceLeDiff, Nat.reduceLT, Nat.reduceEqDiff, Nat.reduceMul, and_self, and_true, true_and, and_false, false_and, or_true, true_or, or_false, false_or, or_self, reduceIte, Bool.false_eq_true, Bool.true_eq_false, decide_true, decide_false, Option.some.injEq, List.isEmpty_cons, List.isEmpty_nil, reduceCtorEq, ne_eq, not_false_eq_true, not_true_eq_false, List.replicate_zero, Int.reduceMod, sEq_int, sNe_int, rotN_0, rotN_1, rotN_2, rotN_3, bi_t, bi_f, sAdd_i, sAdd_t, sAdd_l, lAdd_l, sSub_i, sMul_i, sMul_t, sMul_l, sMod_i, sFdiv_i, sNeg_i, sLt_i, sLe_i, sGt_i, sGe_i, sIs_n, sIsNot_n, isN_n, isN_i, isN_t, isN_l, isN_s, isN_b, toB_b, toI_i, toD_d, toD_l, toL_l, tTru_n, tTru_b, tTru_i, tTru_l, tTru_t, isT_int, isT_bool, isT_tuple, isT_str, isT_list, sCut_l, sCut_t, sAug_ap, sPop_ap, at1_0, at2_0, at2_1, at3_0, at3_1, at3_2]
    | true => simp -dsimp only [eFz_ap, eVar_ap, eVarQ_ap, eC_ap, e1_ap, e2_ap, l1_ap, l2_ap, aNil_ap, aCons_ap, eTup_ap, lLst_ap, fTru_ap, fB_ap, fNot_ap, fAnd_ap, fOr_ap, eNot_ap, eAnd_ap, eOr_ap, eIf_ap, lIf_ap, oNone_ap, oSome_ap, eCut_ap, lCut_ap, sNext_ap, sBreak_ap, sCont_ap, sIf_ap, sExpr_ap, sRet_ap, sRetL_ap, sRetO_ap, sRetN_ap, bName_ap, bNil_ap, bCons_ap, bTup_ap, bItem_ap, sAsg_ap, sSet_ap, sSetL_ap, sApp_ap, sExt_ap, iSeq_ap, iOwn_ap, l3_ap, sFor_ap, fYes_ap, rNil_ap, rCons_ap, rRaw_ap, eCall_ap, lCall_ap, eCallK_ap, eCh_ap, xNil_ap, xD_ap, xL_ap, sPar_ap, eIs_ap, sSeq_ap, seqM_next, seqM_brk, seqM_cont, seqM_ret, runDef_ap, defM_next, defM_ret, stepM_ap, loopM_next, loopM_cont, loopM_brk, loopM_ret, lcF_ap, lcH_ap, lcM_nil, lcM_cons, lcC_some, lcC_none, limM_ap, lLC_ap, startE, arS, mask, wipeE, noOwn, isOwn, setAll, rtS, sItems_l, sItems_t, lim, sIx_l, sIx_t, sLen_l, sLen_t, sTuple_l, sTuple_t, sList_l, sList_t, rngL0, rngL1, rngL2, rngL3, rngL4, rngL5, rngL6, sat_ret, sat_bnd, sat_some, sat_none, sat_fail, bnd_ret, bnd_bnd, bnd_fail, lft_some, lft_none, Option.map_some, Option.map_none, List.map_cons, List.map_nil, List.length_cons, List.length_nil, List.replicate, List.cons_append, List.nil_append, List.append_nil, List.all_cons, List.all_nil, Bool.and_true, Bool.true_and, Bool.and_false, Bool.false_and, Bool.not_false, Bool.not_true, Bool.not_not, Bool.or_true, Bool.true_or, Bool.or_false, Bool.false_or, List.getElem?_cons_succ, List.getElem?_cons_zero, List.getElem?_nil, if_true, if_false, ite_true, ite_false, List.set_cons_succ, List.set_cons_zero, List.set_nil, Int.reduceLT, Int.reduceLE, Int.reduceNeg, Int.reducePow, Int.reduceMul, Int.reduceAdd, Int.reduceSub, Int.reduceToNat, Int.reduceEq, Nat.reduceAdd, Nat.reduceSub, Nat.reduceLeDiff, Nat.reduceLT, Nat.reduceEqDiff, Nat.reduceMul, and_self, and_true, true_and, and_false, false_and, or_true, true_or, or_false, false_or, or_self, reduceIte, Bool.false_eq_true, Bool.true_eq_false, decide_true, decide_false, Option.some.injEq, List.isEmpty_cons, List.isEmpty_nil, reduceCtorEq, ne_eq, not_false_eq_true, not_true_eq_false, List.replicate_zero, Int.reduceMod, sEq_int, sNe_int, rotN_0, rotN_1, rotN_2, rotN_3, bi_t, bi_f, sAdd_i, sAdd_t, sAdd_l, lAdd_l, sSub_i, sMul_i, sMul_t, sMul_l, sMod_i, sFdiv_i, sNeg_i, sLt_i, sLe_i, sGt_i, sGe_i, sIs_n, sIsNot_n, isN_n, isN_i, isN_t, isN_l, isN_s, isN_b, toB_b, toI_i, toD_d, toD_l, toL_l, tTru_n, tTru_b, tTru_i, tTru_l, tTru_t, isT_int, isT_bool, isT_tuple, isT_str, isT_list, sCut_l, sCut_t, sAug_ap, sPop_ap, at1_0, at2_0, at2_1, at3_0, at3_1, at3_2]
end Dt
namespace Dt
open PySem PySem.Spec L2 SX
end Dt
namespace Dt
open PySem PySem.Spec L2 SX
theorem sign_at2 {v : Int} (h0 : 0 ≤ v) (h1 : v < 10) : ∃ c : Nat, c < 128 ∧ sIxS (.str "0123. /4-a") (.int v) = some (.str (S [c])) := by
  have : v = 0 ∨ v = 1 ∨ v = 2 ∨ v = 3 ∨ v = 4 ∨ v = 5 ∨ v = 6 ∨ v = 7 ∨ v = 8 ∨ v = 9 := by omega
  rcases this with rfl | rfl | rfl | rfl | rfl | rfl | rfl | rfl | rfl | rfl
  · exact ⟨48, by decide, by kernel_rfl⟩
  · exact ⟨49, by decide, by kernel_rfl⟩
  · exact ⟨50, by decide, by kernel_rfl⟩
  · exact ⟨51, by decide, by kernel_rfl⟩
  · exact ⟨46, by decide, by kernel_rfl⟩
  · exact ⟨32, by decide, by kernel_rfl⟩
  · exact ⟨47, by decide, by kernel_rfl⟩
  · exact ⟨52, by decide, by kernel_rfl⟩
  · exact ⟨45, by decide, by kernel_rfl⟩
  · exact ⟨97, by decide, by kernel_rfl⟩
theorem tx_lT {n w : Nat} {rs : List (List (Nat × Nat))} (ly : Ly n w rs) (hn : n ≤ 12) (hK : rs.length * w ≤ 12) (hk : rs.length ≤ 12) : Tx 73 (lT rs) := by
  refine ⟨fun c hc => by rcases lT_chr _ c hc with q | q | q | q <;> omega, ?_⟩
  have hr : ∀ p ∈ rs.map rT, p.length ≤ w * 5 := fun p hp => by
    obtain ⟨r, hr, rfl⟩ := List.mem_map.mp hp
    have := join_len (c := 32) (n := 4) (l := r.map wT) fun q hq => by
      obtain ⟨e, he, rfl⟩ := List.mem_map.mp hq
      have h1 := ly.num r hr e he
      have a := TL.numL_len (n := e.1) (k := 2) (by decide) (by omega)
      have b := TL.numL_len (n := e.2) (k := 1) (by decide) (by omega)
      unfold wT
      rw [List.length_append, List.length_cons]
      omega
    rw [List.length_map, ly.wide r hr] at this
    exact this
  have := join_len (c := 47) hr
  rw [List.length_map] at this
  have e : rs.length * (w * 5 + 1) = rs.length * w * 5 + rs.length := by rw [Nat.mul_add, Nat.mul_one, Nat.mul_assoc]
  show (TL.joinL [47] (rs.map rT)).length ≤ 73
  omega
theorem heard_read2 {box : List PyData} {x : List Nat} (hb : box.length ≤ 1000) (h : Tx 90 x) : (bnd (f_read_laying_x [.d (.tuple box), .d (.str (S x))]) fun r => bnd (lft (toRd r)) (hrdM 5 1 2 m_l_heard)) = ret (if okL box.length x = true then .tuple [.str "told", .tuple ((vL x).map rowD)] else .tuple [.str "no text"]) := by
  rw [read_laying_ok hb h]
  cases okL box.length x
  · simp -dsimp only [toRd_exc, heard_text, eFz_ap, eVar_ap, eVarQ_ap, eC_ap, e1_ap, e2_ap, l1_ap, l2_ap, aNil_ap, aCons_ap, eTup_ap, lLst_ap, fTru_ap, fB_ap, fNot_ap, fAnd_ap, fOr_ap, eNot_ap, eAnd_ap, eOr_ap, eIf_ap, lIf_ap, oNone_ap, oSome_ap, eCut_ap, lCut_ap, sNext_ap, sBreak_ap, sCont_ap, sIf_ap, sExpr_ap, sRet_ap, sRetL_ap, sRetO_ap, sRetN_ap, bName_ap, bNil_ap, bCons_ap, bTup_ap, bItem_ap, sAsg_ap, sSet_ap, sSetL_ap, sApp_ap, sExt_ap, iSeq_ap, iOwn_ap, l3_ap, sFor_ap, fYes_ap, rNil_ap, rCons_ap, rRaw_ap, eCall_ap, lCall_ap, eCallK_ap, eCh_ap, xNil_ap, xD_ap, xL_ap, sPar_ap, eIs_ap, sSeq_ap, seqM_next, seqM_brk, seqM_cont, seqM_ret, runDef_ap, defM_next, defM_ret, stepM_ap, loopM_next, loopM_cont, loopM_brk, loopM_ret, lcF_ap, lcH_ap, lcM_nil, lcM_cons, lcC_some, lcC_none, limM_ap, lLC_ap, startE, arS, mask, wipeE, noOwn, isOwn, setAll, rtS, sItems_l, sItems_t, lim, sIx_l, sIx_t, sLen_l, sLen_t, sTuple_l, sTuple_t, sList_l, sList_t, rngL0, rngL1, rngL2, rngL3, rngL4, rngL5, rngL6, sat_ret, sat_bnd, sat_some, sat_none, sat_fail, bnd_ret, bnd_bnd, bnd_fail, lft_some, lft_none, Option.map_some, Option.map_none, List.map_cons, List.map_nil, List.length_cons, List.length_nil, List.replicate, List.cons_append, List.nil_append, List.append_nil, List.all_cons, List.all_nil, Bool.and_true, Bool.true_and, Bool.and_false, Bool.false_and, Bool.not_false, Bool.not_true, Bool.not_not, Bool.or_true, Bool.true_or, Bool.or_false, Bool.false_or, List.getElem?_cons_succ, List.getElem?_cons_zero, List.getElem?_nil, if_true, if_false, ite_true, ite_false, List.set_cons_succ, List.set_cons_zero, List.set_nil, Int.reduceLT, Int.reduceLE, Int.reduceNeg, Int.reducePow, Int.reduceMul, Int.reduceAdd, Int.reduceSub, Int.reduceToNat, Int.reduceEq, Nat.reduceAdd, Nat.reduceSub, Nat.reduceLeDiff, Nat.reduceLT, Nat.reduceEqDiff, Nat.reduceMul, and_self, and_true, true_and, and_false, false_and, or_true, true_or, or_false, false_or, or_self, reduceIte, Bool.false_eq_true, Bool.true_eq_false, decide_true, decide_false, Option.some.injEq, List.isEmpty_cons, List.isEmpty_nil, reduceCtorEq, ne_eq, not_false_eq_true, not_true_eq_false, List.replicate_zero, Int.reduceMod, sEq_int, sNe_int, rotN_0, rotN_1, rotN_2, rotN_3, bi_t, bi_f, sAdd_i, sAdd_t, sAdd_l, lAdd_l, sSub_i, sMul_i, sMul_t, sMul_l, sMod_i, sFdiv_i, sNeg_i, sLt_i, sLe_i, sGt_i, sGe_i, sIs_n, sIsNot_n, isN_n, isN_i, isN_t, isN_l, isN_s, isN_b, toB_b, toI_i, toD_d, toD_l, toL_l, tTru_n, tTru_b, tTru_i, tTru_l, tTru_t, isT_int, isT_bool, isT_tuple, isT_str, isT_list, sCut_l, sCut_t, sAug_ap, sPop_ap, at1_0, at2_0, at2_1, at3_0, at3_1, at3_2]
  · simp -dsimp only [toRd_d, heard_told, eFz_ap, eVar_ap, eVarQ_ap, eC_ap, e1_ap, e2_ap, l1_ap, l2_ap, aNil_ap, aCons_ap, eTup_ap, lLst_ap, fTru_ap, fB_ap, fNot_ap, fAnd_ap, fOr_ap, eNot_ap, eAnd_ap, eOr_ap, eIf_ap, lIf_ap, oNone_ap, oSome_ap, eCut_ap, lCut_ap, sNext_ap, sBreak_ap, sCont_ap, sIf_ap, sExpr_ap, sRet_ap, sRetL_ap, sRetO_ap, sRetN_ap, bName_ap, bNil_ap, bCons_ap, bTup_ap, bItem_ap, sAsg_ap, sSet_ap, sSetL_ap, sApp_ap, sExt_ap, iSeq_ap, iOwn_ap, l3_ap, sFor_ap, fYes_ap, rNil_ap, rCons_ap, rRaw_ap, eCall_ap, lCall_ap, eCallK_ap, eCh_ap, xNil_ap, xD_ap, xL_ap, sPar_ap, eIs_ap, sSeq_ap, seqM_next, seqM_brk, seqM_cont, seqM_ret, runDef_ap, defM_next, defM_ret, stepM_ap, loopM_next, loopM_cont, loopM_brk, loopM_ret, lcF_ap, lcH_ap, lcM_nil, lcM_cons, lcC_some, lcC_none, limM_ap, lLC_ap, startE, arS, mask, wipeE, noOwn, isOwn, setAll, rtS, sItems_l, sItems_t, lim, sIx_l, sIx_t, sLen_l, sLen_t, sTuple_l, sTuple_t, sList_l, sList_t, rngL0, rngL1, rngL2, rngL3, rngL4, rngL5, rngL6, sat_ret, sat_bnd, sat_some, sat_none, sat_fail, bnd_ret, bnd_bnd, bnd_fail, lft_some, lft_none, Option.map_some, Option.map_none, List.map_cons, List.map_nil, List.length_cons, List.length_nil, List.replicate, List.cons_append, List.nil_append, List.append_nil, List.all_cons, List.all_nil, Bool.and_true, Bool.true_and, Bool.and_false, Bool.false_and, Bool.not_false, Bool.not_true, Bool.not_not, Bool.or_true, Bool.true_or, Bool.or_false, Bool.false_or, List.getElem?_cons_succ, List.getElem?_cons_zero, List.getElem?_nil, if_true, if_false, ite_true, ite_false, List.set_cons_succ, List.set_cons_zero, List.set_nil, Int.reduceLT, Int.reduceLE, Int.reduceNeg, Int.reducePow, Int.reduceMul, Int.reduceAdd, Int.reduceSub, Int.reduceToNat, Int.reduceEq, Nat.reduceAdd, Nat.reduceSub, Nat.reduceLeDiff, Nat.reduceLT, Nat.reduceEqDiff, Nat.reduceMul, and_self, and_true, true_and, and_false, false_and, or_true, true_or, or_false, false_or, or_self, reduceIte, Bool.false_eq_true, Bool.true_eq_false, decide_true, decide_false, Option.some.injEq, List.isEmpty_cons, List.isEmpty_nil, reduceCtorEq, ne_eq, not_false_eq_true, not_true_eq_false, List.replicate_zero, Int.reduceMod, sEq_int, sNe_int, rotN_0, rotN_1, rotN_2, rotN_3, bi_t, bi_f, sAdd_i, sAdd_t, sAdd_l, lAdd_l, sSub_i, sMul_i, sMul_t, sMul_l, sMod_i, sFdiv_i, sNeg_i, sLt_i, sLe_i, sGt_i, sGe_i, sIs_n, sIsNot_n, isN_n, isN_i, isN_t, isN_l, isN_s, isN_b, toB_b, toI_i, toD_d, toD_l, toL_l, tTru_n, tTru_b, tTru_i, tTru_l, tTru_t, isT_int, isT_bool, isT_tuple, isT_str, isT_list, sCut_l, sCut_t, sAug_ap, sPop_ap, at1_0, at2_0, at2_1, at3_0, at3_1, at3_2]
theorem sh_lay (rs : List (List (Nat × Nat))) : Sh 3 (.tuple (rs.map rowD)) := Sh.tuple fun d hd => by
  obtain ⟨r, _, rfl⟩ := List.mem_map.mp hd
  exact Sh.tuple fun d hd => by
    obtain ⟨p, _, rfl⟩ := List.mem_map.mp hd
    exact Sh.tuple fun d hd => by
      rcases List.mem_cons.mp hd with rfl | hd
      · exact Sh.int _
      · cases List.mem_singleton.mp hd
        exact Sh.int _
theorem sh_meant2 (n : Nat) (x : List Nat) : shp (if okL n x = true then .tuple [.str "told", .tuple ((vL x).map rowD)] else .tuple [.str "no text"]) = true := by
  cases okL n x
  · kernel_rfl
  · exact (Sh.tuple (n := 3) fun d hd => by
      rcases List.mem_cons.mp hd with rfl | hd
      · exact ⟨by kernel_rfl, Nat.zero_le _⟩
      · cases List.mem_singleton.mp hd
        exact sh_lay _).shp (by decide)
def badM : List (List Nat) := [[], [48], [48, 46], [46, 48], [48, 46, 52], [49, 46, 48], [48, 46, 48, 46, 48], [48, 48, 46, 48], [48, 46, 48, 48], [48, 46, 48, 32], [48, 46, 48, 47], [48, 46, 48, 47, 48, 46, 49], [48, 44, 48], [45, 48, 46, 48], [48, 46, 45, 48]]
theorem badM_all : ∀ y ∈ badM, okL 1 y = false ∧ (y.all fun c => decide (c < 128)) = true ∧ y.length ≤ 90 := by decide +kernel
theorem bad_read2 {z : Str} {y : List Nat} (e : z = S y) (hy : y ∈ badM) : f_read_laying_x [.d (.tuple [.tuple [.int 0, .int 0, .int 0, .int 0]]), .d (.str z)] = ret (.exc ⟨"NoText", none⟩) := by
  obtain ⟨h1, h2, h3⟩ := badM_all y hy
  subst e
  rw [read_laying_ok (by show 1 ≤ 1000; decide) ⟨fun c hc => of_decide_eq_true (List.all_eq_true.mp h2 c hc), h3⟩]
  show ret (if okL 1 y = true then _ else _) = _
  rw [h1]
  rfl
theorem law_k34_true : ∀ (a t r : Addr) (tr : Bool) (ns : List Int), ns.length ≤ 63 → ∃ g', m_law_k34 (lawE 16 a t) (tw0 a t r tr ns) = some (.ret (.d (.bool true)), g') := by
  refine law_of fun a t g st => ?_
  simp only [m_law_k34]
  simp -dsimp only [lawE, eFz_ap, eVar_ap, eVarQ_ap, eC_ap, e1_ap, e2_ap, l1_ap, l2_ap, aNil_ap, aCons_ap, eTup_ap, lLst_ap, fTru_ap, fB_ap, fNot_ap, fAnd_ap, fOr_ap, eNot_ap, eAnd_ap, eOr_ap, eIf_ap, lIf_ap, oNone_ap, oSome_ap, eCut_ap, lCut_ap, sNext_ap, sBreak_ap, sCont_ap, sIf_ap, sExpr_ap, sRet_ap, sRetL_ap, sRetO_ap, sRetN_ap, bName_ap, bNil_ap, bCons_ap, bTup_ap, bItem_ap, sAsg_ap, sSet_ap, sSetL_ap, sApp_ap, sExt_ap, iSeq_ap, iOwn_ap, l3_ap, sFor_ap, fYes_ap, rNil_ap, rCons_ap, rRaw_ap, eCall_ap, lCall_ap, eCallK_ap, eCh_ap, xNil_ap, xD_ap, xL_ap, sPar_ap, eIs_ap, sSeq_ap, seqM_next, seqM_brk, seqM_cont, seqM_ret, runDef_ap, defM_next, defM_ret, stepM_ap, loopM_next, loopM_cont, loopM_brk, loopM_ret, lcF_ap, lcH_ap, lcM_nil, lcM_cons, lcC_some, lcC_none, limM_ap, lLC_ap, startE, arS, mask, wipeE, noOwn, isOwn, setAll, rtS, sItems_l, sItems_t, lim, sIx_l, sIx_t, sLen_l, sLen_t, sTuple_l, sTuple_t, sList_l, sList_t, rngL0, rngL1, rngL2, rngL3, rngL4, rngL5, rngL6, sat_ret, sat_bnd, sat_some, sat_none, sat_fail, bnd_ret, bnd_bnd, bnd_fail, lft_some, lft_none, Option.map_some, Option.map_none, List.map_cons, List.map_nil, List.length_cons, List.length_nil, List.replicate, List.cons_append, List.nil_append, List.append_nil, List.all_cons, List.all_nil, Bool.and_true, Bool.true_and, Bool.and_false, Bool.false_and, Bool.not_false, Bool.not_true, Bool.not_not, Bool.or_true, Bool.true_or, Bool.or_false, Bool.false_or, List.getElem?_cons_succ, List.getElem?_cons_zero, List.getElem?_nil, if_true, if_false, ite_true, ite_false, List.set_cons_succ, List.set_cons_zero, List.set_nil, Int.reduceLT, Int.reduceLE, Int.reduceNeg, Int.reducePow, Int.reduceMul, Int.reduceAdd, Int.reduceSub, Int.reduceToNat, Int.reduceEq, Nat.reduceAdd, Nat.reduceSub, Nat.reduceLeDiff, Nat.reduceLT, Nat.reduceEqDiff, Nat.reduceMul, and_self, and_true, true_and, and_false, false_and, or_true, true_or, or_false, false_or, or_self, reduceIte, Bool.false_eq_true, Bool.true_eq_false, decide_true, decide_false, Option.some.injEq, List.isEmpty_cons, List.isEmpty_nil, reduceCtorEq, ne_eq, not_false_eq_true, not_true_eq_false, List.replicate_zero, Int.reduceMod, sEq_int, sNe_int, rotN_0, rotN_1, rotN_2, rotN_3, bi_t, bi_f, sAdd_i, sAdd_t, sAdd_l, lAdd_l, sSub_i, sMul_i, sMul_t, sMul_l, sMod_i, sFdiv_i, sNeg_i, sLt_i, sLe_i, sGt_i, sGe_i, sIs_n, sIsNot_n, isN_n, isN_i, isN_t, isN_l, isN_s, isN_b, toB_b, toI_i, toD_d, toD_l, toL_l, tTru_n, tTru_b, tTru_i, tTru_l, tTru_t, isT_int, isT_bool, isT_tuple, isT_str, isT_list, sCut_l, sCut_t, sAug_ap, sPop_ap, at1_0, at2_0, at2_1, at3_0, at3_1, at3_2]
  refine sat_loop (fun i ρ g => ρ = lawE 16 a t ∧ St a t g) ⟨rfl, st⟩ ?_ ?_
  · rintro i d ρ g _ ⟨rfl, st⟩
    simp -dsimp only [lawE, eFz_ap, eVar_ap, eVarQ_ap, eC_ap, e1_ap, e2_ap, l1_ap, l2_ap, aNil_ap, aCons_ap, eTup_ap, lLst_ap, fTru_ap, fB_ap, fNot_ap, fAnd_ap, fOr_ap, eNot_ap, eAnd_ap, eOr_ap, eIf_ap, lIf_ap, oNone_ap, oSome_ap, eCut_ap, lCut_ap, sNext_ap, sBreak_ap, sCont_ap, sIf_ap, sExpr_ap, sRet_ap, sRetL_ap, sRetO_ap, sRetN_ap, bName_ap, bNil_ap, bCons_ap, bTup_ap, bItem_ap, sAsg_ap, sSet_ap, sSetL_ap, sApp_ap, sExt_ap, iSeq_ap, iOwn_ap, l3_ap, sFor_ap, fYes_ap, rNil_ap, rCons_ap, rRaw_ap, eCall_ap, lCall_ap, eCallK_ap, eCh_ap, xNil_ap, xD_ap, xL_ap, sPar_ap, eIs_ap, sSeq_ap, seqM_next, seqM_brk, seqM_cont, seqM_ret, runDef_ap, defM_next, defM_ret, stepM_ap, loopM_next, loopM_cont, loopM_brk, loopM_ret, lcF_ap, lcH_ap, lcM_nil, lcM_cons, lcC_some, lcC_none, limM_ap, lLC_ap, startE, arS, mask, wipeE, noOwn, isOwn, setAll, rtS, sItems_l, sItems_t, lim, sIx_l, sIx_t, sLen_l, sLen_t, sTuple_l, sTuple_t, sList_l, sList_t, rngL0, rngL1, rngL2, rngL3, rngL4, rngL5, rngL6, sat_ret, sat_bnd, sat_some, sat_none, sat_fail, bnd_ret, bnd_bnd, bnd_fail, lft_some, lft_none, Option.map_some, Option.map_none, List.map_cons, List.map_nil, List.length_cons, List.length_nil, List.replicate, List.cons_append, List.nil_append, List.append_nil, List.all_cons, List.all_nil, Bool.and_true, Bool.true_and, Bool.and_false, Bool.false_and, Bool.not_false, Bool.not_true, Bool.not_not, Bool.or_true, Bool.true_or, Bool.or_false, Bool.false_or, List.getElem?_cons_succ, List.getElem?_cons_zero, List.getElem?_nil, if_true, if_false, ite_true, ite_false, List.set_cons_succ, List.set_cons_zero, List.set_nil, Int.reduceLT, Int.reduceLE, Int.reduceNeg, Int.reducePow, Int.reduceMul, Int.reduceAdd, Int.reduceSub, Int.reduceToNat, Int.reduceEq, Nat.reduceAdd, Nat.reduceSub, Nat.reduceLeDiff, Nat.reduceLT, Nat.reduceEqDiff, Nat.reduceMul, and_self, and_true, true_and, and_false, false_and, or_true, true_or, or_false, false_or, or_self, reduceIte, Bool.false_eq_true, Bool.true_eq_false, decide_true, decide_false, Option.some.injEq, List.isEmpty_cons, List.isEmpty_nil, reduceCtorEq, ne_eq, not_false_eq_true, not_true_eq_false, List.replicate_zero, Int.reduceMod, sEq_int, sNe_int, rotN_0, rotN_1, rotN_2, rotN_3, bi_t, bi_f, sAdd_i, sAdd_t, sAdd_l, lAdd_l, sSub_i, sMul_i, sMul_t, sMul_l, sMod_i, sFdiv_i, sNeg_i, sLt_i, sLe_i, sGt_i, sGe_i, sIs_n, sIsNot_n, isN_n, isN_i, isN_t, isN_l, isN_s, isN_b, toB_b, toI_i, toD_d, toD_l, toL_l, tTru_n, tTru_b, tTru_i, tTru_l, tTru_t, isT_int, isT_bool, isT_tuple, isT_str, isT_list, sCut_l, sCut_t, sAug_ap, sPop_ap, at1_0, at2_0, at2_1, at3_0, at3_1, at3_2]
    refine sat_draw st (by decide) (by decide) fun n0 g1 n1 n2 st => ?_
    obtain ⟨n, hn⟩ : ∃ n : Nat, 1 + n0 = (n : Int) := ⟨(1 + n0).toNat, by omega⟩
    have nb : 1 ≤ n ∧ n ≤ 12 := by omega
    simp -dsimp (disch := omega) only [hn, rng1_nat (show n ≤ 1000 by omega), List.length_map, List.length_range, lim_if, lim_if2, eFz_ap, eVar_ap, eVarQ_ap, eC_ap, e1_ap, e2_ap, l1_ap, l2_ap, aNil_ap, aCons_ap, eTup_ap, lLst_ap, fTru_ap, fB_ap, fNot_ap, fAnd_ap, fOr_ap, eNot_ap, eAnd_ap, eOr_ap, eIf_ap, lIf_ap, oNone_ap, oSome_ap, eCut_ap, lCut_ap, sNext_ap, sBreak_ap, sCont_ap, sIf_ap, sExpr_ap, sRet_ap, sRetL_ap, sRetO_ap, sRetN_ap, bName_ap, bNil_ap, bCons_ap, bTup_ap, bItem_ap, sAsg_ap, sSet_ap, sSetL_ap, sApp_ap, sExt_ap, iSeq_ap, iOwn_ap, l3_ap, sFor_ap, fYes_ap, rNil_ap, rCons_ap, rRaw_ap, eCall_ap, lCall_ap, eCallK_ap, eCh_ap, xNil_ap, xD_ap, xL_ap, sPar_ap, eIs_ap, sSeq_ap, seqM_next, seqM_brk, seqM_cont, seqM_ret, runDef_ap, defM_next, defM_ret, stepM_ap, loopM_next, loopM_cont, loopM_brk, loopM_ret, lcF_ap, lcH_ap, lcM_nil, lcM_cons, lcC_some, lcC_none, limM_ap, lLC_ap, startE, arS, mask, wipeE, noOwn, isOwn, setAll, rtS, sItems_l, sItems_t, lim, sIx_l, sIx_t, sLen_l, sLen_t, sTuple_l, sTuple_t, sList_l, sList_t, rngL0, rngL1, rngL2, rngL3, rngL4, rngL5, rngL6, sat_ret, sat_bnd, sat_some, sat_none, sat_fail, bnd_ret, bnd_bnd, bnd_fail, lft_some, lft_none, Option.map_some, Option.map_none, List.map_cons, List.map_nil, List.length_cons, List.length_nil, List.replicate, List.cons_append, List.nil_append, List.append_nil, List.all_cons, List.all_nil, Bool.and_true, Bool.true_and, Bool.and_false, Bool.false_and, Bool.not_false, Bool.not_true, Bool.not_not, Bool.or_true, Bool.true_or, Bool.or_false, Bool.false_or, List.getElem?_cons_succ, List.getElem?_cons_zero, List.getElem?_nil, if_true, if_false, ite_true, ite_false, List.set_cons_succ, List.set_cons_zero, List.set_nil, Int.reduceLT, Int.reduceLE, Int.reduceNeg, Int.reducePow, Int.reduceMul, Int.reduceAdd, Int.reduceSub, Int.reduceToNat, Int.reduceEq, Nat.reduceAdd, Nat.reduceSub, Nat.reduceLeDiff, Nat.reduceLT, Nat.reduceEqDiff, Nat.reduceMul, and_self, and_true, true_and, and_false, false_and, or_true, true_or, or_false, false_or, or_self, reduceIte, Bool.false_eq_true, Bool.true_eq_false, decide_true, decide_false, Option.some.injEq, List.isEmpty_cons, List.isEmpty_nil, reduceCtorEq, ne_eq, not_false_eq_true, not_true_eq_false, List.replicate_zero, Int.reduceMod, sEq_int, sNe_int, rotN_0, rotN_1, rotN_2, rotN_3, bi_t, bi_f, sAdd_i, sAdd_t, sAdd_l, lAdd_l, sSub_i, sMul_i, sMul_t, sMul_l, sMod_i, sFdiv_i, sNeg_i, sLt_i, sLe_i, sGt_i, sGe_i, sIs_n, sIsNot_n, isN_n, isN_i, isN_t, isN_l, isN_s, isN_b, toB_b, toI_i, toD_d, toD_l, toL_l, tTru_n, tTru_b, tTru_i, tTru_l, tTru_t, isT_int, isT_bool, isT_tuple, isT_str, isT_list, sCut_l, sCut_t, sAug_ap, sPop_ap, at1_0, at2_0, at2_1, at3_0, at3_1, at3_2]
    refine sat_pcs (a := a) (t := t) st (fun d g Q tg st k => ?_) fun ps g2 hl hps st => ?_
    · simp -dsimp only [eFz_ap, eVar_ap, eVarQ_ap, eC_ap, e1_ap, e2_ap, l1_ap, l2_ap, aNil_ap, aCons_ap, eTup_ap, lLst_ap, fTru_ap, fB_ap, fNot_ap, fAnd_ap, fOr_ap, eNot_ap, eAnd_ap, eOr_ap, eIf_ap, lIf_ap, oNone_ap, oSome_ap, eCut_ap, lCut_ap, sNext_ap, sBreak_ap, sCont_ap, sIf_ap, sExpr_ap, sRet_ap, sRetL_ap, sRetO_ap, sRetN_ap, bName_ap, bNil_ap, bCons_ap, bTup_ap, bItem_ap, sAsg_ap, sSet_ap, sSetL_ap, sApp_ap, sExt_ap, iSeq_ap, iOwn_ap, l3_ap, sFor_ap, fYes_ap, rNil_ap, rCons_ap, rRaw_ap, eCall_ap, lCall_ap, eCallK_ap, eCh_ap, xNil_ap, xD_ap, xL_ap, sPar_ap, eIs_ap, sSeq_ap, seqM_next, seqM_brk, seqM_cont, seqM_ret, runDef_ap, defM_next, defM_ret, stepM_ap, loopM_next, loopM_cont, loopM_brk, loopM_ret, lcF_ap, lcH_ap, lcM_nil, lcM_cons, lcC_some, lcC_none, limM_ap, lLC_ap, startE, arS, mask, wipeE, noOwn, isOwn, setAll, rtS, sItems_l, sItems_t, lim, sIx_l, sIx_t, sLen_l, sLen_t, sTuple_l, sTuple_t, sList_l, sList_t, rngL0, rngL1, rngL2, rngL3, rngL4, rngL5, rngL6, sat_ret, sat_bnd, sat_some, sat_none, sat_fail, bnd_ret, bnd_bnd, bnd_fail, lft_some, lft_none, Option.map_some, Option.map_none, List.map_cons, List.map_nil, List.length_cons, List.length_nil, List.replicate, List.cons_append, List.nil_append, List.append_nil, List.all_cons, List.all_nil, Bool.and_true, Bool.true_and, Bool.and_false, Bool.false_and, Bool.not_false, Bool.not_true, Bool.not_not, Bool.or_true, Bool.true_or, Bool.or_false, Bool.false_or, List.getElem?_cons_succ, List.getElem?_cons_zero, List.getElem?_nil, if_true, if_false, ite_true, ite_false, List.set_cons_succ, List.set_cons_zero, List.set_nil, Int.reduceLT, Int.reduceLE, Int.reduceNeg, Int.reducePow, Int.reduceMul, Int.reduceAdd, Int.reduceSub, Int.reduceToNat, Int.reduceEq, Nat.reduceAdd, Nat.reduceSub, Nat.reduceLeDiff, Nat.reduceLT, Nat.reduceEqDiff, Nat.reduceMul, and_self, and_true, true_and, and_false, false_and, or_true, true_or, or_false, false_or, or_self, reduceIte, Bool.false_eq_true, Bool.true_eq_false, decide_true, decide_false, Option.some.injEq, List.isEmpty_cons, List.isEmpty_nil, reduceCtorEq, ne_eq, not_false_eq_true, not_true_eq_false, List.replicate_zero, Int.reduceMod, sEq_int, sNe_int, rotN_0, rotN_1, rotN_2, rotN_3, bi_t, bi_f, sAdd_i, sAdd_t, sAdd_l, lAdd_l, sSub_i, sMul_i, sMul_t, sMul_l, sMod_i, sFdiv_i, sNeg_i, sLt_i, sLe_i, sGt_i, sGe_i, sIs_n, sIsNot_n, isN_n, isN_i, isN_t, isN_l, isN_s, isN_b, toB_b, toI_i, toD_d, toD_l, toL_l, tTru_n, tTru_b, tTru_i, tTru_l, tTru_t, isT_int, isT_bool, isT_tuple, isT_str, isT_list, sCut_l, sCut_t, sAug_ap, sPop_ap, at1_0, at2_0, at2_1, at3_0, at3_1, at3_2]
      refine sat_a_piece st fun p g' hp st' => ?_
      simp -dsimp only [eFz_ap, eVar_ap, eVarQ_ap, eC_ap, e1_ap, e2_ap, l1_ap, l2_ap, aNil_ap, aCons_ap, eTup_ap, lLst_ap, fTru_ap, fB_ap, fNot_ap, fAnd_ap, fOr_ap, eNot_ap, eAnd_ap, eOr_ap, eIf_ap, lIf_ap, oNone_ap, oSome_ap, eCut_ap, lCut_ap, sNext_ap, sBreak_ap, sCont_ap, sIf_ap, sExpr_ap, sRet_ap, sRetL_ap, sRetO_ap, sRetN_ap, bName_ap, bNil_ap, bCons_ap, bTup_ap, bItem_ap, sAsg_ap, sSet_ap, sSetL_ap, sApp_ap, sExt_ap, iSeq_ap, iOwn_ap, l3_ap, sFor_ap, fYes_ap, rNil_ap, rCons_ap, rRaw_ap, eCall_ap, lCall_ap, eCallK_ap, eCh_ap, xNil_ap, xD_ap, xL_ap, sPar_ap, eIs_ap, sSeq_ap, seqM_next, seqM_brk, seqM_cont, seqM_ret, runDef_ap, defM_next, defM_ret, stepM_ap, loopM_next, loopM_cont, loopM_brk, loopM_ret, lcF_ap, lcH_ap, lcM_nil, lcM_cons, lcC_some, lcC_none, limM_ap, lLC_ap, startE, arS, mask, wipeE, noOwn, isOwn, setAll, rtS, sItems_l, sItems_t, lim, sIx_l, sIx_t, sLen_l, sLen_t, sTuple_l, sTuple_t, sList_l, sList_t, rngL0, rngL1, rngL2, rngL3, rngL4, rngL5, rngL6, sat_ret, sat_bnd, sat_some, sat_none, sat_fail, bnd_ret, bnd_bnd, bnd_fail, lft_some, lft_none, Option.map_some, Option.map_none, List.map_cons, List.map_nil, List.length_cons, List.length_nil, List.replicate, List.cons_append, List.nil_append, List.append_nil, List.all_cons, List.all_nil, Bool.and_true, Bool.true_and, Bool.and_false, Bool.false_and, Bool.not_false, Bool.not_true, Bool.not_not, Bool.or_true, Bool.true_or, Bool.or_false, Bool.false_or, List.getElem?_cons_succ, List.getElem?_cons_zero, List.getElem?_nil, if_true, if_false, ite_true, ite_false, List.set_cons_succ, List.set_cons_zero, List.set_nil, Int.reduceLT, Int.reduceLE, Int.reduceNeg, Int.reducePow, Int.reduceMul, Int.reduceAdd, Int.reduceSub, Int.reduceToNat, Int.reduceEq, Nat.reduceAdd, Nat.reduceSub, Nat.reduceLeDiff, Nat.reduceLT, Nat.reduceEqDiff, Nat.reduceMul, and_self, and_true, true_and, and_false, false_and, or_true, true_or, or_false, false_or, or_self, reduceIte, Bool.false_eq_true, Bool.true_eq_false, decide_true, decide_false, Option.some.injEq, List.isEmpty_cons, List.isEmpty_nil, reduceCtorEq, ne_eq, not_false_eq_true, not_true_eq_false, List.replicate_zero, Int.reduceMod, sEq_int, sNe_int, rotN_0, rotN_1, rotN_2, rotN_3, bi_t, bi_f, sAdd_i, sAdd_t, sAdd_l, lAdd_l, sSub_i, sMul_i, sMul_t, sMul_l, sMod_i, sFdiv_i, sNeg_i, sLt_i, sLe_i, sGt_i, sGe_i, sIs_n, sIsNot_n, isN_n, isN_i, isN_t, isN_l, isN_s, isN_b, toB_b, toI_i, toD_d, toD_l, toL_l, tTru_n, tTru_b, tTru_i, tTru_l, tTru_t, isT_int, isT_bool, isT_tuple, isT_str, isT_list, sCut_l, sCut_t, sAug_ap, sPop_ap, at1_0, at2_0, at2_1, at3_0, at3_1, at3_2]
      exact k p g' hp st'
    rw [List.length_map, List.length_range] at hl
    have bl : (ps.map Pc.D).length = n := by rw [List.length_map]; exact hl
    generalize ps.map Pc.D = box at bl
    simp -dsimp (disch := omega) only [bl, lim_if, lim_if2, eFz_ap, eVar_ap, eVarQ_ap, eC_ap, e1_ap, e2_ap, l1_ap, l2_ap, aNil_ap, aCons_ap, eTup_ap, lLst_ap, fTru_ap, fB_ap, fNot_ap, fAnd_ap, fOr_ap, eNot_ap, eAnd_ap, eOr_ap, eIf_ap, lIf_ap, oNone_ap, oSome_ap, eCut_ap, lCut_ap, sNext_ap, sBreak_ap, sCont_ap, sIf_ap, sExpr_ap, sRet_ap, sRetL_ap, sRetO_ap, sRetN_ap, bName_ap, bNil_ap, bCons_ap, bTup_ap, bItem_ap, sAsg_ap, sSet_ap, sSetL_ap, sApp_ap, sExt_ap, iSeq_ap, iOwn_ap, l3_ap, sFor_ap, fYes_ap, rNil_ap, rCons_ap, rRaw_ap, eCall_ap, lCall_ap, eCallK_ap, eCh_ap, xNil_ap, xD_ap, xL_ap, sPar_ap, eIs_ap, sSeq_ap, seqM_next, seqM_brk, seqM_cont, seqM_ret, runDef_ap, defM_next, defM_ret, stepM_ap, loopM_next, loopM_cont, loopM_brk, loopM_ret, lcF_ap, lcH_ap, lcM_nil, lcM_cons, lcC_some, lcC_none, limM_ap, lLC_ap, startE, arS, mask, wipeE, noOwn, isOwn, setAll, rtS, sItems_l, sItems_t, lim, sIx_l, sIx_t, sLen_l, sLen_t, sTuple_l, sTuple_t, sList_l, sList_t, rngL0, rngL1, rngL2, rngL3, rngL4, rngL5, rngL6, sat_ret, sat_bnd, sat_some, sat_none, sat_fail, bnd_ret, bnd_bnd, bnd_fail, lft_some, lft_none, Option.map_some, Option.map_none, List.map_cons, List.map_nil, List.length_cons, List.length_nil, List.replicate, List.cons_append, List.nil_append, List.append_nil, List.all_cons, List.all_nil, Bool.and_true, Bool.true_and, Bool.and_false, Bool.false_and, Bool.not_false, Bool.not_true, Bool.not_not, Bool.or_true, Bool.true_or, Bool.or_false, Bool.false_or, List.getElem?_cons_succ, List.getElem?_cons_zero, List.getElem?_nil, if_true, if_false, ite_true, ite_false, List.set_cons_succ, List.set_cons_zero, List.set_nil, Int.reduceLT, Int.reduceLE, Int.reduceNeg, Int.reducePow, Int.reduceMul, Int.reduceAdd, Int.reduceSub, Int.reduceToNat, Int.reduceEq, Nat.reduceAdd, Nat.reduceSub, Nat.reduceLeDiff, Nat.reduceLT, Nat.reduceEqDiff, Nat.reduceMul, and_self, and_true, true_and, and_false, false_and, or_true, true_or, or_false, false_or, or_self, reduceIte, Bool.false_eq_true, Bool.true_eq_false, decide_true, decide_false, Option.some.injEq, List.isEmpty_cons, List.isEmpty_nil, reduceCtorEq, ne_eq, not_false_eq_true, not_true_eq_false, List.replicate_zero, Int.reduceMod, sEq_int, sNe_int, rotN_0, rotN_1, rotN_2, rotN_3, bi_t, bi_f, sAdd_i, sAdd_t, sAdd_l, lAdd_l, sSub_i, sMul_i, sMul_t, sMul_l, sMod_i, sFdiv_i, sNeg_i, sLt_i, sLe_i, sGt_i, sGe_i, sIs_n, sIsNot_n, isN_n, isN_i, isN_t, isN_l, isN_s, isN_b, toB_b, toI_i, toD_d, toD_l, toL_l, tTru_n, tTru_b, tTru_i, tTru_l, tTru_t, isT_int, isT_bool, isT_tuple, isT_str, isT_list, sCut_l, sCut_t, sAug_ap, sPop_ap, at1_0, at2_0, at2_1, at3_0, at3_1, at3_2]
    refine sat_an_order st (by omega) fun qs g4 ho st => ?_
    have hqs := ho.len
    simp -dsimp (disch := omega) only [bl, sMin2_i, lim_if, lim_if2, eFz_ap, eVar_ap, eVarQ_ap, eC_ap, e1_ap, e2_ap, l1_ap, l2_ap, aNil_ap, aCons_ap, eTup_ap, lLst_ap, fTru_ap, fB_ap, fNot_ap, fAnd_ap, fOr_ap, eNot_ap, eAnd_ap, eOr_ap, eIf_ap, lIf_ap, oNone_ap, oSome_ap, eCut_ap, lCut_ap, sNext_ap, sBreak_ap, sCont_ap, sIf_ap, sExpr_ap, sRet_ap, sRetL_ap, sRetO_ap, sRetN_ap, bName_ap, bNil_ap, bCons_ap, bTup_ap, bItem_ap, sAsg_ap, sSet_ap, sSetL_ap, sApp_ap, sExt_ap, iSeq_ap, iOwn_ap, l3_ap, sFor_ap, fYes_ap, rNil_ap, rCons_ap, rRaw_ap, eCall_ap, lCall_ap, eCallK_ap, eCh_ap, xNil_ap, xD_ap, xL_ap, sPar_ap, eIs_ap, sSeq_ap, seqM_next, seqM_brk, seqM_cont, seqM_ret, runDef_ap, defM_next, defM_ret, stepM_ap, loopM_next, loopM_cont, loopM_brk, loopM_ret, lcF_ap, lcH_ap, lcM_nil, lcM_cons, lcC_some, lcC_none, limM_ap, lLC_ap, startE, arS, mask, wipeE, noOwn, isOwn, setAll, rtS, sItems_l, sItems_t, lim, sIx_l, sIx_t, sLen_l, sLen_t, sTuple_l, sTuple_t, sList_l, sList_t, rngL0, rngL1, rngL2, rngL3, rngL4, rngL5, rngL6, sat_ret, sat_bnd, sat_some, sat_none, sat_fail, bnd_ret, bnd_bnd, bnd_fail, lft_some, lft_none, Option.map_some, Option.map_none, List.map_cons, List.map_nil, List.length_cons, List.length_nil, List.replicate, List.cons_append, List.nil_append, List.append_nil, List.all_cons, List.all_nil, Bool.and_true, Bool.true_and, Bool.and_false, Bool.false_and, Bool.not_false, Bool.not_true, Bool.not_not, Bool.or_true, Bool.true_or, Bool.or_false, Bool.false_or, List.getElem?_cons_succ, List.getElem?_cons_zero, List.getElem?_nil, if_true, if_false, ite_true, ite_false, List.set_cons_succ, List.set_cons_zero, List.set_nil, Int.reduceLT, Int.reduceLE, Int.reduceNeg, Int.reducePow, Int.reduceMul, Int.reduceAdd, Int.reduceSub, Int.reduceToNat, Int.reduceEq, Nat.reduceAdd, Nat.reduceSub, Nat.reduceLeDiff, Nat.reduceLT, Nat.reduceEqDiff, Nat.reduceMul, and_self, and_true, true_and, and_false, false_and, or_true, true_or, or_false, false_or, or_self, reduceIte, Bool.false_eq_true, Bool.true_eq_false, decide_true, decide_false, Option.some.injEq, List.isEmpty_cons, List.isEmpty_nil, reduceCtorEq, ne_eq, not_false_eq_true, not_true_eq_false, List.replicate_zero, Int.reduceMod, sEq_int, sNe_int, rotN_0, rotN_1, rotN_2, rotN_3, bi_t, bi_f, sAdd_i, sAdd_t, sAdd_l, lAdd_l, sSub_i, sMul_i, sMul_t, sMul_l, sMod_i, sFdiv_i, sNeg_i, sLt_i, sLe_i, sGt_i, sGe_i, sIs_n, sIsNot_n, isN_n, isN_i, isN_t, isN_l, isN_s, isN_b, toB_b, toI_i, toD_d, toD_l, toL_l, tTru_n, tTru_b, tTru_i, tTru_l, tTru_t, isT_int, isT_bool, isT_tuple, isT_str, isT_list, sCut_l, sCut_t, sAug_ap, sPop_ap, at1_0, at2_0, at2_1, at3_0, at3_1, at3_2]
    refine sat_draw st (by split <;> omega) (by split <;> omega) fun w0 g5 w1 w2 st => ?_
    obtain ⟨w, hw⟩ : ∃ w : Nat, 1 + w0 = (w : Int) := ⟨(1 + w0).toNat, by omega⟩
    have hw0 : 0 < w ∧ w ≤ n ∧ w ≤ 4 := by
      split at w2 <;> omega
    have hm : ((qs.length : Nat) : Int) - (w : Int) + 1 = ((qs.length - w + 1 : Nat) : Int) := by omega
    have hk : (qs.length - w + 1 + w - 1) / w = qs.length / w := by congr 1; omega
    have hk0 : 0 < qs.length / w := Nat.div_pos (by omega) hw0.1
    have hkw : qs.length / w * w ≤ qs.length := Nat.div_mul_le_self ..
    have hkn : qs.length / w ≤ qs.length := Nat.div_le_self ..
    have rg := sRng3_ok (m := qs.length - w + 1) hw0.1 (by omega) (by omega)
    rw [hk] at rg
    have ly : Ly n w (chunk w (qs.length / w) qs) := chunk_ly ho hw0.1 hk0 (by omega)
    generalize hK : qs.length / w = K at rg ly hk0 hkw hkn
    have cl := chunk_length w K qs
    simp -dsimp (disch := omega) only [hw, List.length_map, List.length_range, hm, rg, slash, blank, dot, lim_if, lim_if2, eFz_ap, eVar_ap, eVarQ_ap, eC_ap, e1_ap, e2_ap, l1_ap, l2_ap, aNil_ap, aCons_ap, eTup_ap, lLst_ap, fTru_ap, fB_ap, fNot_ap, fAnd_ap, fOr_ap, eNot_ap, eAnd_ap, eOr_ap, eIf_ap, lIf_ap, oNone_ap, oSome_ap, eCut_ap, lCut_ap, sNext_ap, sBreak_ap, sCont_ap, sIf_ap, sExpr_ap, sRet_ap, sRetL_ap, sRetO_ap, sRetN_ap, bName_ap, bNil_ap, bCons_ap, bTup_ap, bItem_ap, sAsg_ap, sSet_ap, sSetL_ap, sApp_ap, sExt_ap, iSeq_ap, iOwn_ap, l3_ap, sFor_ap, fYes_ap, rNil_ap, rCons_ap, rRaw_ap, eCall_ap, lCall_ap, eCallK_ap, eCh_ap, xNil_ap, xD_ap, xL_ap, sPar_ap, eIs_ap, sSeq_ap, seqM_next, seqM_brk, seqM_cont, seqM_ret, runDef_ap, defM_next, defM_ret, stepM_ap, loopM_next, loopM_cont, loopM_brk, loopM_ret, lcF_ap, lcH_ap, lcM_nil, lcM_cons, lcC_some, lcC_none, limM_ap, lLC_ap, startE, arS, mask, wipeE, noOwn, isOwn, setAll, rtS, sItems_l, sItems_t, lim, sIx_l, sIx_t, sLen_l, sLen_t, sTuple_l, sTuple_t, sList_l, sList_t, rngL0, rngL1, rngL2, rngL3, rngL4, rngL5, rngL6, sat_ret, sat_bnd, sat_some, sat_none, sat_fail, bnd_ret, bnd_bnd, bnd_fail, lft_some, lft_none, Option.map_some, Option.map_none, List.map_cons, List.map_nil, List.length_cons, List.length_nil, List.replicate, List.cons_append, List.nil_append, List.append_nil, List.all_cons, List.all_nil, Bool.and_true, Bool.true_and, Bool.and_false, Bool.false_and, Bool.not_false, Bool.not_true, Bool.not_not, Bool.or_true, Bool.true_or, Bool.or_false, Bool.false_or, List.getElem?_cons_succ, List.getElem?_cons_zero, List.getElem?_nil, if_true, if_false, ite_true, ite_false, List.set_cons_succ, List.set_cons_zero, List.set_nil, Int.reduceLT, Int.reduceLE, Int.reduceNeg, Int.reducePow, Int.reduceMul, Int.reduceAdd, Int.reduceSub, Int.reduceToNat, Int.reduceEq, Nat.reduceAdd, Nat.reduceSub, Nat.reduceLeDiff, Nat.reduceLT, Nat.reduceEqDiff, Nat.reduceMul, and_self, and_true, true_and, and_false, false_and, or_true, true_or, or_false, false_or, or_self, reduceIte, Bool.false_eq_true, Bool.true_eq_false, decide_true, decide_false, Option.some.injEq, List.isEmpty_cons, List.isEmpty_nil, reduceCtorEq, ne_eq, not_false_eq_true, not_true_eq_false, List.replicate_zero, Int.reduceMod, sEq_int, sNe_int, rotN_0, rotN_1, rotN_2, rotN_3, bi_t, bi_f, sAdd_i, sAdd_t, sAdd_l, lAdd_l, sSub_i, sMul_i, sMul_t, sMul_l, sMod_i, sFdiv_i, sNeg_i, sLt_i, sLe_i, sGt_i, sGe_i, sIs_n, sIsNot_n, isN_n, isN_i, isN_t, isN_l, isN_s, isN_b, toB_b, toI_i, toD_d, toD_l, toL_l, tTru_n, tTru_b, tTru_i, tTru_l, tTru_t, isT_int, isT_bool, isT_tuple, isT_str, isT_list, sCut_l, sCut_t, sAug_ap, sPop_ap, at1_0, at2_0, at2_1, at3_0, at3_1, at3_2]
    refine sat_lcm (h := fun i => rowD ((qs.drop (i * w)).take w)) (fun i _ => ?_) ?_
    · have c := cut_nn (qs.map prD) (lo := ((i * w : Nat) : Int)) (hi := ((i * w : Nat) : Int) + (w : Int)) (by omega) (by omega)
      rw [show (((i * w : Nat) : Int) + (w : Int)).toNat - ((i * w : Nat) : Int).toNat = w by omega, Int.toNat_natCast, ← List.map_drop, ← List.map_take] at c
      simp -dsimp only [c, rowD, eFz_ap, eVar_ap, eVarQ_ap, eC_ap, e1_ap, e2_ap, l1_ap, l2_ap, aNil_ap, aCons_ap, eTup_ap, lLst_ap, fTru_ap, fB_ap, fNot_ap, fAnd_ap, fOr_ap, eNot_ap, eAnd_ap, eOr_ap, eIf_ap, lIf_ap, oNone_ap, oSome_ap, eCut_ap, lCut_ap, sNext_ap, sBreak_ap, sCont_ap, sIf_ap, sExpr_ap, sRet_ap, sRetL_ap, sRetO_ap, sRetN_ap, bName_ap, bNil_ap, bCons_ap, bTup_ap, bItem_ap, sAsg_ap, sSet_ap, sSetL_ap, sApp_ap, sExt_ap, iSeq_ap, iOwn_ap, l3_ap, sFor_ap, fYes_ap, rNil_ap, rCons_ap, rRaw_ap, eCall_ap, lCall_ap, eCallK_ap, eCh_ap, xNil_ap, xD_ap, xL_ap, sPar_ap, eIs_ap, sSeq_ap, seqM_next, seqM_brk, seqM_cont, seqM_ret, runDef_ap, defM_next, defM_ret, stepM_ap, loopM_next, loopM_cont, loopM_brk, loopM_ret, lcF_ap, lcH_ap, lcM_nil, lcM_cons, lcC_some, lcC_none, limM_ap, lLC_ap, startE, arS, mask, wipeE, noOwn, isOwn, setAll, rtS, sItems_l, sItems_t, lim, sIx_l, sIx_t, sLen_l, sLen_t, sTuple_l, sTuple_t, sList_l, sList_t, rngL0, rngL1, rngL2, rngL3, rngL4, rngL5, rngL6, sat_ret, sat_bnd, sat_some, sat_none, sat_fail, bnd_ret, bnd_bnd, bnd_fail, lft_some, lft_none, Option.map_some, Option.map_none, List.map_cons, List.map_nil, List.length_cons, List.length_nil, List.replicate, List.cons_append, List.nil_append, List.append_nil, List.all_cons, List.all_nil, Bool.and_true, Bool.true_and, Bool.and_false, Bool.false_and, Bool.not_false, Bool.not_true, Bool.not_not, Bool.or_true, Bool.true_or, Bool.or_false, Bool.false_or, List.getElem?_cons_succ, List.getElem?_cons_zero, List.getElem?_nil, if_true, if_false, ite_true, ite_false, List.set_cons_succ, List.set_cons_zero, List.set_nil, Int.reduceLT, Int.reduceLE, Int.reduceNeg, Int.reducePow, Int.reduceMul, Int.reduceAdd, Int.reduceSub, Int.reduceToNat, Int.reduceEq, Nat.reduceAdd, Nat.reduceSub, Nat.reduceLeDiff, Nat.reduceLT, Nat.reduceEqDiff, Nat.reduceMul, and_self, and_true, true_and, and_false, false_and, or_true, true_or, or_false, false_or, or_self, reduceIte, Bool.false_eq_true, Bool.true_eq_false, decide_true, decide_false, Option.some.injEq, List.isEmpty_cons, List.isEmpty_nil, reduceCtorEq, ne_eq, not_false_eq_true, not_true_eq_false, List.replicate_zero, Int.reduceMod, sEq_int, sNe_int, rotN_0, rotN_1, rotN_2, rotN_3, bi_t, bi_f, sAdd_i, sAdd_t, sAdd_l, lAdd_l, sSub_i, sMul_i, sMul_t, sMul_l, sMod_i, sFdiv_i, sNeg_i, sLt_i, sLe_i, sGt_i, sGe_i, sIs_n, sIsNot_n, isN_n, isN_i, isN_t, isN_l, isN_s, isN_b, toB_b, toI_i, toD_d, toD_l, toL_l, tTru_n, tTru_b, tTru_i, tTru_l, tTru_t, isT_int, isT_bool, isT_tuple, isT_str, isT_list, sCut_l, sCut_t, sAug_ap, sPop_ap, at1_0, at2_0, at2_1, at3_0, at3_1, at3_2]
    have ec : ((List.range K).map fun i => rowD ((qs.drop (i * w)).take w)) = (chunk w K qs).map rowD := by
      unfold chunk
      rw [List.map_map]
      rfl
    rw [ec]
    have kw2 : (chunk w K qs).length * w ≤ 12 := by rw [cl]; omega
    have kl : (chunk w K qs).length ≤ 12 := by omega
    generalize chunk w K qs = rs at ly cl kw2 kl
    clear ec rg hm hkw hkn
    have tx := tx_lT ly nb.2 kw2 kl
    have xl := tx.len
    have r1 : ∀ r ∈ rs, r.length ≤ 99 ∧ ∀ p ∈ r, p.1 < 10000 ∧ p.2 < 10000 := fun r hr => ⟨by rw [ly.wide r hr]; omega, fun p hp => by have := ly.num r hr p hp; omega⟩
    have jr := join_rows (by omega) r1
    simp -dsimp (disch := omega) only [List.length_map, lim_if, lim_if2, eFz_ap, eVar_ap, eVarQ_ap, eC_ap, e1_ap, e2_ap, l1_ap, l2_ap, aNil_ap, aCons_ap, eTup_ap, lLst_ap, fTru_ap, fB_ap, fNot_ap, fAnd_ap, fOr_ap, eNot_ap, eAnd_ap, eOr_ap, eIf_ap, lIf_ap, oNone_ap, oSome_ap, eCut_ap, lCut_ap, sNext_ap, sBreak_ap, sCont_ap, sIf_ap, sExpr_ap, sRet_ap, sRetL_ap, sRetO_ap, sRetN_ap, bName_ap, bNil_ap, bCons_ap, bTup_ap, bItem_ap, sAsg_ap, sSet_ap, sSetL_ap, sApp_ap, sExt_ap, iSeq_ap, iOwn_ap, l3_ap, sFor_ap, fYes_ap, rNil_ap, rCons_ap, rRaw_ap, eCall_ap, lCall_ap, eCallK_ap, eCh_ap, xNil_ap, xD_ap, xL_ap, sPar_ap, eIs_ap, sSeq_ap, seqM_next, seqM_brk, seqM_cont, seqM_ret, runDef_ap, defM_next, defM_ret, stepM_ap, loopM_next, loopM_cont, loopM_brk, loopM_ret, lcF_ap, lcH_ap, lcM_nil, lcM_cons, lcC_some, lcC_none, limM_ap, lLC_ap, startE, arS, mask, wipeE, noOwn, isOwn, setAll, rtS, sItems_l, sItems_t, lim, sIx_l, sIx_t, sLen_l, sLen_t, sTuple_l, sTuple_t, sList_l, sList_t, rngL0, rngL1, rngL2, rngL3, rngL4, rngL5, rngL6, sat_ret, sat_bnd, sat_some, sat_none, sat_fail, bnd_ret, bnd_bnd, bnd_fail, lft_some, lft_none, Option.map_some, Option.map_none, List.map_cons, List.map_nil, List.length_cons, List.length_nil, List.replicate, List.cons_append, List.nil_append, List.append_nil, List.all_cons, List.all_nil, Bool.and_true, Bool.true_and, Bool.and_false, Bool.false_and, Bool.not_false, Bool.not_true, Bool.not_not, Bool.or_true, Bool.true_or, Bool.or_false, Bool.false_or, List.getElem?_cons_succ, List.getElem?_cons_zero, List.getElem?_nil, if_true, if_false, ite_true, ite_false, List.set_cons_succ, List.set_cons_zero, List.set_nil, Int.reduceLT, Int.reduceLE, Int.reduceNeg, Int.reducePow, Int.reduceMul, Int.reduceAdd, Int.reduceSub, Int.reduceToNat, Int.reduceEq, Nat.reduceAdd, Nat.reduceSub, Nat.reduceLeDiff, Nat.reduceLT, Nat.reduceEqDiff, Nat.reduceMul, and_self, and_true, true_and, and_false, false_and, or_true, true_or, or_false, false_or, or_self, reduceIte, Bool.false_eq_true, Bool.true_eq_false, decide_true, decide_false, Option.some.injEq, List.isEmpty_cons, List.isEmpty_nil, reduceCtorEq, ne_eq, not_false_eq_true, not_true_eq_false, List.replicate_zero, Int.reduceMod, sEq_int, sNe_int, rotN_0, rotN_1, rotN_2, rotN_3, bi_t, bi_f, sAdd_i, sAdd_t, sAdd_l, lAdd_l, sSub_i, sMul_i, sMul_t, sMul_l, sMod_i, sFdiv_i, sNeg_i, sLt_i, sLe_i, sGt_i, sGe_i, sIs_n, sIsNot_n, isN_n, isN_i, isN_t, isN_l, isN_s, isN_b, toB_b, toI_i, toD_d, toD_l, toL_l, tTru_n, tTru_b, tTru_i, tTru_l, tTru_t, isT_int, isT_bool, isT_tuple, isT_str, isT_list, sCut_l, sCut_t, sAug_ap, sPop_ap, at1_0, at2_0, at2_1, at3_0, at3_1, at3_2]
    refine sat_lcm (h := fun r => .str (S (rT r))) (fun r hr => ?_) ?_
    · have hl := (r1 r hr).1
      have hj := join_row (r := r) (by omega) (r1 r hr).2
      simp -dsimp (disch := omega) only [rowD, List.length_map, lim_if, lim_if2, eFz_ap, eVar_ap, eVarQ_ap, eC_ap, e1_ap, e2_ap, l1_ap, l2_ap, aNil_ap, aCons_ap, eTup_ap, lLst_ap, fTru_ap, fB_ap, fNot_ap, fAnd_ap, fOr_ap, eNot_ap, eAnd_ap, eOr_ap, eIf_ap, lIf_ap, oNone_ap, oSome_ap, eCut_ap, lCut_ap, sNext_ap, sBreak_ap, sCont_ap, sIf_ap, sExpr_ap, sRet_ap, sRetL_ap, sRetO_ap, sRetN_ap, bName_ap, bNil_ap, bCons_ap, bTup_ap, bItem_ap, sAsg_ap, sSet_ap, sSetL_ap, sApp_ap, sExt_ap, iSeq_ap, iOwn_ap, l3_ap, sFor_ap, fYes_ap, rNil_ap, rCons_ap, rRaw_ap, eCall_ap, lCall_ap, eCallK_ap, eCh_ap, xNil_ap, xD_ap, xL_ap, sPar_ap, eIs_ap, sSeq_ap, seqM_next, seqM_brk, seqM_cont, seqM_ret, runDef_ap, defM_next, defM_ret, stepM_ap, loopM_next, loopM_cont, loopM_brk, loopM_ret, lcF_ap, lcH_ap, lcM_nil, lcM_cons, lcC_some, lcC_none, limM_ap, lLC_ap, startE, arS, mask, wipeE, noOwn, isOwn, setAll, rtS, sItems_l, sItems_t, lim, sIx_l, sIx_t, sLen_l, sLen_t, sTuple_l, sTuple_t, sList_l, sList_t, rngL0, rngL1, rngL2, rngL3, rngL4, rngL5, rngL6, sat_ret, sat_bnd, sat_some, sat_none, sat_fail, bnd_ret, bnd_bnd, bnd_fail, lft_some, lft_none, Option.map_some, Option.map_none, List.map_cons, List.map_nil, List.length_cons, List.length_nil, List.replicate, List.cons_append, List.nil_append, List.append_nil, List.all_cons, List.all_nil, Bool.and_true, Bool.true_and, Bool.and_false, Bool.false_and, Bool.not_false, Bool.not_true, Bool.not_not, Bool.or_true, Bool.true_or, Bool.or_false, Bool.false_or, List.getElem?_cons_succ, List.getElem?_cons_zero, List.getElem?_nil, if_true, if_false, ite_true, ite_false, List.set_cons_succ, List.set_cons_zero, List.set_nil, Int.reduceLT, Int.reduceLE, Int.reduceNeg, Int.reducePow, Int.reduceMul, Int.reduceAdd, Int.reduceSub, Int.reduceToNat, Int.reduceEq, Nat.reduceAdd, Nat.reduceSub, Nat.reduceLeDiff, Nat.reduceLT, Nat.reduceEqDiff, Nat.reduceMul, and_self, and_true, true_and, and_false, false_and, or_true, true_or, or_false, false_or, or_self, reduceIte, Bool.false_eq_true, Bool.true_eq_false, decide_true, decide_false, Option.some.injEq, List.isEmpty_cons, List.isEmpty_nil, reduceCtorEq, ne_eq, not_false_eq_true, not_true_eq_false, List.replicate_zero, Int.reduceMod, sEq_int, sNe_int, rotN_0, rotN_1, rotN_2, rotN_3, bi_t, bi_f, sAdd_i, sAdd_t, sAdd_l, lAdd_l, sSub_i, sMul_i, sMul_t, sMul_l, sMod_i, sFdiv_i, sNeg_i, sLt_i, sLe_i, sGt_i, sGe_i, sIs_n, sIsNot_n, isN_n, isN_i, isN_t, isN_l, isN_s, isN_b, toB_b, toI_i, toD_d, toD_l, toL_l, tTru_n, tTru_b, tTru_i, tTru_l, tTru_t, isT_int, isT_bool, isT_tuple, isT_str, isT_list, sCut_l, sCut_t, sAug_ap, sPop_ap, at1_0, at2_0, at2_1, at3_0, at3_1, at3_2]
      refine bnd_lcm (h := fun p => .str (S (wT p))) (fun p hp => ?_) ?_
      · have h2 := (r1 r hr).2 p hp
        have s1 := sStr_nat h2.1
        have s2 := sStr_nat h2.2
        have t1 : Tx 4 (TL.numL p.1) := ⟨fun c hc => by have := numL_chr _ c hc; omega, numL4 h2.1⟩
        have t2 : Tx 4 (TL.numL p.2) := ⟨fun c hc => by have := numL_chr _ c hc; omega, numL4 h2.2⟩
        have t3 : Tx 1 [46] := ⟨fun c hc => by cases List.mem_singleton.mp hc; decide, Nat.le_refl _⟩
        have a1 := sAddS_ok t1 t3 (by decide) (by decide)
        have a2 : sAddS (.str (S (TL.numL p.1 ++ [46]))) (.str (S (TL.numL p.2))) = some (.str (S (wT p))) := by
          rw [sAddS_ok (t1.app t3) t2 (by decide) (by decide), List.append_assoc]
          rfl
        simp -dsimp only [prD, eD, s1, s2, a1, a2, eFz_ap, eVar_ap, eVarQ_ap, eC_ap, e1_ap, e2_ap, l1_ap, l2_ap, aNil_ap, aCons_ap, eTup_ap, lLst_ap, fTru_ap, fB_ap, fNot_ap, fAnd_ap, fOr_ap, eNot_ap, eAnd_ap, eOr_ap, eIf_ap, lIf_ap, oNone_ap, oSome_ap, eCut_ap, lCut_ap, sNext_ap, sBreak_ap, sCont_ap, sIf_ap, sExpr_ap, sRet_ap, sRetL_ap, sRetO_ap, sRetN_ap, bName_ap, bNil_ap, bCons_ap, bTup_ap, bItem_ap, sAsg_ap, sSet_ap, sSetL_ap, sApp_ap, sExt_ap, iSeq_ap, iOwn_ap, l3_ap, sFor_ap, fYes_ap, rNil_ap, rCons_ap, rRaw_ap, eCall_ap, lCall_ap, eCallK_ap, eCh_ap, xNil_ap, xD_ap, xL_ap, sPar_ap, eIs_ap, sSeq_ap, seqM_next, seqM_brk, seqM_cont, seqM_ret, runDef_ap, defM_next, defM_ret, stepM_ap, loopM_next, loopM_cont, loopM_brk, loopM_ret, lcF_ap, lcH_ap, lcM_nil, lcM_cons, lcC_some, lcC_none, limM_ap, lLC_ap, startE, arS, mask, wipeE, noOwn, isOwn, setAll, rtS, sItems_l, sItems_t, lim, sIx_l, sIx_t, sLen_l, sLen_t, sTuple_l, sTuple_t, sList_l, sList_t, rngL0, rngL1, rngL2, rngL3, rngL4, rngL5, rngL6, sat_ret, sat_bnd, sat_some, sat_none, sat_fail, bnd_ret, bnd_bnd, bnd_fail, lft_some, lft_none, Option.map_some, Option.map_none, List.map_cons, List.map_nil, List.length_cons, List.length_nil, List.replicate, List.cons_append, List.nil_append, List.append_nil, List.all_cons, List.all_nil, Bool.and_true, Bool.true_and, Bool.and_false, Bool.false_and, Bool.not_false, Bool.not_true, Bool.not_not, Bool.or_true, Bool.true_or, Bool.or_false, Bool.false_or, List.getElem?_cons_succ, List.getElem?_cons_zero, List.getElem?_nil, if_true, if_false, ite_true, ite_false, List.set_cons_succ, List.set_cons_zero, List.set_nil, Int.reduceLT, Int.reduceLE, Int.reduceNeg, Int.reducePow, Int.reduceMul, Int.reduceAdd, Int.reduceSub, Int.reduceToNat, Int.reduceEq, Nat.reduceAdd, Nat.reduceSub, Nat.reduceLeDiff, Nat.reduceLT, Nat.reduceEqDiff, Nat.reduceMul, and_self, and_true, true_and, and_false, false_and, or_true, true_or, or_false, false_or, or_self, reduceIte, Bool.false_eq_true, Bool.true_eq_false, decide_true, decide_false, Option.some.injEq, List.isEmpty_cons, List.isEmpty_nil, reduceCtorEq, ne_eq, not_false_eq_true, not_true_eq_false, List.replicate_zero, Int.reduceMod, sEq_int, sNe_int, rotN_0, rotN_1, rotN_2, rotN_3, bi_t, bi_f, sAdd_i, sAdd_t, sAdd_l, lAdd_l, sSub_i, sMul_i, sMul_t, sMul_l, sMod_i, sFdiv_i, sNeg_i, sLt_i, sLe_i, sGt_i, sGe_i, sIs_n, sIsNot_n, isN_n, isN_i, isN_t, isN_l, isN_s, isN_b, toB_b, toI_i, toD_d, toD_l, toL_l, tTru_n, tTru_b, tTru_i, tTru_l, tTru_t, isT_int, isT_bool, isT_tuple, isT_str, isT_list, sCut_l, sCut_t, sAug_ap, sPop_ap, at1_0, at2_0, at2_1, at3_0, at3_1, at3_2]
      · simp -dsimp (disch := omega) only [List.length_map, hj, lim_if, lim_if2, eFz_ap, eVar_ap, eVarQ_ap, eC_ap, e1_ap, e2_ap, l1_ap, l2_ap, aNil_ap, aCons_ap, eTup_ap, lLst_ap, fTru_ap, fB_ap, fNot_ap, fAnd_ap, fOr_ap, eNot_ap, eAnd_ap, eOr_ap, eIf_ap, lIf_ap, oNone_ap, oSome_ap, eCut_ap, lCut_ap, sNext_ap, sBreak_ap, sCont_ap, sIf_ap, sExpr_ap, sRet_ap, sRetL_ap, sRetO_ap, sRetN_ap, bName_ap, bNil_ap, bCons_ap, bTup_ap, bItem_ap, sAsg_ap, sSet_ap, sSetL_ap, sApp_ap, sExt_ap, iSeq_ap, iOwn_ap, l3_ap, sFor_ap, fYes_ap, rNil_ap, rCons_ap, rRaw_ap, eCall_ap, lCall_ap, eCallK_ap, eCh_ap, xNil_ap, xD_ap, xL_ap, sPar_ap, eIs_ap, sSeq_ap, seqM_next, seqM_brk, seqM_cont, seqM_ret, runDef_ap, defM_next, defM_ret, stepM_ap, loopM_next, loopM_cont, loopM_brk, loopM_ret, lcF_ap, lcH_ap, lcM_nil, lcM_cons, lcC_some, lcC_none, limM_ap, lLC_ap, startE, arS, mask, wipeE, noOwn, isOwn, setAll, rtS, sItems_l, sItems_t, lim, sIx_l, sIx_t, sLen_l, sLen_t, sTuple_l, sTuple_t, sList_l, sList_t, rngL0, rngL1, rngL2, rngL3, rngL4, rngL5, rngL6, sat_ret, sat_bnd, sat_some, sat_none, sat_fail, bnd_ret, bnd_bnd, bnd_fail, lft_some, lft_none, Option.map_some, Option.map_none, List.map_cons, List.map_nil, List.length_cons, List.length_nil, List.replicate, List.cons_append, List.nil_append, List.append_nil, List.all_cons, List.all_nil, Bool.and_true, Bool.true_and, Bool.and_false, Bool.false_and, Bool.not_false, Bool.not_true, Bool.not_not, Bool.or_true, Bool.true_or, Bool.or_false, Bool.false_or, List.getElem?_cons_succ, List.getElem?_cons_zero, List.getElem?_nil, if_true, if_false, ite_true, ite_false, List.set_cons_succ, List.set_cons_zero, List.set_nil, Int.reduceLT, Int.reduceLE, Int.reduceNeg, Int.reducePow, Int.reduceMul, Int.reduceAdd, Int.reduceSub, Int.reduceToNat, Int.reduceEq, Nat.reduceAdd, Nat.reduceSub, Nat.reduceLeDiff, Nat.reduceLT, Nat.reduceEqDiff, Nat.reduceMul, and_self, and_true, true_and, and_false, false_and, or_true, true_or, or_false, false_or, or_self, reduceIte, Bool.false_eq_true, Bool.true_eq_false, decide_true, decide_false, Option.some.injEq, List.isEmpty_cons, List.isEmpty_nil, reduceCtorEq, ne_eq, not_false_eq_true, not_true_eq_false, List.replicate_zero, Int.reduceMod, sEq_int, sNe_int, rotN_0, rotN_1, rotN_2, rotN_3, bi_t, bi_f, sAdd_i, sAdd_t, sAdd_l, lAdd_l, sSub_i, sMul_i, sMul_t, sMul_l, sMod_i, sFdiv_i, sNeg_i, sLt_i, sLe_i, sGt_i, sGe_i, sIs_n, sIsNot_n, isN_n, isN_i, isN_t, isN_l, isN_s, isN_b, toB_b, toI_i, toD_d, toD_l, toL_l, tTru_n, tTru_b, tTru_i, tTru_l, tTru_t, isT_int, isT_bool, isT_tuple, isT_str, isT_list, sCut_l, sCut_t, sAug_ap, sPop_ap, at1_0, at2_0, at2_1, at3_0, at3_1, at3_2]
    have lt := laying_text_ok (by omega) r1
    have s1 := sNe_self ((sh_str tx.asc).shp (by decide))
    obtain ⟨gl, vl⟩ := gL_lT (n := n) ly.ne fun r hr => ⟨fun e => by have := ly.wide r hr; rw [e] at this; have : 0 = w := this; omega, ly.num r hr⟩
    have ok : okL n (lT rs) = true := by unfold okL; rw [gl, vl, ly.isLay]; rfl
    have rb := read_laying_ok (box := box) (by omega) (tx.mono (by decide))
    rw [bl, ok, vl, if_pos rfl] at rb
    have s2 := sNe_self ((sh_lay rs).shp (by decide))
    have sl := sLenS_ok tx (by decide)
    simp -dsimp (disch := omega) only [jr, List.length_map, lt, s1, okOf_ap, rb, okM_ok, s2, f_read_laying, show sRng1 (.int 8) = some (rng 0 8) from rfl, lim_if, lim_if2, eFz_ap, eVar_ap, eVarQ_ap, eC_ap, e1_ap, e2_ap, l1_ap, l2_ap, aNil_ap, aCons_ap, eTup_ap, lLst_ap, fTru_ap, fB_ap, fNot_ap, fAnd_ap, fOr_ap, eNot_ap, eAnd_ap, eOr_ap, eIf_ap, lIf_ap, oNone_ap, oSome_ap, eCut_ap, lCut_ap, sNext_ap, sBreak_ap, sCont_ap, sIf_ap, sExpr_ap, sRet_ap, sRetL_ap, sRetO_ap, sRetN_ap, bName_ap, bNil_ap, bCons_ap, bTup_ap, bItem_ap, sAsg_ap, sSet_ap, sSetL_ap, sApp_ap, sExt_ap, iSeq_ap, iOwn_ap, l3_ap, sFor_ap, fYes_ap, rNil_ap, rCons_ap, rRaw_ap, eCall_ap, lCall_ap, eCallK_ap, eCh_ap, xNil_ap, xD_ap, xL_ap, sPar_ap, eIs_ap, sSeq_ap, seqM_next, seqM_brk, seqM_cont, seqM_ret, runDef_ap, defM_next, defM_ret, stepM_ap, loopM_next, loopM_cont, loopM_brk, loopM_ret, lcF_ap, lcH_ap, lcM_nil, lcM_cons, lcC_some, lcC_none, limM_ap, lLC_ap, startE, arS, mask, wipeE, noOwn, isOwn, setAll, rtS, sItems_l, sItems_t, lim, sIx_l, sIx_t, sLen_l, sLen_t, sTuple_l, sTuple_t, sList_l, sList_t, rngL0, rngL1, rngL2, rngL3, rngL4, rngL5, rngL6, sat_ret, sat_bnd, sat_some, sat_none, sat_fail, bnd_ret, bnd_bnd, bnd_fail, lft_some, lft_none, Option.map_some, Option.map_none, List.map_cons, List.map_nil, List.length_cons, List.length_nil, List.replicate, List.cons_append, List.nil_append, List.append_nil, List.all_cons, List.all_nil, Bool.and_true, Bool.true_and, Bool.and_false, Bool.false_and, Bool.not_false, Bool.not_true, Bool.not_not, Bool.or_true, Bool.true_or, Bool.or_false, Bool.false_or, List.getElem?_cons_succ, List.getElem?_cons_zero, List.getElem?_nil, if_true, if_false, ite_true, ite_false, List.set_cons_succ, List.set_cons_zero, List.set_nil, Int.reduceLT, Int.reduceLE, Int.reduceNeg, Int.reducePow, Int.reduceMul, Int.reduceAdd, Int.reduceSub, Int.reduceToNat, Int.reduceEq, Nat.reduceAdd, Nat.reduceSub, Nat.reduceLeDiff, Nat.reduceLT, Nat.reduceEqDiff, Nat.reduceMul, and_self, and_true, true_and, and_false, false_and, or_true, true_or, or_false, false_or, or_self, reduceIte, Bool.false_eq_true, Bool.true_eq_false, decide_true, decide_false, Option.some.injEq, List.isEmpty_cons, List.isEmpty_nil, reduceCtorEq, ne_eq, not_false_eq_true, not_true_eq_false, List.replicate_zero, Int.reduceMod, sEq_int, sNe_int, rotN_0, rotN_1, rotN_2, rotN_3, bi_t, bi_f, sAdd_i, sAdd_t, sAdd_l, lAdd_l, sSub_i, sMul_i, sMul_t, sMul_l, sMod_i, sFdiv_i, sNeg_i, sLt_i, sLe_i, sGt_i, sGe_i, sIs_n, sIsNot_n, isN_n, isN_i, isN_t, isN_l, isN_s, isN_b, toB_b, toI_i, toD_d, toD_l, toL_l, tTru_n, tTru_b, tTru_i, tTru_l, tTru_t, isT_int, isT_bool, isT_tuple, isT_str, isT_list, sCut_l, sCut_t, sAug_ap, sPop_ap, at1_0, at2_0, at2_1, at3_0, at3_1, at3_2]
    generalize lT rs = X at tx xl sl
    refine sat_loop (fun i ρ g => ρ = [some (.raw (.ref a)), some (.raw (.ref t)), some (.val d), some (.val (.tuple box)), some (.val (.tuple (qs.map prD))), some (.val (.int (w : Int))), some (.val (.tuple (rs.map rowD))), some (.val (.str (S X))), none, none, none, none, none, none, none, none] ∧ St a t g) ⟨rfl, st⟩ ?_ ?_
    · rintro j d2 ρ g _ ⟨rfl, st⟩
      simp -dsimp only [sl, eFz_ap, eVar_ap, eVarQ_ap, eC_ap, e1_ap, e2_ap, l1_ap, l2_ap, aNil_ap, aCons_ap, eTup_ap, lLst_ap, fTru_ap, fB_ap, fNot_ap, fAnd_ap, fOr_ap, eNot_ap, eAnd_ap, eOr_ap, eIf_ap, lIf_ap, oNone_ap, oSome_ap, eCut_ap, lCut_ap, sNext_ap, sBreak_ap, sCont_ap, sIf_ap, sExpr_ap, sRet_ap, sRetL_ap, sRetO_ap, sRetN_ap, bName_ap, bNil_ap, bCons_ap, bTup_ap, bItem_ap, sAsg_ap, sSet_ap, sSetL_ap, sApp_ap, sExt_ap, iSeq_ap, iOwn_ap, l3_ap, sFor_ap, fYes_ap, rNil_ap, rCons_ap, rRaw_ap, eCall_ap, lCall_ap, eCallK_ap, eCh_ap, xNil_ap, xD_ap, xL_ap, sPar_ap, eIs_ap, sSeq_ap, seqM_next, seqM_brk, seqM_cont, seqM_ret, runDef_ap, defM_next, defM_ret, stepM_ap, loopM_next, loopM_cont, loopM_brk, loopM_ret, lcF_ap, lcH_ap, lcM_nil, lcM_cons, lcC_some, lcC_none, limM_ap, lLC_ap, startE, arS, mask, wipeE, noOwn, isOwn, setAll, rtS, sItems_l, sItems_t, lim, sIx_l, sIx_t, sLen_l, sLen_t, sTuple_l, sTuple_t, sList_l, sList_t, rngL0, rngL1, rngL2, rngL3, rngL4, rngL5, rngL6, sat_ret, sat_bnd, sat_some, sat_none, sat_fail, bnd_ret, bnd_bnd, bnd_fail, lft_some, lft_none, Option.map_some, Option.map_none, List.map_cons, List.map_nil, List.length_cons, List.length_nil, List.replicate, List.cons_append, List.nil_append, List.append_nil, List.all_cons, List.all_nil, Bool.and_true, Bool.true_and, Bool.and_false, Bool.false_and, Bool.not_false, Bool.not_true, Bool.not_not, Bool.or_true, Bool.true_or, Bool.or_false, Bool.false_or, List.getElem?_cons_succ, List.getElem?_cons_zero, List.getElem?_nil, if_true, if_false, ite_true, ite_false, List.set_cons_succ, List.set_cons_zero, List.set_nil, Int.reduceLT, Int.reduceLE, Int.reduceNeg, Int.reducePow, Int.reduceMul, Int.reduceAdd, Int.reduceSub, Int.reduceToNat, Int.reduceEq, Nat.reduceAdd, Nat.reduceSub, Nat.reduceLeDiff, Nat.reduceLT, Nat.reduceEqDiff, Nat.reduceMul, and_self, and_true, true_and, and_false, false_and, or_true, true_or, or_false, false_or, or_self, reduceIte, Bool.false_eq_true, Bool.true_eq_false, decide_true, decide_false, Option.some.injEq, List.isEmpty_cons, List.isEmpty_nil, reduceCtorEq, ne_eq, not_false_eq_true, not_true_eq_false, List.replicate_zero, Int.reduceMod, sEq_int, sNe_int, rotN_0, rotN_1, rotN_2, rotN_3, bi_t, bi_f, sAdd_i, sAdd_t, sAdd_l, lAdd_l, sSub_i, sMul_i, sMul_t, sMul_l, sMod_i, sFdiv_i, sNeg_i, sLt_i, sLe_i, sGt_i, sGe_i, sIs_n, sIsNot_n, isN_n, isN_i, isN_t, isN_l, isN_s, isN_b, toB_b, toI_i, toD_d, toD_l, toL_l, tTru_n, tTru_b, tTru_i, tTru_l, tTru_t, isT_int, isT_bool, isT_tuple, isT_str, isT_list, sCut_l, sCut_t, sAug_ap, sPop_ap, at1_0, at2_0, at2_1, at3_0, at3_1, at3_2]
      refine sat_draw st (by omega) (by omega) fun v g3 v0 v1 st => ?_
      simp -dsimp only [eFz_ap, eVar_ap, eVarQ_ap, eC_ap, e1_ap, e2_ap, l1_ap, l2_ap, aNil_ap, aCons_ap, eTup_ap, lLst_ap, fTru_ap, fB_ap, fNot_ap, fAnd_ap, fOr_ap, eNot_ap, eAnd_ap, eOr_ap, eIf_ap, lIf_ap, oNone_ap, oSome_ap, eCut_ap, lCut_ap, sNext_ap, sBreak_ap, sCont_ap, sIf_ap, sExpr_ap, sRet_ap, sRetL_ap, sRetO_ap, sRetN_ap, bName_ap, bNil_ap, bCons_ap, bTup_ap, bItem_ap, sAsg_ap, sSet_ap, sSetL_ap, sApp_ap, sExt_ap, iSeq_ap, iOwn_ap, l3_ap, sFor_ap, fYes_ap, rNil_ap, rCons_ap, rRaw_ap, eCall_ap, lCall_ap, eCallK_ap, eCh_ap, xNil_ap, xD_ap, xL_ap, sPar_ap, eIs_ap, sSeq_ap, seqM_next, seqM_brk, seqM_cont, seqM_ret, runDef_ap, defM_next, defM_ret, stepM_ap, loopM_next, loopM_cont, loopM_brk, loopM_ret, lcF_ap, lcH_ap, lcM_nil, lcM_cons, lcC_some, lcC_none, limM_ap, lLC_ap, startE, arS, mask, wipeE, noOwn, isOwn, setAll, rtS, sItems_l, sItems_t, lim, sIx_l, sIx_t, sLen_l, sLen_t, sTuple_l, sTuple_t, sList_l, sList_t, rngL0, rngL1, rngL2, rngL3, rngL4, rngL5, rngL6, sat_ret, sat_bnd, sat_some, sat_none, sat_fail, bnd_ret, bnd_bnd, bnd_fail, lft_some, lft_none, Option.map_some, Option.map_none, List.map_cons, List.map_nil, List.length_cons, List.length_nil, List.replicate, List.cons_append, List.nil_append, List.append_nil, List.all_cons, List.all_nil, Bool.and_true, Bool.true_and, Bool.and_false, Bool.false_and, Bool.not_false, Bool.not_true, Bool.not_not, Bool.or_true, Bool.true_or, Bool.or_false, Bool.false_or, List.getElem?_cons_succ, List.getElem?_cons_zero, List.getElem?_nil, if_true, if_false, ite_true, ite_false, List.set_cons_succ, List.set_cons_zero, List.set_nil, Int.reduceLT, Int.reduceLE, Int.reduceNeg, Int.reducePow, Int.reduceMul, Int.reduceAdd, Int.reduceSub, Int.reduceToNat, Int.reduceEq, Nat.reduceAdd, Nat.reduceSub, Nat.reduceLeDiff, Nat.reduceLT, Nat.reduceEqDiff, Nat.reduceMul, and_self, and_true, true_and, and_false, false_and, or_true, true_or, or_false, false_or, or_self, reduceIte, Bool.false_eq_true, Bool.true_eq_false, decide_true, decide_false, Option.some.injEq, List.isEmpty_cons, List.isEmpty_nil, reduceCtorEq, ne_eq, not_false_eq_true, not_true_eq_false, List.replicate_zero, Int.reduceMod, sEq_int, sNe_int, rotN_0, rotN_1, rotN_2, rotN_3, bi_t, bi_f, sAdd_i, sAdd_t, sAdd_l, lAdd_l, sSub_i, sMul_i, sMul_t, sMul_l, sMod_i, sFdiv_i, sNeg_i, sLt_i, sLe_i, sGt_i, sGe_i, sIs_n, sIsNot_n, isN_n, isN_i, isN_t, isN_l, isN_s, isN_b, toB_b, toI_i, toD_d, toD_l, toL_l, tTru_n, tTru_b, tTru_i, tTru_l, tTru_t, isT_int, isT_bool, isT_tuple, isT_str, isT_list, sCut_l, sCut_t, sAug_ap, sPop_ap, at1_0, at2_0, at2_1, at3_0, at3_1, at3_2]
      refine sat_draw st (by decide) (by decide) fun u g4 u0 u1 st => ?_
      obtain ⟨c, c1, c2⟩ := sign_at2 u0 u1
      have t1 := sCutS_to tx (by decide) v0
      have t2 := sCutS_from tx (by decide) v0
      have t3 := sCutS_from tx (by decide) (i := v + 1) (by omega)
      have xc : Tx 1 [c] := ⟨fun z hz => by cases List.mem_singleton.mp hz; exact c1, Nat.le_refl _⟩
      have x1 := tx.take (k := v.toNat)
      have x2 := tx.drop (k := v.toNat)
      have x3 := tx.drop (k := (v + 1).toNat)
      have a1 := sAddS_ok x1 xc (by decide) (by decide)
      have a2 := sAddS_ok (x1.app xc) x2 (by decide) (by decide)
      have a3 := sAddS_ok x1 x3 (by decide) (by decide)
      have a4 := sAddS_ok (x1.app xc) x3 (by decide) (by decide)
      have z1 : Tx 90 (X.take v.toNat ++ [c] ++ X.drop v.toNat) := ⟨((x1.app xc).app x2).asc, by rw [List.length_append, List.length_append, List.length_take, List.length_drop, List.length_cons, List.length_nil]; omega⟩
      have z2 : Tx 90 (X.take v.toNat ++ X.drop (v + 1).toNat) := ⟨(x1.app x3).asc, by rw [List.length_append, List.length_take, List.length_drop]; omega⟩
      have z3 : Tx 90 (X.take v.toNat ++ [c] ++ X.drop (v + 1).toNat) := ⟨((x1.app xc).app x3).asc, by rw [List.length_append, List.length_append, List.length_take, List.length_drop, List.length_cons, List.length_nil]; omega⟩
      have y1 := heard_read2 (box := box) (by omega) z1
      have y2 := heard_read2 (box := box) (by omega) z2
      have y3 := heard_read2 (box := box) (by omega) z3
      have m1 := meant2_ok (box := box) (by omega) z1
      have m2 := meant2_ok (box := box) (by omega) z2
      have m3 := meant2_ok (box := box) (by omega) z3
      have q := fun x => sNe_self (sh_meant2 box.length x)
      simp -dsimp only [eCutS_ap, c2, t1, t2, t3, a1, a2, a3, a4, sLoop_cons, sLoop_nil, eHeard_ap, eCallKX_ap, kb_read_laying_1_text_g, y1, y2, y3, m1, m2, m3, q, loopQ, eFz_ap, eVar_ap, eVarQ_ap, eC_ap, e1_ap, e2_ap, l1_ap, l2_ap, aNil_ap, aCons_ap, eTup_ap, lLst_ap, fTru_ap, fB_ap, fNot_ap, fAnd_ap, fOr_ap, eNot_ap, eAnd_ap, eOr_ap, eIf_ap, lIf_ap, oNone_ap, oSome_ap, eCut_ap, lCut_ap, sNext_ap, sBreak_ap, sCont_ap, sIf_ap, sExpr_ap, sRet_ap, sRetL_ap, sRetO_ap, sRetN_ap, bName_ap, bNil_ap, bCons_ap, bTup_ap, bItem_ap, sAsg_ap, sSet_ap, sSetL_ap, sApp_ap, sExt_ap, iSeq_ap, iOwn_ap, l3_ap, sFor_ap, fYes_ap, rNil_ap, rCons_ap, rRaw_ap, eCall_ap, lCall_ap, eCallK_ap, eCh_ap, xNil_ap, xD_ap, xL_ap, sPar_ap, eIs_ap, sSeq_ap, seqM_next, seqM_brk, seqM_cont, seqM_ret, runDef_ap, defM_next, defM_ret, stepM_ap, loopM_next, loopM_cont, loopM_brk, loopM_ret, lcF_ap, lcH_ap, lcM_nil, lcM_cons, lcC_some, lcC_none, limM_ap, lLC_ap, startE, arS, mask, wipeE, noOwn, isOwn, setAll, rtS, sItems_l, sItems_t, lim, sIx_l, sIx_t, sLen_l, sLen_t, sTuple_l, sTuple_t, sList_l, sList_t, rngL0, rngL1, rngL2, rngL3, rngL4, rngL5, rngL6, sat_ret, sat_bnd, sat_some, sat_none, sat_fail, bnd_ret, bnd_bnd, bnd_fail, lft_some, lft_none, Option.map_some, Option.map_none, List.map_cons, List.map_nil, List.length_cons, List.length_nil, List.replicate, List.cons_append, List.nil_append, List.append_nil, List.all_cons, List.all_nil, Bool.and_true, Bool.true_and, Bool.and_false, Bool.false_and, Bool.not_false, Bool.not_true, Bool.not_not, Bool.or_true, Bool.true_or, Bool.or_false, Bool.false_or, List.getElem?_cons_succ, List.getElem?_cons_zero, List.getElem?_nil, if_true, if_false, ite_true, ite_false, List.set_cons_succ, List.set_cons_zero, List.set_nil, Int.reduceLT, Int.reduceLE, Int.reduceNeg, Int.reducePow, Int.reduceMul, Int.reduceAdd, Int.reduceSub, Int.reduceToNat, Int.reduceEq, Nat.reduceAdd, Nat.reduceSub, Nat.reduceLeDiff, Nat.reduceLT, Nat.reduceEqDiff, Nat.reduceMul, and_self, and_true, true_and, and_false, false_and, or_true, true_or, or_false, false_or, or_self, reduceIte, Bool.false_eq_true, Bool.true_eq_false, decide_true, decide_false, Option.some.injEq, List.isEmpty_cons, List.isEmpty_nil, reduceCtorEq, ne_eq, not_false_eq_true, not_true_eq_false, List.replicate_zero, Int.reduceMod, sEq_int, sNe_int, rotN_0, rotN_1, rotN_2, rotN_3, bi_t, bi_f, sAdd_i, sAdd_t, sAdd_l, lAdd_l, sSub_i, sMul_i, sMul_t, sMul_l, sMod_i, sFdiv_i, sNeg_i, sLt_i, sLe_i, sGt_i, sGe_i, sIs_n, sIsNot_n, isN_n, isN_i, isN_t, isN_l, isN_s, isN_b, toB_b, toI_i, toD_d, toD_l, toL_l, tTru_n, tTru_b, tTru_i, tTru_l, tTru_t, isT_int, isT_bool, isT_tuple, isT_str, isT_list, sCut_l, sCut_t, sAug_ap, sPop_ap, at1_0, at2_0, at2_1, at3_0, at3_1, at3_2]
      exact st
    · rintro ρ g ⟨rfl, st⟩
      simp -dsimp only [loopQ, lawE, eFz_ap, eVar_ap, eVarQ_ap, eC_ap, e1_ap, e2_ap, l1_ap, l2_ap, aNil_ap, aCons_ap, eTup_ap, lLst_ap, fTru_ap, fB_ap, fNot_ap, fAnd_ap, fOr_ap, eNot_ap, eAnd_ap, eOr_ap, eIf_ap, lIf_ap, oNone_ap, oSome_ap, eCut_ap, lCut_ap, sNext_ap, sBreak_ap, sCont_ap, sIf_ap, sExpr_ap, sRet_ap, sRetL_ap, sRetO_ap, sRetN_ap, bName_ap, bNil_ap, bCons_ap, bTup_ap, bItem_ap, sAsg_ap, sSet_ap, sSetL_ap, sApp_ap, sExt_ap, iSeq_ap, iOwn_ap, l3_ap, sFor_ap, fYes_ap, rNil_ap, rCons_ap, rRaw_ap, eCall_ap, lCall_ap, eCallK_ap, eCh_ap, xNil_ap, xD_ap, xL_ap, sPar_ap, eIs_ap, sSeq_ap, seqM_next, seqM_brk, seqM_cont, seqM_ret, runDef_ap, defM_next, defM_ret, stepM_ap, loopM_next, loopM_cont, loopM_brk, loopM_ret, lcF_ap, lcH_ap, lcM_nil, lcM_cons, lcC_some, lcC_none, limM_ap, lLC_ap, startE, arS, mask, wipeE, noOwn, isOwn, setAll, rtS, sItems_l, sItems_t, lim, sIx_l, sIx_t, sLen_l, sLen_t, sTuple_l, sTuple_t, sList_l, sList_t, rngL0, rngL1, rngL2, rngL3, rngL4, rngL5, rngL6, sat_ret, sat_bnd, sat_some, sat_none, sat_fail, bnd_ret, bnd_bnd, bnd_fail, lft_some, lft_none, Option.map_some, Option.map_none, List.map_cons, List.map_nil, List.length_cons, List.length_nil, List.replicate, List.cons_append, List.nil_append, List.append_nil, List.all_cons, List.all_nil, Bool.and_true, Bool.true_and, Bool.and_false, Bool.false_and, Bool.not_false, Bool.not_true, Bool.not_not, Bool.or_true, Bool.true_or, Bool.or_false, Bool.false_or, List.getElem?_cons_succ, List.getElem?_cons_zero, List.getElem?_nil, if_true, if_false, ite_true, ite_false, List.set_cons_succ, List.set_cons_zero, List.set_nil, Int.reduceLT, Int.reduceLE, Int.reduceNeg, Int.reducePow, Int.reduceMul, Int.reduceAdd, Int.reduceSub, Int.reduceToNat, Int.reduceEq, Nat.reduceAdd, Nat.reduceSub, Nat.reduceLeDiff, Nat.reduceLT, Nat.reduceEqDiff, Nat.reduceMul, and_self, and_true, true_and, and_false, false_and, or_true, true_or, or_false, false_or, or_self, reduceIte, Bool.false_eq_true, Bool.true_eq_false, decide_true, decide_false, Option.some.injEq, List.isEmpty_cons, List.isEmpty_nil, reduceCtorEq, ne_eq, not_false_eq_true, not_true_eq_false, List.replicate_zero, Int.reduceMod, sEq_int, sNe_int, rotN_0, rotN_1, rotN_2, rotN_3, bi_t, bi_f, sAdd_i, sAdd_t, sAdd_l, lAdd_l, sSub_i, sMul_i, sMul_t, sMul_l, sMod_i, sFdiv_i, sNeg_i, sLt_i, sLe_i, sGt_i, sGe_i, sIs_n, sIsNot_n, isN_n, isN_i, isN_t, isN_l, isN_s, isN_b, toB_b, toI_i, toD_d, toD_l, toL_l, tTru_n, tTru_b, tTru_i, tTru_l, tTru_t, isT_int, isT_bool, isT_tuple, isT_str, isT_list, sCut_l, sCut_t, sAug_ap, sPop_ap, at1_0, at2_0, at2_1, at3_0, at3_1, at3_2]
      exact st
  · rintro ρ g ⟨rfl, st⟩
    have b0 := bad_read2 (z := "") (y := []) (by kernel_rfl) (by decide)
    have b1 := bad_read2 (z := "0") (y := [48]) (by kernel_rfl) (by decide)
    have b2 := bad_read2 (z := "0.") (y := [48, 46]) (by kernel_rfl) (by decide)
    have b3 := bad_read2 (z := ".0") (y := [46, 48]) (by kernel_rfl) (by decide)
    have b4 := bad_read2 (z := "0.4") (y := [48, 46, 52]) (by kernel_rfl) (by decide)
    have b5 := bad_read2 (z := "1.0") (y := [49, 46, 48]) (by kernel_rfl) (by decide)
    have b6 := bad_read2 (z := "0.0.0") (y := [48, 46, 48, 46, 48]) (by kernel_rfl) (by decide)
    have b7 := bad_read2 (z := "00.0") (y := [48, 48, 46, 48]) (by kernel_rfl) (by decide)
    have b8 := bad_read2 (z := "0.00") (y := [48, 46, 48, 48]) (by kernel_rfl) (by decide)
    have b9 := bad_read2 (z := "0.0 ") (y := [48, 46, 48, 32]) (by kernel_rfl) (by decide)
    have b10 := bad_read2 (z := "0.0/") (y := [48, 46, 48, 47]) (by kernel_rfl) (by decide)
    have b11 := bad_read2 (z := "0.0/0.1") (y := [48, 46, 48, 47, 48, 46, 49]) (by kernel_rfl) (by decide)
    have b12 := bad_read2 (z := "0,0") (y := [48, 44, 48]) (by kernel_rfl) (by decide)
    have b13 := bad_read2 (z := "-0.0") (y := [45, 48, 46, 48]) (by kernel_rfl) (by decide)
    have b14 := bad_read2 (z := "0.-0") (y := [48, 46, 45, 48]) (by kernel_rfl) (by decide)
    have se : sEq (.list [.tuple [.str "no text"], .tuple [.str "no text"], .tuple [.str "no text"], .tuple [.str "no text"], .tuple [.str "no text"], .tuple [.str "no text"], .tuple [.str "no text"], .tuple [.str "no text"], .tuple [.str "no text"], .tuple [.str "no text"], .tuple [.str "no text"], .tuple [.str "no text"], .tuple [.str "no text"], .tuple [.str "no text"], .tuple [.str "no text"]]) (.list [.tuple [.str "no text"], .tuple [.str "no text"], .tuple [.str "no text"], .tuple [.str "no text"], .tuple [.str "no text"], .tuple [.str "no text"], .tuple [.str "no text"], .tuple [.str "no text"], .tuple [.str "no text"], .tuple [.str "no text"], .tuple [.str "no text"], .tuple [.str "no text"], .tuple [.str "no text"], .tuple [.str "no text"], .tuple [.str "no text"]]) = some (.bool true) := sEq_self (by kernel_rfl)
    simp -dsimp only [lawE, eHeard_ap, eCallX_ap, b0, b1, b2, b3, b4, b5, b6, b7, b8, b9, b10, b11, b12, b13, b14, toRd_exc, heard_text, se, eFz_ap, eVar_ap, eVarQ_ap, eC_ap, e1_ap, e2_ap, l1_ap, l2_ap, aNil_ap, aCons_ap, eTup_ap, lLst_ap, fTru_ap, fB_ap, fNot_ap, fAnd_ap, fOr_ap, eNot_ap, eAnd_ap, eOr_ap, eIf_ap, lIf_ap, oNone_ap, oSome_ap, eCut_ap, lCut_ap, sNext_ap, sBreak_ap, sCont_ap, sIf_ap, sExpr_ap, sRet_ap, sRetL_ap, sRetO_ap, sRetN_ap, bName_ap, bNil_ap, bCons_ap, bTup_ap, bItem_ap, sAsg_ap, sSet_ap, sSetL_ap, sApp_ap, sExt_ap, iSeq_ap, iOwn_ap, l3_ap, sFor_ap, fYes_ap, rNil_ap, rCons_ap, rRaw_ap, eCall_ap, lCall_ap, eCallK_ap, eCh_ap, xNil_ap, xD_ap, xL_ap, sPar_ap, eIs_ap, sSeq_ap, seqM_next, seqM_brk, seqM_cont, seqM_ret, runDef_ap, defM_next, defM_ret, stepM_ap, loopM_next, loopM_cont, loopM_brk, loopM_ret, lcF_ap, lcH_ap, lcM_nil, lcM_cons, lcC_some, lcC_none, limM_ap, lLC_ap, startE, arS, mask, wipeE, noOwn, isOwn, setAll, rtS, sItems_l, sItems_t, lim, sIx_l, sIx_t, sLen_l, sLen_t, sTuple_l, sTuple_t, sList_l, sList_t, rngL0, rngL1, rngL2, rngL3, rngL4, rngL5, rngL6, sat_ret, sat_bnd, sat_some, sat_none, sat_fail, bnd_ret, bnd_bnd, bnd_fail, lft_some, lft_none, Option.map_some, Option.map_none, List.map_cons, List.map_nil, List.length_cons, List.length_nil, List.replicate, List.cons_append, List.nil_append, List.append_nil, List.all_cons, List.all_nil, Bool.and_true, Bool.true_and, Bool.and_false, Bool.false_and, Bool.not_false, Bool.not_true, Bool.not_not, Bool.or_true, Bool.true_or, Bool.or_false, Bool.false_or, List.getElem?_cons_succ, List.getElem?_cons_zero, List.getElem?_nil, if_true, if_false, ite_true, ite_false, List.set_cons_succ, List.set_cons_zero, List.set_nil, Int.reduceLT, Int.reduceLE, Int.reduceNeg, Int.reducePow, Int.reduceMul, Int.reduceAdd, Int.reduceSub, Int.reduceToNat, Int.reduceEq, Nat.reduceAdd, Nat.reduceSub, Nat.reduceLeDiff, Nat.reduceLT, Nat.reduceEqDiff, Nat.reduceMul, and_self, and_true, true_and, and_false, false_and, or_true, true_or, or_false, false_or, or_self, reduceIte, Bool.false_eq_true, Bool.true_eq_false, decide_true, decide_false, Option.some.injEq, List.isEmpty_cons, List.isEmpty_nil, reduceCtorEq, ne_eq, not_false_eq_true, not_true_eq_false, List.replicate_zero, Int.reduceMod, sEq_int, sNe_int, rotN_0, rotN_1, rotN_2, rotN_3, bi_t, bi_f, sAdd_i, sAdd_t, sAdd_l, lAdd_l, sSub_i, sMul_i, sMul_t, sMul_l, sMod_i, sFdiv_i, sNeg_i, sLt_i, sLe_i, sGt_i, sGe_i, sIs_n, sIsNot_n, isN_n, isN_i, isN_t, isN_l, isN_s, isN_b, toB_b, toI_i, toD_d, toD_l, toL_l, tTru_n, tTru_b, tTru_i, tTru_l, tTru_t, isT_int, isT_bool, isT_tuple, isT_str, isT_list, sCut_l, sCut_t, sAug_ap, sPop_ap, at1_0, at2_0, at2_1, at3_0, at3_1, at3_2]
end Dt
namespace My
open PySem PySem.Spec L2 Dt
def topS (i : Nat) : Stmt := PySem.Challenge.pw_edgepieces_k34_laying_texts.main.body.getD i (.Pass ⟨0, 0, 0, 0⟩)
abbrev s_is_whole_number : Stmt := topS 11
theorem sc_is_whole_number : FnScope ["thing", "low", "high"] ["thing", "low", "high"] (defScope s_is_whole_number) := ⟨rfl, rfl, rfl, by decide +kernel, rfl, by decide +kernel, by decide +kernel⟩
abbrev s_is_entry : Stmt := topS 13
theorem sc_is_entry : FnScope ["box", "thing"] ["box", "thing"] (defScope s_is_entry) := ⟨rfl, rfl, rfl, by decide +kernel, rfl, by decide +kernel, by decide +kernel⟩
abbrev s_is_row : Stmt := topS 14
theorem sc_is_row : FnScope ["box", "thing", "entry"] ["box", "thing"] (defScope s_is_row) := ⟨rfl, rfl, rfl, by decide +kernel, rfl, by decide +kernel, by decide +kernel⟩
abbrev s_entries_of : Stmt := topS 15
theorem sc_entries_of : FnScope ["laying", "found", "row"] ["laying"] (defScope s_entries_of) := ⟨rfl, rfl, rfl, by decide +kernel, rfl, by decide +kernel, by decide +kernel⟩
abbrev s_is_laying : Stmt := topS 16
theorem sc_is_laying : FnScope ["box", "thing", "numbers", "row", "number", "times"] ["box", "thing"] (defScope s_is_laying) := ⟨rfl, rfl, rfl, by decide +kernel, rfl, by decide +kernel, by decide +kernel⟩
abbrev s_number_of : Stmt := topS 18
theorem sc_number_of : FnScope ["word", "figures", "sign"] ["word"] (defScope s_number_of) := ⟨rfl, rfl, rfl, by decide +kernel, rfl, by decide +kernel, by decide +kernel⟩
abbrev s_laying_text : Stmt := topS 19
theorem sc_laying_text : FnScope ["laying", "row", "number", "times"] ["laying"] (defScope s_laying_text) := ⟨rfl, rfl, rfl, by decide +kernel, rfl, by decide +kernel, by decide +kernel⟩
abbrev s_read_laying : Stmt := topS 20
theorem sc_read_laying : FnScope ["box", "text", "found", "row", "part", "word"] ["box", "text"] (defScope s_read_laying) := ⟨rfl, rfl, rfl, by decide +kernel, rfl, by decide +kernel, by decide +kernel⟩
abbrev s_l_draw : Stmt := topS 22
theorem sc_l_draw : FnScope ["script", "town", "many", "at", "rest", "number"] ["script", "town", "many"] (defScope s_l_draw) := ⟨rfl, rfl, rfl, by decide +kernel, rfl, by decide +kernel, by decide +kernel⟩
abbrev s_l_begun : Stmt := topS 23
theorem sc_l_begun : FnScope [] [] (defScope s_l_begun) := ⟨rfl, rfl, rfl, by decide +kernel, rfl, by decide +kernel, by decide +kernel⟩
abbrev s_l_a_piece : Stmt := topS 24
theorem sc_l_a_piece : FnScope ["script", "town", "far", "found", "k", "some_edge"] ["script", "town"] (defScope s_l_a_piece) := ⟨rfl, rfl, rfl, by decide +kernel, rfl, by decide +kernel, by decide +kernel⟩
abbrev s_l_an_order : Stmt := topS 25
theorem sc_l_an_order : FnScope ["script", "town", "many", "left", "found", "k", "which"] ["script", "town", "many"] (defScope s_l_an_order) := ⟨rfl, rfl, rfl, by decide +kernel, rfl, by decide +kernel, by decide +kernel⟩
abbrev s_l_class : Stmt := topS 26
theorem sc_l_class : FnScope ["kept", "kinds"] ["kept"] (defScope s_l_class) := ⟨rfl, rfl, rfl, by decide +kernel, rfl, by decide +kernel, by decide +kernel⟩
abbrev s_l_heard : Stmt := topS 27
theorem sc_l_heard : FnScope ["deed", "kept", "found", "e", "kind"] ["deed"] (defScope s_l_heard) := ⟨rfl, rfl, rfl, by decide +kernel, rfl, by decide +kernel, by decide +kernel⟩
abbrev s_l_meant : Stmt := topS 28
theorem sc_l_meant : FnScope ["some", "line", "words", "rows", "found", "at", "row", "word"] ["some", "line"] (defScope s_l_meant) := ⟨rfl, rfl, rfl, by decide +kernel, rfl, by decide +kernel, by decide +kernel⟩
abbrev s_law : Stmt := topS 29
theorem sc_law : FnScope ["script", "town", "k", "some", "pairs", "wide", "lines", "line", "j", "at", "sign", "other", "one", "bad", "row", "often"] ["script"] (defScope s_law) := ⟨rfl, rfl, rfl, by decide +kernel, rfl, by decide +kernel, by decide +kernel⟩
structure Ad where
  a_is_whole_number : Addr
  d_is_whole_number : FuncData
  a_is_entry : Addr
  d_is_entry : FuncData
  a_is_row : Addr
  d_is_row : FuncData
  a_entries_of : Addr
  d_entries_of : FuncData
  a_is_laying : Addr
  d_is_laying : FuncData
  a_number_of : Addr
  d_number_of : FuncData
  a_laying_text : Addr
  d_laying_text : FuncData
  a_read_laying : Addr
  d_read_laying : FuncData
  a_l_draw : Addr
  d_l_draw : FuncData
  a_l_begun : Addr
  d_l_begun : FuncData
  a_l_a_piece : Addr
  d_l_a_piece : FuncData
  a_l_an_order : Addr
  d_l_an_order : FuncData
  a_l_class : Addr
  d_l_class : FuncData
  a_l_heard : Addr
  d_l_heard : FuncData
  a_l_meant : Addr
  d_l_meant : FuncData
  a_law : Addr
  d_law : FuncData
  c_Alone : Addr
  c_EdgeError : Addr
  c_Joined : Addr
  c_NoBack : Addr
  c_NoFit : Addr
  c_NoPiece : Addr
  c_NoRoom : Addr
  c_NoRows : Addr
  c_NoText : Addr
  c_law : Addr
  t_law : Addr
abbrev tabs (a : Ad) : List (Addr × Str) := [(a.t_law, ("law" : Str) ++ ".<locals>." ++ "<lambda>")]
abbrev clss (a : Ad) : Str → Option Addr := fun s => if s = "NoText" then some a.c_NoText else none
theorem cl_NoText {a : Ad} : clss a "NoText" = some a.c_NoText := by simp [clss]
theorem tabs_in (a : Ad) : (a.t_law, ("law" : Str) ++ ".<locals>." ++ "<lambda>") ∈ tabs a := List.mem_singleton.mpr rfl
theorem tabs_un (a : Ad) : ∀ p ∈ tabs a, p.1 = a.t_law → p.2 = ("law" : Str) ++ ".<locals>." ++ "<lambda>" := fun p hp _ => by rw [List.mem_singleton.mp hp]
structure Tx (K : PySem.W.Frag) (mg : Str → Option Value) (a : Ad) : Prop where
  D_is_whole_number : DFn K "is_whole_number" "is_whole_number" s_is_whole_number [] a.a_is_whole_number a.d_is_whole_number
  g_is_whole_number : mg "is_whole_number" = some (.ref a.a_is_whole_number)
  D_is_entry : DFn K "is_entry" "is_entry" s_is_entry [] a.a_is_entry a.d_is_entry
  g_is_entry : mg "is_entry" = some (.ref a.a_is_entry)
  D_is_row : DFn K "is_row" "is_row" s_is_row [] a.a_is_row a.d_is_row
  g_is_row : mg "is_row" = some (.ref a.a_is_row)
  D_entries_of : DFn K "entries_of" "entries_of" s_entries_of [] a.a_entries_of a.d_entries_of
  g_entries_of : mg "entries_of" = some (.ref a.a_entries_of)
  D_is_laying : DFn K "is_laying" "is_laying" s_is_laying [] a.a_is_laying a.d_is_laying
  g_is_laying : mg "is_laying" = some (.ref a.a_is_laying)
  D_number_of : DFn K "number_of" "number_of" s_number_of [] a.a_number_of a.d_number_of
  g_number_of : mg "number_of" = some (.ref a.a_number_of)
  D_laying_text : DFn K "laying_text" "laying_text" s_laying_text [] a.a_laying_text a.d_laying_text
  g_laying_text : mg "laying_text" = some (.ref a.a_laying_text)
  D_read_laying : DFn K "read_laying" "read_laying" s_read_laying [] a.a_read_laying a.d_read_laying
  g_read_laying : mg "read_laying" = some (.ref a.a_read_laying)
  D_l_draw : DFn K "_law_draw" "_law_draw" s_l_draw [] a.a_l_draw a.d_l_draw
  g_l_draw : mg "_law_draw" = some (.ref a.a_l_draw)
  D_l_begun : DFn K "_law_begun" "_law_begun" s_l_begun [] a.a_l_begun a.d_l_begun
  g_l_begun : mg "_law_begun" = some (.ref a.a_l_begun)
  D_l_a_piece : DFn K "_law_a_piece" "_law_a_piece" s_l_a_piece [] a.a_l_a_piece a.d_l_a_piece
  g_l_a_piece : mg "_law_a_piece" = some (.ref a.a_l_a_piece)
  D_l_an_order : DFn K "_law_an_order" "_law_an_order" s_l_an_order [] a.a_l_an_order a.d_l_an_order
  g_l_an_order : mg "_law_an_order" = some (.ref a.a_l_an_order)
  D_l_class : DFn K "_law_class" "_law_class" s_l_class [] a.a_l_class a.d_l_class
  g_l_class : mg "_law_class" = some (.ref a.a_l_class)
  D_l_heard : DFn K "_law_heard" "_law_heard" s_l_heard [] a.a_l_heard a.d_l_heard
  g_l_heard : mg "_law_heard" = some (.ref a.a_l_heard)
  D_l_meant : DFn K "_law_meant" "_law_meant" s_l_meant [] a.a_l_meant a.d_l_meant
  g_l_meant : mg "_law_meant" = some (.ref a.a_l_meant)
  D_law : DFn K "law" "law" s_law [] a.a_law a.d_law
  g_law : mg "law" = some (.ref a.a_law)
  m_ValueError : mg "ValueError" = none
  m_all : mg "all" = none
  m_bool : mg "bool" = none
  m_dict : mg "dict" = none
  m_int : mg "int" = none
  m_isinstance : mg "isinstance" = none
  m_len : mg "len" = none
  m_list : mg "list" = none
  m_min : mg "min" = none
  m_range : mg "range" = none
  m_set : mg "set" = none
  m_str : mg "str" = none
  m_tuple : mg "tuple" = none
  g_Alone : mg "Alone" = some (.ref a.c_Alone)
  g_EdgeError : mg "EdgeError" = some (.ref a.c_EdgeError)
  g_Joined : mg "Joined" = some (.ref a.c_Joined)
  g_NoBack : mg "NoBack" = some (.ref a.c_NoBack)
  g_NoFit : mg "NoFit" = some (.ref a.c_NoFit)
  g_NoPiece : mg "NoPiece" = some (.ref a.c_NoPiece)
  g_NoRoom : mg "NoRoom" = some (.ref a.c_NoRoom)
  g_NoRows : mg "NoRows" = some (.ref a.c_NoRows)
  g_NoText : mg "NoText" = some (.ref a.c_NoText)
  e_NoText : PySem.W.excIn K a.c_NoText [.type "ValueError", .type "Exception", .type "BaseException", .type "object"] "ValueError.__new__" = true
  kc_NoText : PySem.W.keepIn K (.ref a.c_NoText) = true
  s_NoText : PySem.W.subIn K (.ref a.c_NoText) (.type "BaseException") = some true
  ty_NoText : PySem.W.typeIn K (.ref a.c_NoText) = some (.type "type")
  x_NoText : ExcC K a.c_NoText
  xm_NoText : PySem.W.exmOne K (.ref a.c_NoText) (.ref a.c_EdgeError) = some true
  k_NoText_Alone : PySem.W.kitOne K (.ref a.c_NoText) (.ref a.c_Alone) = some (subX "NoText" "Alone")
  k_NoText_Joined : PySem.W.kitOne K (.ref a.c_NoText) (.ref a.c_Joined) = some (subX "NoText" "Joined")
  k_NoText_NoBack : PySem.W.kitOne K (.ref a.c_NoText) (.ref a.c_NoBack) = some (subX "NoText" "NoBack")
  k_NoText_NoFit : PySem.W.kitOne K (.ref a.c_NoText) (.ref a.c_NoFit) = some (subX "NoText" "NoFit")
  k_NoText_NoPiece : PySem.W.kitOne K (.ref a.c_NoText) (.ref a.c_NoPiece) = some (subX "NoText" "NoPiece")
  k_NoText_NoRoom : PySem.W.kitOne K (.ref a.c_NoText) (.ref a.c_NoRoom) = some (subX "NoText" "NoRoom")
  k_NoText_NoRows : PySem.W.kitOne K (.ref a.c_NoText) (.ref a.c_NoRows) = some (subX "NoText" "NoRows")
  k_NoText_NoText : PySem.W.kitOne K (.ref a.c_NoText) (.ref a.c_NoText) = some (subX "NoText" "NoText")
  k_NoText_ValueError : PySem.W.kitOne K (.ref a.c_NoText) (.type "ValueError") = some (subX "NoText" "ValueError")
  L_law : ∃ (oc : Value) (od an : Option Addr) (osl : Array (Option Value)) (dV kV doc pm ct : Value), a.d_law = PySem.W.fnOf "law" "law" (defArgs s_law) (defBody s_law) (defScope s_law) dV kV doc pm an (.ref a.c_law) ct ∧ K.lookup a.a_law = some ⟨oc, od, .func a.d_law, osl⟩ ∧ PySem.W.codeIn K (.ref a.c_law) "law" = true
section
variable {P : Program} {w : World} {K : PySem.W.Frag} {mg : Str → Option Value} {base : Heap} {a : Ad}
theorem b_is_whole_number (T : Tx K mg a) : Binds K a.d_is_whole_number ["thing", "low", "high"] [] := T.D_is_whole_number.bindsN fun _ _ _ _ _ _ us hl => match us, hl with | [_, _, _], _ => rfl
theorem b_is_entry (T : Tx K mg a) : Binds K a.d_is_entry ["box", "thing"] [] := T.D_is_entry.bindsN fun _ _ _ _ _ _ us hl => match us, hl with | [_, _], _ => rfl
theorem b_is_row (T : Tx K mg a) : Binds K a.d_is_row ["box", "thing"] [] := T.D_is_row.bindsN fun _ _ _ _ _ _ us hl => match us, hl with | [_, _], _ => rfl
theorem b_entries_of (T : Tx K mg a) : Binds K a.d_entries_of ["laying"] [] := T.D_entries_of.bindsN fun _ _ _ _ _ _ us hl => match us, hl with | [_], _ => rfl
theorem b_is_laying (T : Tx K mg a) : Binds K a.d_is_laying ["box", "thing"] [] := T.D_is_laying.bindsN fun _ _ _ _ _ _ us hl => match us, hl with | [_, _], _ => rfl
theorem b_number_of (T : Tx K mg a) : Binds K a.d_number_of ["word"] [] := T.D_number_of.bindsN fun _ _ _ _ _ _ us hl => match us, hl with | [_], _ => rfl
theorem b_laying_text (T : Tx K mg a) : Binds K a.d_laying_text ["laying"] [] := T.D_laying_text.bindsN fun _ _ _ _ _ _ us hl => match us, hl with | [_], _ => rfl
theorem b_read_laying (T : Tx K mg a) : Binds K a.d_read_laying ["box", "text"] [] := T.D_read_laying.bindsN fun _ _ _ _ _ _ us hl => match us, hl with | [_, _], _ => rfl
theorem b_l_draw (T : Tx K mg a) : Binds K a.d_l_draw ["script", "town", "many"] [] := T.D_l_draw.bindsN fun _ _ _ _ _ _ us hl => match us, hl with | [_, _, _], _ => rfl
theorem b_l_begun (T : Tx K mg a) : Binds K a.d_l_begun [] [] := T.D_l_begun.bindsN fun _ _ _ _ _ _ us hl => match us, hl with | [], _ => rfl
theorem b_l_a_piece (T : Tx K mg a) : Binds K a.d_l_a_piece ["script", "town"] [] := T.D_l_a_piece.bindsN fun _ _ _ _ _ _ us hl => match us, hl with | [_, _], _ => rfl
theorem b_l_an_order (T : Tx K mg a) : Binds K a.d_l_an_order ["script", "town", "many"] [] := T.D_l_an_order.bindsN fun _ _ _ _ _ _ us hl => match us, hl with | [_, _, _], _ => rfl
theorem b_l_class (T : Tx K mg a) : Binds K a.d_l_class ["kept"] [] := T.D_l_class.bindsN fun _ _ _ _ _ _ us hl => match us, hl with | [_], _ => rfl
theorem b_l_heard (T : Tx K mg a) : Binds K a.d_l_heard ["deed"] [] := T.D_l_heard.bindsN fun _ _ _ _ _ _ us hl => match us, hl with | [_], _ => rfl
theorem b_l_meant (T : Tx K mg a) : Binds K a.d_l_meant ["some", "line"] [] := T.D_l_meant.bindsN fun _ _ _ _ _ _ us hl => match us, hl with | [_, _], _ => rfl
theorem b_ValueError : bootBuiltins "ValueError" = some (.type "ValueError") := by decide +kernel
theorem ck_Alone (T : Tx K mg a) : ClsOk K (clss a) "Alone" (.ref a.c_Alone) := by
  refine ⟨fun c C h => ?_, fun c C h => ?_⟩
  · have h0 := h
    simp only [clss] at h
    by_cases e : c = "NoText"
    · subst e; rw [cl_NoText] at h0; cases h0; exact T.x_NoText
    rw [if_neg e] at h
    cases h
  · have h0 := h
    simp only [clss] at h
    by_cases e : c = "NoText"
    · subst e; rw [cl_NoText] at h0; cases h0; exact T.k_NoText_Alone
    rw [if_neg e] at h
    cases h
theorem ck_Joined (T : Tx K mg a) : ClsOk K (clss a) "Joined" (.ref a.c_Joined) := by
  refine ⟨fun c C h => ?_, fun c C h => ?_⟩
  · have h0 := h
    simp only [clss] at h
    by_cases e : c = "NoText"
    · subst e; rw [cl_NoText] at h0; cases h0; exact T.x_NoText
    rw [if_neg e] at h
    cases h
  · have h0 := h
    simp only [clss] at h
    by_cases e : c = "NoText"
    · subst e; rw [cl_NoText] at h0; cases h0; exact T.k_NoText_Joined
    rw [if_neg e] at h
    cases h
theorem ck_NoBack (T : Tx K mg a) : ClsOk K (clss a) "NoBack" (.ref a.c_NoBack) := by
  refine ⟨fun c C h => ?_, fun c C h => ?_⟩
  · have h0 := h
    simp only [clss] at h
    by_cases e : c = "NoText"
    · subst e; rw [cl_NoText] at h0; cases h0; exact T.x_NoText
    rw [if_neg e] at h
    cases h
  · have h0 := h
    simp only [clss] at h
    by_cases e : c = "NoText"
    · subst e; rw [cl_NoText] at h0; cases h0; exact T.k_NoText_NoBack
    rw [if_neg e] at h
    cases h
theorem ck_NoFit (T : Tx K mg a) : ClsOk K (clss a) "NoFit" (.ref a.c_NoFit) := by
  refine ⟨fun c C h => ?_, fun c C h => ?_⟩
  · have h0 := h
    simp only [clss] at h
    by_cases e : c = "NoText"
    · subst e; rw [cl_NoText] at h0; cases h0; exact T.x_NoText
    rw [if_neg e] at h
    cases h
  · have h0 := h
    simp only [clss] at h
    by_cases e : c = "NoText"
    · subst e; rw [cl_NoText] at h0; cases h0; exact T.k_NoText_NoFit
    rw [if_neg e] at h
    cases h
theorem ck_NoPiece (T : Tx K mg a) : ClsOk K (clss a) "NoPiece" (.ref a.c_NoPiece) := by
  refine ⟨fun c C h => ?_, fun c C h => ?_⟩
  · have h0 := h
    simp only [clss] at h
    by_cases e : c = "NoText"
    · subst e; rw [cl_NoText] at h0; cases h0; exact T.x_NoText
    rw [if_neg e] at h
    cases h
  · have h0 := h
    simp only [clss] at h
    by_cases e : c = "NoText"
    · subst e; rw [cl_NoText] at h0; cases h0; exact T.k_NoText_NoPiece
    rw [if_neg e] at h
    cases h
theorem ck_NoRoom (T : Tx K mg a) : ClsOk K (clss a) "NoRoom" (.ref a.c_NoRoom) := by
  refine ⟨fun c C h => ?_, fun c C h => ?_⟩
  · have h0 := h
    simp only [clss] at h
    by_cases e : c = "NoText"
    · subst e; rw [cl_NoText] at h0; cases h0; exact T.x_NoText
    rw [if_neg e] at h
    cases h
  · have h0 := h
    simp only [clss] at h
    by_cases e : c = "NoText"
    · subst e; rw [cl_NoText] at h0; cases h0; exact T.k_NoText_NoRoom
    rw [if_neg e] at h
    cases h
theorem ck_NoRows (T : Tx K mg a) : ClsOk K (clss a) "NoRows" (.ref a.c_NoRows) := by
  refine ⟨fun c C h => ?_, fun c C h => ?_⟩
  · have h0 := h
    simp only [clss] at h
    by_cases e : c = "NoText"
    · subst e; rw [cl_NoText] at h0; cases h0; exact T.x_NoText
    rw [if_neg e] at h
    cases h
  · have h0 := h
    simp only [clss] at h
    by_cases e : c = "NoText"
    · subst e; rw [cl_NoText] at h0; cases h0; exact T.k_NoText_NoRows
    rw [if_neg e] at h
    cases h
theorem ck_NoText (T : Tx K mg a) : ClsOk K (clss a) "NoText" (.ref a.c_NoText) := by
  refine ⟨fun c C h => ?_, fun c C h => ?_⟩
  · have h0 := h
    simp only [clss] at h
    by_cases e : c = "NoText"
    · subst e; rw [cl_NoText] at h0; cases h0; exact T.x_NoText
    rw [if_neg e] at h
    cases h
  · have h0 := h
    simp only [clss] at h
    by_cases e : c = "NoText"
    · subst e; rw [cl_NoText] at h0; cases h0; exact T.k_NoText_NoText
    rw [if_neg e] at h
    cases h
theorem ck_ValueError (T : Tx K mg a) : ClsOk K (clss a) "ValueError" (.type "ValueError") := by
  refine ⟨fun c C h => ?_, fun c C h => ?_⟩
  · have h0 := h
    simp only [clss] at h
    by_cases e : c = "NoText"
    · subst e; rw [cl_NoText] at h0; cases h0; exact T.x_NoText
    rw [if_neg e] at h
    cases h
  · have h0 := h
    simp only [clss] at h
    by_cases e : c = "NoText"
    · subst e; rw [cl_NoText] at h0; cases h0; exact T.k_NoText_ValueError
    rw [if_neg e] at h
    cases h
theorem xm_all (T : Tx K mg a) : ∀ c C, clss a c = some C → PySem.W.exmOne K (.ref C) (.ref a.c_EdgeError) = some true := fun c C h => by
    have h0 := h
    simp only [clss] at h
    by_cases e : c = "NoText"
    · subst e; rw [cl_NoText] at h0; cases h0; exact T.xm_NoText
    rw [if_neg e] at h
    cases h
theorem kb_read_laying_1_text_A : ∀ (F : Hp) (vs : List V) (as : List Ar) (zs : List V) (bs : List Ar), ArsR K F vs as → ArsR K F zs bs → ArsR K F (kb_read_laying_1_text_g vs zs) (kb_read_laying_1_text_g as bs) := by
  intro F vs as zs bs h1 h2
  rcases h1 with _ | ⟨u0, _ | ⟨zh1, h1⟩⟩ <;> rcases h2 with _ | ⟨w0, _ | ⟨zh2, h2⟩⟩ <;> first | exact .nil | exact (.cons u0 (.cons w0 .nil))
theorem kb_read_laying_1_text_V : ∀ {vs : List V} {us : List Value} {zs : List V} {ws : List Value}, Vals vs us → Vals zs ws → Vals (kb_read_laying_1_text_g vs zs) (kb_read_laying_1_text_g us ws) := by
  intro vs us zs ws h1 h2
  rcases h1 with _ | ⟨u0, _ | ⟨zh1, h1⟩⟩ <;> rcases h2 with _ | ⟨w0, _ | ⟨zh2, h2⟩⟩ <;> first | exact .nil | exact (.cons u0 (.cons w0 .nil))
theorem kb_read_laying_1_text (T : Tx K mg a) : KBinds K a.d_read_laying ["box", "text"] ["text"] kb_read_laying_1_text_g kb_read_laying_1_text_g := by
  refine kb0 T.D_read_laying kb_read_laying_1_text_V fun _ _ _ _ _ _ us ws hl => ?_
  rcases us with _ | ⟨u0, _ | ⟨zus, us⟩⟩ <;> rcases ws with _ | ⟨w0, _ | ⟨zws, ws⟩⟩ <;> first | (simp [kb_read_laying_1_text_g] at hl; done) | rfl
theorem ok_is_whole_number (T : Tx K mg a) : FnOk P w K mg base CX0 1 a.a_is_whole_number a.d_is_whole_number ["thing", "low", "high"] (SpD (twGI K w (tabs a) (clss a)) K 3 f_is_whole_number) := by
  have q0 := def_ok (P := P) (w := w) (mg := mg) (base := base) (gi := twGI K w (tabs a) (clss a)) (k := 0) (body := m_is_whole_number) T.D_is_whole_number sc_is_whole_number
  refine q0 fun cdv A outer s H E hr => ?_
  have h64 := h64_of hr
  have h65 := h65_of hr
  have h1 := h1_of hr
  have h9 := h9_of hr
  delta m_is_whole_number
  exact (ds_one (ds_ret (de_and (dq (de_isT (by rfl) T.m_isinstance b_isinstance (dq_var 0 (pv 0)) (pe_bltn (by rfl) T.m_int b_int rfl))) (de_and (dq (de_not (dq (de_isT (by rfl) T.m_isinstance b_isinstance (dq_var 0 (pv 0)) (pe_bltn (by rfl) T.m_bool b_bool rfl))))) (de_one (de_chain op_le sem_le op_le sem_le (dq_var 1 (pv 1)) (dq_var 0 (pv 0)) (dq_var 2 (pv 2))))))))
theorem ok_is_entry (T : Tx K mg a) : FnOk P w K mg base CX0 2 a.a_is_entry a.d_is_entry ["box", "thing"] (SpD (twGI K w (tabs a) (clss a)) K 2 f_is_entry) := by
  have q0 := def_ok (P := P) (w := w) (mg := mg) (base := base) (gi := twGI K w (tabs a) (clss a)) (k := 1) (body := m_is_entry) T.D_is_entry sc_is_entry
  refine q0 fun cdv A outer s H E hr => ?_
  have h64 := h64_of hr
  have h65 := h65_of hr
  have h1 := h1_of hr
  have h9 := h9_of hr
  delta m_is_entry
  exact (ds_cons (ds_if (PW.pt (dw_or (dt_not (dt_tru (dq (de_isT (by rfl) T.m_isinstance b_isinstance (dq_var 1 (pv 1)) (pe_bltn (by rfl) T.m_tuple b_tuple rfl))))) (dw_or1 (dt_cmp (op_neD h64) sem_ne (dq (de_b1 call_len sem_len (by rfl) T.m_len b_len (dq_var 1 (pv 1)))) (dq de_int) (nomark _))))) (ds_one (ds_ret de_bl)) ds_nil)
      (ds_one (ds_ret (de_and (dq (de_call (ok_is_whole_number T) (hr.mono (by decide)) (by rfl) T.g_is_whole_number T.D_is_whole_number.kp (b_is_whole_number T) .nil (fun _ => .nil) (da_cons (de_ix ix_seq sem_ix (dq_var 1 (pv 1)) (dq de_int) (fun _ _ => rfl)) (da_cons de_int (da_cons (de_op op_sub sem_sub (dq (de_b1 call_len sem_len (by rfl) T.m_len b_len (dq_var 0 (pv 0)))) (dq de_int)) da_nil))))) (de_one (de_call (ok_is_whole_number T) (hr.mono (by decide)) (by rfl) T.g_is_whole_number T.D_is_whole_number.kp (b_is_whole_number T) .nil (fun _ => .nil) (da_cons (de_ix ix_seq sem_ix (dq_var 1 (pv 1)) (dq de_int) (fun _ _ => rfl)) (da_cons de_int (da_cons de_int da_nil)))))))))
theorem ok_is_row (T : Tx K mg a) : FnOk P w K mg base CX0 3 a.a_is_row a.d_is_row ["box", "thing"] (SpD (twGI K w (tabs a) (clss a)) K 2 f_is_row) := by
  have q0 := def_ok (P := P) (w := w) (mg := mg) (base := base) (gi := twGI K w (tabs a) (clss a)) (k := 2) (body := m_is_row) T.D_is_row sc_is_row
  refine q0 fun cdv A outer s H E hr => ?_
  have h64 := h64_of hr
  have h65 := h65_of hr
  have h1 := h1_of hr
  have h9 := h9_of hr
  delta m_is_row
  exact (ds_one (ds_ret (de_and (dq (de_isT (by rfl) T.m_isinstance b_isinstance (dq_var 1 (pv 1)) (pe_bltn (by rfl) T.m_tuple b_tuple rfl))) (de_and (dq (de_cmp (op_neD h64) sem_ne (dq_var 1 (pv 1)) (dq (de_tup dd_nil)) (nomark _))) (de_one (de_b1 (cr_all rfl) sem_all (by rfl) T.m_all b_all (dq (de_fz (dl_lc (own := [("entry", 2)]) (vs := [2]) rfl sc_is_row.nd (di_c [2] (di_seq (de_var 1 (pv 1)))) (blkOk_by (own := [("entry", 2)]) (N := ["box", "thing", "entry"]) (sc := defScope s_is_row) (by decide +kernel)) rfl (kp_name 2) (fun _ _ _ _ _ => (dg_name (i := 2) sc_is_row.nd rfl (Or.inl rfl))) (fun _ _ _ _ _ => dts_nil) (fun _ _ _ _ _ => (de_call (ok_is_entry T) (hr.mono (by decide)) (by rfl) T.g_is_entry T.D_is_entry.kp (b_is_entry T) .nil (fun _ => .nil) (da_cons (de_var 0 (pv 0)) (da_cons (de_var 2 (pv 2)) da_nil)))))))))))))
theorem ok_entries_of (T : Tx K mg a) : FnOk P w K mg base CX0 1 a.a_entries_of a.d_entries_of ["laying"] (SpD (twGI K w (tabs a) (clss a)) K 1 f_entries_of) := by
  have q0 := def_ok (P := P) (w := w) (mg := mg) (base := base) (gi := twGI K w (tabs a) (clss a)) (k := 0) (body := m_entries_of) T.D_entries_of sc_entries_of
  refine q0 fun cdv A outer s H E hr => ?_
  have h64 := h64_of hr
  have h65 := h65_of hr
  have h1 := h1_of hr
  have h9 := h9_of hr
  delta m_entries_of
  exact (ds_cons (ds_setL 1 sc_entries_of.nd rfl (Or.inl rfl) (dl_lst dd_nil))
      (ds_cons (ds_for PassesOwn.never rfl (di_seq (de_var 0 (pv 0))) (dg_name (i := 2) sc_entries_of.nd rfl (Or.inl rfl)) (ds_one (ds_ext 1 (pv 1) (de_fz (dl_t1 call_list_of sem_list (by rfl) T.m_list b_list (dq_var 2 (pv 2)))) (fun h => pe_bm PySem.F.plainAttrs_list PySem.F.slot_list_extend PySem.F.type_list_extend mt_extend (pv 1) h))))
      (ds_one (ds_retO 1 (pv 1)))))
theorem ok_is_laying (T : Tx K mg a) : FnOk P w K mg base CX0 4 a.a_is_laying a.d_is_laying ["box", "thing"] (SpD (twGI K w (tabs a) (clss a)) K 2 f_is_laying) := by
  have q0 := def_ok (P := P) (w := w) (mg := mg) (base := base) (gi := twGI K w (tabs a) (clss a)) (k := 3) (body := m_is_laying) T.D_is_laying sc_is_laying
  refine q0 fun cdv A outer s H E hr => ?_
  have h64 := h64_of hr
  have h65 := h65_of hr
  have h1 := h1_of hr
  have h9 := h9_of hr
  delta m_is_laying
  exact (ds_cons (ds_if (PW.pt (dw_or (dt_not (dt_tru (dq (de_isT (by rfl) T.m_isinstance b_isinstance (dq_var 1 (pv 1)) (pe_bltn (by rfl) T.m_tuple b_tuple rfl))))) (dw_or (dt_cmp (op_eqD h64) sem_eq (dq_var 1 (pv 1)) (dq (de_tup dd_nil)) (nomark _)) (dw_or1 (dt_not (dt_tru (dq (de_b1 (cr_all rfl) sem_all (by rfl) T.m_all b_all (dq (de_fz (dl_lc (own := [("row", 3)]) (vs := [3]) rfl sc_is_laying.nd (di_c [3] (di_seq (de_var 1 (pv 1)))) (blkOk_by (own := [("row", 3)]) (N := ["box", "thing", "numbers", "row", "number", "times"]) (sc := defScope s_is_laying) (by decide +kernel)) rfl (kp_name 3) (fun _ _ _ _ _ => (dg_name (i := 3) sc_is_laying.nd rfl (Or.inl rfl))) (fun _ _ _ _ _ => dts_nil) (fun _ _ _ _ _ => (de_call (ok_is_row T) (hr.mono (by decide)) (by rfl) T.g_is_row T.D_is_row.kp (b_is_row T) .nil (fun _ => .nil) (da_cons (de_var 0 (pv 0)) (da_cons (de_var 3 (pv 3)) da_nil))))))))))))))) (ds_one (ds_ret de_bl)) ds_nil)
      (ds_cons (ds_setLcF 2 (own := [("number", 4), ("times", 5)]) (vs := [4, 5]) rfl sc_is_laying.nd rfl rfl (sw_true rfl rfl rfl (by decide +kernel)) (di_c [4, 5] (di_seq (de_call (ok_entries_of T) (hr.mono (by decide)) (by rfl) T.g_entries_of T.D_entries_of.kp (b_entries_of T) .nil (fun _ => .nil) (da_cons (de_var 1 (pv 1)) da_nil)))) (blkOk_by (own := [("number", 4), ("times", 5)]) (N := ["box", "thing", "numbers", "row", "number", "times"]) (sc := defScope s_is_laying) (by decide +kernel)) rfl (kp_tup (kps_cons (kp_name 4) (kps_cons (kp_name 5) kps_nil))) (fun _ _ _ _ _ => (dg_tup rfl (dgs_cons (dg_name (i := 4) sc_is_laying.nd rfl (Or.inl rfl)) (dgs_cons (dg_name (i := 5) sc_is_laying.nd rfl (Or.inl rfl)) dgs_nil)))) (fun _ _ _ _ _ => dts_nil) (fun _ _ _ _ _ => (de_var 4 (pv 4))))
      (ds_one (ds_ret (de_and (dq (de_b1 (cr_all rfl) sem_all (by rfl) T.m_all b_all (dq (de_fz (dl_lc (own := [("row", 3)]) (vs := [3]) rfl sc_is_laying.nd (di_c [3] (di_seq (de_var 1 (pv 1)))) (blkOk_by (own := [("row", 3)]) (N := ["box", "thing", "numbers", "row", "number", "times"]) (sc := defScope s_is_laying) (by decide +kernel)) rfl (kp_name 3) (fun _ _ _ _ _ => (dg_name (i := 3) sc_is_laying.nd rfl (Or.inl rfl))) (fun _ _ _ _ _ => dts_nil) (fun _ _ _ _ _ => (de_cmp (op_eqD h64) sem_eq (dq (de_b1 call_len sem_len (by rfl) T.m_len b_len (dq_var 3 (pv 3)))) (dq (de_b1 call_len sem_len (by rfl) T.m_len b_len (dq (de_ix ix_seq sem_ix (dq_var 1 (pv 1)) (dq de_int) (fun _ _ => rfl))))) (nomark _)))))))) (de_one (de_cmp (op_eqD h64) sem_eq (dq (de_lenset rfl (by rfl) T.m_len (by rfl) T.m_set (dq_var 2 (pv 2)))) (dq (de_b1 call_len sem_len (by rfl) T.m_len b_len (dq_var 2 (pv 2)))) (nomark _))))))))
theorem ok_number_of_x (T : Tx K mg a) : FnOk P w K mg base (L2.CX P w) 1 a.a_number_of a.d_number_of ["word"] (SpX (twGI K w (tabs a) (clss a)) K 1 f_number_of_x) := by
  have q0 := def_okX (P := P) (w := w) (mg := mg) (base := base) (gi := twGI K w (tabs a) (clss a)) (k := 0) (body := m_number_of) T.D_number_of sc_number_of
  refine q0 fun cdv A outer s H E hr tk => ?_
  have h64 := h64_of hr
  have h65 := h65_of hr
  have h1 := h1_of hr
  have h9 := h9_of hr
  delta m_number_of
  exact (dx_cons (dx_emb (ds_set 1 sc_number_of.nd rfl (Or.inl rfl) (de_if (dt_tru (dq (de_starts (dq_var 0 (pv 0)) (dq de_str)))) (de_cutS (dq_var 0 (pv 0)) (do_some (dq de_int)) do_none) (de_var 0 (pv 0)))))
      (dx_cons (dx_if (PW.pt (dw_or (dt_not (dt_chain op_le sem_le op_le sem_le (dq de_int) (dq (de_b1 call_len_str sem_lenS (by rfl) T.m_len b_len (dq_var 1 (pv 1)))) (dq de_int))) (dw_or1 (dt_not (dt_tru (dq (de_b1 (cr_all rfl) sem_all (by rfl) T.m_all b_all (dq (de_fz (dl_lc (own := [("sign", 2)]) (vs := [2]) rfl sc_number_of.nd (di_c [2] (di_str (dq_var 1 (pv 1)))) (blkOk_by (own := [("sign", 2)]) (N := ["word", "figures", "sign"]) (sc := defScope s_number_of) (by decide +kernel)) rfl (kp_name 2) (fun _ _ _ _ _ => (dg_name (i := 2) sc_number_of.nd rfl (Or.inl rfl))) (fun _ _ _ _ _ => dts_nil) (fun _ _ _ _ _ => (de_cmp op_in_sign sem_inS (dq_var 2 (pv 2)) (dq de_str) (by rfl))))))))))))) (dx_one (dx_raise rfl tk PySem.F.excBase_ValueError T.e_NoText T.g_NoText T.kc_NoText (raises_own T.s_NoText T.ty_NoText) (by rfl) cl_NoText)) (dxs_emb ds_nil))
      (dxs_emb (ds_one (ds_ret (de_if (dt_cmp (op_eqD h64) sem_eq (dq_var 1 (pv 1)) (dq_var 0 (pv 0)) (nomark _)) (de_t1 call_int_str sem_intS (by rfl) T.m_int b_int (dq_var 1 (pv 1))) (de_un un_neg sem_neg (dq (de_t1 call_int_str sem_intS (by rfl) T.m_int b_int (dq_var 1 (pv 1)))))))))))
theorem ok_laying_text (T : Tx K mg a) : FnOk P w K mg base CX0 1 a.a_laying_text a.d_laying_text ["laying"] (SpD (twGI K w (tabs a) (clss a)) K 1 f_laying_text) := by
  have q0 := def_ok (P := P) (w := w) (mg := mg) (base := base) (gi := twGI K w (tabs a) (clss a)) (k := 0) (body := m_laying_text) T.D_laying_text sc_laying_text
  refine q0 fun cdv A outer s H E hr => ?_
  have h64 := h64_of hr
  have h65 := h65_of hr
  have h1 := h1_of hr
  have h9 := h9_of hr
  delta m_laying_text
  exact (ds_one (ds_ret (de_join (dq de_str) (dq (de_fz (dl_lc (own := [("row", 1)]) (vs := [1]) rfl sc_laying_text.nd (di_c [1] (di_seq (de_var 0 (pv 0)))) (blkOk_by (own := [("row", 1)]) (N := ["laying", "row", "number", "times"]) (sc := defScope s_laying_text) (by decide +kernel)) rfl (kp_name 1) (fun _ _ _ _ _ => (dg_name (i := 1) sc_laying_text.nd rfl (Or.inl rfl))) (fun _ _ _ _ _ => dts_nil) (fun _ _ _ _ _ => (de_join (dq de_str) (dq (de_fz (dl_lc (own := [("number", 2), ("times", 3)]) (vs := [2, 3]) rfl sc_laying_text.nd (di_c [2, 3] (di_seq (de_var 1 (pv 1)))) (blkOk_by (by rfl)) rfl (kp_tup (kps_cons (kp_name 2) (kps_cons (kp_name 3) kps_nil))) (fun _ _ _ _ _ => (dg_tup rfl (dgs_cons (dg_name (i := 2) sc_laying_text.nd rfl (Or.inl rfl)) (dgs_cons (dg_name (i := 3) sc_laying_text.nd rfl (Or.inl rfl)) dgs_nil)))) (fun _ _ _ _ _ => dts_nil) (fun _ _ _ _ _ => (de_fm3 (de_var 2 (pv 2)) de_str (de_var 3 (pv 3)))))))))))))))
theorem ok_read_laying_x (T : Tx K mg a) : FnOk P w K mg base (L2.CX P w) 5 a.a_read_laying a.d_read_laying ["box", "text"] (SpX (twGI K w (tabs a) (clss a)) K 2 f_read_laying_x) := by
  have q0 := def_okX (P := P) (w := w) (mg := mg) (base := base) (gi := twGI K w (tabs a) (clss a)) (k := 4) (body := m_read_laying) T.D_read_laying sc_read_laying
  refine q0 fun cdv A outer s H E hr tk => ?_
  have h64 := h64_of hr
  have h65 := h65_of hr
  have h1 := h1_of hr
  have h9 := h9_of hr
  delta m_read_laying
  exact (dx_cons (dx_emb (ds_setL 2 sc_read_laying.nd rfl (Or.inl rfl) (dl_lst dd_nil)))
      (dx_cons (dx_for (passes_of rfl) rfl (di_seq (de_fz (dl_split (dq_var 1 (pv 1)) (dq de_str)))) (dg_name (i := 3) sc_read_laying.nd rfl (Or.inl rfl)) (dx_one (dx_appX 2 (pv 2) (de_tupX (by rfl) T.m_tuple b_tuple (dl_lcX (own := [("part", 4)]) (vs := [4]) (Air.of tk rfl) ⟨_, _, _, rfl, rfl, rfl⟩ rfl sc_read_laying.nd (di_c [4] (di_seq (de_fz (dl_split (dq_var 3 (pv 3)) (dq de_str))))) (blkOk_by (own := [("part", 4)]) (N := ["box", "text", "found", "row", "part", "word"]) (sc := defScope s_read_laying) (by decide +kernel)) rfl (kp_name 4) (fun _ _ _ _ _ => (dg_name (i := 4) sc_read_laying.nd rfl (Or.inl rfl))) (fun _ _ _ _ _ => dts_nil) (fun _ _ _ _ _ hA top => (de_tupX (by rfl) T.m_tuple b_tuple (dl_lcX (own := [("word", 5)]) (vs := [5]) hA top rfl sc_read_laying.nd (di_c [5] (di_seq (de_fz (dl_split (dq_var 4 (pv 4)) (dq de_str))))) (blkOk_by (by rfl)) rfl (kp_name 5) (fun _ _ _ _ _ => (dg_name (i := 5) sc_read_laying.nd rfl (Or.inl rfl))) (fun _ _ _ _ _ => dts_nil) (fun _ _ _ _ _ hA top => (de_callXA hA top (ok_number_of_x T) (hr.mono (by decide)) (by rfl) T.g_number_of T.D_number_of.kp (b_number_of T) (da_cons (de_var 5 (pv 5)) da_nil)))))))) (fun h => pe_bm PySem.F.plainAttrs_list PySem.F.slot_list_append PySem.F.type_list_append mt_append (pv 2) h))))
      (dx_cons (dx_if (PW.pt (dw_or (dt_not (dt_tru (dq (de_call (ok_is_laying T) (hr.mono (by decide)) (by rfl) T.g_is_laying T.D_is_laying.kp (b_is_laying T) .nil (fun _ => .nil) (da_cons (de_var 0 (pv 0)) (da_cons (de_t1 call_tupleS sem_tuple (by rfl) T.m_tuple b_tuple (dq_var 2 (pv 2))) da_nil)))))) (dw_or1 (dt_cmp (op_neD h64) sem_ne (dq (de_call (ok_laying_text T) (hr.mono (by decide)) (by rfl) T.g_laying_text T.D_laying_text.kp (b_laying_text T) .nil (fun _ => .nil) (da_cons (de_t1 call_tupleS sem_tuple (by rfl) T.m_tuple b_tuple (dq_var 2 (pv 2))) da_nil))) (dq_var 1 (pv 1)) (nomark _))))) (dx_one (dx_raise rfl tk PySem.F.excBase_ValueError T.e_NoText T.g_NoText T.kc_NoText (raises_own T.s_NoText T.ty_NoText) (by rfl) cl_NoText)) (dxs_emb ds_nil))
      (dxs_emb (ds_one (ds_ret (de_t1 call_tupleS sem_tuple (by rfl) T.m_tuple b_tuple (dq_var 2 (pv 2)))))))))
theorem ok_read_laying (T : Tx K mg a) : FnOk P w K mg base CX0 5 a.a_read_laying a.d_read_laying ["box", "text"] (SpD (twGI K w (tabs a) (clss a)) K 2 f_read_laying) := FnOk.noX (ok_read_laying_x T)
theorem draw_ok {TT : List (Addr × Str)} {cl : Str → Option Addr} {f : Addr} {fd : FuncData} {k : Nat} (F : DFn K "_law_draw" "_law_draw" s_l_draw [] f fd) (ml : mg "len" = none) : FnOk P w K mg base CX0 (k + 1) f fd ["script", "town", "many"] (SpD (twGI K w TT cl) K 3 fDraw) := by
  refine F.ok sc_l_draw (fun vs H Q E h => h.1) fun cdv A outer s H vs Q E hr h => ?_
  have hu := hu_of hr
  have T : PSs (cxOf CX0 P w K mg base ["script", "town", "many", "at", "rest", "number"] "_law_draw" (defScope s_l_draw) f cdv A outer s H E).nox ((defBody s_l_draw).drop 3) (tDrawB K) := by
    refine PSs_weak (pss_cons (ps_if (pt_cmpR op_ge (pv 4) (pe_op op_pow pe_int pe_int) (nomark _))
      (pss_cons (ps_dput hu (pe_dget hu (pv 1) pe_str (fun _ _ => rfl)) (pv 3) (pe_op op_fdiv (pv 4) (pv 2)) rfl) (pss_one (ps_ret (pe_op op_mod (pv 4) (pv 2))))) pss_nil)
    (pss_cons (ps_set (i := 5) sc_l_draw.nd rfl (.inl rfl) (pe_op op_mod (pe_op op_add (pv 4) (pe_op op_mul pe_int (pe_dget hu (pv 1) pe_str (fun _ _ => rfl)))) pe_int))
    (pss_cons (ps_set (i := 5) sc_l_draw.nd rfl (.inl rfl) (pe_op op_mod (pe_op op_pow (pv 5) pe_int) pe_int))
    (pss_one (ps_ret (pe_op op_mod (pe_op op_fdiv (pe_op op_mod (pe_op op_add (pe_op op_mul (pe_op op_fdiv (pv 5) pe_int) pe_int) (pv 5)) pe_int) pe_int) (pv 2))))))) fun D σ H h => ?_
    obtain ⟨g, many, rfl, hg, m0, m1, hgd, kk⟩ := h
    obtain ⟨h1, h2, h3, h4, h5⟩ := id hg
    have gR : DGet H g.aT (.str "rests") (some (.ref g.aR)) := by
      have := DGet.k (k := kRests) h1
      rw [val_rests] at this
      exact this
    have gC : DGet H g.aT (.str "count") (some (.int (g.count + 1))) := by
      have := DGet.k (k := kCount) h1
      rw [val_count] at this
      exact this
    have hlen : g.rests.length < 1000 := by
      have := (Bool.and_eq_true_iff.mp hgd).2
      exact of_decide_eq_true this
    refine ⟨.int g.rest, rfl, 10, 18, rfl, rfl, ⟨by decide, by decide, by decide⟩, g.rest, 10 ^ 18, rfl, rfl, _, rfl, ?_⟩
    have hnx : g.next many = if 10 ^ 18 ≤ g.rest then (g.rest % many, { g with count := g.count + 1, rests := putK g.rests (.inl g.at_) (.int (g.rest / many)) }) else (num3 (num2 (num1 g.rest (g.count + 1))) % many, { g with count := g.count + 1 }) := rfl
    refine ite2 (fun hd => ?_) (fun hd => ?_)
    · have hc : (10 : Int) ^ 18 ≤ g.rest := of_decide_eq_true hd
      rw [if_pos hc] at hnx
      rw [hnx] at kk
      refine ⟨.int g.rest, rfl, .int many, rfl, g.rest, many, rfl, rfl, ⟨m0, m1⟩, .ref g.aT, rfl, g.aT, .ref g.aR, rfl, gR, .int g.at_, rfl, g.aR, _, rfl, DPut.k (k := .inl g.at_) h2 (Nat.lt_trans hlen (by decide)), ?_⟩
      exact ⟨.int g.rest, rfl, .int many, rfl, g.rest, many, rfl, rfl, m0, kk _ (rel_rests hg _) fun a _ n => upd_ne n⟩
    · have hc : ¬ (10 : Int) ^ 18 ≤ g.rest := fun z => hd (decide_eq_true z)
      rw [if_neg hc] at hnx
      rw [hnx] at kk
      have n1 := num1_lt g.rest (g.count + 1)
      have pos1 : (0 : Int) < 4294967291 := by decide
      have pos2 : (0 : Int) < 4294967279 := by decide
      have pos3 : (0 : Int) < 4294967231 := by decide
      refine ⟨.int g.rest, rfl, .ref g.aT, rfl, g.aT, _, rfl, gC, 104729, g.count + 1, rfl, rfl, .inl ⟨by decide, by decide⟩, g.rest, _, rfl, rfl, _, 4294967291, rfl, rfl, pos1, ?_⟩
      refine ⟨.int (num1 g.rest (g.count + 1)), rfl, _, 5, rfl, rfl, ⟨by decide, by decide, by omega⟩, _, 4294967279, rfl, rfl, pos2, ?_⟩
      exact ⟨.int (num2 (num1 g.rest (g.count + 1))), rfl, _, 64, rfl, rfl, ⟨by decide, by decide⟩, _, 69621, rfl, rfl, .inr ⟨by decide, by decide⟩, .int (num2 (num1 g.rest (g.count + 1))), rfl, _, _, rfl, rfl, _, 4294967231, rfl, rfl, pos3, _, 8, rfl, rfl, ⟨by decide, by decide⟩, .int many, rfl, _, _, rfl, rfl, m0, kk H hg fun _ _ _ => rfl⟩
  refine ⟨_, PSs.nox (pss_cons (ps_dput hu (pv 1) pe_str (pe_op op_add (pe_dget hu (pv 1) pe_str (fun _ _ => rfl)) pe_int) rfl)
    (pss_cons (ps_set (i := 3) sc_l_draw.nd rfl (.inl rfl) (pe_ifExp (pt_truth (pv 0) (by intro _; rfl)) (pe_op op_mod (pe_dget hu (pv 1) pe_str (fun _ _ => rfl)) (pe_callB call_len_seq (by rfl) ml PySem.boot_len (pa_cons (pv 0) pa_nil))) pe_int))
    (pss_cons (ps_set (i := 4) sc_l_draw.nd rfl (.inl rfl) (pe_dget2 hu (pe_dget hu (pv 1) pe_str (fun _ _ => rfl)) (pv 3) (pe_ifExp (pt_truth (pv 0) (by intro _; rfl)) (pe_ix ix_list (pv 0) (pv 3) (fun _ _ => rfl)) pe_int) ⟨rfl, rfl, rfl, rfl⟩)) T))), ?_⟩
  obtain ⟨hl, Fz, g, as, r, g', r0, ha, e, kk⟩ := h
  unfold fDraw at e
  split at e
  · rename_i a b many
    split at e
    · rename_i hc
      obtain ⟨rfl, rfl, m0, m1, hgd⟩ := hc
      cases e
      cases ha with
      | cons v1 ha =>
        cases ha with
        | cons v2 ha =>
          cases ha with
          | cons v3 ha =>
            cases ha
            cases v1
            cases v2
            cases v3
            obtain ⟨h1, h2, h3, h4, h5⟩ := id r0.gr.1
            have gC : DGet H g.aT (.str "count") (some (.int g.count)) := by
              have := DGet.k (k := kCount) h1
              rw [val_count] at this
              exact this
            have pC : DPut H g.aT (.str "count") (.int (g.count + 1)) (upd H g.aT (.dK [(kCount, .int (g.count + 1)), (kRests, .ref g.aR)])) := by
              have := DPut.k (k := kCount) (v := .int (g.count + 1)) h1 (show 2 < sizeLine by decide)
              rw [put_count] at this
              exact this
            refine ⟨.ref g.aT, rfl, g.aT, .int g.count, rfl, gC, g.count, 1, rfl, rfl, .ref g.aT, rfl, g.aT, _, rfl, pC, ?_⟩
            have rel1 := rel_count r0.gr.1 (g.count + 1)
            have fr1 : ∀ a, a ≠ g.aT → a ≠ g.aR → upd H g.aT (.dK [(kCount, .int (g.count + 1)), (kRests, .ref g.aR)]) a = H a := fun a n _ => upd_ne n
            generalize upd H g.aT (.dK [(kCount, .int (g.count + 1)), (kRests, .ref g.aR)]) = H1 at rel1 fr1 ⊢
            obtain ⟨q1, q2, q3, q4, q5⟩ := id rel1
            have sq : SqL K H1 g.aS (g.ns.map V.int) := tw_sq (g := { g with count := g.count + 1 }) rel1
            have gC1 : DGet H1 g.aT (.str "count") (some (.int (g.count + 1))) := by
              have := DGet.k (k := kCount) q1
              rw [val_count] at this
              exact this
            have gR1 : DGet H1 g.aT (.str "rests") (some (.ref g.aR)) := by
              have := DGet.k (k := kRests) q1
              rw [val_rests] at this
              exact this
            have gV : DGet H1 g.aR (.int g.at_) (valV g.rests (.inl g.at_)) := DGet.k (k := .inl g.at_) q2
            have gI : ∀ v, valV g.rests (.inl g.at_) = some v → v = .int (intV v) := fun v hv => by
              have hall := (Bool.and_eq_true_iff.mp hgd).1
              unfold valV at hv
              obtain ⟨p, hp, hv⟩ := Option.map_eq_some_iff.mp hv
              have := List.all_eq_true.mp hall p (List.mem_of_find?_eq_some hp)
              rw [hv] at this
              cases v <;> first | rfl | cases this
            have fin : ∀ (z : Int), z = g.cell → ∃ o, DGet H1 g.aR (.int g.at_) o ∧ gName 4 (o.getD (.int z)) [some (.ref g.aS), some (.ref g.aT), some (.int many), some (.int g.at_), none, none] H1 (tDrawB K { nx := fun _ H' => Q .non H', rt := Q }) := fun z hz => by
              refine ⟨_, gV, ?_⟩
              have hrest : (valV g.rests (.inl g.at_)).getD (.int z) = .int g.rest := by
                unfold Tw.rest
                cases hv : valV g.rests (.inl g.at_) with
                | none => rw [hz]; rfl
                | some v => exact gI v hv
              rw [hrest]
              refine ⟨g, many, rfl, rel1, m0, m1, hgd, fun H' hr' hk' => kk _ Fz H' (R.tw r0 hr' (next_adr g many) fun a n1 n2 => (hk' a n1 n2).trans (fr1 a n1 n2)) (.int _)⟩
            by_cases hn : g.ns = []
            · have ha0 : g.at_ = 0 := by unfold Tw.at_; rw [if_pos hn]
              have hc0 : g.cell = 0 := by unfold Tw.cell; rw [if_pos hn]
              refine ⟨.ref g.aS, rfl, false, .inl ⟨_, sq, by rw [hn]; rfl⟩, iteF ?_⟩
              refine ⟨.ref g.aT, rfl, g.aT, .ref g.aR, rfl, gR1, g.aR, rfl, .inl ⟨_, .inl q2⟩, .int 0, rfl, .ref g.aS, rfl, false, .inl ⟨_, sq, by rw [hn]; rfl⟩, iteF ?_⟩
              have := fin 0 hc0.symm
              rw [ha0] at this
              exact this
            · have hp : 0 < g.ns.length := List.length_pos_iff.mpr hn
              have htr : true = !(g.ns.map V.int).isEmpty := by
                cases hh : g.ns with
                | nil => exact absurd hh hn
                | cons a b => rfl
              have ha0 : g.at_ = (g.count + 1) % ((g.ns.map V.int).length : Int) := by unfold Tw.at_; rw [if_neg hn, List.length_map]
              have hlen : ((g.ns.map V.int).length : Int) = (g.ns.length : Int) := by rw [List.length_map]
              have hat : 0 ≤ g.at_ ∧ g.at_ < (g.ns.length : Int) := by
                rw [ha0, hlen]
                exact ⟨Int.emod_nonneg _ (by omega), Int.emod_lt_of_pos _ (by omega)⟩
              refine ⟨.ref g.aS, rfl, true, .inl ⟨_, sq, htr⟩, iteT ?_⟩
              refine ⟨.ref g.aT, rfl, g.aT, _, rfl, gC1, .ref g.aS, rfl, g.aS, _, rfl, .inl sq, g.count + 1, _, rfl, rfl, by rw [hlen]; omega, ?_⟩
              show gName 3 (.int ((g.count + 1) % ((g.ns.map V.int).length : Int))) _ H1 _
              rw [← ha0]
              refine ⟨.ref g.aT, rfl, g.aT, .ref g.aR, rfl, gR1, g.aR, rfl, .inl ⟨_, .inl q2⟩, .int g.at_, rfl, .ref g.aS, rfl, true, .inl ⟨_, sq, htr⟩, iteT ?_⟩
              have hix : atI (g.ns.map V.int) g.at_ = some (.int g.cell) := by
                have h0 : ((g.at_.toNat : Nat) : Int) = g.at_ := Int.toNat_of_nonneg hat.1
                have h9 : g.at_.toNat < g.ns.length := by omega
                rw [← h0]
                refine atI_nat ?_
                rw [List.getElem?_map, List.getElem?_eq_getElem h9]
                unfold Tw.cell
                rw [if_neg hn, List.getD_eq_getElem?_getD, List.getElem?_eq_getElem h9]
                rfl
              exact ⟨.ref g.aS, rfl, .int g.at_, rfl, g.aS, _, g.at_, _, rfl, rfl, sq, hix, fin g.cell rfl⟩
    · cases e
  · cases e
theorem ok_l_draw (T : Tx K mg a) : FnOk P w K mg base CX0 1 a.a_l_draw a.d_l_draw ["script", "town", "many"] (SpD (twGI K w (tabs a) (clss a)) K 3 f_l_draw) := draw_ok T.D_l_draw T.m_len
theorem ok_l_begun (T : Tx K mg a) : FnOk P w K mg base CX0 1 a.a_l_begun a.d_l_begun [] spBegun := by
  refine T.D_l_begun.ok sc_l_begun (fun vs H Q E h => by rw [h.1]; rfl) fun cdv A outer s H vs Q E hr h => ?_
  refine ⟨_, PSs.nox (pss_one (ps_ret (pe_disp (pps_cons pe_str pe_int (pps_cons pe_str pe_dnewK pps_nil)) (by rfl) (by rfl) (fun z => by cases z) (by decide)))), ?_⟩
  obtain ⟨rfl, q⟩ := h
  intro t ht r hr2
  refine ⟨?_, [(kCount, .int 0), (kRests, .ref r)], rfl, by simp, q t r _ (begun_of ht hr2)⟩
  rw [upd_ne (fun e => by rw [e, upd_same] at hr2; cases hr2), upd_same]
theorem ok_l_a_piece (T : Tx K mg a) : FnOk P w K mg base CX0 2 a.a_l_a_piece a.d_l_a_piece ["script", "town"] (SpD (twGI K w (tabs a) (clss a)) K 2 f_l_a_piece) := by
  have q0 := def_ok (P := P) (w := w) (mg := mg) (base := base) (gi := twGI K w (tabs a) (clss a)) (k := 1) (body := m_l_a_piece) T.D_l_a_piece sc_l_a_piece
  refine q0 fun cdv A outer s H E hr => ?_
  have h64 := h64_of hr
  have h65 := h65_of hr
  have h1 := h1_of hr
  have h9 := h9_of hr
  delta m_l_a_piece
  exact (ds_cons (ds_set 2 sc_l_a_piece.nd rfl (Or.inl rfl) (de_ix ix_seq sem_ix (dq (de_fz (dl_lst (dd_cons de_int (dd_cons de_int (dd_cons de_int dd_nil)))))) (dq (de_call (ok_l_draw T) (hr.mono (by decide)) (by rfl) T.g_l_draw T.D_l_draw.kp (b_l_draw T) .nil (fun _ => .nil) (da_raw 0 (pv 0) (da_raw 1 (pv 1) (da_cons de_int da_nil))))) (fun _ _ => rfl)))
      (ds_cons (ds_set 3 sc_l_a_piece.nd rfl (Or.inl rfl) (de_tup dd_nil))
      (ds_cons (ds_for PassesOwn.never rfl (di_rng1 (by rfl) T.m_range (dq de_int)) (dg_name (i := 4) sc_l_a_piece.nd rfl (Or.inl rfl)) (ds_cons (ds_set 5 sc_l_a_piece.nd rfl (Or.inl rfl) (de_op op_sub sem_sub (dq (de_call (ok_l_draw T) (hr.mono (by decide)) (by rfl) T.g_l_draw T.D_l_draw.kp (b_l_draw T) .nil (fun _ => .nil) (da_raw 0 (pv 0) (da_raw 1 (pv 1) (da_cons (de_op op_addA sem_add (dq (de_op op_mulA sem_mul (dq de_int) (dq_var 2 (pv 2)))) (dq de_int)) da_nil))))) (dq_var 2 (pv 2))))
      (ds_one (ds_set 3 sc_l_a_piece.nd rfl (Or.inl rfl) (de_op op_addA sem_add (dq_var 3 (pv 3)) (dq (de_tup (dd_cons (de_if (dt_cmp op_gt sem_gt (dq (de_call (ok_l_draw T) (hr.mono (by decide)) (by rfl) T.g_l_draw T.D_l_draw.kp (b_l_draw T) .nil (fun _ => .nil) (da_raw 0 (pv 0) (da_raw 1 (pv 1) (da_cons de_int da_nil))))) (dq de_int) (nomark _)) (de_var 5 (pv 5)) de_int) dd_nil))))))))
      (ds_one (ds_ret (de_var 3 (pv 3)))))))
theorem ok_l_an_order (T : Tx K mg a) : FnOk P w K mg base CX0 2 a.a_l_an_order a.d_l_an_order ["script", "town", "many"] (SpD (twGI K w (tabs a) (clss a)) K 3 f_l_an_order) := by
  have q0 := def_ok (P := P) (w := w) (mg := mg) (base := base) (gi := twGI K w (tabs a) (clss a)) (k := 1) (body := m_l_an_order) T.D_l_an_order sc_l_an_order
  refine q0 fun cdv A outer s H E hr => ?_
  have h64 := h64_of hr
  have h65 := h65_of hr
  have h1 := h1_of hr
  have h9 := h9_of hr
  delta m_l_an_order
  exact (ds_cons (ds_par2 rfl sc_l_an_order.nd rfl rfl (by decide) rfl rfl (dx_l (dl_lrng (by rfl) T.m_list (by rfl) T.m_range (de_var 2 (pv 2))) (dx_d (de_tup dd_nil) dx_nil)) (by rfl))
      (ds_cons (ds_for PassesOwn.never rfl (di_rng1 (by rfl) T.m_range (dq_var 2 (pv 2))) (dg_name (i := 5) sc_l_an_order.nd rfl (Or.inl rfl)) (ds_cons (ds_pop 6 3 sc_l_an_order.nd rfl (Or.inl rfl) (fun h => pe_bm PySem.F.plainAttrs_list PySem.F.slot_list_pop PySem.F.type_list_pop mt_popAt (pv 3) h) (de_call (ok_l_draw T) (hr.mono (by decide)) (by rfl) T.g_l_draw T.D_l_draw.kp (b_l_draw T) .nil (fun _ => .nil) (da_raw 0 (pv 0) (da_raw 1 (pv 1) (da_cons (de_b1 call_len sem_len (by rfl) T.m_len b_len (dq_var 3 (pv 3))) da_nil)))))
      (ds_one (ds_set 4 sc_l_an_order.nd rfl (Or.inl rfl) (de_op op_addA sem_add (dq_var 4 (pv 4)) (dq (de_tup (dd_cons (de_tup (dd_cons (de_var 6 (pv 6)) (dd_cons (de_call (ok_l_draw T) (hr.mono (by decide)) (by rfl) T.g_l_draw T.D_l_draw.kp (b_l_draw T) .nil (fun _ => .nil) (da_raw 0 (pv 0) (da_raw 1 (pv 1) (da_cons de_int da_nil)))) dd_nil))) dd_nil))))))))
      (ds_one (ds_ret (de_var 4 (pv 4))))))
theorem ok_l_class (T : Tx K mg a) : FnOk P w K mg base CX0 1 a.a_l_class a.d_l_class ["kept"] (SpC (twGI K w (tabs a) (clss a)) K f_l_class) := by
  have q0 := class_ok (P := P) (w := w) (mg := mg) (base := base) (gi := twGI K w (tabs a) (clss a)) (k := 0) (body := m_l_class) T.D_l_class sc_l_class
  refine q0 fun cdv A outer s H E hr => ?_
  have h64 := h64_of hr
  have h65 := h65_of hr
  have h1 := h1_of hr
  have h9 := h9_of hr
  delta m_l_class
  exact (ds_cons (ds_setL 1 sc_l_class.nd rfl (Or.inl rfl) (dl_lst (dd_cons (de_isX (by rfl) T.m_isinstance b_isinstance (pv 0) (pe_glob (v := .ref a.c_NoRows) (by rfl) T.g_NoRows rfl) (fun u r => r) (ck_NoRows T)) (dd_cons (de_isX (by rfl) T.m_isinstance b_isinstance (pv 0) (pe_glob (v := .ref a.c_NoPiece) (by rfl) T.g_NoPiece rfl) (fun u r => r) (ck_NoPiece T)) (dd_cons (de_isX (by rfl) T.m_isinstance b_isinstance (pv 0) (pe_glob (v := .ref a.c_Joined) (by rfl) T.g_Joined rfl) (fun u r => r) (ck_Joined T)) (dd_cons (de_isX (by rfl) T.m_isinstance b_isinstance (pv 0) (pe_glob (v := .ref a.c_NoFit) (by rfl) T.g_NoFit rfl) (fun u r => r) (ck_NoFit T)) dd_nil))))))
      (ds_cons (ds_setL 1 sc_l_class.nd rfl (Or.inl rfl) (dl_op op_cat sem_ladd (dq_var 1 (pv 1)) (dq (de_fz (dl_lst (dd_cons (de_isX (by rfl) T.m_isinstance b_isinstance (pv 0) (pe_glob (v := .ref a.c_NoRoom) (by rfl) T.g_NoRoom rfl) (fun u r => r) (ck_NoRoom T)) (dd_cons (de_isX (by rfl) T.m_isinstance b_isinstance (pv 0) (pe_glob (v := .ref a.c_Alone) (by rfl) T.g_Alone rfl) (fun u r => r) (ck_Alone T)) (dd_cons (de_isX (by rfl) T.m_isinstance b_isinstance (pv 0) (pe_glob (v := .ref a.c_NoBack) (by rfl) T.g_NoBack rfl) (fun u r => r) (ck_NoBack T)) dd_nil))))))))
      (ds_cons (ds_app 1 (pv 1) (de_isX (by rfl) T.m_isinstance b_isinstance (pv 0) (pe_glob (v := .ref a.c_NoText) (by rfl) T.g_NoText rfl) (fun u r => r) (ck_NoText T)) (fun h => pe_bm PySem.F.plainAttrs_list PySem.F.slot_list_append PySem.F.type_list_append mt_append (pv 1) h))
      (ds_cons (ds_if (PW.pt (dw_or (dt_cmp (op_neD h64) sem_ne (dq (de_count (fun h => pe_bm PySem.F.plainAttrs_list PySem.F.slot_list_count PySem.F.type_list_count (mt_countL h64) (dq_var 1 (pv 1)) h) (fun h => pe_tm PySem.F.slot_tuple_count PySem.F.type_tuple_count (mt_countT h64) (dq_var 1 (pv 1)) h) (dq de_bl))) (dq de_int) (nomark _)) (dw_or1 (dt_not (dt_tru (dq (de_isX (by rfl) T.m_isinstance b_isinstance (pv 0) (pe_bltn (v := .ty "ValueError") (by rfl) T.m_ValueError b_ValueError rfl) (fun u r => r) (ck_ValueError T)))))))) (ds_one (ds_ret de_str)) ds_nil)
      (ds_one (ds_ret (de_ix ix_seq sem_ix (dq (de_fz (dl_lst (dd_cons de_str (dd_cons de_str (dd_cons de_str (dd_cons de_str (dd_cons de_str (dd_cons de_str (dd_cons de_str (dd_cons de_str dd_nil))))))))))) (dq (de_m1' sem_index (fun h => pe_bm PySem.F.plainAttrs_list PySem.F.slot_list_index PySem.F.type_list_index (mt_indexD h65) (dq_var 1 (pv 1)) h) (dq de_bl))) (fun _ _ => rfl))))))))
theorem gv_l_heard {X : Cx} (T : Tx X.K X.mg a) (hr0 : Room 2 X.A) (cdv : Value) {qq : Str} : LamX.GivesTo X ["deed", "kept", "found", "e", "kind"] "_law_heard" (defScope s_l_heard) a.a_l_heard cdv (defBody s_l_heard) "deed" qq (TTh (twGI X.K X.w (tabs a) (clss a)) X.K 5 1 2 m_l_heard) := by
  refine heard_gives (jk := 1) (jf := 2) (i := 3) (kx := "kept") (fx := "found") (n := "e") (e := "EdgeError") (CE := a.c_EdgeError) sc_l_heard.nd rfl rfl rfl rfl rfl rfl rfl T.g_EdgeError (by decide) (by decide) (by decide) (by decide) (by decide) (by decide) (by decide) (xm_all T) (fun _ _ => rfl) (fun E h => by obtain ⟨⟩ := E; cases h; rfl) (fun _ _ => rfl) (fun _ _ => rfl) fun s H => ?_
  have hr : Room 1 (cxOf C8.CX0 X.prog X.w X.K X.mg X.base ["deed", "kept", "found", "e", "kind"] "_law_heard" (defScope s_l_heard) a.a_l_heard cdv X.A X.stack s H C8.E0).nox.A := hr0.deeper _
  have h64 := h64_of hr
  have h65 := h65_of hr
  have h1 := h1_of hr
  have h9 := h9_of hr
  delta m_l_heard
  exact (ds_cons (ds_if (dt_noX 1 (pv 1)) (ds_one (ds_ret (de_tup (dd_cons de_str (dd_cons (de_var 2 (pv 2)) dd_nil))))) ds_nil)
      (ds_cons (ds_set 4 sc_l_heard.nd rfl (Or.inl rfl) (de_callC (ok_l_class T) (hr.mono (by decide)) (by rfl) T.g_l_class T.D_l_class.kp (b_l_class T) (pv 1)))
      (ds_one (ds_ret (de_if (dt_cmp (op_eqD h64) sem_eq (dq_var 4 (pv 4)) (dq de_str) (nomark _)) (de_tup (dd_cons (de_var 4 (pv 4)) (dd_cons de_fail dd_nil))) (de_tup (dd_cons (de_var 4 (pv 4)) dd_nil)))))))
theorem ok_l_meant (T : Tx K mg a) : FnOk P w K mg base CX0 5 a.a_l_meant a.d_l_meant ["some", "line"] (SpD (twGI K w (tabs a) (clss a)) K 2 f_l_meant_2) := by
  have q0 := def_ok (P := P) (w := w) (mg := mg) (base := base) (gi := twGI K w (tabs a) (clss a)) (k := 4) (body := m_l_meant_2) T.D_l_meant sc_l_meant
  refine q0 fun cdv A outer s H E hr => ?_
  have h64 := h64_of hr
  have h65 := h65_of hr
  have h1 := h1_of hr
  have h9 := h9_of hr
  delta m_l_meant_2
  exact (ds_cons (ds_setKD 2 rfl (by rfl) T.m_dict b_dict sc_l_meant.nd rfl (Or.inr rfl) (de_fz (dl_lc (own := [("at", 5)]) (vs := [5]) rfl sc_l_meant.nd (di_c [5] (di_rng1 (by rfl) T.m_range (dq (de_op op_mulA sem_mul (dq de_int) (dq (de_b1 call_len sem_len (by rfl) T.m_len b_len (dq_var 0 (pv 0)))))))) (blkOk_by (own := [("at", 5)]) (N := ["some", "line", "words", "rows", "found", "at", "row", "word"]) (sc := defScope s_l_meant) (by decide +kernel)) rfl (kp_name 5) (fun _ _ _ _ _ => (dg_name (i := 5) sc_l_meant.nd rfl (Or.inl rfl))) (fun _ _ _ _ _ => dts_nil) (fun _ _ _ _ _ => (de_tup (dd_cons (de_op op_add_str sem_addS (dq (de_op op_add_str sem_addS (dq (de_t1 call_str_int sem_str (by rfl) T.m_str b_str (dq (de_op op_fdiv sem_fdiv (dq_var 5 (pv 5)) (dq de_int))))) (dq de_str))) (dq (de_t1 call_str_int sem_str (by rfl) T.m_str b_str (dq (de_op op_mod sem_mod (dq_var 5 (pv 5)) (dq de_int)))))) (dd_cons (de_tup (dd_cons (de_op op_fdiv sem_fdiv (dq_var 5 (pv 5)) (dq de_int)) (dd_cons (de_op op_mod sem_mod (dq_var 5 (pv 5)) (dq de_int)) dd_nil))) dd_nil)))))))
      (ds_cons (ds_setLcF 3 (own := [("row", 6)]) (vs := [6]) rfl sc_l_meant.nd rfl rfl (sw_true rfl rfl rfl (by decide +kernel)) (di_c [6] (di_seq (de_fz (dl_split (dq_var 1 (pv 1)) (dq de_str))))) (blkOk_by (own := [("row", 6)]) (N := ["some", "line", "words", "rows", "found", "at", "row", "word"]) (sc := defScope s_l_meant) (by decide +kernel)) rfl (kp_name 6) (fun _ _ _ _ _ => (dg_name (i := 6) sc_l_meant.nd rfl (Or.inl rfl))) (fun _ _ _ _ _ => dts_nil) (fun _ _ _ _ _ => (de_fz (dl_split (dq_var 6 (pv 6)) (dq de_str)))))
      (ds_cons (ds_if (dt_cmp (op_neD h64) sem_ne (dq (de_fz (dl_lc (own := [("row", 6)]) (vs := [6]) rfl sc_l_meant.nd (di_c [6] (di_seq (de_var 3 (pv 3)))) (blkOk_by (own := [("row", 6)]) (N := ["some", "line", "words", "rows", "found", "at", "row", "word"]) (sc := defScope s_l_meant) (by decide +kernel)) rfl (kp_name 6) (fun _ _ _ _ _ => (dg_name (i := 6) sc_l_meant.nd rfl (Or.inl rfl))) (fun _ _ _ _ _ => (dts_one (dt_cmp (op_neD h64) sem_ne (dq (de_fz (dl_lc (own := [("word", 7)]) (vs := [7]) rfl sc_l_meant.nd (di_c [7] (di_seq (de_var 6 (pv 6)))) (blkOk_by (by rfl)) rfl (kp_name 7) (fun _ _ _ _ _ => (dg_name (i := 7) sc_l_meant.nd rfl (Or.inl rfl))) (fun _ _ _ _ _ => (dts_one (dt_notInKD 2 h1 (pv 2) (de_var 7 (pv 7))))) (fun _ _ _ _ _ => (de_var 7 (pv 7)))))) (dq (de_fz (dl_lst dd_nil))) (nomark _)))) (fun _ _ _ _ _ => (de_var 6 (pv 6)))))) (dq (de_fz (dl_lst dd_nil))) (nomark _)) (ds_one (ds_ret (de_tup (dd_cons de_str dd_nil)))) ds_nil)
      (ds_cons (ds_set 4 sc_l_meant.nd rfl (Or.inl rfl) (de_t1 call_tupleS sem_tuple (by rfl) T.m_tuple b_tuple (dq (de_fz (dl_lc (own := [("row", 6)]) (vs := [6]) rfl sc_l_meant.nd (di_c [6] (di_seq (de_var 3 (pv 3)))) (blkOk_by (own := [("row", 6)]) (N := ["some", "line", "words", "rows", "found", "at", "row", "word"]) (sc := defScope s_l_meant) (by decide +kernel)) rfl (kp_name 6) (fun _ _ _ _ _ => (dg_name (i := 6) sc_l_meant.nd rfl (Or.inl rfl))) (fun _ _ _ _ _ => dts_nil) (fun _ _ _ _ _ => (de_t1 call_tupleS sem_tuple (by rfl) T.m_tuple b_tuple (dq (de_fz (dl_lc (own := [("word", 7)]) (vs := [7]) rfl sc_l_meant.nd (di_c [7] (di_seq (de_var 6 (pv 6)))) (blkOk_by (by rfl)) rfl (kp_name 7) (fun _ _ _ _ _ => (dg_name (i := 7) sc_l_meant.nd rfl (Or.inl rfl))) (fun _ _ _ _ _ => dts_nil) (fun _ _ _ _ _ => (de_dixD 2 h1 (pv 2) (de_var 7 (pv 7)) (fun _ _ => rfl)))))))))))))
      (ds_one (ds_ret (de_if (dt_tru (dq (de_call (ok_is_laying T) (hr.mono (by decide)) (by rfl) T.g_is_laying T.D_is_laying.kp (b_is_laying T) .nil (fun _ => .nil) (da_cons (de_var 0 (pv 0)) (da_cons (de_var 4 (pv 4)) da_nil))))) (de_tup (dd_cons de_str (dd_cons (de_var 4 (pv 4)) dd_nil))) (de_tup (dd_cons de_str dd_nil)))))))))
theorem ok_law (h : ∀ (a t r : Addr) (tr : Bool) (ns : List Int), ns.length ≤ 63 → ∃ g', m_law_k34 (lawE 16 a t) (tw0 a t r tr ns) = some (.ret (.d (.bool true)), g')) (T : Tx K mg a) (TB : LamX.TabB base mg a.c_law a.t_law) : FnOk P w K mg base CX0 9 a.a_law a.d_law ["script"] (spLaw K (tabs a)) := by
  obtain ⟨oc, od, an, osl, dV, kV, doc, pm, ct, e, lk, hcd⟩ := T.L_law
  rw [e] at lk ⊢
  have q0 := law_okT (tabs a) (clss a) (P := P) (w := w) (mg := mg) (base := base) (k := 8) (body := m_law_k34) lk hcd sc_law (by decide) rfl
  refine q0 (fun A outer s H E hr => ⟨?_, ?_⟩) h
  · exact PS_weak (ps_set (i := 1) sc_law.nd rfl (Or.inr rfl) (pe_call0 (ok_l_begun T) (hr.mono (by decide)) (by rfl) T.g_l_begun T.D_l_begun.kp (b_l_begun T) .nil pass0)) fun D σ H h => ⟨rfl, fun t r H' b => h t r H' b⟩
  · have h64 := h64_of hr
    have h65 := h65_of hr
    have h1 := h1_of hr
    have h9 := h9_of hr
    delta m_law_k34
    exact (ds_cons (ds_for PassesOwn.never rfl (di_rng1 (by rfl) T.m_range (dq de_int)) (dg_name (i := 2) sc_law.nd rfl (Or.inl rfl)) (ds_cons (ds_set 3 sc_law.nd rfl (Or.inr rfl) (de_t1 call_tupleS sem_tuple (by rfl) T.m_tuple b_tuple (dq (de_fz (dl_lc (own := [("j", 8)]) (vs := [8]) rfl sc_law.nd (di_c [8] (di_rng1 (by rfl) T.m_range (dq (de_op op_addA sem_add (dq de_int) (dq (de_call (ok_l_draw T) (hr.mono (by decide)) (by rfl) T.g_l_draw T.D_l_draw.kp (b_l_draw T) .nil (fun _ => .nil) (da_raw 0 (pv 0) (da_raw 1 (pv 1) (da_cons de_int da_nil))))))))) (blkOk_by (own := [("j", 8)]) (N := ["script", "town", "k", "some", "pairs", "wide", "lines", "line", "j", "at", "sign", "other", "one", "bad", "row", "often"]) (sc := defScope s_law) (by decide +kernel)) rfl (kp_name 8) (fun _ _ _ _ _ => (dg_name (i := 8) sc_law.nd rfl (Or.inl rfl))) (fun _ _ _ _ _ => dts_nil) (fun _ _ _ _ _ => (de_call (ok_l_a_piece T) (hr.mono (by decide)) (by rfl) T.g_l_a_piece T.D_l_a_piece.kp (b_l_a_piece T) .nil (fun _ => .nil) (da_raw 0 (pv 0) (da_raw 1 (pv 1) da_nil)))))))))
      (ds_cons (ds_asg (de_tup (dd_cons (de_call (ok_l_an_order T) (hr.mono (by decide)) (by rfl) T.g_l_an_order T.D_l_an_order.kp (b_l_an_order T) .nil (fun _ => .nil) (da_raw 0 (pv 0) (da_raw 1 (pv 1) (da_cons (de_b1 call_len sem_len (by rfl) T.m_len b_len (dq_var 3 (pv 3))) da_nil)))) (dd_cons (de_op op_addA sem_add (dq de_int) (dq (de_call (ok_l_draw T) (hr.mono (by decide)) (by rfl) T.g_l_draw T.D_l_draw.kp (b_l_draw T) .nil (fun _ => .nil) (da_raw 0 (pv 0) (da_raw 1 (pv 1) (da_cons (de_b2 (call_min2 rfl) sem_min2 (by rfl) T.m_min b_min (dq de_int) (dq (de_b1 call_len sem_len (by rfl) T.m_len b_len (dq_var 3 (pv 3))))) da_nil)))))) dd_nil))) (dg_tup rfl (dgs_cons (dg_name (i := 4) sc_law.nd rfl (Or.inr rfl)) (dgs_cons (dg_name (i := 5) sc_law.nd rfl (Or.inr rfl)) dgs_nil))))
      (ds_cons (ds_set 6 sc_law.nd rfl (Or.inl rfl) (de_t1 call_tupleS sem_tuple (by rfl) T.m_tuple b_tuple (dq (de_fz (dl_lc (own := [("at", 9)]) (vs := [9]) rfl sc_law.nd (di_c [9] (di_rng3 (by rfl) T.m_range (dq de_int) (dq (de_op op_addA sem_add (dq (de_op op_sub sem_sub (dq (de_b1 call_len sem_len (by rfl) T.m_len b_len (dq_var 4 (pv 4)))) (dq_var 5 (pv 5)))) (dq de_int))) (dq_var 5 (pv 5)))) (blkOk_by (own := [("at", 9)]) (N := ["script", "town", "k", "some", "pairs", "wide", "lines", "line", "j", "at", "sign", "other", "one", "bad", "row", "often"]) (sc := defScope s_law) (by decide +kernel)) rfl (kp_name 9) (fun _ _ _ _ _ => (dg_name (i := 9) sc_law.nd rfl (Or.inl rfl))) (fun _ _ _ _ _ => dts_nil) (fun _ _ _ _ _ => (de_cut (dq_var 4 (pv 4)) (do_some (dq_var 9 (pv 9))) (do_some (dq (de_op op_addA sem_add (dq_var 9 (pv 9)) (dq_var 5 (pv 5))))))))))))
      (ds_cons (ds_set 7 sc_law.nd rfl (Or.inl rfl) (de_join (dq de_str) (dq (de_fz (dl_lc (own := [("row", 14)]) (vs := [14]) rfl sc_law.nd (di_c [14] (di_seq (de_var 6 (pv 6)))) (blkOk_by (own := [("row", 14)]) (N := ["script", "town", "k", "some", "pairs", "wide", "lines", "line", "j", "at", "sign", "other", "one", "bad", "row", "often"]) (sc := defScope s_law) (by decide +kernel)) rfl (kp_name 14) (fun _ _ _ _ _ => (dg_name (i := 14) sc_law.nd rfl (Or.inl rfl))) (fun _ _ _ _ _ => dts_nil) (fun _ _ _ _ _ => (de_join (dq de_str) (dq (de_fz (dl_lc (own := [("at", 9), ("often", 15)]) (vs := [9, 15]) rfl sc_law.nd (di_c [9, 15] (di_seq (de_var 14 (pv 14)))) (blkOk_by (by rfl)) rfl (kp_tup (kps_cons (kp_name 9) (kps_cons (kp_name 15) kps_nil))) (fun _ _ _ _ _ => (dg_tup rfl (dgs_cons (dg_name (i := 9) sc_law.nd rfl (Or.inl rfl)) (dgs_cons (dg_name (i := 15) sc_law.nd rfl (Or.inl rfl)) dgs_nil)))) (fun _ _ _ _ _ => dts_nil) (fun _ _ _ _ _ => (de_op op_add_str sem_addS (dq (de_op op_add_str sem_addS (dq (de_t1 call_str_int sem_str (by rfl) T.m_str b_str (dq_var 9 (pv 9)))) (dq de_str))) (dq (de_t1 call_str_int sem_str (by rfl) T.m_str b_str (dq_var 15 (pv 15))))))))))))))))
      (ds_cons (ds_if (PW.pt (dw_or (dt_cmp (op_neD h64) sem_ne (dq (de_call (ok_laying_text T) (hr.mono (by decide)) (by rfl) T.g_laying_text T.D_laying_text.kp (b_laying_text T) .nil (fun _ => .nil) (da_cons (de_var 6 (pv 6)) da_nil))) (dq_var 7 (pv 7)) (nomark _)) (dw_or1 (dt_cmp (op_neD h64) sem_ne (dq (de_call (ok_read_laying T) (hr.mono (by decide)) (by rfl) T.g_read_laying T.D_read_laying.kp (b_read_laying T) .nil (fun _ => .nil) (da_cons (de_var 3 (pv 3)) (da_cons (de_var 7 (pv 7)) da_nil)))) (dq_var 6 (pv 6)) (nomark _))))) (ds_one (ds_ret de_bl)) ds_nil)
      (ds_one (ds_for PassesOwn.never rfl (di_rng1 (by rfl) T.m_range (dq de_int)) (dg_name (i := 8) sc_law.nd rfl (Or.inl rfl)) (ds_cons (ds_par2 rfl sc_law.nd rfl rfl (by decide) rfl rfl (dx_d (de_call (ok_l_draw T) (hr.mono (by decide)) (by rfl) T.g_l_draw T.D_l_draw.kp (b_l_draw T) .nil (fun _ => .nil) (da_raw 0 (pv 0) (da_raw 1 (pv 1) (da_cons (de_op op_addA sem_add (dq (de_b1 call_len_str sem_lenS (by rfl) T.m_len b_len (dq_var 7 (pv 7)))) (dq de_int)) da_nil)))) (dx_d (de_ix ix_str sem_ixS (dq de_str) (dq (de_call (ok_l_draw T) (hr.mono (by decide)) (by rfl) T.g_l_draw T.D_l_draw.kp (b_l_draw T) .nil (fun _ => .nil) (da_raw 0 (pv 0) (da_raw 1 (pv 1) (da_cons de_int da_nil))))) (fun _ _ => rfl)) dx_nil)) (by rfl))
      (ds_one (ds_for PassesOwn.never rfl (di_seq (de_fz (dl_lst (dd_cons (de_op op_add_str sem_addS (dq (de_op op_add_str sem_addS (dq (de_cutS (dq_var 7 (pv 7)) do_none (do_some (dq_var 9 (pv 9))))) (dq_var 10 (pv 10)))) (dq (de_cutS (dq_var 7 (pv 7)) (do_some (dq_var 9 (pv 9))) do_none))) (dd_cons (de_op op_add_str sem_addS (dq (de_cutS (dq_var 7 (pv 7)) do_none (do_some (dq_var 9 (pv 9))))) (dq (de_cutS (dq_var 7 (pv 7)) (do_some (dq (de_op op_addA sem_add (dq_var 9 (pv 9)) (dq de_int)))) do_none))) (dd_cons (de_op op_add_str sem_addS (dq (de_op op_add_str sem_addS (dq (de_cutS (dq_var 7 (pv 7)) do_none (do_some (dq_var 9 (pv 9))))) (dq_var 10 (pv 10)))) (dq (de_cutS (dq_var 7 (pv 7)) (do_some (dq (de_op op_addA sem_add (dq_var 9 (pv 9)) (dq de_int)))) do_none))) dd_nil)))))) (dg_name (i := 11) sc_law.nd rfl (Or.inr rfl)) (ds_one (ds_if (dt_cmp (op_neD h64) sem_ne (dq (de_heard (jk := 1) (jf := 2) (m := m_l_heard) (k := 5) T.D_l_heard sc_l_heard (b_l_heard T) (by rfl) T.g_l_heard (by rfl) (Or.inl rfl) (fun cdv => gv_l_heard T (hr.mono (by decide)) cdv) TB rfl (tabs_in a) (tabs_un a) (hr.mono (by decide)) (by rfl) (fun A outer s H E f' c' hr2 => (de_callKX (ok_read_laying_x T) (takes_of rfl rfl rfl rfl) (hr2.mono (by decide)) (by rfl) T.g_read_laying T.D_read_laying.kp (kb_read_laying_1_text T) kb_read_laying_1_text_A (da_cons (de_var 3 (pv 3)) da_nil) (dk_cons (de_var 11 (pv 11)) dk_nil))))) (dq (de_call (ok_l_meant T) (hr.mono (by decide)) (by rfl) T.g_l_meant T.D_l_meant.kp (b_l_meant T) .nil (fun _ => .nil) (da_cons (de_var 3 (pv 3)) (da_cons (de_var 11 (pv 11)) da_nil)))) (nomark _)) (ds_one (ds_ret de_bl)) ds_nil)))))))))))))
      (ds_cons (ds_set 12 sc_law.nd rfl (Or.inr rfl) (de_tup (dd_cons (de_tup (dd_cons de_int (dd_cons de_int (dd_cons de_int (dd_cons de_int dd_nil))))) dd_nil)))
      (ds_cons (ds_set 13 sc_law.nd rfl (Or.inl rfl) (de_fz (dl_lst (dd_cons de_str (dd_cons de_str (dd_cons de_str (dd_cons de_str (dd_cons de_str (dd_cons de_str (dd_cons de_str (dd_cons de_str (dd_cons de_str (dd_cons de_str (dd_cons de_str (dd_cons de_str (dd_cons de_str (dd_cons de_str (dd_cons de_str dd_nil))))))))))))))))))
      (ds_one (ds_ret (de_cmp (op_eqD h64) sem_eq (dq (de_fz (dl_lc (own := [("line", 7)]) (vs := [7]) rfl sc_law.nd (di_c [7] (di_seq (de_var 13 (pv 13)))) (blkOk_by (own := [("line", 7)]) (N := ["script", "town", "k", "some", "pairs", "wide", "lines", "line", "j", "at", "sign", "other", "one", "bad", "row", "often"]) (sc := defScope s_law) (by decide +kernel)) rfl (kp_name 7) (fun _ _ _ _ _ => (dg_name (i := 7) sc_law.nd rfl (Or.inr rfl))) (fun _ _ _ _ _ => dts_nil) (fun _ _ _ _ _ => (de_heard (jk := 1) (jf := 2) (m := m_l_heard) (k := 5) T.D_l_heard sc_l_heard (b_l_heard T) (by rfl) T.g_l_heard (by rfl) (Or.inl rfl) (fun cdv => gv_l_heard T (hr.mono (by decide)) cdv) TB rfl (tabs_in a) (tabs_un a) (hr.mono (by decide)) (by rfl) (fun A outer s H E f' c' hr2 => (de_callX (ok_read_laying_x T) (takes_of rfl rfl rfl rfl) (hr2.mono (by decide)) (by rfl) T.g_read_laying T.D_read_laying.kp (b_read_laying T) (da_cons (de_var 12 (pv 12)) (da_cons (de_var 7 (pv 7)) da_nil))))))))) (dq (de_fz (dl_lc (own := [("line", 7)]) (vs := [7]) rfl sc_law.nd (di_c [7] (di_seq (de_var 13 (pv 13)))) (blkOk_by (own := [("line", 7)]) (N := ["script", "town", "k", "some", "pairs", "wide", "lines", "line", "j", "at", "sign", "other", "one", "bad", "row", "often"]) (sc := defScope s_law) (by decide +kernel)) rfl (kp_name 7) (fun _ _ _ _ _ => (dg_name (i := 7) sc_law.nd rfl (Or.inl rfl))) (fun _ _ _ _ _ => dts_nil) (fun _ _ _ _ _ => (de_tup (dd_cons de_str dd_nil)))))) (nomark _)))))))
end
def dd_is_whole_number : He.DefD := ⟨("is_whole_number", none), "is_whole_number", "is_whole_number", defArgs s_is_whole_number, defBody s_is_whole_number, defScope s_is_whole_number, [], []⟩
def dd_is_entry : He.DefD := ⟨("is_entry", none), "is_entry", "is_entry", defArgs s_is_entry, defBody s_is_entry, defScope s_is_entry, [], []⟩
def dd_is_row : He.DefD := ⟨("is_row", none), "is_row", "is_row", defArgs s_is_row, defBody s_is_row, defScope s_is_row, [], []⟩
def dd_entries_of : He.DefD := ⟨("entries_of", none), "entries_of", "entries_of", defArgs s_entries_of, defBody s_entries_of, defScope s_entries_of, [], []⟩
def dd_is_laying : He.DefD := ⟨("is_laying", none), "is_laying", "is_laying", defArgs s_is_laying, defBody s_is_laying, defScope s_is_laying, [], []⟩
def dd_number_of : He.DefD := ⟨("number_of", none), "number_of", "number_of", defArgs s_number_of, defBody s_number_of, defScope s_number_of, [], []⟩
def dd_laying_text : He.DefD := ⟨("laying_text", none), "laying_text", "laying_text", defArgs s_laying_text, defBody s_laying_text, defScope s_laying_text, [], []⟩
def dd_read_laying : He.DefD := ⟨("read_laying", none), "read_laying", "read_laying", defArgs s_read_laying, defBody s_read_laying, defScope s_read_laying, [], []⟩
def dd_l_draw : He.DefD := ⟨("_law_draw", none), "_law_draw", "_law_draw", defArgs s_l_draw, defBody s_l_draw, defScope s_l_draw, [], []⟩
def dd_l_begun : He.DefD := ⟨("_law_begun", none), "_law_begun", "_law_begun", defArgs s_l_begun, defBody s_l_begun, defScope s_l_begun, [], []⟩
def dd_l_a_piece : He.DefD := ⟨("_law_a_piece", none), "_law_a_piece", "_law_a_piece", defArgs s_l_a_piece, defBody s_l_a_piece, defScope s_l_a_piece, [], []⟩
def dd_l_an_order : He.DefD := ⟨("_law_an_order", none), "_law_an_order", "_law_an_order", defArgs s_l_an_order, defBody s_l_an_order, defScope s_l_an_order, [], []⟩
def dd_l_class : He.DefD := ⟨("_law_class", none), "_law_class", "_law_class", defArgs s_l_class, defBody s_l_class, defScope s_l_class, [], []⟩
def dd_l_heard : He.DefD := ⟨("_law_heard", none), "_law_heard", "_law_heard", defArgs s_l_heard, defBody s_l_heard, defScope s_l_heard, [], []⟩
def dd_l_meant : He.DefD := ⟨("_law_meant", none), "_law_meant", "_law_meant", defArgs s_l_meant, defBody s_l_meant, defScope s_l_meant, [], []⟩
def dd_law : He.DefD := ⟨("law", none), "law", "law", defArgs s_law, defBody s_law, defScope s_law, [], []⟩
def fnL : List He.DefD := [dd_is_whole_number, dd_is_entry, dd_is_row, dd_entries_of, dd_is_laying, dd_number_of, dd_laying_text, dd_read_laying, dd_l_draw, dd_l_begun, dd_l_a_piece, dd_l_an_order, dd_l_class, dd_l_heard, dd_l_meant, dd_law]
def faL : List He.Fa := [.glo "is_whole_number", .glo "is_entry", .glo "is_row", .glo "entries_of", .glo "is_laying", .glo "number_of", .glo "laying_text", .glo "read_laying", .glo "_law_draw", .glo "_law_begun", .glo "_law_a_piece", .glo "_law_an_order", .glo "_law_class", .glo "_law_heard", .glo "_law_meant", .glo "law", .glo "Alone", .glo "EdgeError", .glo "Joined", .glo "NoBack", .glo "NoFit", .glo "NoPiece", .glo "NoRoom", .glo "NoRows", .glo "NoText", .free "ValueError", .free "all", .free "bool", .free "dict", .free "int", .free "isinstance", .free "len", .free "list", .free "min", .free "range", .free "set", .free "str", .free "tuple"]
def ex0 (K : PySem.W.Frag) : Bool := decide (PySem.W.excIn K (He.ga K "NoText") [.type "ValueError", .type "Exception", .type "BaseException", .type "object"] "ValueError.__new__" = true)
def ex1 (K : PySem.W.Frag) : Bool := decide (PySem.W.keepIn K (.ref (He.ga K "NoText")) = true)
def ex2 (K : PySem.W.Frag) : Bool := decide (PySem.W.subIn K (.ref (He.ga K "NoText")) (.type "BaseException") = some true)
def ex3 (K : PySem.W.Frag) : Bool := decide (PySem.W.typeIn K (.ref (He.ga K "NoText")) = some (.type "type"))
def ex4 (K : PySem.W.Frag) : Bool := decide (PySem.W.findIn K (.ref (He.ga K "NoText")) "__getattribute__" = some (some (.builtin "BaseException.__getattribute__")))
def ex5 (K : PySem.W.Frag) : Bool := decide (PySem.W.findIn K (.ref (He.ga K "NoText")) "__getattr__" = some none)
def ex6 (K : PySem.W.Frag) : Bool := decide (PySem.W.subIn K (.ref (He.ga K "NoText")) (.type "BaseException") = some true)
def ex7 (K : PySem.W.Frag) : Bool := decide (PySem.W.hasDictIn K (He.ga K "NoText") = true)
def ex8 (K : PySem.W.Frag) : Bool := decide (PySem.W.findIn K (.ref (He.ga K "NoText")) "__class__" = some (some (.builtin "object.__class__")))
def ex9 (K : PySem.W.Frag) : Bool := decide (PySem.W.specialIn K (.builtin "object.__class__") "__get__" = some (some (.builtin "getset_descriptor.__get__")))
def ex10 (K : PySem.W.Frag) : Bool := decide (PySem.W.takesIn K (.builtin "object.__class__") = some true)
def ex11 (K : PySem.W.Frag) : Bool := decide (PySem.W.mroIn K (He.ga K "NoText") (.type "object") = some true)
def ex12 (K : PySem.W.Frag) : Bool := decide (PySem.W.exmOne K (.ref (He.ga K "NoText")) (.ref (He.ga K "EdgeError")) = some true)
def ex13 (K : PySem.W.Frag) : Bool := decide (PySem.W.kitOne K (.ref (He.ga K "NoText")) (.ref (He.ga K "Alone")) = some (subX "NoText" "Alone"))
def ex14 (K : PySem.W.Frag) : Bool := decide (PySem.W.kitOne K (.ref (He.ga K "NoText")) (.ref (He.ga K "Joined")) = some (subX "NoText" "Joined"))
def ex15 (K : PySem.W.Frag) : Bool := decide (PySem.W.kitOne K (.ref (He.ga K "NoText")) (.ref (He.ga K "NoBack")) = some (subX "NoText" "NoBack"))
def ex16 (K : PySem.W.Frag) : Bool := decide (PySem.W.kitOne K (.ref (He.ga K "NoText")) (.ref (He.ga K "NoFit")) = some (subX "NoText" "NoFit"))
def ex17 (K : PySem.W.Frag) : Bool := decide (PySem.W.kitOne K (.ref (He.ga K "NoText")) (.ref (He.ga K "NoPiece")) = some (subX "NoText" "NoPiece"))
def ex18 (K : PySem.W.Frag) : Bool := decide (PySem.W.kitOne K (.ref (He.ga K "NoText")) (.ref (He.ga K "NoRoom")) = some (subX "NoText" "NoRoom"))
def ex19 (K : PySem.W.Frag) : Bool := decide (PySem.W.kitOne K (.ref (He.ga K "NoText")) (.ref (He.ga K "NoRows")) = some (subX "NoText" "NoRows"))
def ex20 (K : PySem.W.Frag) : Bool := decide (PySem.W.kitOne K (.ref (He.ga K "NoText")) (.ref (He.ga K "NoText")) = some (subX "NoText" "NoText"))
def ex21 (K : PySem.W.Frag) : Bool := decide (PySem.W.kitOne K (.ref (He.ga K "NoText")) (.type "ValueError") = some (subX "NoText" "ValueError"))
def exL (K : PySem.W.Frag) : Bool := ex0 K && (ex1 K && (ex2 K && (ex3 K && (ex4 K && (ex5 K && (ex6 K && (ex7 K && (ex8 K && (ex9 K && (ex10 K && (ex11 K && (ex12 K && (ex13 K && (ex14 K && (ex15 K && (ex16 K && (ex17 K && (ex18 K && (ex19 K && (ex20 K && (ex21 K)))))))))))))))))))))
def tfL : List He.Defn := [("law", none)]
abbrev RL : PySem.W.OpenRow := PySem.W.OpenLaw.row PySem.Challenge.rw_edgepieces_k34_laying_texts
abbrev hkL : PySem.W.Hook := He.hookX 4 faL fnL [] tfL exL
def obL (s : PySem.W.SharedT) : He.AlX := He.obsX 4 faL fnL [] tfL exL (HandSHeadRun.getT s)
theorem obL_eq (s : PySem.W.SharedT) : obL s = hkL.obs s.abs := He.obsX_eq (HandSHeadRun.getT_eq s)
abbrev looseL : List Str := ["EdgeError", "NoRows", "NoPiece", "Joined", "NoFit", "NoRoom", "Alone", "NoBack", "NoText", "is_whole_number", "is_entry", "is_row", "entries_of", "is_laying", "number_of", "laying_text", "read_laying", "_law_draw", "_law_begun", "_law_a_piece", "_law_an_order", "_law_class", "_law_heard", "_law_meant"]
set_option maxHeartbeats 0 in
theorem runL (w : World) : HandSHeadRun.RunEq RL (PySem.W.view RL.prog [29]) hkL obL 4000 looseL w := by
  intro os
  kernel_rfl
theorem factsL {l : PySem.W.OpenLaw} {w : World} {K : PySem.W.Frag} {h : Heap} {mg : Str → Option Value} {fa : Addr} (X : K.In h) (G : h.Ns mainGlobals mg) (hfa : mg "law" = some (.ref fa)) (c : He.SaysX faL fnL [] tfL exL w h K) : LamX.LawAtS l w K CX0 9 63 "script" mg fa h := by
  have sd : He.SaysD faL fnL K := c.t.d
  obtain ⟨fd0, F0⟩ := sd.def_ 0 (d := dd_is_whole_number) rfl
  obtain ⟨fd1, F1⟩ := sd.def_ 1 (d := dd_is_entry) rfl
  obtain ⟨fd2, F2⟩ := sd.def_ 2 (d := dd_is_row) rfl
  obtain ⟨fd3, F3⟩ := sd.def_ 3 (d := dd_entries_of) rfl
  obtain ⟨fd4, F4⟩ := sd.def_ 4 (d := dd_is_laying) rfl
  obtain ⟨fd5, F5⟩ := sd.def_ 5 (d := dd_number_of) rfl
  obtain ⟨fd6, F6⟩ := sd.def_ 6 (d := dd_laying_text) rfl
  obtain ⟨fd7, F7⟩ := sd.def_ 7 (d := dd_read_laying) rfl
  obtain ⟨fd8, F8⟩ := sd.def_ 8 (d := dd_l_draw) rfl
  obtain ⟨fd9, F9⟩ := sd.def_ 9 (d := dd_l_begun) rfl
  obtain ⟨fd10, F10⟩ := sd.def_ 10 (d := dd_l_a_piece) rfl
  obtain ⟨fd11, F11⟩ := sd.def_ 11 (d := dd_l_an_order) rfl
  obtain ⟨fd12, F12⟩ := sd.def_ 12 (d := dd_l_class) rfl
  obtain ⟨fd13, F13⟩ := sd.def_ 13 (d := dd_l_heard) rfl
  obtain ⟨fd14, F14⟩ := sd.def_ 14 (d := dd_l_meant) rfl
  obtain ⟨fd15, F15⟩ := sd.def_ 15 (d := dd_law) rfl
  have e := hfa.symm.trans (He.glo_ok X G (sd.fact 15 (f := .glo "law") rfl))
  cases e
  have hx := c.more
  unfold exL at hx
  simp only [Bool.and_eq_true] at hx
  obtain ⟨x0, x1, x2, x3, x4, x5, x6, x7, x8, x9, x10, x11, x12, x13, x14, x15, x16, x17, x18, x19, x20, x21⟩ := hx
  obtain ⟨oc, od, dV, kV, doc, pm, an, cdv, ct, osl, e, lk, hcd, _, _⟩ := F15.ex
  obtain ⟨cc, hc⟩ := He.codeIn_ref hcd
  subst hc
  have ec : (He.cT K ("law", none)).1 = cc := He.codeOf_eq (p := ("law", none)) (fd := fd15) lk (by rw [e])
  have T : Tx K mg ⟨He.ga K "is_whole_number", fd0, He.ga K "is_entry", fd1, He.ga K "is_row", fd2, He.ga K "entries_of", fd3, He.ga K "is_laying", fd4, He.ga K "number_of", fd5, He.ga K "laying_text", fd6, He.ga K "read_laying", fd7, He.ga K "_law_draw", fd8, He.ga K "_law_begun", fd9, He.ga K "_law_a_piece", fd10, He.ga K "_law_an_order", fd11, He.ga K "_law_class", fd12, He.ga K "_law_heard", fd13, He.ga K "_law_meant", fd14, He.ga K "law", fd15, He.ga K "Alone", He.ga K "EdgeError", He.ga K "Joined", He.ga K "NoBack", He.ga K "NoFit", He.ga K "NoPiece", He.ga K "NoRoom", He.ga K "NoRows", He.ga K "NoText", (He.cT K ("law", none)).1, (He.cT K ("law", none)).2⟩ := ⟨F0, He.glo_ok X G (sd.fact 0 (f := .glo "is_whole_number") rfl), F1, He.glo_ok X G (sd.fact 1 (f := .glo "is_entry") rfl), F2, He.glo_ok X G (sd.fact 2 (f := .glo "is_row") rfl), F3, He.glo_ok X G (sd.fact 3 (f := .glo "entries_of") rfl), F4, He.glo_ok X G (sd.fact 4 (f := .glo "is_laying") rfl), F5, He.glo_ok X G (sd.fact 5 (f := .glo "number_of") rfl), F6, He.glo_ok X G (sd.fact 6 (f := .glo "laying_text") rfl), F7, He.glo_ok X G (sd.fact 7 (f := .glo "read_laying") rfl), F8, He.glo_ok X G (sd.fact 8 (f := .glo "_law_draw") rfl), F9, He.glo_ok X G (sd.fact 9 (f := .glo "_law_begun") rfl), F10, He.glo_ok X G (sd.fact 10 (f := .glo "_law_a_piece") rfl), F11, He.glo_ok X G (sd.fact 11 (f := .glo "_law_an_order") rfl), F12, He.glo_ok X G (sd.fact 12 (f := .glo "_law_class") rfl), F13, He.glo_ok X G (sd.fact 13 (f := .glo "_law_heard") rfl), F14, He.glo_ok X G (sd.fact 14 (f := .glo "_law_meant") rfl), F15, He.glo_ok X G (sd.fact 15 (f := .glo "law") rfl), He.free_ok X G (sd.fact 25 (f := .free "ValueError") rfl), He.free_ok X G (sd.fact 26 (f := .free "all") rfl), He.free_ok X G (sd.fact 27 (f := .free "bool") rfl), He.free_ok X G (sd.fact 28 (f := .free "dict") rfl), He.free_ok X G (sd.fact 29 (f := .free "int") rfl), He.free_ok X G (sd.fact 30 (f := .free "isinstance") rfl), He.free_ok X G (sd.fact 31 (f := .free "len") rfl), He.free_ok X G (sd.fact 32 (f := .free "list") rfl), He.free_ok X G (sd.fact 33 (f := .free "min") rfl), He.free_ok X G (sd.fact 34 (f := .free "range") rfl), He.free_ok X G (sd.fact 35 (f := .free "set") rfl), He.free_ok X G (sd.fact 36 (f := .free "str") rfl), He.free_ok X G (sd.fact 37 (f := .free "tuple") rfl), He.glo_ok X G (sd.fact 16 (f := .glo "Alone") rfl), He.glo_ok X G (sd.fact 17 (f := .glo "EdgeError") rfl), He.glo_ok X G (sd.fact 18 (f := .glo "Joined") rfl), He.glo_ok X G (sd.fact 19 (f := .glo "NoBack") rfl), He.glo_ok X G (sd.fact 20 (f := .glo "NoFit") rfl), He.glo_ok X G (sd.fact 21 (f := .glo "NoPiece") rfl), He.glo_ok X G (sd.fact 22 (f := .glo "NoRoom") rfl), He.glo_ok X G (sd.fact 23 (f := .glo "NoRows") rfl), He.glo_ok X G (sd.fact 24 (f := .glo "NoText") rfl), of_decide_eq_true x0, of_decide_eq_true x1, of_decide_eq_true x2, of_decide_eq_true x3, ⟨of_decide_eq_true x4, of_decide_eq_true x5, of_decide_eq_true x6, of_decide_eq_true x7, of_decide_eq_true x8, of_decide_eq_true x9, of_decide_eq_true x10, of_decide_eq_true x11⟩, of_decide_eq_true x12, of_decide_eq_true x13, of_decide_eq_true x14, of_decide_eq_true x15, of_decide_eq_true x16, of_decide_eq_true x17, of_decide_eq_true x18, of_decide_eq_true x19, of_decide_eq_true x20, of_decide_eq_true x21, ⟨oc, od, an, osl, dV, kV, doc, pm, ct, by rw [ec]; exact e, lk, by rw [ec]; exact hcd⟩⟩
  have b := FunD.bindsA (ps := ["script"]) F15 fun _ _ _ _ _ _ us hl => match us, hl with | [_], _ => rfl
  refine ⟨fd15, [He.cT K ("law", none)], spLaw K [((He.cT K ("law", none)).2, ("law" : Str) ++ ".<locals>." ++ "<lambda>")], fun p hp => ?_, fun p hp => ?_, fun p hp => ?_, fun s v => b s [v] rfl, fun H a ns hl _ hT hS => ⟨a, ns, rfl, fun p hp => ?_, hS, hl, fun _ => rfl⟩, fun base _ _ TB => ok_law Dt.law_k34_true T (TB _ (List.mem_singleton.mpr rfl))⟩
  · rw [List.mem_singleton.mp hp]; exact c.empty _ (List.mem_singleton.mpr rfl)
  · rw [List.mem_singleton.mp hp]; exact c.out _ (List.mem_singleton.mpr rfl)
  · rw [List.mem_singleton.mp hp]; exact PySem.W.codeHd_of_K X (c.hd _ (List.mem_singleton.mpr rfl))
  · rw [List.mem_singleton.mp hp]; exact hT _ (List.mem_singleton.mpr rfl)
end My
open PySem PySem.W PySem.Calls PyProof.Rows
set_option maxHeartbeats 0 in
theorem PySem.Challenge.cw_edgepieces_k34_laying_texts_holds : PySem.Challenge.rw_edgepieces_k34_laying_texts.Holds := by
  w_on; o_law
  refine HandSHeadRun.head_any (r := (OpenLaw.row PySem.Challenge.rw_edgepieces_k34_laying_texts)) (q := view (OpenLaw.row PySem.Challenge.rw_edgepieces_k34_laying_texts).prog [29]) (H := My.hkL) (ob := My.obL) (M := 4000) (loose := My.looseL) (d := HandSHeadRun.topDef (OpenLaw.row PySem.Challenge.rw_edgepieces_k34_laying_texts).prog 29) (kwd := []) My.obL_eq
    (by kernel_rfl) (fun s => by kernel_rfl) My.runL (by kernel_rfl) (by kernel_rfl) (by kernel_rfl) (by rfl) (by first | assumption | decide +kernel) (by decide +kernel) ⟨rfl, rfl, rfl, rfl, rfl, by decide +kernel⟩ ?hw ?hc
  case hw => w_witness2
  case hc =>
    refine LamX.walk_ofTsE (l := PySem.Challenge.rw_edgepieces_k34_laying_texts) (n := 63) (k := 9) (x := "script") (CX := fun _ => L2.CX0) rfl (by decide) (by kernel_rfl) ⟨rfl, by decide, by decide⟩ ?F (fun _ _ _ _ _ z => z)
    intro w mg fa h Y G hmg0
    obtain ⟨K, KX, c⟩ := Y
    have hmg : mg ("law" : PySem.Str) = some (.ref fa) := by
      have e : (HandSHeadRun.topDef (OpenLaw.row PySem.Challenge.rw_edgepieces_k34_laying_texts).prog 29).name = ("law" : PySem.Str) := by kernel_rfl
      rw [← e]
      exact hmg0
    exact ⟨K, KX, My.factsL KX G hmg c⟩
